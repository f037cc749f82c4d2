import PyProof.Rows.All
import HandS.ForMost
import HandS.Exc
import HandS.ExcOwn
import HandS.TryOnly
import HandS.CallSlots
import HandS.IsInst
import HandS.SortInts
import HandS.WordsExc
import KE.KDictKeyed
import KE.KeyNested
import HandS.Wide
import HandS.TupAny
import HandS.Deep
import HandS.Defaults
import HandS.SetBool
import HandS.TupSets
import HandS.SlotsOwn
import HandS.Iter
import KE.GoesEnum
import HandS.EndBits
import HandS.ExcInit
import HandS.ExcField
import HandS.ExcIs
import KE.KExcIs
import HandS.HotCalls
import PyProof.WalkInts
import HandS.Style
import HandS.SetKeys
import HandS.DictComp
import KE.KDictDisplayH
import KE.GoesMore
import HandS.Gcd
import HandS.WideBits
import HandS.IterVal
import HandS.SetFor
import HandS.Strs
import HandS.Text
import PySem.Challenge.RW_firerest_k03_scenes
section
set_option Elab.async false
set_option linter.all false
set_option maxRecDepth 100000
set_option maxHeartbeats 2000000
/-! DI: data, and what represents them. -/
namespace DI
open PySem PySem.Spec PyProof.Rows L2
/-- the slots of a frame -/
abbrev Sg := L2.St
/-- data: what a Python value is worth, without addresses -/
inductive D where
  | non
  | bl (b : Bool)
  | int (i : Int)
  | str (x : Str)
  | tup (xs : List D)
  | lst (xs : List D)
  | ins (c : Nat) (ds : List D)
  /-- a list that nobody may change: the script -/
  | scr (xs : List D)
  /-- a set of tuples of numbers, in the order in which they came -/
  | tset (xs : List (List Int))
  /-- a dict with keys that are numbers and texts; l: it is locked -/
  | dct (l : Bool) (ks : List Key) (ds : List D)
  /-- a range object -/
  | rng (lo hi : Int)
  /-- a dict whose keys are nested tuples -/
  | nd (ks : List NestedKey) (ds : List D)
/-- a value under construction: nodes that one slot alone holds, over data -/
inductive T where
  | im (d : D)
  | lst (ts : List T)
  | ins (c : Nat) (ds : List D)
  | dct (ks : List Key) (ts : List T)
  | nd (ks : List NestedKey) (ds : List D)
/-! what a datum is as a key -/
mutual
def kN0 : D → Option NestedKey
  | .non => some .none
  | .bl b => some (.num (if b = true then 1 else 0))
  | .int i => some (.num i)
  | .str x => some (.text x)
  | .tup ds => (kNs ds).map .tup
  | .lst _ => none
  | .ins _ _ => none
  | .scr _ => none
  | .tset _ => none
  | .dct _ _ _ => none
  | .rng _ _ => none
  | .nd _ _ => none
def kNs : List D → Option (List NestedKey)
  | [] => some []
  | d :: ds => match kN0 d, kNs ds with
    | some k, some ks => some (k :: ks)
    | _, _ => none
end
def kN (d : D) : Option NestedKey := match d with
  | .tup ds => (kN0 (.tup ds)).bind fun k => if k.depth ≤ 8 then some k else none
  | _ => none
/-- an error: the class's tag, its fields -/
abbrev Ex := Nat × List D
/-- the classes by their tags: where they stand, what their fields are called, in the order in which __init__ sets them -/
structure CM where
  addr : Nat → Addr
  names : Nat → List Str
  setO : Addr → List (Addr × List Int) → HO
  nd : Addr → List (NestedKey × Addr × V) → HO
  /-- the classes that may stand in data -/
  cls : List Nat
/-- a computation's end: nothing is promised, a value, an error -/
inductive R (α : Type) where
  | bad
  | ok (a : α)
  | ex (e : Ex)
def R.bind {α β : Type} (r : R α) (f : α → R β) : R β := match r with
  | .bad => .bad
  | .ok a => f a
  | .ex e => .ex e
instance : Monad R where
  pure := R.ok
  bind := R.bind
def R.of {α : Type} : Option α → R α
  | none => .bad
  | some a => .ok a
def R.Res {α : Type} (r : R α) (P : α → Prop) (E : Ex → Prop) : Prop := match r with
  | .bad => False
  | .ok a => P a
  | .ex e => E e
theorem R.Res.mono {α : Type} {r : R α} {P P' : α → Prop} {E E' : Ex → Prop} (h : r.Res P E) (hp : ∀ a, P a → P' a) (he : ∀ e, E e → E' e) : r.Res P' E' := by
  cases r with
  | bad => exact h
  | ok a => exact hp a h
  | ex e => exact he e h
theorem R.Res.bind {α β : Type} {r : R α} {f : α → R β} {P : β → Prop} {E : Ex → Prop} : (r.bind f).Res P E ↔ r.Res (fun a => (f a).Res P E) E := by
  cases r <;> exact Iff.rfl
theorem R.Res.of {α : Type} {o : Option α} {P : α → Prop} {E : Ex → Prop} (h : (R.of o).Res P E) : ∃ a, o = some a ∧ P a := by
  cases o with
  | none => exact h.elim
  | some a => exact ⟨a, rfl, h⟩
/-! ### heaps -/
structure Xt (S S' H H' : Hp) : Prop where
  ss : Same S S'
  sh : Same S' H'
  hh : Same H H'
  fr : ∀ a o, S' a = some o → S a = none → H a = none
theorem Xt.refl {S H : Hp} (h : Same S H) : Xt S S H H := ⟨Same.refl S, h, Same.refl H, fun a o e n => by rw [n] at e; cases e⟩
theorem Xt.trans {S S1 S2 H H1 H2 : Hp} (a : Xt S S1 H H1) (b : Xt S1 S2 H1 H2) : Xt S S2 H H2 :=
  ⟨a.ss.trans b.ss, b.sh, a.hh.trans b.hh, fun c o e n => by
    cases q : S1 c with
    | none => exact a.hh.free (b.fr c o e q)
    | some u => exact a.fr c u q n⟩
theorem same_upd {H : Hp} {p : Addr} {o : HO} (h : H p = none) : Same H (upd H p o) := fun b u e => by
  rw [upd_ne (ne_of_none e h)]; exact e
theorem same_upd2 {S H : Hp} {p : Addr} {o : HO} (h : Same S H) (n : S p = none) : Same S (upd H p o) := fun b u e => by
  rw [upd_ne (ne_of_none e n)]; exact h b u e
theorem upd_mono {S H : Hp} {p : Addr} {o : HO} (h : Same S H) : Same (upd S p o) (upd H p o) := fun b u e => by
  by_cases q : b = p
  · subst q; rw [upd_same] at e ⊢; exact e
  · rw [upd_ne q] at e ⊢; exact h b u e
/-- a new object, frozen at once -/
theorem Xt.new {S H : Hp} {p : Addr} {o : HO} (h : Same S H) (n : H p = none) : Xt S (upd S p o) H (upd H p o) :=
  ⟨same_upd (h.free n), upd_mono h, same_upd n, fun a u e z => by
    by_cases q : a = p
    · subst q; exact n
    · rw [upd_ne q, z] at e; cases e⟩
/-- a new object, not frozen -/
theorem Xt.own {S H : Hp} {p : Addr} {o : HO} (h : Same S H) (n : H p = none) : Xt S S H (upd H p o) :=
  ⟨Same.refl S, same_upd2 h (h.free n), same_upd n, fun a u e z => by rw [z] at e; cases e⟩
theorem same_sqL {K : PySem.W.Frag} {H H' : Hp} {a : Addr} {xs : List V} (e : Same H H') (h : SqL K H a xs) : SqL K H' a xs := e.seq h
theorem same_sqT {K : PySem.W.Frag} {H H' : Hp} {a : Addr} {xs : List V} (e : Same H H') (h : SqT K H a xs) : SqT K H' a xs := by
  rcases h with (h | ⟨o, h⟩) | h
  · exact .inl (.inl (e _ _ h))
  · exact .inl (.inr ⟨o, e _ _ h⟩)
  · exact .inr h
/-- a dict stands at a -/
def DkAt (l : Bool) (H : Hp) (a : Addr) (kvs : List (Key × V)) : Prop := if l = true then ∃ o, H a = some (.frz o (.dK kvs)) else H a = some (.dK kvs)
theorem same_dk {l : Bool} {H H' : Hp} {a : Addr} {kvs : List (Key × V)} (e : Same H H') (h : DkAt l H a kvs) : DkAt l H' a kvs := by
  unfold DkAt at h ⊢
  split at h
  · rename_i q
    rw [if_pos q]
    obtain ⟨o, h⟩ := h
    exact ⟨o, e _ _ h⟩
  · rename_i q
    rw [if_neg q]
    exact e _ _ h
/-! ### what represents data -/
section
variable (K : PySem.W.Frag) (cm : CM)
mutual
inductive Rep (S : Hp) : V → D → Prop
  | non : Rep S .non .non
  | bl (b : Bool) : Rep S (.bl b) (.bl b)
  | int (i : Int) : Rep S (.int i) (.int i)
  | str (x : Str) : Rep S (.str x) (.str x)
  | tup {a : Addr} {xs : List V} {ds : List D} : SqT K S a xs → RepL S xs ds → Rep S (.ref a) (.tup ds)
  | lst {a : Addr} {xs : List V} {ds : List D} : S a = some (.lst xs) → RepL S xs ds → Rep S (.ref a) (.lst ds)
  | scr {a : Addr} {xs : List V} {ds : List D} : SqL K S a xs → RepL S xs ds → Rep S (.ref a) (.scr ds)
  | tset {a : Addr} {L : List (Addr × List Int)} {xs : List (List Int)} : S a = some (cm.setO a L) → (∀ p ∈ L, SqT K S p.1 (p.2.map V.int)) → (L.map (·.2)).Perm xs → Rep S (.ref a) (.tset xs)
  | ins {a dx : Addr} {c : Nat} {vs : List V} {ds : List D} : c ∈ cm.cls → S a = some (.ins (cm.addr c) dx ((cm.names c).zip vs)) → RepL S vs ds → Rep S (.ref a) (.ins c ds)
  | dct {a : Addr} {l : Bool} {ks : List Key} {vs : List V} {ds : List D} : DkAt l S a (ks.zip vs) → ks.length = vs.length → ks.Nodup → RepL S vs ds → Rep S (.ref a) (.dct l ks ds)
  | rng {a : Addr} {lo hi : Int} : S a = some (.rng lo hi) → Rep S (.ref a) (.rng lo hi)
  | nd {a : Addr} {bs : List Addr} {kds : List D} {ks : List NestedKey} {vs : List V} {ds : List D} : S a = some (cm.nd a (ks.zip (bs.zip vs))) → RepL S (bs.map V.ref) kds → kds.map kN = ks.map some → ks.length = vs.length → RepL S vs ds → Rep S (.ref a) (.nd ks ds)
inductive RepL (S : Hp) : List V → List D → Prop
  | nil : RepL S [] []
  | cons {v : V} {vs : List V} {d : D} {ds : List D} : Rep S v d → RepL S vs ds → RepL S (v :: vs) (d :: ds)
end
end
section
variable {K : PySem.W.Frag} {cm : CM} {S S' H H' : Hp}
mutual
theorem Rep.mono (e : Same S S') : ∀ {v : V} {d : D}, Rep K cm S v d → Rep K cm S' v d
  | _, _, .non => .non
  | _, _, .bl b => .bl b
  | _, _, .int i => .int i
  | _, _, .str x => .str x
  | _, _, .tup h hs => .tup (same_sqT e h) (RepL.mono e hs)
  | _, _, .lst h hs => .lst (e _ _ h) (RepL.mono e hs)
  | _, _, .scr h hs => .scr (same_sqL e h) (RepL.mono e hs)
  | _, _, .tset h hs pm => .tset (e _ _ h) (fun p m => same_sqT e (hs p m)) pm
  | _, _, .ins m h hs => .ins m (e _ _ h) (RepL.mono e hs)
  | _, _, .dct h hl hn hs => .dct (same_dk e h) hl hn (RepL.mono e hs)
  | _, _, .rng h => .rng (e _ _ h)
  | _, _, .nd h hk he hl hs => .nd (e _ _ h) (RepL.mono e hk) he hl (RepL.mono e hs)
theorem RepL.mono (e : Same S S') : ∀ {vs : List V} {ds : List D}, RepL K cm S vs ds → RepL K cm S' vs ds
  | _, _, .nil => .nil
  | _, _, .cons h hs => .cons (Rep.mono e h) (RepL.mono e hs)
end
theorem RepL.length : ∀ {vs : List V} {ds : List D}, RepL K cm S vs ds → vs.length = ds.length
  | _, _, .nil => rfl
  | _, _, .cons _ hs => by rw [List.length_cons, List.length_cons, RepL.length hs]
theorem RepL.get : ∀ {vs : List V} {ds : List D} {i : Nat} {d : D}, RepL K cm S vs ds → ds[i]? = some d → ∃ v, vs[i]? = some v ∧ Rep K cm S v d
  | _, _, _, _, .nil, e => by simp at e
  | _, _, 0, _, .cons h _, e => by simp at e; subst e; exact ⟨_, rfl, h⟩
  | _, _, i + 1, d, .cons _ hs, e => by
    obtain ⟨v, a, b⟩ := RepL.get (i := i) hs (by simpa using e)
    exact ⟨v, by simpa using a, b⟩
theorem RepL.append : ∀ {vs ws : List V} {ds es : List D}, RepL K cm S vs ds → RepL K cm S ws es → RepL K cm S (vs ++ ws) (ds ++ es)
  | _, _, _, _, .nil, h => h
  | _, _, _, _, .cons h hs, g => .cons h (RepL.append hs g)
theorem RepL.take : ∀ {vs : List V} {ds : List D} (n : Nat), RepL K cm S vs ds → RepL K cm S (vs.take n) (ds.take n)
  | _, _, 0, _ => by rw [List.take_zero, List.take_zero]; exact .nil
  | _, _, _ + 1, .nil => by rw [List.take_nil, List.take_nil]; exact .nil
  | _, _, n + 1, .cons h hs => by rw [List.take_succ_cons, List.take_succ_cons]; exact .cons h (RepL.take n hs)
theorem RepL.drop : ∀ {vs : List V} {ds : List D} (n : Nat), RepL K cm S vs ds → RepL K cm S (vs.drop n) (ds.drop n)
  | _, _, 0, h => h
  | _, _, _ + 1, .nil => by rw [List.drop_nil, List.drop_nil]; exact .nil
  | _, _, n + 1, .cons h hs => by rw [List.drop_succ_cons, List.drop_succ_cons]; exact RepL.drop n hs
theorem RepL.ints : ∀ (ns : List Int), RepL K cm S (ns.map V.int) (ns.map D.int)
  | [] => .nil
  | n :: ns => .cons (.int n) (RepL.ints ns)
theorem RepL.rep {v : V} {d : D} (h : Rep K cm S v d) : ∀ n : Nat, RepL K cm S (List.replicate n v) (List.replicate n d)
  | 0 => .nil
  | n + 1 => by rw [List.replicate_succ, List.replicate_succ]; exact .cons h (RepL.rep h n)
theorem zip_lookup : ∀ {ns : List Str} {vs : List V} {i : Nat} {f : Str}, ns.Nodup → ns[i]? = some f → (ns.zip vs).lookup f = vs[i]?
  | [], _, _, _, _, e => by simp at e
  | _ :: _, [], _, _, _, _ => by simp
  | n :: ns, v :: vs, 0, f, _, e => by
    have e : n = f := by simpa using e
    subst e
    simp [List.lookup]
  | n :: ns, v :: vs, i + 1, f, h, e => by
    have e : ns[i]? = some f := by simpa using e
    obtain ⟨h1, h2⟩ := List.nodup_cons.mp h
    have ne : (f == n) = false := by
      cases q : f == n with
      | false => rfl
      | true =>
        have z : f = n := by simpa using q
        exact absurd (z ▸ List.mem_of_getElem? e) h1
    have := zip_lookup (vs := vs) h2 e
    simp only [List.zip_cons_cons, List.lookup, ne]
    rw [this]
    simp
end
/-! ### nodes under construction -/
section
variable (K : PySem.W.Frag) (cm : CM) (S H : Hp)
mutual
inductive Own : T → V → List Addr → Prop
  | im {d : D} {v : V} : Rep K cm S v d → Own (.im d) v []
  | lst {a : Addr} {vs : List V} {ts : List T} {fp : List Addr} : H a = some (.lst vs) → OwnL ts vs fp → Own (.lst ts) (.ref a) (a :: fp)
  | ins {a dx : Addr} {c : Nat} {vs : List V} {ds : List D} : c ∈ cm.cls → H a = some (.ins (cm.addr c) dx ((cm.names c).zip vs)) → RepL K cm S vs ds → Own (.ins c ds) (.ref a) [a]
  | dct {a : Addr} {ks : List Key} {vs : List V} {ts : List T} {fp : List Addr} : H a = some (.dK (ks.zip vs)) → ks.length = vs.length → ks.Nodup → OwnL ts vs fp → Own (.dct ks ts) (.ref a) (a :: fp)
  | nd {a : Addr} {bs : List Addr} {kds : List D} {ks : List NestedKey} {vs : List V} {ds : List D} : H a = some (cm.nd a (ks.zip (bs.zip vs))) → RepL K cm S (bs.map V.ref) kds → kds.map kN = ks.map some → ks.length = vs.length → RepL K cm S vs ds → Own (.nd ks ds) (.ref a) [a]
inductive OwnL : List T → List V → List Addr → Prop
  | nil : OwnL [] [] []
  | cons {t : T} {v : V} {f1 : List Addr} {ts : List T} {vs : List V} {f2 : List Addr} : Own t v f1 → OwnL ts vs f2 → OwnL (t :: ts) (v :: vs) (f1 ++ f2)
end
inductive Sls : Sg → List (Option T) → List Addr → Prop
  | nil : Sls [] [] []
  | no {o : Option V} {σ : Sg} {st : List (Option T)} {fp : List Addr} : Sls σ st fp → Sls (o :: σ) (none :: st) fp
  | yes {v : V} {t : T} {f1 : List Addr} {σ : Sg} {st : List (Option T)} {fp : List Addr} : Own K cm S H t v f1 → Sls σ st fp → Sls (some v :: σ) (some t :: st) (f1 ++ fp)
end
section
variable {K : PySem.W.Frag} {cm : CM} {S S' H H' : Hp}
mutual
theorem Own.mono (e : Same S S') : ∀ {t : T} {v : V} {fp : List Addr}, (∀ a ∈ fp, H' a = H a) → Own K cm S H t v fp → Own K cm S' H' t v fp
  | _, _, _, k, .im h => .im (h.mono e)
  | _, _, _, k, .lst h hs => .lst ((k _ List.mem_cons_self).trans h) (OwnL.mono e (fun a m => k a (List.mem_cons_of_mem _ m)) hs)
  | _, _, _, k, .ins m h hs => .ins m ((k _ List.mem_cons_self).trans h) (hs.mono e)
  | _, _, _, k, .dct h hl hn hs => .dct ((k _ List.mem_cons_self).trans h) hl hn (OwnL.mono e (fun a m => k a (List.mem_cons_of_mem _ m)) hs)
  | _, _, _, k, .nd h hk he hl hs => .nd ((k _ List.mem_cons_self).trans h) (hk.mono e) he hl (hs.mono e)
theorem OwnL.mono (e : Same S S') : ∀ {ts : List T} {vs : List V} {fp : List Addr}, (∀ a ∈ fp, H' a = H a) → OwnL K cm S H ts vs fp → OwnL K cm S' H' ts vs fp
  | _, _, _, k, .nil => .nil
  | _, _, _, k, .cons h hs => .cons (Own.mono e (fun a m => k a (List.mem_append_left _ m)) h) (OwnL.mono e (fun a m => k a (List.mem_append_right _ m)) hs)
end
theorem Sls.mono (e : Same S S') : ∀ {σ : Sg} {st : List (Option T)} {fp : List Addr}, (∀ a ∈ fp, H' a = H a) → Sls K cm S H σ st fp → Sls K cm S' H' σ st fp
  | _, _, _, k, .nil => .nil
  | _, _, _, k, .no h => .no (Sls.mono e k h)
  | _, _, _, k, .yes h hs => .yes (h.mono e fun a m => k a (List.mem_append_left _ m)) (Sls.mono e (fun a m => k a (List.mem_append_right _ m)) hs)
mutual
theorem Own.there : ∀ {t : T} {v : V} {fp : List Addr}, Own K cm S H t v fp → ∀ a ∈ fp, H a ≠ none
  | _, _, _, .im h, a, m => by cases m
  | _, _, _, .lst h hs, a, m => by
    rcases List.mem_cons.mp m with e | m
    · subst e; rw [h]; intro z; cases z
    · exact OwnL.there hs a m
  | _, _, _, .ins _ h hs, a, m => by
    rcases List.mem_cons.mp m with e | m
    · subst e; rw [h]; intro z; cases z
    · cases m
  | _, _, _, .dct h _ _ hs, a, m => by
    rcases List.mem_cons.mp m with e | m
    · subst e; rw [h]; intro z; cases z
    · exact OwnL.there hs a m
  | _, _, _, .nd h _ _ _ _, a, m => by
    rcases List.mem_cons.mp m with e | m
    · subst e; rw [h]; intro z; cases z
    · cases m
theorem OwnL.there : ∀ {ts : List T} {vs : List V} {fp : List Addr}, OwnL K cm S H ts vs fp → ∀ a ∈ fp, H a ≠ none
  | _, _, _, .nil, a, m => by cases m
  | _, _, _, .cons h hs, a, m => by
    rcases List.mem_append.mp m with m | m
    · exact Own.there h a m
    · exact OwnL.there hs a m
end
theorem Sls.there : ∀ {σ : Sg} {st : List (Option T)} {fp : List Addr}, Sls K cm S H σ st fp → ∀ a ∈ fp, H a ≠ none
  | _, _, _, .nil, a, m => by cases m
  | _, _, _, .no h, a, m => Sls.there h a m
  | _, _, _, .yes h hs, a, m => by
    rcases List.mem_append.mp m with m | m
    · exact h.there a m
    · exact Sls.there hs a m
theorem Sls.length : ∀ {σ : Sg} {st : List (Option T)} {fp : List Addr}, Sls K cm S H σ st fp → σ.length = st.length
  | _, _, _, .nil => rfl
  | _, _, _, .no h => by rw [List.length_cons, List.length_cons, Sls.length h]
  | _, _, _, .yes _ hs => by rw [List.length_cons, List.length_cons, Sls.length hs]
theorem Sls.get : ∀ {σ : Sg} {st : List (Option T)} {fp : List Addr} {i : Nat} {t : T}, Sls K cm S H σ st fp → st[i]? = some (some t) → ∃ v f, σ[i]? = some (some v) ∧ Own K cm S H t v f ∧ ∀ a ∈ f, a ∈ fp
  | _, _, _, i, t, .nil, e => by simp at e
  | _, _, _, 0, t, .no h, e => by simp at e
  | _, _, _, i + 1, t, .no h, e => by
    obtain ⟨v, f, a, b, c⟩ := Sls.get (i := i) h (by simpa using e)
    exact ⟨v, f, by simpa using a, b, c⟩
  | _, _, _, 0, t, .yes h hs, e => by
    simp at e; subst e
    exact ⟨_, _, rfl, h, fun a m => List.mem_append_left _ m⟩
  | _, _, _, i + 1, t, .yes h hs, e => by
    obtain ⟨v, f, a, b, c⟩ := Sls.get (i := i) hs (by simpa using e)
    exact ⟨v, f, by simpa using a, b, fun a m => List.mem_append_right _ (c a m)⟩
/-- a slot is set: its old footprint goes, its new one comes -/
theorem Sls.set {t : T} {v : V} {f : List Addr} (o : Own K cm S H t v f) : ∀ {σ : Sg} {st : List (Option T)} {fp : List Addr} (i : Nat), Sls K cm S H σ st fp →
    ∃ fp', Sls K cm S H (σ.set i (some v)) (st.set i (some t)) fp' ∧ (fp.Nodup → f.Nodup → (∀ a ∈ f, a ∉ fp) → fp'.Nodup) ∧ ∀ a ∈ fp', a ∈ fp ∨ a ∈ f
  | _, _, _, i, .nil => ⟨[], .nil, fun h _ _ => h, fun a m => .inl m⟩
  | _, _, _, 0, .no h => ⟨_, .yes o h, fun n1 n2 d => List.nodup_append.mpr ⟨n2, n1, fun a ha b hb e => d a ha (e ▸ hb)⟩, fun a m => (List.mem_append.mp m).elim .inr .inl⟩
  | _, _, _, i + 1, .no h => by
    obtain ⟨fp', a, b, c⟩ := Sls.set o i h
    exact ⟨fp', .no a, b, c⟩
  | _, _, _, 0, .yes (f1 := f1) h hs => ⟨_, .yes o hs, fun n1 n2 d => List.nodup_append.mpr ⟨n2, (List.nodup_append.mp n1).2.1, fun a ha b hb e => d a ha (e ▸ List.mem_append_right _ hb)⟩,
      fun a m => (List.mem_append.mp m).elim .inr fun m => .inl (List.mem_append_right _ m)⟩
  | _, _, _, i + 1, .yes (f1 := f1) h hs => by
    obtain ⟨fp', a, b, c⟩ := Sls.set o i hs
    refine ⟨f1 ++ fp', .yes h a, fun n1 n2 d => ?_, fun a m => ?_⟩
    · obtain ⟨m1, m2, m3⟩ := List.nodup_append.mp n1
      refine List.nodup_append.mpr ⟨m1, b m2 n2 fun a ha hb => d a ha (List.mem_append_right _ hb), fun a ha b hb e => ?_⟩
      rcases c b hb with z | z
      · exact m3 a ha b z e
      · exact d b z (List.mem_append_left _ (e ▸ ha))
    · rcases List.mem_append.mp m with m | m
      · exact .inl (List.mem_append_left _ m)
      · exact (c a m).elim (fun z => .inl (List.mem_append_right _ z)) .inr
/-- a slot is forgotten -/
theorem Sls.forget {o : Option V} : ∀ {σ : Sg} {st : List (Option T)} {fp : List Addr} (i : Nat), Sls K cm S H σ st fp →
    ∃ fp', Sls K cm S H (σ.set i o) (st.set i none) fp' ∧ (fp.Nodup → fp'.Nodup) ∧ ∀ a ∈ fp', a ∈ fp
  | _, _, _, i, .nil => ⟨[], .nil, fun h => h, fun a m => m⟩
  | _, _, _, 0, .no h => ⟨_, .no h, fun n => n, fun a m => m⟩
  | _, _, _, i + 1, .no h => by
    obtain ⟨fp', a, b, c⟩ := Sls.forget i h
    exact ⟨fp', .no a, b, c⟩
  | _, _, _, 0, .yes h hs => ⟨_, .no hs, fun n => (List.nodup_append.mp n).2.1, fun a m => List.mem_append_right _ m⟩
  | _, _, _, i + 1, .yes (f1 := f1) h hs => by
    obtain ⟨fp', a, b, c⟩ := Sls.forget i hs
    refine ⟨f1 ++ fp', .yes h a, fun n1 => ?_, fun a m => ?_⟩
    · obtain ⟨m1, m2, m3⟩ := List.nodup_append.mp n1
      exact List.nodup_append.mpr ⟨m1, b m2, fun a ha b hb e => m3 a ha b (c b hb) e⟩
    · rcases List.mem_append.mp m with m | m
      · exact List.mem_append_left _ m
      · exact List.mem_append_right _ (c a m)
end
/-- what a computation may raise, and what its slots are known to hold -/
structure WH where
  w : WX
  held : Sg → Hp → Prop
  mono : ∀ {σ : Sg} {S S' : Hp}, Same S S' → held σ S → held σ S'
/-- nothing is known of the slots -/
abbrev wt (w : WX) : WH := ⟨w, fun _ _ => True, fun _ h => h⟩
class Free (W : WH) : Prop where
  any : ∀ σ S, W.held σ S
instance {w : WX} : Free (wt w) := ⟨fun _ _ => trivial⟩
abbrev WF : WH := wt fun _ _ _ _ => False
/-- the slots hold these data: S is what stands for good, fp the nodes under construction -/
structure Rx (K : PySem.W.Frag) (cm : CM) (W : WH) (st : List (Option T)) (S : Hp) (fp : List Addr) (σ : Sg) (H : Hp) : Prop where
  sh : Same S H
  sls : Sls K cm S H σ st fp
  nd : fp.Nodup
  out : ∀ a ∈ fp, S a = none
  hd : W.held σ S
section
variable {K : PySem.W.Frag} {cm : CM} {W W' : WH} {S S' H H' : Hp} {st : List (Option T)} {fp : List Addr} {σ : Sg}
theorem Rx.ext (r : Rx K cm W st S fp σ H) (x : Xt S S' H H') : Rx K cm W st S' fp σ H' := by
  have th := r.sls.there
  refine ⟨x.sh, r.sls.mono x.ss fun a m => ?_, r.nd, fun a m => ?_, W.mono x.ss r.hd⟩
  · cases e : H a with
    | none => exact absurd e (th a m)
    | some o => exact x.hh a o e
  · cases e : S' a with
    | none => rfl
    | some o => exact absurd (x.fr a o e (r.out a m)) (th a m)
/-- from one way of ending to another one -/
theorem Rx.to [Free W'] (r : Rx K cm W st S fp σ H) : Rx K cm W' st S fp σ H := ⟨r.sh, r.sls, r.nd, r.out, Free.any σ S⟩
theorem Rx.imm {d : D} {i : Nat} (r : Rx K cm W st S fp σ H) (h : st[i]? = some (some (.im d))) : ∃ v, σ[i]? = some (some v) ∧ Rep K cm S v d := by
  obtain ⟨v, f, a, b, _⟩ := r.sls.get h
  cases b with
  | im q => exact ⟨v, a, q⟩
theorem Rx.set_im [Free W] {v : V} {d : D} (r : Rx K cm W st S fp σ H) (h : Rep K cm S v d) (i : Nat) : ∃ fp', Rx K cm W (st.set i (some (.im d))) S fp' (σ.set i (some v)) H ∧ ∀ a ∈ fp', a ∈ fp := by
  obtain ⟨fp', a, b, c⟩ := r.sls.set (.im h) i
  refine ⟨fp', ⟨r.sh, a, b r.nd List.nodup_nil (fun _ m => nomatch m), fun x m => ?_, Free.any _ _⟩, fun x m => ?_⟩
  · exact (c x m).elim (r.out x) fun z => nomatch z
  · exact (c x m).elim id fun z => nomatch z
theorem Rx.set_ow [Free W] {v : V} {t : T} {f : List Addr} (r : Rx K cm W st S fp σ H) (h : Own K cm S H t v f) (n : f.Nodup) (dj : ∀ a ∈ f, a ∉ fp) (so : ∀ a ∈ f, S a = none) (i : Nat) :
    ∃ fp', Rx K cm W (st.set i (some t)) S fp' (σ.set i (some v)) H ∧ ∀ a ∈ fp', a ∈ fp ∨ a ∈ f := by
  obtain ⟨fp', a, b, c⟩ := r.sls.set h i
  exact ⟨fp', ⟨r.sh, a, b r.nd n dj, fun x m => (c x m).elim (r.out x) (so x), Free.any _ _⟩, c⟩
theorem Rx.forget [Free W'] {o : Option V} (r : Rx K cm W st S fp σ H) (i : Nat) : ∃ fp', Rx K cm W' (st.set i none) S fp' (σ.set i o) H ∧ ∀ a ∈ fp', a ∈ fp := by
  obtain ⟨fp', a, b, c⟩ := r.sls.forget (o := o) i
  exact ⟨fp', ⟨r.sh, a, b r.nd, fun x m => r.out x (c x m), Free.any _ _⟩, c⟩
end
/-- what can be read just now: data, or a node under construction over data -/
def View (K : PySem.W.Frag) (cm : CM) (S H : Hp) (v : V) (d : D) : Prop :=
  Rep K cm S v d ∨ ∃ a vs ds, v = .ref a ∧ d = .lst ds ∧ H a = some (.lst vs) ∧ RepL K cm S vs ds
theorem View.ext {K : PySem.W.Frag} {cm : CM} {S S' H H' : Hp} {v : V} {d : D} (x : Xt S S' H H') (h : View K cm S H v d) : View K cm S' H' v d := by
  rcases h with h | ⟨a, vs, ds, e1, e2, e3, h⟩
  · exact .inl (h.mono x.ss)
  · exact .inr ⟨a, vs, ds, e1, e2, x.hh _ _ e3, h.mono x.ss⟩
/-! ### errors -/
def RepX (K : PySem.W.Frag) (cm : CM) (S : Hp) (cls : Value) (od : Option Addr) (e : Ex) : Prop :=
  cls = .ref (cm.addr e.1) ∧ ((e.2 = [] ∧ od = none) ∨ ∃ dx vs, od = some dx ∧ S dx = some (.xd ((cm.names e.1).zip vs)) ∧ RepL K cm S vs e.2)
/-! ### expressions -/
section
variable (K : PySem.W.Frag) (cm : CM) (W : WH)
/-- how a computation goes on from a state -/
def Go {α : Type} (P : α → Hp → Hp → Prop) (r : R α) (S H : Hp) (σ : Sg) : Prop :=
  r.Res (fun d => ∀ H' S', Xt S S' H H' → P d S' H') fun e => ∀ cls od H' S', Xt S S' H H' → RepX K cm S' cls od e → W.w cls od σ H'
def E (f : List (Option T) → R D) : TE := fun σ H Q => ∃ st S fp, Rx K cm W st S fp σ H ∧ Go K cm W (fun d S' H' => ∀ v, Rep K cm S' v d → Q v H') (f st) S H σ
def VE (f : List (Option T) → R D) : TE := fun σ H Q => ∃ st S fp, Rx K cm W st S fp σ H ∧ Go K cm W (fun d S' H' => ∀ v, View K cm S' H' v d → Q v H') (f st) S H σ
/-- a fresh object -/
def EF (f : List (Option T) → R T) : TE := fun σ H Q => ∃ st S fp, Rx K cm W st S fp σ H ∧
  Go K cm W (fun t S' H' => ∀ v fn, Own K cm S' H' t v fn → fn.Nodup → (∀ a ∈ fn, H a = none ∧ S' a = none) → Q v H') (f st) S H σ
def TB (f : List (Option T) → R Bool) : TT := fun σ H Q => ∃ st S fp, Rx K cm W st S fp σ H ∧ Go K cm W (fun b S' H' => Q b H') (f st) S H σ
def EA (f : List (Option T) → R (List D)) : TA := fun σ H Q => ∃ st S fp, Rx K cm W st S fp σ H ∧ Go K cm W (fun ds S' H' => ∀ vs, RepL K cm S' vs ds → Q vs H') (f st) S H σ
def VA (f : List (Option T) → R (List D)) : TA := fun σ H Q => ∃ st S fp, Rx K cm W st S fp σ H ∧ Go K cm W (fun ds S' H' => ∀ vs, Paired (View K cm S' H') vs ds → Q vs H') (f st) S H σ
end
section
variable {K : PySem.W.Frag} {cm : CM} {W : WH} {S S' H H' : Hp} {σ : Sg}
theorem Go.mono {α : Type} {P P' : α → Hp → Hp → Prop} {r : R α} (g : Go K cm W P r S H σ) (h : ∀ a S' H', Xt S S' H H' → P a S' H' → P' a S' H') : Go K cm W P' r S H σ :=
  R.Res.mono g (fun a q H' S' x => h a S' H' x (q H' S' x)) fun _ q => q
theorem Go.ext {α : Type} {P : α → Hp → Hp → Prop} {r : R α} (x : Xt S S' H H') (g : Go K cm W P r S H σ) : Go K cm W P r S' H' σ :=
  R.Res.mono g (fun a q H2 S2 y => q H2 S2 (x.trans y)) fun e q cls od H2 S2 y => q cls od H2 S2 (x.trans y)
theorem Go.bind {α β : Type} {P : β → Hp → Hp → Prop} {r : R α} {f : α → R β} (g : Go K cm W P (r.bind f) S H σ) : Go K cm W (fun a S' H' => Go K cm W P (f a) S' H' σ) r S H σ := by
  unfold Go at g
  rw [R.Res.bind] at g
  exact R.Res.mono g (fun a q H' S' x => Go.ext x q) fun _ q => q
theorem Go.of {α : Type} {P : α → Hp → Hp → Prop} {o : Option α} (g : Go K cm W P (R.of o) S H σ) : ∃ a, o = some a ∧ ∀ H' S', Xt S S' H H' → P a S' H' := R.Res.of g
theorem Go.here {α : Type} {P : α → Hp → Hp → Prop} {a : α} (sh : Same S H) (g : Go K cm W P (.ok a) S H σ) : P a S H := g H S (Xt.refl sh)
theorem _root_.L2.PE.imp {X : Cx} {e : Expr} {t t' : TE} (h : PE X e t) (k : ∀ σ H Q, t' σ H Q → t σ H Q) : PE X e t' := ⟨fun pins s σ H Q I q => h.run pins s σ H Q I (k σ H Q q)⟩
theorem _root_.L2.PT.imp {X : Cx} {e : Expr} {t t' : TT} (h : PT X e t) (k : ∀ σ H Q, t' σ H Q → t σ H Q) : PT X e t' := ⟨fun pins s σ H Q I q => h.run pins s σ H Q I (k σ H Q q)⟩
theorem _root_.L2.PW.imp {X : Cx} {e : Expr} {t t' : TT} (h : PW X e t) (k : ∀ σ H Q, t' σ H Q → t σ H Q) : PW X e t' := ⟨fun wh pins s σ H Q I q => h.run wh pins s σ H Q I (k σ H Q q)⟩
theorem _root_.L2.PA.imp {X : Cx} {e : List Expr} {t t' : TA} (h : PA X e t) (k : ∀ σ H Q, t' σ H Q → t σ H Q) : PA X e t' := ⟨fun pos pins s σ H Q I q => h.run pos pins s σ H Q I (k σ H Q q)⟩
theorem _root_.L2.PS.imp {X : Cx} {e : Stmt} {t t' : TS} (h : PS X e t) (k : ∀ D σ H, t' D σ H → t D σ H) : PS X e t' := ⟨fun pins s σ H D I q => h.run pins s σ H D I (k D σ H q)⟩
theorem _root_.L2.PSs.imp {X : Cx} {e : List Stmt} {t t' : TS} (h : PSs X e t) (k : ∀ D σ H, t' D σ H → t D σ H) : PSs X e t' := ⟨fun pins s σ H D I q => h.run pins s σ H D I (k D σ H q)⟩
theorem _root_.L2.PI.imp {X : Cx} {tg e : Expr} {t t' : TI} (h : PI X tg e t) (k : ∀ σ H R, t' σ H R → t σ H R) : PI X tg e t' := ⟨fun pins s σ H R I q => h.run pins s σ H R I (k σ H R q)⟩
theorem _root_.L2.PG.imp {X : Cx} {e : Expr} {t t' : TG} (h : PG X e t) (k : ∀ v σ H Q, t' v σ H Q → t v σ H Q) : PG X e t' := ⟨fun pins s σ H v u Q I r q => h.run pins s σ H v u Q I r (k v σ H Q q)⟩
end
end DI
end
section
set_option Elab.async false
set_option linter.all false
set_option maxRecDepth 100000
set_option maxHeartbeats 2000000
/-! DI: expressions. -/
namespace DI
open PySem PySem.Spec PyProof.Rows L2
abbrev LS := List (Option T)
/-! ### names and constants -/
def imD : Option (Option T) → Option D
  | some (some (.im d)) => some d
  | _ => none
def imms : List T → Option (List D)
  | [] => some []
  | .im d :: ts => (imms ts).map (d :: ·)
  | _ :: _ => none
def viewT : T → Option D
  | .im d => some d
  | .lst ts => (imms ts).map .lst
  | _ => none
def viewD : Option (Option T) → Option D
  | some (some t) => viewT t
  | _ => none
/-- a name's datum; a name's datum or what is under construction at it -/
def vi (i : Nat) : LS → R D := fun st => .of (imD st[i]?)
def vv (i : Nat) : LS → R D := fun st => .of (viewD st[i]?)
def cc (d : D) : LS → R D := fun _ => .ok d
section
variable {K : PySem.W.Frag} {cm : CM} {W : WH} {S S' H H' : Hp} {σ : Sg}
theorem own_imms : ∀ {ts : List T} {vs : List V} {fp : List Addr} {ds : List D}, OwnL K cm S H ts vs fp → imms ts = some ds → RepL K cm S vs ds
  | _, _, _, _, .nil, e => by cases e; exact .nil
  | _, _, _, _, .cons (t := t) h hs, e => by
    cases h with
    | im q =>
      rename_i ts vs f2 d
      unfold imms at e
      cases q2 : imms ts with
      | none => rw [q2] at e; cases e
      | some es =>
        rw [q2] at e
        cases e
        exact .cons q (own_imms hs q2)
    | lst _ _ => cases e
    | ins _ _ _ => cases e
    | dct _ _ _ _ => cases e
    | nd _ _ _ _ _ => cases e
theorem own_view {t : T} {v : V} {fp : List Addr} {d : D} (o : Own K cm S H t v fp) (e : viewT t = some d) : View K cm S H v d := by
  cases o with
  | im q => cases e; exact .inl q
  | lst h hs =>
    rename_i a vs ts fp
    have e : (imms ts).map D.lst = some d := e
    cases q : imms ts with
    | none => rw [q] at e; cases e
    | some es =>
      rw [q] at e
      cases e
      exact .inr ⟨a, vs, es, rfl, rfl, h, own_imms hs q⟩
  | ins _ _ _ => cases e
  | dct _ _ _ _ => cases e
  | nd _ _ _ _ _ => cases e
end
section
variable {X : Cx} {cm : CM} {W : WH}
theorem e_var (i : Nat) {x : Str} {pos : Pos} (hN : X.N[i]? = some x := by rfl) (hv : Vis X.env.scope x := by first | exact Or.inl rfl | exact Or.inr (Or.inl rfl) | exact Or.inr (Or.inr rfl)) (hd : (x == ("__debug__" : Str)) = false := by decide)
    (hcd : (x == ("__classdict__" : Str)) = false := by decide) : PE X (.Name x pos) (E X.K cm W (vi i)) := (pe_var hN hv hd hcd).imp fun σ H Q ⟨st, S, fp, r, g⟩ => by
  obtain ⟨d, e, k⟩ := g.of
  unfold imD at e
  split at e
  · cases e
    rename_i q
    obtain ⟨v, a, b⟩ := r.imm q
    exact ⟨v, a, k H S (Xt.refl r.sh) v b⟩
  · cases e
theorem v_var (i : Nat) {x : Str} {pos : Pos} (hN : X.N[i]? = some x := by rfl) (hv : Vis X.env.scope x := by first | exact Or.inl rfl | exact Or.inr (Or.inl rfl) | exact Or.inr (Or.inr rfl)) (hd : (x == ("__debug__" : Str)) = false := by decide)
    (hcd : (x == ("__classdict__" : Str)) = false := by decide) : PE X (.Name x pos) (VE X.K cm W (vv i)) := (pe_var hN hv hd hcd).imp fun σ H Q ⟨st, S, fp, r, g⟩ => by
  obtain ⟨d, e, k⟩ := g.of
  unfold viewD at e
  split at e
  · rename_i t q
    obtain ⟨v, f, a, b, _⟩ := r.sls.get q
    exact ⟨v, a, k H S (Xt.refl r.sh) v (own_view b e)⟩
  · cases e
theorem e_cc {e : Expr} {d : D} {v : V} (h : PE X e (tC v)) (hr : ∀ S, Rep X.K cm S v d) : PE X e (E X.K cm W (cc d)) := h.imp fun σ H Q ⟨st, S, fp, r, g⟩ => g.here r.sh v (hr S)
theorem e_int {i j pos} : PE X (.Constant (.int i) j pos) (E X.K cm W (cc (.int i))) := e_cc pe_int fun _ => .int i
theorem e_bl {b j pos} : PE X (.Constant (.bool b) j pos) (E X.K cm W (cc (.bl b))) := e_cc pe_bl fun _ => .bl b
theorem e_non {j pos} : PE X (.Constant .none j pos) (E X.K cm W (cc .non)) := e_cc pe_non fun _ => .non
theorem e_str {x j pos} : PE X (.Constant (.str x) j pos) (E X.K cm W (cc (.str x))) := e_cc pe_str fun _ => .str x
/-- data may be read -/
theorem pv_ {e : Expr} {f : LS → R D} (h : PE X e (E X.K cm W f)) : PE X e (VE X.K cm W f) := h.imp fun σ H Q ⟨st, S, fp, r, g⟩ => ⟨st, S, fp, r, g.mono fun _ _ _ _ k v hv => k v (.inl hv)⟩
/-! ### operators by values -/
/-- the operation, read off data, hands back data -/
def Op2 (K : PySem.W.Frag) (cm : CM) (r : R2) (op : D → D → Option D) : Prop :=
  ∀ (S H : Hp) (x y : V) (d e z : D) (Q : VK), Same S H → View K cm S H x d → View K cm S H y e → op d e = some z → (∀ H' S', Xt S S' H H' → ∀ v, Rep K cm S' v z → Q v H') → r x y H Q
def Op1 (K : PySem.W.Frag) (cm : CM) (r : V → Hp → VK → Prop) (op : D → Option D) : Prop :=
  ∀ (S H : Hp) (x : V) (d z : D) (Q : VK), Same S H → View K cm S H x d → op d = some z → (∀ H' S', Xt S S' H H' → ∀ v, Rep K cm S' v z → Q v H') → r x H Q
def OpN (K : PySem.W.Frag) (cm : CM) (r : List V → Hp → VK → Prop) (op : List D → Option D) : Prop :=
  ∀ (S H : Hp) (xs : List V) (ds : List D) (z : D) (Q : VK), Same S H → Paired (View K cm S H) xs ds → op ds = some z → (∀ H' S', Xt S S' H H' → ∀ v, Rep K cm S' v z → Q v H') → r xs H Q
/-- .. hands back a fresh list of data -/
def Op2F (K : PySem.W.Frag) (cm : CM) (r : R2) (op : D → D → Option (List D)) : Prop :=
  ∀ (S H : Hp) (x y : V) (d e : D) (zs : List D) (Q : VK), Same S H → View K cm S H x d → View K cm S H y e → op d e = some zs → (∀ p vs, H p = none → RepL K cm S vs zs → Q (.ref p) (upd H p (.lst vs))) → r x y H Q
def OpNF (K : PySem.W.Frag) (cm : CM) (r : List V → Hp → VK → Prop) (op : List D → Option (List D)) : Prop :=
  ∀ (S H : Hp) (xs : List V) (ds : List D) (zs : List D) (Q : VK), Same S H → Paired (View K cm S H) xs ds → op ds = some zs → (∀ p vs, H p = none → RepL K cm S vs zs → Q (.ref p) (upd H p (.lst vs))) → r xs H Q
def un (op : D → Option D) (f : LS → R D) : LS → R D := fun st => (f st).bind fun x => .of (op x)
def bin (op : D → D → Option D) (f g : LS → R D) : LS → R D := fun st => (f st).bind fun x => (g st).bind fun y => .of (op x y)
def dL (o : Option (List D)) : Option D := o.map .lst
def imT (ds : List D) : T := .lst (ds.map .im)
section
variable {f g h : LS → R D} {a b c e : Expr} {pos : Pos}
theorem VE.op {r : R2} {op : D → D → Option D} (ho : Op2 X.K cm r op) {σ : Sg} {H : Hp} {Q : VK} (k : E X.K cm W (bin op f g) σ H Q) : tOp r (VE X.K cm W f) (VE X.K cm W g) σ H Q := by
  obtain ⟨st, S, fp, rx, k⟩ := k
  refine ⟨st, S, fp, rx, k.bind.mono fun d S1 H1 x1 k1 v hv => ?_⟩
  refine ⟨st, S1, fp, rx.ext x1, k1.bind.mono fun z S2 H2 x2 k2 u hu => ?_⟩
  obtain ⟨w, hw, k3⟩ := k2.of
  exact ho S2 H2 v u d z w Q x2.sh (hv.ext x2) hu hw k3
theorem VE.un {r : V → Hp → VK → Prop} {op : D → Option D} (ho : Op1 X.K cm r op) {σ : Sg} {H : Hp} {Q : VK} (k : E X.K cm W (un op f) σ H Q) : tUn r (VE X.K cm W f) σ H Q := by
  obtain ⟨st, S, fp, rx, k⟩ := k
  refine ⟨st, S, fp, rx, k.bind.mono fun d S1 H1 x1 k1 v hv => ?_⟩
  obtain ⟨w, hw, k3⟩ := k1.of
  exact ho S1 H1 v d w Q x1.sh hv hw k3
theorem e_op {o : Operator} {r : R2} {op : D → D → Option D} (hr : OpR X (binaryOp o) r) (ho : Op2 X.K cm r op) (ha : PE X a (VE X.K cm W f)) (hb : PE X b (VE X.K cm W g)) : PE X (.BinOp a o b pos) (E X.K cm W (bin op f g)) :=
  (pe_op hr ha hb).imp fun σ H Q k => VE.op ho k
theorem e_cmp {o : CmpOp} {r : R2} {op : D → D → Option D} (hr : OpR X (compareOp o) r) (ho : Op2 X.K cm r op) (ha : PE X a (VE X.K cm W f)) (hb : PE X b (VE X.K cm W g)) (hm : behindInMarks o b = false) : PE X (.Compare a [o] [b] pos) (E X.K cm W (bin op f g)) :=
  (pe_cmpR hr ha hb hm).imp fun σ H Q k => VE.op ho k
/-! ### tests -/
def dB : D → Option Bool
  | .bl b => some b
  | _ => none
/-- a datum that is a truth value -/
def tb (f : LS → R D) : LS → R Bool := fun st => (f st).bind fun x => .of (dB x)
theorem TB.of {σ : Sg} {H : Hp} {Q : Bool → Hp → Prop} (k : TB X.K cm W (tb f) σ H Q) : E X.K cm W f σ H (fun x H' => ∃ b, x = .bl b ∧ Q b H') := by
  obtain ⟨st, S, fp, rx, k⟩ := k
  refine ⟨st, S, fp, rx, k.bind.mono fun d S1 H1 x1 k1 v hv => ?_⟩
  obtain ⟨w, hw, k3⟩ := k1.of
  cases d <;> cases hw
  cases hv
  exact ⟨_, rfl, k3 H1 S1 (Xt.refl x1.sh)⟩
theorem t_val (he : PE X e (E X.K cm W f)) (hs : ∀ whole, isTrue e X.env whole = (do let v ← whole; standAt e.pos; holding [v] (truthy v)) := by intro _; rfl) : PT X e (TB X.K cm W (tb f)) :=
  (pt_val he hs).imp fun σ H Q k => TB.of k
theorem t_cmp {o : CmpOp} {r : R2} {op : D → D → Option D} (hr : OpR X (compareOp o) r) (ho : Op2 X.K cm r op) (ha : PE X a (VE X.K cm W f)) (hb : PE X b (VE X.K cm W g)) (hm : behindInMarks o b = false) : PT X (.Compare a [o] [b] pos) (TB X.K cm W (tb (bin op f g))) :=
  (pt_cmpR hr ha hb hm).imp fun σ H Q k => VE.op ho (TB.of k)
/-- a < b < c -/
def chain (op op' : D → D → Option D) (f g h : LS → R D) : LS → R D := fun st => (f st).bind fun x => (g st).bind fun y => (R.of (op x y)).bind fun z => (R.of (dB z)).bind fun b => if b = true then (h st).bind fun u => .of (op' y u) else .ok (.bl false)
theorem VE.chain {r r' : R2} {op op' : D → D → Option D} (ho : Op2 X.K cm r op) (ho' : Op2 X.K cm r' op') {σ : Sg} {H : Hp} {Q : VK} (k : E X.K cm W (chain op op' f g h) σ H Q) : tChain r r' (VE X.K cm W f) (VE X.K cm W g) (VE X.K cm W h) σ H Q := by
  obtain ⟨st, S, fp, rx, k⟩ := k
  refine ⟨st, S, fp, rx, k.bind.mono fun d S1 H1 x1 k1 v hv => ?_⟩
  refine ⟨st, S1, fp, rx.ext x1, k1.bind.mono fun z S2 H2 x2 k2 u hu => ?_⟩
  obtain ⟨w, hw, k3⟩ := k2.bind.of
  refine ho S2 H2 v u d z w _ x2.sh (hv.ext x2) hu hw fun H3 S3 x3 v3 r3 => ?_
  obtain ⟨b, hb, k4⟩ := (k3 H3 S3 x3).bind.of
  cases w <;> cases hb
  cases r3
  refine ⟨_, rfl, ?_⟩
  have k5 := k4 H3 S3 (Xt.refl x3.sh)
  cases b with
  | false => exact k5.here x3.sh _ (.bl false)
  | true =>
    refine ⟨st, S3, fp, ((rx.ext x1).ext x2).ext x3, k5.bind.mono fun y S4 H4 x4 k6 t ht => ?_⟩
    obtain ⟨q, hq, k7⟩ := k6.of
    exact ho' S4 H4 u t z y q Q x4.sh ((hu.ext x3).ext x4) ht hq k7
theorem t_chain {o o' : CmpOp} {r r' : R2} {op op' : D → D → Option D} (hr : OpR X (compareOp o) r) (ho : Op2 X.K cm r op) (hr' : OpR X (compareOp o') r') (ho' : Op2 X.K cm r' op') (ha : PE X a (VE X.K cm W f)) (hb : PE X b (VE X.K cm W g)) (hc : PE X c (VE X.K cm W h))
    (hm : lastMarks [o, o'] [b, c] = false := by with_unfolding_all rfl) : PT X (.Compare a [o, o'] [b, c] pos) (TB X.K cm W (tb (chain op op' f g h))) := (pt_chain hr hr' ha hb hc hm).imp fun σ H Q k => VE.chain ho ho' (TB.of k)
/-! ### and, or, not -/
def andB (f g : LS → R Bool) : LS → R Bool := fun st => (f st).bind fun b => if b = true then g st else .ok false
def orB (f g : LS → R Bool) : LS → R Bool := fun st => (f st).bind fun b => if b = true then .ok true else g st
def notB (f : LS → R Bool) : LS → R Bool := fun st => (f st).bind fun b => .ok (!b)
variable {p q : LS → R Bool} {rest : List Expr}
theorem w_and1 (ha : PT X a (TB X.K cm W p)) : PW X (.BoolOp .And [a] pos) (TB X.K cm W p) := pw_and1 ha
theorem w_or1 (ha : PT X a (TB X.K cm W p)) : PW X (.BoolOp .Or [a] pos) (TB X.K cm W p) := pw_or1 ha
theorem w_and (ha : PT X a (TB X.K cm W p)) (hb : PW X (.BoolOp .And (b :: rest) pos) (TB X.K cm W q)) : PW X (.BoolOp .And (a :: b :: rest) pos) (TB X.K cm W (andB p q)) := (pw_and ha hb).imp fun σ H Q ⟨st, S, fp, rx, k⟩ =>
  ⟨st, S, fp, rx, k.bind.mono fun b S1 H1 x1 k1 => by
    cases b with
    | true => exact ⟨st, S1, fp, rx.ext x1, k1⟩
    | false => exact k1.here x1.sh⟩
theorem w_or (ha : PT X a (TB X.K cm W p)) (hb : PW X (.BoolOp .Or (b :: rest) pos) (TB X.K cm W q)) : PW X (.BoolOp .Or (a :: b :: rest) pos) (TB X.K cm W (orB p q)) := (pw_or ha hb).imp fun σ H Q ⟨st, S, fp, rx, k⟩ =>
  ⟨st, S, fp, rx, k.bind.mono fun b S1 H1 x1 k1 => by
    cases b with
    | true => exact k1.here x1.sh
    | false => exact ⟨st, S1, fp, rx.ext x1, k1⟩⟩
theorem t_w (h : PW X e (TB X.K cm W p)) : PT X e (TB X.K cm W p) := h.pt
theorem t_not (ha : PT X a (TB X.K cm W p)) : PT X (.UnaryOp .Not a pos) (TB X.K cm W (notB p)) := (pt_not ha).imp fun σ H Q ⟨st, S, fp, rx, k⟩ =>
  ⟨st, S, fp, rx, k.bind.mono fun b S1 H1 x1 k1 => k1.here x1.sh⟩
/-- as values: all but the last are truth values -/
def andE (f g : LS → R D) : LS → R D := fun st => (f st).bind fun x => (R.of (dB x)).bind fun b => if b = true then g st else .ok (.bl false)
def orE (f g : LS → R D) : LS → R D := fun st => (f st).bind fun x => (R.of (dB x)).bind fun b => if b = true then .ok (.bl true) else g st
def dNot : D → Option D
  | .bl b => some (.bl (!b))
  | _ => none
def notE (f : LS → R D) : LS → R D := fun st => (f st).bind fun x => .of (dNot x)
theorem e_one {op} (ha : PE X a (E X.K cm W f)) : PE X (.BoolOp op [a] pos) (E X.K cm W f) := pe_one ha
theorem e_and (ha : PE X a (E X.K cm W f)) (hb : PE X (.BoolOp .And (b :: rest) pos) (E X.K cm W g)) : PE X (.BoolOp .And (a :: b :: rest) pos) (E X.K cm W (andE f g)) := (pe_and ha hb).imp fun σ H Q ⟨st, S, fp, rx, k⟩ =>
  ⟨st, S, fp, rx, k.bind.mono fun d S1 H1 x1 k1 v hv => by
    obtain ⟨w, hw, k2⟩ := k1.bind.of
    cases d <;> cases hw
    cases hv
    refine ⟨_, rfl, ?_⟩
    have k3 := k2 H1 S1 (Xt.refl x1.sh)
    cases w with
    | true => exact ⟨st, S1, fp, rx.ext x1, k3⟩
    | false => exact k3.here x1.sh _ (.bl false)⟩
theorem e_not (ha : PE X a (E X.K cm W f)) : PE X (.UnaryOp .Not a pos) (E X.K cm W (notE f)) := (pe_not ha).imp fun σ H Q ⟨st, S, fp, rx, k⟩ =>
  ⟨st, S, fp, rx, k.bind.mono fun d S1 H1 x1 k1 v hv => by
    obtain ⟨w, hw, k2⟩ := k1.of
    cases d <;> cases hw
    cases hv
    exact ⟨_, rfl, k2 H1 S1 (Xt.refl x1.sh) _ (.bl _)⟩⟩
/-- a if t else b -/
def ifE (p : LS → R Bool) (f g : LS → R D) : LS → R D := fun st => (p st).bind fun b => if b = true then f st else g st
/-! ### argument lists, displays -/
theorem nodup1 (p : Addr) : [p].Nodup := by simp
def nilA : LS → R (List D) := fun _ => .ok []
def consA (f : LS → R D) (r : LS → R (List D)) : LS → R (List D) := fun st => (f st).bind fun x => (r st).bind fun xs => .ok (x :: xs)
variable {es : List Expr} {r : LS → R (List D)}
theorem a_nil : PA X [] (EA X.K cm W nilA) := pa_nil.imp fun σ H Q ⟨st, S, fp, rx, k⟩ => k.here rx.sh [] .nil
theorem a_cons (ha : PE X e (E X.K cm W f)) (hr : PA X es (EA X.K cm W r)) (hs : starEach (e :: es) X.env = (false, eval e X.env) :: starEach es X.env := by rfl) : PA X (e :: es) (EA X.K cm W (consA f r)) := (pa_cons ha hr hs).imp fun σ H Q ⟨st, S, fp, rx, k⟩ =>
  ⟨st, S, fp, rx, k.bind.mono fun d S1 H1 x1 k1 v hv => ⟨st, S1, fp, rx.ext x1, k1.bind.mono fun ds S2 H2 x2 k2 vs hvs => k2.here x2.sh (v :: vs) (.cons (hv.mono x2.ss) hvs)⟩⟩
theorem va_nil : PA X [] (VA X.K cm W nilA) := pa_nil.imp fun σ H Q ⟨st, S, fp, rx, k⟩ => k.here rx.sh [] .nil
theorem va_cons (ha : PE X e (VE X.K cm W f)) (hr : PA X es (VA X.K cm W r)) (hs : starEach (e :: es) X.env = (false, eval e X.env) :: starEach es X.env := by rfl) : PA X (e :: es) (VA X.K cm W (consA f r)) := (pa_cons ha hr hs).imp fun σ H Q ⟨st, S, fp, rx, k⟩ =>
  ⟨st, S, fp, rx, k.bind.mono fun d S1 H1 x1 k1 v hv => ⟨st, S1, fp, rx.ext x1, k1.bind.mono fun ds S2 H2 x2 k2 vs hvs => k2.here x2.sh (v :: vs) (.cons (hv.ext x2) hvs)⟩⟩
/-- the length is within the line -/
def lineL (ds : List D) : Option (List D) := if ds.length ≤ sizeLine then some ds else none
def tupE (r : LS → R (List D)) : LS → R D := fun st => (r st).bind fun ds => .of ((lineL ds).map .tup)
def lstE (r : LS → R (List D)) : LS → R D := fun st => (r st).bind fun ds => .of ((lineL ds).map .lst)
def lstF (r : LS → R (List D)) : LS → R T := fun st => (r st).bind fun ds => .of ((lineL ds).map imT)
theorem lineL_some {ds : List D} {α : Type} {φ : List D → α} {z : α} (h : (lineL ds).map φ = some z) : ds.length ≤ sizeLine ∧ z = φ ds := by
  unfold lineL at h
  split at h
  · cases h; exact ⟨by assumption, rfl⟩
  · cases h
theorem e_tup {x1} (h : PA X es (EA X.K cm W r)) : PE X (.Tuple es x1 pos) (E X.K cm W (tupE r)) := (pe_tup h).imp fun σ H Q ⟨st, S, fp, rx, k⟩ =>
  ⟨st, S, fp, rx, k.bind.mono fun ds S1 H1 x1 k1 vs hvs => by
    obtain ⟨w, hw, k2⟩ := k1.of
    obtain ⟨hl, rfl⟩ := lineL_some hw
    refine ⟨by rw [hvs.length]; exact hl, fun p hp => ?_⟩
    exact k2 _ _ (Xt.new x1.sh hp) _ (.tup (.inl (.inl upd_same)) (hvs.mono (same_upd (x1.sh.free hp))))⟩
theorem e_lst (h : PA X es (EA X.K cm W r)) : PE X (.List es pos) (E X.K cm W (lstE r)) := (pe_lst h).imp fun σ H Q ⟨st, S, fp, rx, k⟩ =>
  ⟨st, S, fp, rx, k.bind.mono fun ds S1 H1 x1 k1 vs hvs => by
    obtain ⟨w, hw, k2⟩ := k1.of
    obtain ⟨hl, rfl⟩ := lineL_some hw
    refine ⟨by rw [hvs.length]; exact hl, fun p hp => ?_⟩
    exact k2 _ _ (Xt.new x1.sh hp) _ (.lst upd_same (hvs.mono (same_upd (x1.sh.free hp))))⟩
theorem own_imT {K : PySem.W.Frag} {S H : Hp} : ∀ {vs : List V} {ds : List D}, RepL K cm S vs ds → OwnL K cm S H (ds.map .im) vs []
  | _, _, .nil => .nil
  | _, _, .cons h hs => .cons (f1 := []) (.im h) (own_imT hs)
theorem own_fresh {K : PySem.W.Frag} {S H : Hp} {p : Addr} {vs : List V} {ds : List D} (h : RepL K cm S vs ds) : Own K cm S (upd H p (.lst vs)) (imT ds) (.ref p) [p] := .lst upd_same (own_imT h)
theorem f_lst (h : PA X es (EA X.K cm W r)) : PE X (.List es pos) (EF X.K cm W (lstF r)) := (pe_lst h).imp fun σ H Q ⟨st, S, fp, rx, k⟩ =>
  ⟨st, S, fp, rx, k.bind.mono fun ds S1 H1 x1 k1 vs hvs => by
    obtain ⟨w, hw, k2⟩ := k1.of
    obtain ⟨hl, rfl⟩ := lineL_some hw
    refine ⟨by rw [hvs.length]; exact hl, fun p hp => ?_⟩
    refine k2 _ _ (Xt.own x1.sh hp) _ [p] (own_fresh hvs) (nodup1 p) fun a m => ?_
    have e : a = p := by simpa using m
    subst e
    exact ⟨x1.hh.free hp, x1.sh.free hp⟩⟩
end
end
end DI
end
section
set_option Elab.async false
set_option linter.all false
set_option maxRecDepth 100000
set_option maxHeartbeats 2000000
/-! DI: operators on data. -/
namespace DI
open PySem PySem.Spec PyProof.Rows L2
section
variable {K : PySem.W.Frag} {cm : CM} {S H : Hp}
theorem View.int {v : V} {i : Int} (h : View K cm S H v (.int i)) : v = .int i := by
  rcases h with h | ⟨_, _, _, _, e, _⟩
  · cases h; rfl
  · cases e
theorem View.bl {v : V} {b : Bool} (h : View K cm S H v (.bl b)) : v = .bl b := by
  rcases h with h | ⟨_, _, _, _, e, _⟩
  · cases h; rfl
  · cases e
theorem View.str {v : V} {x : Str} (h : View K cm S H v (.str x)) : v = .str x := by
  rcases h with h | ⟨_, _, _, _, e, _⟩
  · cases h; rfl
  · cases e
theorem View.non {v : V} (h : View K cm S H v .non) : v = .non := by
  rcases h with h | ⟨_, _, _, _, e, _⟩
  · cases h; rfl
  · cases e
theorem View.tup {v : V} {ds : List D} (h : View K cm S H v (.tup ds)) : ∃ a xs, v = .ref a ∧ SqT K S a xs ∧ RepL K cm S xs ds := by
  rcases h with h | ⟨_, _, _, _, e, _⟩
  · cases h; exact ⟨_, _, rfl, by assumption, by assumption⟩
  · cases e
theorem View.lst {v : V} {ds : List D} (sh : Same S H) (h : View K cm S H v (.lst ds)) : ∃ a xs, v = .ref a ∧ H a = some (.lst xs) ∧ RepL K cm S xs ds := by
  rcases h with h | ⟨a, vs, es, e1, e2, e3, h⟩
  · cases h; rename_i a xs q hr; exact ⟨a, xs, rfl, sh _ _ q, hr⟩
  · cases e2; exact ⟨a, vs, e1, e3, h⟩
theorem View.scr {v : V} {ds : List D} (h : View K cm S H v (.scr ds)) : ∃ a xs, v = .ref a ∧ SqL K S a xs ∧ RepL K cm S xs ds := by
  rcases h with h | ⟨_, _, _, _, e, _⟩
  · cases h; exact ⟨_, _, rfl, by assumption, by assumption⟩
  · cases e
theorem View.ins {v : V} {c : Nat} {ds : List D} (h : View K cm S H v (.ins c ds)) : ∃ a dx vs, v = .ref a ∧ S a = some (.ins (cm.addr c) dx ((cm.names c).zip vs)) ∧ RepL K cm S vs ds := by
  rcases h with h | ⟨_, _, _, _, e, _⟩
  · cases h; exact ⟨_, _, _, rfl, by assumption, by assumption⟩
  · cases e
/-- a fresh tuple of data -/
theorem fin_tup {vs : List V} {ds : List D} {Q : VK} (sh : Same S H) (r : RepL K cm S vs ds) (k : ∀ H' S', Xt S S' H H' → ∀ v, Rep K cm S' v (.tup ds) → Q v H') : ∀ p, H p = none → Q (.ref p) (upd H p (.tup vs)) :=
  fun p hp => k _ _ (Xt.new sh hp) _ (.tup (.inl (.inl upd_same)) (r.mono (same_upd (sh.free hp))))
theorem fin_lst {vs : List V} {ds : List D} {Q : VK} (sh : Same S H) (r : RepL K cm S vs ds) (k : ∀ H' S', Xt S S' H H' → ∀ v, Rep K cm S' v (.lst ds) → Q v H') : ∀ p, H p = none → Q (.ref p) (upd H p (.lst vs)) :=
  fun p hp => k _ _ (Xt.new sh hp) _ (.lst upd_same (r.mono (same_upd (sh.free hp))))
end
/-! ### arithmetic -/
def lineC (xs ys : List D) : Option (List D) := if xs.length + ys.length ≤ sizeLine then some (xs ++ ys) else none
theorem lineC_some {xs ys : List D} {α : Type} {φ : List D → α} {z : α} (h : (lineC xs ys).map φ = some z) : xs.length + ys.length ≤ sizeLine ∧ z = φ (xs ++ ys) := by
  unfold lineC at h
  split at h
  · cases h; exact ⟨by assumption, rfl⟩
  · cases h
def dAdd : D → D → Option D
  | .int i, .int j => some (.int (i + j))
  | .str x, .str y => if x.length + y.length ≤ sizeLine then some (.str (x ++ y)) else none
  | .lst xs, .lst ys => (lineC xs ys).map .lst
  | .tup xs, .tup ys => (lineC xs ys).map .tup
  | _, _ => none
def dCat : D → D → Option (List D)
  | .lst xs, .lst ys => lineC xs ys
  | _, _ => none
def rAddS : R2 := fun x y H Q => ∃ i j, x = .str i ∧ y = .str j ∧ i.length + j.length ≤ sizeLine ∧ Q (.str (i ++ j)) H
def rAddU (K : PySem.W.Frag) : R2 := fun x y H Q => rI0 (fun i j => .int (i + j)) x y H Q ∨ (rAddS x y H Q ∨ (rCat x y H Q ∨ rCatA K x y H Q))
section
variable {X : Cx} {cm : CM}
theorem or_add : OpR X (binaryOp .Add) (rAddU X.K) := op_add.or (op_add_str.or (op_cat.or op_catA))
theorem d_add : Op2 X.K cm (rAddU X.K) dAdd := by
  intro S H x y d e z Q sh hx hy ho k
  cases d <;> cases e <;> try (cases ho; done)
  case int.int i j =>
    cases ho
    rw [hx.int, hy.int]
    exact .inl ⟨i, j, rfl, rfl, k H S (Xt.refl sh) _ (.int _)⟩
  case str.str i j =>
    have ho : (if i.length + j.length ≤ sizeLine then some (D.str (i ++ j)) else none) = some z := ho
    split at ho
    · cases ho
      rw [hx.str, hy.str]
      exact .inr (.inl ⟨i, j, rfl, rfl, by assumption, k H S (Xt.refl sh) _ (.str _)⟩)
    · cases ho
  case tup.tup xs ys =>
    obtain ⟨hl, rfl⟩ := lineC_some ho
    obtain ⟨a, vs, rfl, ha, ra⟩ := hx.tup
    obtain ⟨b, ws, rfl, hb, rb⟩ := hy.tup
    refine .inr (.inr (.inr ⟨a, b, vs, ws, rfl, rfl, same_sqT sh ha, same_sqT sh hb, by rw [ra.length, rb.length]; exact hl, fun e => ?_, fun _ e => ?_, fun _ _ => fin_tup sh (ra.append rb) k⟩))
    · subst e
      cases ra
      exact k H S (Xt.refl sh) _ (.tup hb rb)
    · subst e
      cases rb
      rw [List.append_nil] at k
      exact k H S (Xt.refl sh) _ (.tup ha ra)
  case lst.lst xs ys =>
    obtain ⟨hl, rfl⟩ := lineC_some ho
    obtain ⟨a, vs, rfl, ha, ra⟩ := hx.lst sh
    obtain ⟨b, ws, rfl, hb, rb⟩ := hy.lst sh
    exact .inr (.inr (.inl ⟨a, b, vs, ws, rfl, rfl, ha, hb, by rw [ra.length, rb.length]; exact hl, fin_lst sh (ra.append rb) k⟩))
theorem d_cat : Op2F X.K cm (rAddU X.K) dCat := by
  intro S H x y d e z Q sh hx hy ho k
  cases d <;> cases e <;> try (cases ho; done)
  case lst.lst xs ys =>
    have h2 : (lineC xs ys).map id = some z := by rw [Option.map_id]; exact ho
    obtain ⟨hl, rfl⟩ := lineC_some h2
    obtain ⟨a, vs, rfl, ha, ra⟩ := hx.lst sh
    obtain ⟨b, ws, rfl, hb, rb⟩ := hy.lst sh
    exact .inr (.inr (.inl ⟨a, b, vs, ws, rfl, rfl, ha, hb, by rw [ra.length, rb.length]; exact hl, fun p hp => k p _ hp (ra.append rb)⟩))
/-- two ints -/
def dII (g : Int → Int → Option D) : D → D → Option D
  | .int i, .int j => g i j
  | _, _ => none
theorem d_II {g : Int → Int → Option D} {r : R2} (h : ∀ (i j : Int) (z : D) (H : Hp) (Q : VK), g i j = some z → (∃ (v : V), (∀ S, Rep X.K cm S v z) ∧ (Q v H → r (.int i) (.int j) H Q))) : Op2 X.K cm r (dII g) := by
  intro S H x y d e z Q sh hx hy ho k
  cases d <;> cases e <;> try (cases ho; done)
  case int.int i j =>
    rw [hx.int, hy.int]
    obtain ⟨v, hv, q⟩ := h i j z H Q ho
    exact q (k H S (Xt.refl sh) v (hv S))
def gI (C : Int → Int → Bool) (f : Int → Int → Int) (i j : Int) : Option D := if C i j = true then some (.int (f i j)) else none
theorem d_gI {C : Int → Int → Prop} {c : Int → Int → Bool} {f : Int → Int → Int} (hc : ∀ i j, c i j = true → C i j) : Op2 X.K cm (rI C fun i j => .int (f i j)) (dII (gI c f)) := d_II fun i j z H Q h => by
  unfold gI at h
  split at h
  · cases h
    rename_i q
    exact ⟨_, fun S => .int _, fun w => ⟨i, j, rfl, rfl, hc i j q, w⟩⟩
  · cases h
def posC (_ j : Int) : Bool := decide (0 < j)
def divC (_ j : Int) : Bool := decide (0 < j) && decide (j.natAbs.log2 < 9000)
def mulC (i j : Int) : Bool := decide (i.natAbs.log2 + j.natAbs.log2 < 1000000)
def powC (i j : Int) : Bool := decide (0 ≤ j) && decide (j ≤ 1000000) && decide (i.natAbs < 2 ^ 64)
def dSub : D → D → Option D := dII fun i j => some (.int (i - j))
def dMod : D → D → Option D := dII (gI posC fun i j => i % j)
def dDiv : D → D → Option D := dII (gI divC fun i j => i / j)
def dPow : D → D → Option D := dII (gI powC fun i j => i ^ j.toNat)
theorem d_sub : Op2 X.K cm (rI0 fun i j => .int (i - j)) dSub := d_II fun i j z H Q h => by
  cases h
  exact ⟨_, fun S => .int _, fun w => ⟨i, j, rfl, rfl, w⟩⟩
theorem d_mod : Op2 X.K cm (rI (fun _ j => 0 < j) fun i j => .int (i % j)) dMod := d_gI fun i j h => of_decide_eq_true h
theorem d_div : Op2 X.K cm (rI CDivW fun i j => .int (i / j)) dDiv := d_gI fun i j h => by
  unfold divC at h
  simp only [Bool.and_eq_true, decide_eq_true_eq] at h
  exact h
theorem d_pow : Op2 X.K cm (rI CPow fun i j => .int (i ^ j.toNat)) dPow := d_gI fun i j h => by
  unfold powC at h
  simp only [Bool.and_eq_true, decide_eq_true_eq] at h
  exact ⟨h.1.1, h.1.2, h.2⟩
/-- product; a list times an int -/
def repD (xs : List D) (k : Int) : Option (List D) := if -(2 ^ 63) ≤ k ∧ k < 2 ^ 63 ∧ xs.length * k.toNat ≤ sizeLine then some (List.replicate k.toNat xs).flatten else none
def dMul : D → D → Option D
  | .int i, .int j => gI mulC (fun i j => i * j) i j
  | .lst xs, .int k => (repD xs k).map .lst
  | _, _ => none
def rMulU : R2 := fun x y H Q => rI CMulW (fun i j => .int (i * j)) x y H Q ∨ rRep x y H Q
theorem or_mul : OpR X (binaryOp .Mult) rMulU := op_mulW.or op_rep
theorem RepL.flat {K : PySem.W.Frag} {S : Hp} {vs : List V} {ds : List D} (h : RepL K cm S vs ds) : ∀ n : Nat, RepL K cm S (List.replicate n vs).flatten (List.replicate n ds).flatten
  | 0 => .nil
  | n + 1 => by
    rw [List.replicate_succ, List.replicate_succ, List.flatten_cons, List.flatten_cons]
    exact h.append (RepL.flat h n)
theorem repD_some {xs : List D} {k : Int} {α : Type} {φ : List D → α} {z : α} (h : (repD xs k).map φ = some z) : (-(2 ^ 63) ≤ k ∧ k < 2 ^ 63 ∧ xs.length * k.toNat ≤ sizeLine) ∧ z = φ (List.replicate k.toNat xs).flatten := by
  unfold repD at h
  split at h
  · cases h; exact ⟨by assumption, rfl⟩
  · cases h
theorem d_mul : Op2 X.K cm rMulU dMul := by
  intro S H x y d e z Q sh hx hy ho k
  cases d <;> cases e <;> try (cases ho; done)
  case int.int i j =>
    rw [hx.int, hy.int]
    have ho : (if mulC i j = true then some (D.int (i * j)) else none) = some z := ho
    split at ho
    · cases ho
      rename_i q
      exact .inl ⟨i, j, rfl, rfl, (show i.natAbs.log2 + j.natAbs.log2 < 1000000 from by unfold mulC at q; exact of_decide_eq_true q), k H S (Xt.refl sh) _ (.int _)⟩
    · cases ho
  case lst.int xs j =>
    obtain ⟨⟨h1, h2, h3⟩, rfl⟩ := repD_some ho
    obtain ⟨a, vs, rfl, ha, ra⟩ := hx.lst sh
    rw [hy.int]
    exact .inr ⟨a, j, vs, rfl, rfl, ha, h1, h2, by rw [ra.length]; exact h3, fin_lst sh (ra.flat _) k⟩
/-! ### comparisons -/
def dLt : D → D → Option D := dII fun i j => some (.bl (decide (i < j)))
def dLe : D → D → Option D := dII fun i j => some (.bl (decide (i ≤ j)))
def dGt : D → D → Option D := dII fun i j => some (.bl (decide (j < i)))
def dGe : D → D → Option D := dII fun i j => some (.bl (decide (j ≤ i)))
theorem d_cI {g : Int → Int → Bool} : Op2 X.K cm (rI0 fun i j => .bl (g i j)) (dII fun i j => some (.bl (g i j))) := d_II fun i j z H Q h => by
  cases h
  exact ⟨_, fun S => .bl _, fun w => ⟨i, j, rfl, rfl, w⟩⟩
theorem d_lt : Op2 X.K cm (rI0 fun i j => .bl (decide (i < j))) dLt := d_cI
theorem d_le : Op2 X.K cm (rI0 fun i j => .bl (decide (i ≤ j))) dLe := d_cI
theorem d_gt : Op2 X.K cm (rI0 fun i j => .bl (decide (j < i))) dGt := d_cI
theorem d_ge : Op2 X.K cm (rI0 fun i j => .bl (decide (j ≤ i))) dGe := d_cI
def dIsN : D → D → Option D
  | d, .non => some (.bl (match d with | .non => true | _ => false))
  | _, _ => none
def dNotN : D → D → Option D
  | d, .non => some (.bl (match d with | .non => false | _ => true))
  | _, _ => none
theorem View.isN {K : PySem.W.Frag} {S H : Hp} {v : V} {d : D} (h : View K cm S H v d) : decide (v = .non) = (match d with | .non => true | _ => false) := by
  rcases h with h | ⟨_, _, _, e1, e2, _⟩
  · cases h <;> rfl
  · subst e1; subst e2; rfl
theorem d_isN : Op2 X.K cm (fun x y H Q => y = .non ∧ Q (.bl (decide (x = .non))) H) dIsN := by
  intro S H x y d e z Q sh hx hy ho k
  cases e <;> try (cases d <;> cases ho; done)
  refine ⟨hy.non, ?_⟩
  rw [hx.isN]
  cases d <;> cases ho <;> exact k H S (Xt.refl sh) _ (.bl _)
theorem d_notN : Op2 X.K cm (fun x y H Q => y = .non ∧ Q (.bl (!decide (x = .non))) H) dNotN := by
  intro S H x y d e z Q sh hx hy ho k
  cases e <;> try (cases d <;> cases ho; done)
  refine ⟨hy.non, ?_⟩
  rw [hx.isN]
  cases d <;> cases ho <;> exact k H S (Xt.refl sh) _ (.bl _)
end
/-! ### equality of data -/
mutual
def D.py : D → Option PyData
  | .non => some .none
  | .bl b => some (.bool b)
  | .int i => some (.int i)
  | .str x => some (.str x)
  | .tup xs => (D.pys xs).map .tuple
  | .lst xs => (D.pys xs).map .list
  | _ => none
def D.pys : List D → Option (List PyData)
  | [] => some []
  | d :: ds => match D.py d, D.pys ds with
    | some p, some ps => some (p :: ps)
    | _, _ => none
end
section
variable {K : PySem.W.Frag} {cm : CM} {S H : Hp}
mutual
theorem Rep.dp (sh : Same S H) : ∀ {v : V} {d : D} {p : PyData}, Rep K cm S v d → d.py = some p → Dp K H v p
  | _, _, _, .non, e => by cases e; exact .non
  | _, _, _, .bl b, e => by cases e; exact .bl b
  | _, _, _, .int b, e => by cases e; exact .int b
  | _, _, _, .str b, e => by cases e; exact .str b
  | _, _, p, .tup (ds := ds) h hs, e => by
    have e : (D.pys ds).map PyData.tuple = some p := by unfold D.py at e; exact e
    cases q : D.pys ds with
    | none => rw [q] at e; cases e
    | some ps => rw [q] at e; cases e; exact .tup (same_sqT sh h) (RepL.dp sh hs q)
  | _, _, p, .lst (ds := ds) h hs, e => by
    have e : (D.pys ds).map PyData.list = some p := by unfold D.py at e; exact e
    cases q : D.pys ds with
    | none => rw [q] at e; cases e
    | some ps => rw [q] at e; cases e; exact .lst (SqL.of (sh _ _ h)) (RepL.dp sh hs q)
  | _, _, _, .ins _ _ _, e => by unfold D.py at e; cases e
  | _, _, _, .scr _ _, e => by unfold D.py at e; cases e
  | _, _, _, .tset _ _ _, e => by unfold D.py at e; cases e
  | _, _, _, .dct _ _ _ _, e => by unfold D.py at e; cases e
  | _, _, _, .rng _, e => by unfold D.py at e; cases e
  | _, _, _, .nd _ _ _ _ _, e => by unfold D.py at e; cases e
theorem RepL.dp (sh : Same S H) : ∀ {vs : List V} {ds : List D} {ps : List PyData}, RepL K cm S vs ds → D.pys ds = some ps → DpAll K H vs ps
  | _, _, _, .nil, e => by unfold D.pys at e; cases e; exact .nil
  | _, _, _, .cons (d := d) (ds := ds) h hs, e => by
    unfold D.pys at e
    cases q1 : D.py d with
    | none => rw [q1] at e; cases e
    | some p =>
      cases q2 : D.pys ds with
      | none => rw [q1, q2] at e; cases e
      | some ps =>
        rw [q1, q2] at e
        cases e
        exact .cons (Rep.dp sh h q1) (RepL.dp sh hs q2)
end
theorem View.dp (sh : Same S H) {v : V} {d : D} {p : PyData} (h : View K cm S H v d) (e : d.py = some p) : Dp K H v p := by
  rcases h with h | ⟨a, vs, ds, e1, e2, e3, h⟩
  · exact h.dp sh e
  · subst e1; subst e2
    have e : (D.pys ds).map PyData.list = some p := by unfold D.py at e; exact e
    cases q : D.pys ds with
    | none => rw [q] at e; cases e
    | some ps => rw [q] at e; cases e; exact .lst (SqL.of e3) (h.dp sh q)
end
def D.sh (d : D) : Option PyData := (d.py).bind fun p => if SeqAt.shaped p = true then some p else none
theorem D.sh_some {d : D} {p : PyData} (h : d.sh = some p) : d.py = some p ∧ SeqAt.shaped p = true := by
  unfold D.sh at h
  cases q : d.py with
  | none => rw [q] at h; cases h
  | some u =>
    rw [q] at h
    have h : (if SeqAt.shaped u = true then some u else none) = some p := h
    split at h
    · cases h; exact ⟨rfl, by assumption⟩
    · cases h
def dEqB (d e : D) : Option Bool := match d.sh, e.sh with
  | some p, some q => some (PyData.eqv p q)
  | _, _ => none
def dEq (d e : D) : Option D := (dEqB d e).map .bl
def dNe (d e : D) : Option D := (dEqB d e).map fun b => .bl (!b)
theorem dEqB_some {d e : D} {b : Bool} (h : dEqB d e = some b) : ∃ p q, d.py = some p ∧ e.py = some q ∧ SeqAt.shaped p = true ∧ SeqAt.shaped q = true ∧ b = PyData.eqv p q := by
  unfold dEqB at h
  cases q1 : d.sh with
  | none => rw [q1] at h; cases h
  | some p =>
    cases q2 : e.sh with
    | none => rw [q1, q2] at h; cases h
    | some q =>
      rw [q1, q2] at h
      cases h
      obtain ⟨a1, a2⟩ := D.sh_some q1
      obtain ⟨b1, b2⟩ := D.sh_some q2
      exact ⟨p, q, a1, b1, a2, b2, rfl⟩
/-- x in xs: a list or a tuple of flat things, or a list of data -/
def D.flat : D → Bool
  | .non => true
  | .bl _ => true
  | .int _ => true
  | .str _ => true
  | _ => false
section
variable {X : Cx} {cm : CM}
theorem d_eq : Op2 X.K cm (rEqD X.K) dEq := by
  intro S H x y d e z Q sh hx hy ho k
  unfold dEq at ho
  cases q : dEqB d e with
  | none => rw [q] at ho; cases ho
  | some b =>
    rw [q] at ho
    cases ho
    obtain ⟨p, u, h1, h2, h3, h4, rfl⟩ := dEqB_some q
    exact ⟨p, u, hx.dp sh h1, hy.dp sh h2, h3, h4, k H S (Xt.refl sh) _ (.bl _)⟩
theorem d_ne : Op2 X.K cm (rNeD X.K) dNe := by
  intro S H x y d e z Q sh hx hy ho k
  unfold dNe at ho
  cases q : dEqB d e with
  | none => rw [q] at ho; cases ho
  | some b =>
    rw [q] at ho
    cases ho
    obtain ⟨p, u, h1, h2, h3, h4, rfl⟩ := dEqB_some q
    exact ⟨p, u, hx.dp sh h1, hy.dp sh h2, h3, h4, k H S (Xt.refl sh) _ (.bl _)⟩
end
end DI
end
section
set_option Elab.async false
set_option linter.all false
set_option maxRecDepth 100000
set_option maxHeartbeats 2000000
/-! DI: subscripts, slices, attributes, built-ins. -/
namespace DI
open PySem PySem.Spec PyProof.Rows L2
/-! ### x in xs -/
section
variable {X : Cx} {cm : CM}
def rInT (K : PySem.W.Frag) : R2 := fun x y H Q => ∃ d ds, Dp K H x d ∧ Dp K H y (.tuple ds) ∧ SeqAt.shaped d = true ∧ SeqAt.shaped (.tuple ds) = true ∧ Q (.bl (ds.any fun z => PyData.eqv z d)) H
def rNotInT (K : PySem.W.Frag) : R2 := fun x y H Q => ∃ d ds, Dp K H x d ∧ Dp K H y (.tuple ds) ∧ SeqAt.shaped d = true ∧ SeqAt.shaped (.tuple ds) = true ∧ Q (.bl (!ds.any fun z => PyData.eqv z d)) H
theorem op_inT (hu : X.A.units + 65 < cLine) : OpR X (compareOp .In) (rInT X.K) := by
  intro pins s σ H x y v u Q I rx ry h
  obtain ⟨d, ds, hd, he, sd, se, q⟩ := h
  obtain ⟨as, r1⟩ := Dp.reads I d x v hd rx
  obtain ⟨bs, r2⟩ := Dp.reads I (.tuple ds) y u he ry
  exact SeqAt.in_tuple_reads r2 r1 (SeqAt.canLay_of_shaped se) (SeqAt.canLay_of_shaped sd) (room_in_shaped sd hu) ⟨.bl _, H, I, rfl, q⟩
theorem op_notInT (hu : X.A.units + 65 < cLine) : OpR X (compareOp .NotIn) (rNotInT X.K) := by
  intro pins s σ H x y v u Q I rx ry h
  obtain ⟨d, ds, hd, he, sd, se, q⟩ := h
  obtain ⟨as, r1⟩ := Dp.reads I d x v hd rx
  obtain ⟨bs, r2⟩ := Dp.reads I (.tuple ds) y u he ry
  exact SeqAt.notIn_tuple_reads r2 r1 (SeqAt.canLay_of_shaped se) (SeqAt.canLay_of_shaped sd) (room_in_shaped sd hu) ⟨.bl _, H, I, rfl, q⟩
def rInU (K : PySem.W.Frag) : R2 := fun x y H Q => rInD K x y H Q ∨ rInT K x y H Q
def rNotInU (K : PySem.W.Frag) : R2 := fun x y H Q => rNotInD K x y H Q ∨ rNotInT K x y H Q
theorem or_in {k : Nat} (hr : Room k X.A) : OpR X (compareOp .In) (rInU X.K) := (op_inD (by have := hr.un; omega)).or (op_inT (by have := hr.un; omega))
theorem or_notIn {k : Nat} (hr : Room k X.A) : OpR X (compareOp .NotIn) (rNotInU X.K) := (op_notInD (by have := hr.un; omega)).or (op_notInT (by have := hr.un; omega))
theorem or_eq {k : Nat} (hr : Room k X.A) : OpR X (compareOp .Eq) (rEqD X.K) := op_eqD (by have := hr.un; omega)
theorem or_ne {k : Nat} (hr : Room k X.A) : OpR X (compareOp .NotEq) (rNeD X.K) := op_neD (by have := hr.un; omega)
def dInB (d e : D) : Option Bool := match d.sh, e.sh with
  | some p, some (.list qs) => some (qs.any fun z => PyData.eqv z p)
  | some p, some (.tuple qs) => some (qs.any fun z => PyData.eqv z p)
  | _, _ => none
def dIn (d e : D) : Option D := (dInB d e).map .bl
def dNotIn (d e : D) : Option D := (dInB d e).map fun b => .bl (!b)
theorem dInB_some {d e : D} {b : Bool} (h : dInB d e = some b) : ∃ p q qs, d.py = some p ∧ e.py = some q ∧ SeqAt.shaped p = true ∧ SeqAt.shaped q = true ∧ (q = .list qs ∨ q = .tuple qs) ∧ b = qs.any fun z => PyData.eqv z p := by
  unfold dInB at h
  cases q1 : d.sh with
  | none => rw [q1] at h; cases h
  | some p =>
    cases q2 : e.sh with
    | none => rw [q1, q2] at h; cases h
    | some q =>
      rw [q1, q2] at h
      obtain ⟨a1, a2⟩ := D.sh_some q1
      obtain ⟨b1, b2⟩ := D.sh_some q2
      cases q <;> try (cases h; done)
      case list qs => cases h; exact ⟨p, _, qs, a1, b1, a2, b2, .inl rfl, rfl⟩
      case tuple qs => cases h; exact ⟨p, _, qs, a1, b1, a2, b2, .inr rfl, rfl⟩
theorem d_in : Op2 X.K cm (rInU X.K) dIn := by
  intro S H x y d e z Q sh hx hy ho k
  unfold dIn at ho
  cases q : dInB d e with
  | none => rw [q] at ho; cases ho
  | some b =>
    rw [q] at ho
    cases ho
    obtain ⟨p, u, qs, h1, h2, h3, h4, rfl | rfl, rfl⟩ := dInB_some q
    · exact .inl ⟨p, qs, hx.dp sh h1, hy.dp sh h2, h3, h4, k H S (Xt.refl sh) _ (.bl _)⟩
    · exact .inr ⟨p, qs, hx.dp sh h1, hy.dp sh h2, h3, h4, k H S (Xt.refl sh) _ (.bl _)⟩
theorem d_notIn : Op2 X.K cm (rNotInU X.K) dNotIn := by
  intro S H x y d e z Q sh hx hy ho k
  unfold dNotIn at ho
  cases q : dInB d e with
  | none => rw [q] at ho; cases ho
  | some b =>
    rw [q] at ho
    cases ho
    obtain ⟨p, u, qs, h1, h2, h3, h4, rfl | rfl, rfl⟩ := dInB_some q
    · exact .inl ⟨p, qs, hx.dp sh h1, hy.dp sh h2, h3, h4, k H S (Xt.refl sh) _ (.bl _)⟩
    · exact .inr ⟨p, qs, hx.dp sh h1, hy.dp sh h2, h3, h4, k H S (Xt.refl sh) _ (.bl _)⟩
/-! ### subscripts -/
theorem RepL.atI {K : PySem.W.Frag} {S : Hp} {vs : List V} {ds : List D} {i : Int} {d : D} (h : RepL K cm S vs ds) (e : atI ds i = some d) : ∃ v, L2.atI vs i = some v ∧ Rep K cm S v d := by
  unfold L2.atI at e ⊢
  rw [h.length]
  cases q : ixN ds.length i with
  | none => rw [q] at e; cases e
  | some j =>
    rw [q] at e
    have e : ds[j]? = some d := e
    obtain ⟨v, a, b⟩ := h.get e
    exact ⟨v, a, b⟩
def dIdx : D → D → Option D
  | .lst ds, .int i => atI ds i
  | .tup ds, .int i => atI ds i
  | .scr ds, .int i => atI ds i
  | .str z, .int i => if z.length ≤ sizeLine then (atI z.cps.toList i).map fun c => .str ⟨#[c]⟩ else none
  | _, _ => none
theorem d_idx : Op2 X.K cm (rIx X.K) dIdx := by
  intro S H x y d e z Q sh hx hy ho k
  cases d <;> cases e <;> try (cases ho; done)
  case lst.int ds i =>
    obtain ⟨a, vs, rfl, ha, ra⟩ := hx.lst sh
    rw [hy.int]
    obtain ⟨v, e1, r1⟩ := ra.atI ho
    exact .inl ⟨a, vs, i, v, rfl, rfl, SqL.of ha, e1, k H S (Xt.refl sh) v r1⟩
  case tup.int ds i =>
    obtain ⟨a, vs, rfl, ha, ra⟩ := hx.tup
    rw [hy.int]
    obtain ⟨v, e1, r1⟩ := ra.atI ho
    exact .inr (.inl ⟨a, vs, i, v, rfl, rfl, same_sqT sh ha, e1, k H S (Xt.refl sh) v r1⟩)
  case scr.int ds i =>
    obtain ⟨a, vs, rfl, ha, ra⟩ := hx.scr
    rw [hy.int]
    obtain ⟨v, e1, r1⟩ := ra.atI ho
    exact .inl ⟨a, vs, i, v, rfl, rfl, same_sqL sh ha, e1, k H S (Xt.refl sh) v r1⟩
  case str.int w i =>
    rw [hx.str, hy.int]
    have ho : (if w.length ≤ sizeLine then (L2.atI w.cps.toList i).map fun c => D.str ⟨#[c]⟩ else none) = some z := ho
    split at ho
    · cases q : L2.atI w.cps.toList i with
      | none => rw [q] at ho; cases ho
      | some c =>
        rw [q] at ho
        cases ho
        exact .inr (.inr ⟨w, i, c, rfl, rfl, by assumption, q, k H S (Xt.refl sh) _ (.str _)⟩)
    · cases ho
variable {W : WH} {f g : LS → R D} {a b e : Expr} {pos : Pos}
theorem e_ix (ha : PE X a (VE X.K cm W f)) (hb : PE X b (VE X.K cm W g)) (hs : PlainIx b := by exact fun _ _ => rfl) : PE X (.Subscript a b pos) (E X.K cm W (bin dIdx f g)) := (pe_ix ix_seq ha hb hs).imp fun σ H Q k => VE.op d_idx k
/-! ### slices -/
def cutL {α : Type} (xs : List α) (lo hi : Option Int) : List α := (xs.drop (HT.sIx xs.length 0 lo)).take (HT.sIx xs.length xs.length hi - HT.sIx xs.length 0 lo)
theorem RepL.cut {K : PySem.W.Frag} {S : Hp} {vs : List V} {ds : List D} (h : RepL K cm S vs ds) (lo hi : Option Int) : RepL K cm S (cutV vs lo hi) (cutL ds lo hi) := by
  unfold cutV cutL
  rw [h.length]
  exact (h.drop _).take _
def dSl (d : D) (lo hi : Option Int) : Option D := match d with
  | .lst ds => some (.lst (cutL ds lo hi))
  | .tup ds => some (.tup (cutL ds lo hi))
  | .str z => if z.length ≤ sizeLine then some (.str (cutS z lo hi)) else none
  | _ => none
def rSlU (K : PySem.W.Frag) : V → Option Int → Option Int → Hp → VK → Prop := fun x lo hi H Q => rSlL K x lo hi H Q ∨ (rSlA K x lo hi H Q ∨ rSlS x lo hi H Q)
theorem sl_any : SlR X (rSlU X.K) := sl_list.or (sl_tupA.or sl_str)
theorem cutV_whole {xs : List V} {lo hi : Option Int} (h : HT.sIx xs.length 0 lo = 0 ∧ HT.sIx xs.length xs.length hi = xs.length) : cutV xs lo hi = xs := by
  unfold cutV
  rw [h.1, h.2]
  simp
/-- a part of a slice: left out, or an int -/
def partN : LS → R (Option Int) := fun _ => .ok none
def dInt : D → Option Int
  | .int i => some i
  | _ => none
def partI (f : LS → R D) : LS → R (Option Int) := fun st => (f st).bind fun d => (R.of (dInt d)).bind fun i => .ok (some i)
def OP (K : PySem.W.Frag) (cm : CM) (W : WH) (f : LS → R (Option Int)) : TO := fun σ H Q => ∃ st S fp, Rx K cm W st S fp σ H ∧ Go K cm W (fun o S' H' => Q o H') (f st) S H σ
theorem o_none : PO X none (OP X.K cm W partN) := ⟨fun pins s σ H Q I ⟨st, S, fp, rx, k⟩ => po_none.run pins s σ H Q I (k.here rx.sh)⟩
theorem o_some (h : PE X e (VE X.K cm W f)) : PO X (some e) (OP X.K cm W (partI f)) := ⟨fun pins s σ H Q I ⟨st, S, fp, rx, k⟩ => (po_some h).run pins s σ H Q I
  ⟨st, S, fp, rx, k.bind.mono fun d S1 H1 x1 k1 v hv => by
    obtain ⟨i, hi, k2⟩ := k1.bind.of
    cases d <;> cases hi
    rw [hv.int]
    exact ⟨_, rfl, (k2 H1 S1 (Xt.refl x1.sh)).here x1.sh⟩⟩⟩
def slE (f : LS → R D) (lo hi : LS → R (Option Int)) : LS → R D := fun st => (f st).bind fun d => (lo st).bind fun l => (hi st).bind fun h => .of (dSl d l h)
/-- .. a fresh list -/
def slF (f : LS → R D) (lo hi : LS → R (Option Int)) : LS → R T := fun st => (f st).bind fun d => (lo st).bind fun l => (hi st).bind fun h => match d with
  | .lst ds => .ok (imT (cutL ds l h))
  | _ => .bad
variable {lo hi : LS → R (Option Int)} {el eh : Option Expr} {p2 : Pos}
theorem e_sl (ha : PE X a (VE X.K cm W f)) (hl : PO X el (OP X.K cm W lo)) (hh : PO X eh (OP X.K cm W hi)) : PE X (.Subscript a (.Slice el eh none p2) pos) (E X.K cm W (slE f lo hi)) := (pe_slice sl_any ha hl hh).imp fun σ H Q ⟨st, S, fp, rx, k⟩ =>
  ⟨st, S, fp, rx, k.bind.mono fun d S1 H1 x1 k1 v hv => ⟨st, S1, fp, rx.ext x1, k1.bind.mono fun l S2 H2 x2 k2 => ⟨st, S2, fp, (rx.ext x1).ext x2, k2.bind.mono fun u S3 H3 x3 k3 => by
    obtain ⟨z, hz, k4⟩ := k3.of
    replace hv := (hv.ext x2).ext x3
    cases d <;> try (cases hz; done)
    case lst ds =>
      cases hz
      obtain ⟨a, vs, rfl, ha, ra⟩ := hv.lst x3.sh
      exact .inl ⟨a, vs, rfl, SqL.of ha, fin_lst x3.sh (ra.cut l u) k4⟩
    case tup ds =>
      cases hz
      obtain ⟨a, vs, rfl, ha, ra⟩ := hv.tup
      refine .inr (.inl ⟨a, vs, rfl, same_sqT x3.sh ha, fun w => ?_, fun _ => fin_tup x3.sh (ra.cut l u) k4⟩)
      have rc := ra.cut l u
      rw [cutV_whole w] at rc
      exact k4 H3 S3 (Xt.refl x3.sh) _ (.tup ha rc)
    case str w =>
      rw [hv.str]
      have hz : (if w.length ≤ sizeLine then some (D.str (cutS w l u)) else none) = some z := hz
      split at hz
      · cases hz
        exact .inr (.inr ⟨w, rfl, by assumption, k4 H3 S3 (Xt.refl x3.sh) _ (.str _)⟩)
      · cases hz⟩⟩⟩
theorem f_sl (ha : PE X a (VE X.K cm W f)) (hl : PO X el (OP X.K cm W lo)) (hh : PO X eh (OP X.K cm W hi)) : PE X (.Subscript a (.Slice el eh none p2) pos) (EF X.K cm W (slF f lo hi)) := (pe_slice sl_any ha hl hh).imp fun σ H Q ⟨st, S, fp, rx, k⟩ =>
  ⟨st, S, fp, rx, k.bind.mono fun d S1 H1 x1 k1 v hv => ⟨st, S1, fp, rx.ext x1, k1.bind.mono fun l S2 H2 x2 k2 => ⟨st, S2, fp, (rx.ext x1).ext x2, k2.bind.mono fun u S3 H3 x3 k3 => by
    replace hv := (hv.ext x2).ext x3
    cases d <;> try (cases k3; done)
    case lst ds =>
      obtain ⟨a, vs, rfl, ha, ra⟩ := hv.lst x3.sh
      refine .inl ⟨a, vs, rfl, SqL.of ha, fun p hp => ?_⟩
      refine k3 _ _ (Xt.own x3.sh hp) _ [p] (own_fresh (ra.cut l u)) (nodup1 p) fun b m => ?_
      have e : b = p := by simpa using m
      subst e
      exact ⟨((x1.trans x2).trans x3).hh.free hp, x3.sh.free hp⟩⟩⟩⟩
/-! ### attributes -/
/-- the classes in whose instances the attribute stands, each with its place -/
def dFld (tbl : List (Nat × Nat)) : D → Option D
  | .ins c ds => (tbl.lookup c).bind fun i => ds[i]?
  | _ => none
structure FldOk (K : PySem.W.Frag) (cm : CM) (f : Str) (c i : Nat) : Prop where
  cl : Cls K (cm.addr c)
  na : NoAttr K (cm.addr c) f
  at_ : (cm.names c)[i]? = some f
  nd : (cm.names c).Nodup
theorem lookup_mem {tbl : List (Nat × Nat)} {c i : Nat} (h : tbl.lookup c = some i) : (c, i) ∈ tbl := by
  induction tbl with
  | nil => cases h
  | cons p r ih =>
    obtain ⟨c', i'⟩ := p
    unfold List.lookup at h
    cases q : c == c' with
    | true =>
      rw [q] at h
      have e : c = c' := by simpa using q
      cases h
      rw [e]
      exact List.mem_cons_self
    | false =>
      rw [q] at h
      exact List.mem_cons_of_mem _ (ih h)
theorem e_fld {tbl : List (Nat × Nat)} {f : Str} {g : LS → R D} (ok : ∀ p ∈ tbl, p.1 ∈ cm.cls → FldOk X.K cm f p.1 p.2) (ha : PE X a (E X.K cm W g)) (hb : attributeBase a f X.env (eval a X.env) = eval a X.env := by rfl) : PE X (.Attribute a f pos) (E X.K cm W (un (dFld tbl) g)) :=
  (pe_fld ha hb).imp fun σ H Q ⟨st, S, fp, rx, k⟩ => ⟨st, S, fp, rx, k.bind.mono fun d S1 H1 x1 k1 v hv => by
    obtain ⟨z, hz, k2⟩ := k1.of
    cases d <;> try (cases hz; done)
    case ins c ds =>
      cases hv with
      | @ins a dx _ vs _ m0 h1 h2 =>
        have hz : (tbl.lookup c).bind (fun i => ds[i]?) = some z := hz
        cases q : tbl.lookup c with
        | none => rw [q] at hz; cases hz
        | some i =>
          rw [q] at hz
          have hz : ds[i]? = some z := hz
          obtain ⟨v, e1, r1⟩ := h2.get hz
          have o := ok _ (lookup_mem q) m0
          exact ⟨a, cm.addr c, dx, _, v, rfl, x1.sh _ _ h1, o.cl, o.na, by rw [zip_lookup o.nd o.at_]; exact e1, k2 H1 S1 (Xt.refl x1.sh) v r1⟩⟩
/-! ### built-ins called -/
def callE (op : List D → Option D) (r : LS → R (List D)) : LS → R D := fun st => (r st).bind fun ds => .of (op ds)
def callF (op : List D → Option (List D)) (r : LS → R (List D)) : LS → R T := fun st => (r st).bind fun ds => .of ((op ds).map imT)
section
variable {r : List V → Hp → VK → Prop} {args : LS → R (List D)} {x : Str} {id ty : String} {p : Pos} {es : List Expr}
theorem VA.op {op : List D → Option D} (ho : OpN X.K cm r op) {σ : Sg} {H : Hp} {Q : VK} (k : E X.K cm W (callE op args) σ H Q) : tCB r (VA X.K cm W args) σ H Q := by
  obtain ⟨st, S, fp, rx, k⟩ := k
  refine ⟨st, S, fp, rx, k.bind.mono fun ds S1 H1 x1 k1 vs hvs => ?_⟩
  obtain ⟨w, hw, k3⟩ := k1.of
  exact ho S1 H1 vs ds w Q x1.sh hvs hw k3
theorem VA.opF {op : List D → Option (List D)} (ho : OpNF X.K cm r op) {σ : Sg} {H : Hp} {Q : VK} (k : EF X.K cm W (callF op args) σ H Q) : tCB r (VA X.K cm W args) σ H Q := by
  obtain ⟨st, S, fp, rx, k⟩ := k
  refine ⟨st, S, fp, rx, k.bind.mono fun ds S1 H1 x1 k1 vs hvs => ?_⟩
  obtain ⟨w, hw, k3⟩ := k1.of
  cases q : op ds with
  | none => rw [q] at hw; cases hw
  | some zs =>
    rw [q] at hw
    cases hw
    refine ho S1 H1 vs ds zs Q x1.sh hvs q fun p us hp ru => ?_
    refine k3 _ _ (Xt.own x1.sh hp) _ [p] (own_fresh ru) (nodup1 p) fun b m => ?_
    have e : b = p := by simpa using m
    subst e
    exact ⟨x1.hh.free hp, x1.sh.free hp⟩
theorem opN_of {op : List D → Option (List D)} (ho : OpNF X.K cm r op) : OpN X.K cm r (fun ds => dL (op ds)) := by
  intro S H xs ds z Q sh hx h k
  cases q : op ds with
  | none =>
    replace h : (op ds).map D.lst = some z := h
    rw [q] at h; cases h
  | some zs =>
    replace h : (op ds).map D.lst = some z := h
    rw [q] at h
    cases h
    exact ho S H xs ds zs Q sh hx q fun p us hp ru => fin_lst sh ru k p hp
theorem e_callB {op : List D → Option D} (hc : CallR X (.builtin id) r) (ho : OpN X.K cm r op) (hm : X.mg x = none) (hv : bootBuiltins x = some (.builtin id)) (ha : PA X (e :: es) (VA X.K cm W args)) (hg : Gl X x := by rfl) (hn : x ≠ "__name__" := by decide) (hdb : (x == ("__debug__" : Str)) = false := by decide)
    (hst : starEach (e :: es) X.env = (false, eval e X.env) :: starEach es X.env := by rfl) (hpl : (backTo pos (starEach es X.env)).any (·.1) = false := by rfl) : PE X (.Call (.Name x p) (e :: es) [] pos) (E X.K cm W (callE op args)) :=
  (pe_callB hc hg hm hv ha hn hdb hst hpl).imp fun σ H Q k => VA.op ho k
theorem e_callT {op : List D → Option D} (hc : CallR X (.type ty) r) (ho : OpN X.K cm r op) (hm : X.mg x = none) (hv : bootBuiltins x = some (.type ty)) (ha : PA X (e :: es) (VA X.K cm W args)) (hg : Gl X x := by rfl) (hn : x ≠ "__name__" := by decide) (hdb : (x == ("__debug__" : Str)) = false := by decide)
    (hst : starEach (e :: es) X.env = (false, eval e X.env) :: starEach es X.env := by rfl) (hpl : (backTo pos (starEach es X.env)).any (·.1) = false := by rfl) : PE X (.Call (.Name x p) (e :: es) [] pos) (E X.K cm W (callE op args)) :=
  (pe_callTy hc hg hm hv ha hn hdb hst hpl).imp fun σ H Q k => VA.op ho k
theorem f_callT {op : List D → Option (List D)} (hc : CallR X (.type ty) r) (ho : OpNF X.K cm r op) (hm : X.mg x = none) (hv : bootBuiltins x = some (.type ty)) (ha : PA X (e :: es) (VA X.K cm W args)) (hg : Gl X x := by rfl) (hn : x ≠ "__name__" := by decide) (hdb : (x == ("__debug__" : Str)) = false := by decide)
    (hst : starEach (e :: es) X.env = (false, eval e X.env) :: starEach es X.env := by rfl) (hpl : (backTo pos (starEach es X.env)).any (·.1) = false := by rfl) : PE X (.Call (.Name x p) (e :: es) [] pos) (EF X.K cm W (callF op args)) :=
  (pe_callTy hc hg hm hv ha hn hdb hst hpl).imp fun σ H Q k => VA.opF ho k
theorem f_op {o : Operator} {r : R2} {op : D → D → Option (List D)} {f g : LS → R D} (hr : OpR X (binaryOp o) r) (ho : Op2F X.K cm r op) (ha : PE X a (VE X.K cm W f)) (hb : PE X b (VE X.K cm W g)) : PE X (.BinOp a o b pos) (EF X.K cm W (fun st => (f st).bind fun x => (g st).bind fun y => .of ((op x y).map imT))) :=
  (pe_op hr ha hb).imp fun σ H Q ⟨st, S, fp, rx, k⟩ => ⟨st, S, fp, rx, k.bind.mono fun d S1 H1 x1 k1 v hv => ⟨st, S1, fp, rx.ext x1, k1.bind.mono fun z S2 H2 x2 k2 u hu => by
    obtain ⟨w, hw, k3⟩ := k2.of
    cases q : op d z with
    | none => rw [q] at hw; cases hw
    | some zs =>
      rw [q] at hw
      cases hw
      refine ho S2 H2 v u d z zs Q x2.sh (hv.ext x2) hu q fun p us hp ru => ?_
      refine k3 _ _ (Xt.own x2.sh hp) _ [p] (own_fresh ru) (nodup1 p) fun b m => ?_
      have e : b = p := by simpa using m
      subst e
      exact ⟨(x1.trans x2).hh.free hp, x2.sh.free hp⟩⟩⟩
end
end
end DI
end
section
set_option Elab.async false
set_option linter.all false
set_option maxRecDepth 100000
set_option maxHeartbeats 2000000
/-! DI: statements. -/
namespace DI
open PySem PySem.Spec PyProof.Rows L2
/-- how a block ends -/
inductive Out where
  | bad
  | nx (st : LS)
  | rt (d : D)
  | bk (st : LS)
  | ct (st : LS)
  | ex (st : LS) (e : Ex)
def Out.seq (o : Out) (g : LS → Out) : Out := match o with
  | .nx st => g st
  | o => o
def R.out {α : Type} (r : R α) (st : LS) (k : α → Out) : Out := match r with
  | .bad => .bad
  | .ok a => k a
  | .ex e => .ex st e
/-- what a def's body must keep: H0 as the def found it, S0 what stood for good then -/
structure Fr where
  S0 : Hp
  F : Hp
  /-- slots that keep their value -/
  fix : Nat → Option V
abbrev noFix : Nat → Option V := fun _ => none
abbrev fix0 (x : Addr) : Nat → Option V := fun i => if i = 0 then some (.ref x) else none
structure RR (K : PySem.W.Frag) (cm : CM) (W : WH) (c : Fr) (st : LS) (S : Hp) (fp : List Addr) (σ : Sg) (H : Hp) : Prop where
  rx : Rx K cm W st S fp σ H
  xt : Xt c.S0 S c.F H
  fr : ∀ a ∈ fp, c.F a = none
  fx : ∀ i v, c.fix i = some v → σ[i]? = some (some v)
section
variable {K : PySem.W.Frag} {cm : CM} {W : WH} {c : Fr} {st : LS} {S S' H H' : Hp} {fp : List Addr} {σ : Sg}
theorem RR.ext (r : RR K cm W c st S fp σ H) (x : Xt S S' H H') : RR K cm W c st S' fp σ H' := ⟨r.rx.ext x, r.xt.trans x, r.fr, r.fx⟩
theorem fx_set {o : Option V} {i : Nat} (r : ∀ i v, c.fix i = some v → σ[i]? = some (some v)) (hi : c.fix i = none) : ∀ j v, c.fix j = some v → (σ.set i o)[j]? = some (some v) := fun j v e => by
  have ne : i ≠ j := fun z => by
    rw [z, e] at hi
    cases hi
  rw [List.getElem?_set_ne ne]
  exact r j v e
theorem RR.set_im [Free W] {v : V} {d : D} {i : Nat} (r : RR K cm W c st S fp σ H) (h : Rep K cm S v d) (hi : c.fix i = none) : ∃ fp', RR K cm W c (st.set i (some (.im d))) S fp' (σ.set i (some v)) H := by
  obtain ⟨fp', a, b⟩ := r.rx.set_im h i
  exact ⟨fp', a, r.xt, fun x m => r.fr x (b x m), fx_set r.fx hi⟩
end
/-- a state that goes on from S -/
def On (K : PySem.W.Frag) (cm : CM) (W : WH) (c : Fr) (S : Hp) (st : LS) (σ : Sg) (H : Hp) : Prop := ∃ S' fp, Same S S' ∧ RR K cm W c st S' fp σ H
def Post (K : PySem.W.Frag) (cm : CM) (W : WH) (c : Fr) (D : Ends) (S : Hp) : Out → Prop
  | .bad => False
  | .nx st => ∀ σ H, On K cm W c S st σ H → D.nx σ H
  | .bk st => ∀ σ H, On K cm W c S st σ H → D.bk σ H
  | .ct st => ∀ σ H, On K cm W c S st σ H → D.ct σ H
  | .rt d => ∀ v H S', Same S S' → Xt c.S0 S' c.F H → Rep K cm S' v d → D.rt v H
  | .ex st e => ∀ cls od σ H S' fp, Same S S' → RR K cm W c st S' fp σ H → RepX K cm S' cls od e → W.w cls od σ H
def SX (K : PySem.W.Frag) (cm : CM) (W : WH) (c : Fr) (f : LS → Out) : TS := fun D σ H => ∃ st S fp, RR K cm W c st S fp σ H ∧ Post K cm W c D S (f st)
section
variable {K : PySem.W.Frag} {cm : CM} {W : WH} {c : Fr} {D : Ends} {S S' H H' : Hp} {σ : Sg}
theorem On.mono {st : LS} (h : Same S S') (o : On K cm W c S' st σ H) : On K cm W c S st σ H := let ⟨S2, fp, a, b⟩ := o; ⟨S2, fp, h.trans a, b⟩
theorem Post.mono {o : Out} (h : Same S S') (p : Post K cm W c D S o) : Post K cm W c D S' o := by
  cases o with
  | bad => exact p
  | nx st => exact fun σ H q => p σ H (q.mono h)
  | bk st => exact fun σ H q => p σ H (q.mono h)
  | ct st => exact fun σ H q => p σ H (q.mono h)
  | rt d => exact fun v H S2 a => p v H S2 (h.trans a)
  | ex st e => exact fun cls od σ H S2 fp a => p cls od σ H S2 fp (h.trans a)
theorem RR.on {st : LS} {fp : List Addr} (r : RR K cm W c st S fp σ H) : On K cm W c S st σ H := ⟨S, fp, Same.refl S, r⟩
/-- from an expression to what follows it -/
theorem Post.go {α : Type} {r : R α} {st : LS} {fp : List Addr} {k : α → Out} {P : α → Hp → Hp → Prop} (rr : RR K cm W c st S fp σ H) (p : Post K cm W c D S (r.out st k))
    (h : ∀ a S' H', Xt S S' H H' → Post K cm W c D S' (k a) → P a S' H') : Go K cm W P r S H σ := by
  cases r with
  | bad => exact p
  | ok a => exact fun H' S' x => h a S' H' x (Post.mono x.ss p)
  | ex e => exact fun cls od H' S' x q => p cls od σ H' S' fp x.ss (rr.ext x) q
end
section
variable {X : Cx} {cm : CM} {W : WH} {c : Fr} {pos : Pos} {s : Stmt} {rest : List Stmt} {F G : LS → Out} {f : LS → R D} {e : Expr}
def nilS : LS → Out := fun st => .nx st
def seqS (F G : LS → Out) : LS → Out := fun st => (F st).seq G
theorem s_nil : PSs X [] (SX X.K cm W c nilS) := pss_nil.imp fun D σ H ⟨st, S, fp, r, p⟩ => p σ H r.on
theorem s_cons (h1 : PS X s (SX X.K cm W c F)) (h2 : PSs X rest (SX X.K cm W c G)) : PSs X (s :: rest) (SX X.K cm W c (seqS F G)) := (pss_cons h1 h2).imp fun D σ H ⟨st, S, fp, r, p⟩ => by
  refine ⟨st, S, fp, r, ?_⟩
  replace p : Post X.K cm W c D S ((F st).seq G) := p
  cases q : F st with
  | bad => rw [q] at p; exact p
  | nx st' =>
    rw [q] at p
    exact fun σ' H' ⟨S', fp', a, b⟩ => ⟨st', S', fp', b, Post.mono a p⟩
  | rt d => rw [q] at p; exact p
  | bk st' => rw [q] at p; exact p
  | ct st' => rw [q] at p; exact p
  | ex st' e => rw [q] at p; exact p
theorem s_one (h1 : PS X s (SX X.K cm W c F)) : PSs X [s] (SX X.K cm W c F) := (pss_one h1)
def retS (f : LS → R D) : LS → Out := fun st => (f st).out st .rt
theorem s_ret (h : PE X e (E X.K cm W f)) : PS X (.Return (some e) pos) (SX X.K cm W c (retS f)) := (ps_ret h).imp fun D σ H ⟨st, S, fp, r, p⟩ =>
  ⟨st, S, fp, r.rx, Post.go r p fun d S' H' x q v hv => q v H' S' (Same.refl S') (r.xt.trans x) hv⟩
def dropS (f : LS → R D) : LS → Out := fun st => (f st).out st fun _ => .nx st
def ifS (b : LS → R Bool) (F G : LS → Out) : LS → Out := fun st => (b st).out st fun b => if b = true then F st else G st
theorem s_if {b : LS → R Bool} {t : Expr} {s1 s2 : List Stmt} (hc : PT X t (TB X.K cm W b)) (h1 : PSs X s1 (SX X.K cm W c F)) (h2 : PSs X s2 (SX X.K cm W c G)) : PS X (.If t s1 s2 pos) (SX X.K cm W c (ifS b F G)) := (ps_if hc h1 h2).imp fun D σ H ⟨st, S, fp, r, p⟩ =>
  ⟨st, S, fp, r.rx, Post.go r p fun b S' H' x q => by
    cases b with
    | true => exact ⟨st, S', fp, r.ext x, q⟩
    | false => exact ⟨st, S', fp, r.ext x, q⟩⟩
/-- a statement that is never reached in what is asked -/
def neverS : LS → Out := fun _ => .bad
theorem ss_never {ss : List Stmt} : PSs X ss (SX X.K cm W c neverS) := pss_never.imp fun D σ H ⟨st, S, fp, r, p⟩ => p.elim
/-! ### targets -/
/-- only the slots vs may differ -/
def Keeps (vs : List Nat) (σ σ' : Sg) : Prop := σ'.length = σ.length ∧ ∀ i, i ∉ vs → σ'[i]? = σ[i]?
theorem Keeps.refl (vs : List Nat) (σ : Sg) : Keeps vs σ σ := ⟨rfl, fun _ _ => rfl⟩
theorem Keeps.set (i : Nat) (o : Option V) (σ : Sg) : Keeps [i] σ (σ.set i o) := ⟨by simp, fun j h => by
  rw [List.getElem?_set_ne]
  intro e
  exact h (by simp [e])⟩
theorem Keeps.trans {vs ws : List Nat} {a b d : Sg} (h : Keeps vs a b) (k : Keeps ws b d) : Keeps (vs ++ ws) a d := ⟨k.1.trans h.1, fun i n => (k.2 i fun m => n (List.mem_append_right _ m)).trans (h.2 i fun m => n (List.mem_append_left _ m))⟩
/-- what is stored: a datum -/
def GX (K : PySem.W.Frag) (cm : CM) (vs : List Nat) (g : D → LS → Option LS) : TG := fun v σ H Q => ∃ st S fp d, Rx K cm WF st S fp σ H ∧ Rep K cm S v d ∧ ∃ st', g d st = some st' ∧ ∀ σ' fp', Rx K cm WF st' S fp' σ' H → (∀ a ∈ fp', a ∈ fp) → Keeps vs σ σ' → Q σ' H
def GXs (K : PySem.W.Frag) (cm : CM) (vs : List Nat) (g : List D → LS → Option LS) : TGs := fun xs σ H Q => ∃ st S fp ds, Rx K cm WF st S fp σ H ∧ RepL K cm S xs ds ∧ ∃ st', g ds st = some st' ∧ ∀ σ' fp', Rx K cm WF st' S fp' σ' H → (∀ a ∈ fp', a ∈ fp) → Keeps vs σ σ' → Q σ' H
def gN (i : Nat) : D → LS → Option LS := fun d st => some (st.set i (some (.im d)))
def gsNil : List D → LS → Option LS := fun ds st => match ds with
  | [] => some st
  | _ => none
def gsCons (g : D → LS → Option LS) (h : List D → LS → Option LS) : List D → LS → Option LS := fun ds st => match ds with
  | d :: ds => (g d st).bind fun st' => h ds st'
  | [] => none
def gT (n : Nat) (g : List D → LS → Option LS) : D → LS → Option LS := fun d st => match d with
  | .tup ds => if ds.length = n then g ds st else none
  | _ => none
theorem g_name {i : Nat} {x : Str} (hN : X.N.Nodup) (hi : X.N[i]? = some x) (hx : Loc X.env.scope x) (hf : X.fn x = true ∨ X.env.scope.names.lookup x = some .local := by first | exact .inl rfl | exact .inr rfl | assumption) : PG X (.Name x pos) (GX X.K cm [i] (gN i)) :=
  (pg_name hN hi hx hf).imp fun v σ H Q ⟨st, S, fp, d, r, hv, st', e, k⟩ => by
    cases e
    obtain ⟨fp', r', b⟩ := r.set_im hv i
    exact k _ fp' r' b (Keeps.set i _ σ)
theorem gs_nil : PGs X [] (GXs X.K cm [] gsNil) := ⟨fun pins s σ H vs us Q I r ⟨st, S, fp, ds, rr, hv, st', e, k⟩ => by
  cases hv with
  | nil =>
    cases e
    exact pgs_nil.run pins s σ H [] us Q I r ⟨rfl, k σ fp rr (fun a m => m) (Keeps.refl _ σ)⟩
  | cons _ _ => cases e⟩
theorem gs_cons {e : Expr} {es : List Expr} {vs ws : List Nat} {g : D → LS → Option LS} {h : List D → LS → Option LS} (h1 : PG X e (GX X.K cm vs g)) (h2 : PGs X es (GXs X.K cm ws h))
    (hs : (assignEach (e :: es) X.env).map (·.2) = assign e X.env :: (assignEach es X.env).map (·.2) := by rfl) : PGs X (e :: es) (GXs X.K cm (vs ++ ws) (gsCons g h)) :=
  ⟨fun pins s σ H xs us Q I r ⟨st, S, fp, ds, rr, hv, st', e, k⟩ => by
    cases hv with
    | nil => cases e
    | @cons v xs d ds hd hs' =>
      replace e : ((g d st).bind fun st' => h ds st') = some st' := e
      cases q : g d st with
      | none => rw [q] at e; cases e
      | some st1 =>
        rw [q] at e
        refine (pgs_cons h1 h2 hs).run pins s σ H (v :: xs) us Q I r ⟨v, xs, rfl, st, S, fp, d, rr, hd, st1, q, fun σ1 fp1 r1 b1 k1 => ?_⟩
        exact ⟨st1, S, fp1, ds, r1, hs', st', e, fun σ2 fp2 r2 b2 k2 => k σ2 fp2 r2 (fun a m => b1 a (b2 a m)) (k1.trans k2)⟩⟩
theorem g_tup {es : List Expr} {k : Nat} {vs : List Nat} {g : List D → LS → Option LS} {n : Nat} (hc : X.calm = true) (h : PGs X es (GXs X.K cm vs g))
    (hn : (assignEach es X.env).length = n := by rfl) (hst : (assignEach es X.env).findIdx? (·.1) = none := by rfl) : PG X (.Tuple es k pos) (GX X.K cm vs (gT n g)) :=
  (pg_tup hc h hn hst).imp fun v σ H Q ⟨st, S, fp, d, r, hv, st', e, kk⟩ => by
    cases d <;> try (cases e; done)
    case tup ds =>
      cases hv with
      | @tup a xs _ h1 h2 =>
        replace e : (if ds.length = n then g ds st else none) = some st' := e
        split at e
        · rename_i q
          exact ⟨a, xs, rfl, same_sqT r.sh h1, h2.length.trans q, st, S, fp, ds, r, h2, st', e, kk⟩
        · cases e
def Out.of : Option LS → Out
  | some st => .nx st
  | none => .bad
theorem fx_keeps {c : Fr} {vs : List Nat} {σ σ' : Sg} (r : ∀ i v, c.fix i = some v → σ[i]? = some (some v)) (k : Keeps vs σ σ') (hx : ∀ i ∈ vs, c.fix i = none) : ∀ i v, c.fix i = some v → σ'[i]? = some (some v) := fun i v e => by
  have ni : i ∉ vs := fun m => by
    rw [hx i m] at e
    cases e
  rw [k.2 i ni]
  exact r i v e
def asgS (f : LS → R D) (g : D → LS → Option LS) : LS → Out := fun st => (f st).out st fun d => .of (g d st)
def setS (i : Nat) (f : LS → R D) : LS → Out := fun st => (f st).out st fun d => .nx (st.set i (some (.im d)))
theorem s_set [Free W] {i : Nat} {x : Str} {pos' : Pos} (hN : X.N.Nodup) (hi : X.N[i]? = some x) (hx : Loc X.env.scope x) (he : PE X e (E X.K cm W f)) (hs : swapsWith e (some (.Name x pos')) pos.line X.env = pure false := by rfl) (hf : X.fn x = true ∨ X.env.scope.names.lookup x = some .local := by first | exact .inl rfl | exact .inr rfl | assumption) (hfx : c.fix i = none := by rfl) :
    PS X (.Assign [.Name x pos'] e pos) (SX X.K cm W c (setS i f)) := (ps_set hN hi hx he hs hf).imp fun D σ H ⟨st, S, fp, r, p⟩ =>
  ⟨st, S, fp, r.rx, Post.go r p fun d S' H' x q v hv => by
    obtain ⟨fp', r'⟩ := (r.ext x).set_im hv hfx
    exact q _ H' r'.on⟩
/-- a fresh object at a name: the name alone holds it -/
def setF (i : Nat) (f : LS → R T) : LS → Out := fun st => (f st).out st fun t => .nx (st.set i (some t))
theorem s_setF [Free W] {i : Nat} {x : Str} {pos' : Pos} {f : LS → R T} (hN : X.N.Nodup) (hi : X.N[i]? = some x) (hx : Loc X.env.scope x) (he : PE X e (EF X.K cm W f)) (hs : swapsWith e (some (.Name x pos')) pos.line X.env = pure false := by rfl) (hf : X.fn x = true ∨ X.env.scope.names.lookup x = some .local := by first | exact .inl rfl | exact .inr rfl | assumption) (hfx : c.fix i = none := by rfl) :
    PS X (.Assign [.Name x pos'] e pos) (SX X.K cm W c (setF i f)) := (ps_set hN hi hx he hs hf).imp fun D σ H ⟨st, S, fp, r, p⟩ =>
  ⟨st, S, fp, r.rx, Post.go r p fun t S' H' x q v fn hv nd fo => by
    have r2 := r.ext x
    obtain ⟨fp', a, b⟩ := r2.rx.set_ow hv nd (fun a m1 m2 => r.rx.sls.there a m2 (fo a m1).1) (fun a m => (fo a m).2) i
    refine q _ H' (RR.on ⟨a, r2.xt, fun y m => ?_, fx_set r2.fx hfx⟩)
    rcases b y m with m | m
    · exact r2.fr y m
    · exact r.xt.hh.free (fo y m).1⟩
end
end DI
end
section
set_option Elab.async false
set_option linter.all false
set_option maxRecDepth 100000
set_option maxHeartbeats 2000000
/-! DI: loops and comprehensions. -/
namespace DI
open PySem PySem.Spec PyProof.Rows L2
/-- J walks the items, as long as B stands -/
def Wk (K : PySem.W.Frag) (cm : CM) (J : It) (S B : Hp) (items : List D) : Prop := ∀ i S' H, Same S S' → Same S' H → Same B H →
  (∀ d, items[i]? = some d → J.go i H ∧ ∀ x H', J.yld i H x H' → ∃ S2, Xt S' S2 H H' ∧ Rep K cm S2 x d) ∧ (items.length = i → J.stop i H)
/-- what is walked: data that stand for good; .. that stand just now -/
def IE (K : PySem.W.Frag) (cm : CM) (W : WH) (f : LS → R (List D)) : TI := fun σ H R => ∃ st S fp, Rx K cm W st S fp σ H ∧ Go K cm W (fun items S' H' => ∀ J, Wk K cm J S' S' items → R J H') (f st) S H σ
def IV (K : PySem.W.Frag) (cm : CM) (W : WH) (f : LS → R (List D)) : TI := fun σ H R => ∃ st S fp, Rx K cm W st S fp σ H ∧ Go K cm W (fun items S' H' => ∀ J, Wk K cm J S' H' items → R J H') (f st) S H σ
section
variable {X : Cx} {cm : CM} {W : WH} {c : Fr} {pos p : Pos} {tg e : Expr} {f : LS → R D} {fi : LS → R (List D)}
theorem Wk.mono {K : PySem.W.Frag} {J : It} {S B B' : Hp} {its : List D} (w : Wk K cm J S B its) (h : Same B B') : Wk K cm J S B' its := fun i S' H a b d => w i S' H a b (h.trans d)
theorem i_v (h : PI X tg e (IE X.K cm W fi)) : PI X tg e (IV X.K cm W fi) := h.imp fun σ H R ⟨st, S, fp, r, g⟩ => ⟨st, S, fp, r, g.mono fun its S' H' x k J w => k J (w.mono x.sh)⟩
/-! ### sources -/
def itemsD : D → Option (List D)
  | .lst ds => some ds
  | .tup ds => some ds
  | .scr ds => some ds
  | _ => none
def items (f : LS → R D) : LS → R (List D) := fun st => (f st).bind fun d => .of (itemsD d)
theorem wk_list {K : PySem.W.Frag} {S B : Hp} {a : Addr} {xs : List V} {ds : List D} (h : ∀ H, Same B H → SqL K H a xs) (r : RepL K cm S xs ds) : Wk K cm (Itl K a) S B ds := fun i S' H s1 s2 s3 => by
  refine ⟨fun d e => ?_, fun l => ⟨xs, h H s3, by rw [r.length]; exact Nat.le_of_eq l⟩⟩
  obtain ⟨v, e1, r1⟩ := r.get e
  refine ⟨⟨xs, v, h H s3, e1⟩, fun x H' ⟨e2, q⟩ => ?_⟩
  subst e2
  have := q xs (h _ s3)
  rw [e1] at this
  cases this
  exact ⟨S', Xt.refl s2, r1.mono s1⟩
theorem wk_tup {K : PySem.W.Frag} {S B : Hp} {a : Addr} {xs : List V} {ds : List D} (h : ∀ H, Same B H → SqT K H a xs) (r : RepL K cm S xs ds) : Wk K cm (Itt K a) S B ds := fun i S' H s1 s2 s3 => by
  refine ⟨fun d e => ?_, fun l => ⟨xs, h H s3, by rw [r.length]; exact Nat.le_of_eq l⟩⟩
  obtain ⟨v, e1, r1⟩ := r.get e
  refine ⟨⟨xs, v, h H s3, e1⟩, fun x H' ⟨e2, q⟩ => ?_⟩
  subst e2
  have := q xs (h _ s3)
  rw [e1] at this
  cases this
  exact ⟨S', Xt.refl s2, r1.mono s1⟩
/-- one of two readings -/
theorem pi_or {w1 w2 : TI} (h1 : PI X tg e w1) (h2 : PI X tg e w2) : PI X tg e (fun σ H R => w1 σ H R ∨ w2 σ H R) := ⟨fun pins s σ H R I h => h.elim (h1.run pins s σ H R I) (h2.run pins s σ H R I)⟩
theorem i_e (h : PE X e (E X.K cm W f)) : PI X tg e (IE X.K cm W (items f)) := (pi_or (pi_list h) (pi_tup h)).imp fun σ H R ⟨st, S, fp, r, g⟩ => by
  replace g : Go X.K cm W (fun items S' H' => ∀ J, Wk X.K cm J S' S' items → R J H') ((f st).bind fun d => .of (itemsD d)) S H σ := g
  cases q : f st with
  | bad => rw [q] at g; exact g.elim
  | ex x => rw [q] at g; exact .inl ⟨st, S, fp, r, by rw [q]; exact g⟩
  | ok d =>
    rw [q] at g
    cases d <;> try (exact g.elim)
    case lst ds =>
      refine .inl ⟨st, S, fp, r, ?_⟩
      rw [q]
      intro H1 S1 x1 v hv
      cases hv with
      | @lst a xs _ h1 h2 => exact ⟨a, rfl, ⟨xs, SqL.of (x1.sh _ _ h1)⟩, g H1 S1 x1 _ (wk_list (fun H s => SqL.of (s _ _ h1)) h2)⟩
    case scr ds =>
      refine .inl ⟨st, S, fp, r, ?_⟩
      rw [q]
      intro H1 S1 x1 v hv
      cases hv with
      | @scr a xs _ h1 h2 => exact ⟨a, rfl, ⟨xs, same_sqL x1.sh h1⟩, g H1 S1 x1 _ (wk_list (fun H s => same_sqL s h1) h2)⟩
    case tup ds =>
      refine .inr ⟨st, S, fp, r, ?_⟩
      rw [q]
      intro H1 S1 x1 v hv
      cases hv with
      | @tup a xs _ h1 h2 => exact ⟨a, rfl, ⟨xs, same_sqT x1.sh h1⟩, g H1 S1 x1 _ (wk_tup (fun H s => same_sqT s h1) h2)⟩
theorem i_view (h : PE X e (VE X.K cm W f)) : PI X tg e (IV X.K cm W (items f)) := (pi_or (pi_list h) (pi_tup h)).imp fun σ H R ⟨st, S, fp, r, g⟩ => by
  replace g : Go X.K cm W (fun items S' H' => ∀ J, Wk X.K cm J S' H' items → R J H') ((f st).bind fun d => .of (itemsD d)) S H σ := g
  cases q : f st with
  | bad => rw [q] at g; exact g.elim
  | ex x => rw [q] at g; exact .inl ⟨st, S, fp, r, by rw [q]; exact g⟩
  | ok d =>
    rw [q] at g
    cases d <;> try (exact g.elim)
    case lst ds =>
      refine .inl ⟨st, S, fp, r, ?_⟩
      rw [q]
      intro H1 S1 x1 v hv
      obtain ⟨a, xs, rfl, h1, h2⟩ := hv.lst x1.sh
      exact ⟨a, rfl, ⟨xs, SqL.of h1⟩, g H1 S1 x1 _ (wk_list (fun H s => SqL.of (s _ _ h1)) h2)⟩
    case scr ds =>
      refine .inl ⟨st, S, fp, r, ?_⟩
      rw [q]
      intro H1 S1 x1 v hv
      obtain ⟨a, xs, rfl, h1, h2⟩ := hv.scr
      exact ⟨a, rfl, ⟨xs, same_sqL x1.sh h1⟩, g H1 S1 x1 _ (wk_list (fun H s => same_sqL s (same_sqL x1.sh h1)) h2)⟩
    case tup ds =>
      refine .inr ⟨st, S, fp, r, ?_⟩
      rw [q]
      intro H1 S1 x1 v hv
      obtain ⟨a, xs, rfl, h1, h2⟩ := hv.tup
      exact ⟨a, rfl, ⟨xs, same_sqT x1.sh h1⟩, g H1 S1 x1 _ (wk_tup (fun H s => same_sqT s (same_sqT x1.sh h1)) h2)⟩
/-- range(n), range(a, b) -/
def rangeD (lo : Int) (n : Nat) : List D := (List.range n).map fun (i : Nat) => D.int (lo + (i : Int))
theorem rangeD_get {lo : Int} {n i : Nat} {d : D} (h : (rangeD lo n)[i]? = some d) : i < n ∧ d = .int (lo + (i : Int)) := by
  unfold rangeD at h
  rw [List.getElem?_map] at h
  by_cases hi : i < n
  · rw [List.getElem?_range hi] at h
    cases h
    exact ⟨hi, rfl⟩
  · rw [List.getElem?_eq_none (by rw [List.length_range]; omega)] at h
    cases h
theorem rangeD_len {lo : Int} {n : Nat} : (rangeD lo n).length = n := by unfold rangeD; rw [List.length_map, List.length_range]
theorem wk_range {K : PySem.W.Frag} {S B : Hp} {lo : Int} {n : Nat} : Wk K cm (Itr lo n) S B (rangeD lo n) := fun i S' H s1 s2 s3 => by
  refine ⟨fun d e => ?_, fun l => by rw [rangeD_len] at l; exact Nat.le_of_eq l⟩
  obtain ⟨hi, rfl⟩ := rangeD_get e
  exact ⟨hi, fun x H' ⟨e1, e2⟩ => ⟨S', by rw [e1]; exact Xt.refl s2, by rw [e2]; exact .int _⟩⟩
def rng1 : List D → Option (List D)
  | [.int j] => if -(2 ^ 62) ≤ j ∧ j < 2 ^ 62 then some (rangeD 0 j.toNat) else none
  | _ => none
def rng2 : List D → Option (List D)
  | [.int i, .int j] => if -(2 ^ 62) ≤ i ∧ i < 2 ^ 62 ∧ -(2 ^ 62) ≤ j ∧ j < 2 ^ 62 then some (rangeD i (j - i).toNat) else none
  | _ => none
def callI (op : List D → Option (List D)) (r : LS → R (List D)) : LS → R (List D) := fun st => (r st).bind fun ds => .of (op ds)
theorem rep1 {K : PySem.W.Frag} {S : Hp} {vs : List V} {d : D} (h : RepL K cm S vs [d]) : ∃ v, vs = [v] ∧ Rep K cm S v d := by
  cases h with
  | cons a b => cases b; exact ⟨_, rfl, a⟩
theorem rep2 {K : PySem.W.Frag} {S : Hp} {vs : List V} {d e : D} (h : RepL K cm S vs [d, e]) : ∃ v u, vs = [v, u] ∧ Rep K cm S v d ∧ Rep K cm S u e := by
  cases h with
  | cons a b =>
    obtain ⟨u, rfl, r⟩ := rep1 b
    exact ⟨_, u, rfl, a, r⟩
theorem i_range1 {a : Expr} {args : LS → R (List D)} (hm : X.mg "range" = none) (ha : PA X [a] (EA X.K cm W args)) (hg : Gl X "range" := by rfl) (hs : starEach [a] X.env = [(false, eval a X.env)] := by rfl) : PI X tg (.Call (.Name "range" p) [a] [] pos) (IE X.K cm W (callI rng1 args)) :=
  (pi_range1 hg hm ha hs).imp fun σ H R ⟨st, S, fp, r, g⟩ => ⟨st, S, fp, r, g.bind.mono fun ds S1 H1 x1 k1 vs hv => by
    obtain ⟨its, hi, k2⟩ := k1.of
    unfold rng1 at hi
    split at hi
    · rename_i j
      split at hi
      · cases hi
        rename_i q
        obtain ⟨v, rfl, h1⟩ := rep1 hv
        cases h1
        exact ⟨j, rfl, q.1, q.2, k2 H1 S1 (Xt.refl x1.sh) _ wk_range⟩
      · cases hi
    · cases hi⟩
theorem i_range2 {a b : Expr} {args : LS → R (List D)} (hm : X.mg "range" = none) (ha : PA X [a, b] (EA X.K cm W args)) (hg : Gl X "range" := by rfl) (hs : starEach [a, b] X.env = [(false, eval a X.env), (false, eval b X.env)] := by rfl) (hs2 : starEach [b] X.env = [(false, eval b X.env)] := by rfl) :
    PI X tg (.Call (.Name "range" p) [a, b] [] pos) (IE X.K cm W (callI rng2 args)) :=
  (pi_range2 hg hm ha hs hs2).imp fun σ H R ⟨st, S, fp, r, g⟩ => ⟨st, S, fp, r, g.bind.mono fun ds S1 H1 x1 k1 vs hv => by
    obtain ⟨its, hi, k2⟩ := k1.of
    unfold rng2 at hi
    split at hi
    · rename_i i j
      split at hi
      · cases hi
        rename_i q
        obtain ⟨v, u, rfl, h1, h2⟩ := rep2 hv
        cases h1
        cases h2
        exact ⟨i, j, rfl, q, k2 H1 S1 (Xt.refl x1.sh) _ wk_range⟩
      · cases hi
    · cases hi⟩
/-! ### for -/
def forL (g : D → LS → Option LS) (F : LS → Out) : List D → LS → Out
  | [], st => .nx st
  | d :: ds, st => match g d st with
    | none => .bad
    | some st1 => match F st1 with
      | .nx st2 => forL g F ds st2
      | .ct st2 => forL g F ds st2
      | .bk st2 => .nx st2
      | o => o
def forS (fi : LS → R (List D)) (g : D → LS → Option LS) (F : LS → Out) : LS → Out := fun st => (fi st).out st fun ds => forL g F ds st
variable {F : LS → Out} {g : D → LS → Option LS} {vs : List Nat} {body : List Stmt}
theorem drop_get {α : Type} {l : List α} {i : Nat} {x : α} (h : l[i]? = some x) : l.drop i = x :: l.drop (i + 1) := by
  obtain ⟨h1, h2⟩ := List.getElem?_eq_some_iff.mp h
  rw [List.drop_eq_getElem_cons h1, h2]
theorem s_for [Free W] (hi : PI X tg e (IE X.K cm W fi)) (hg : PG X tg (GX X.K cm vs g)) (hb : PSs X body (SX X.K cm W c F)) (hc : X.calm = true := by rfl) (hp : PassesOwn (model X.prog X.w) X.A X.env X.xe := by first | exact PassesOwn.never | exact PassesOwn.leaving | assumption)
    (hs : ∀ x, foldedSetIterable e X.env x = pure x := by intro _; rfl) (hx : ∀ i ∈ vs, c.fix i = none := by simp) : PS X (.For tg e body [] pos) (SX X.K cm W c (forS fi g F)) := (ps_for hp hc hi hg hb hs).imp fun D σ H ⟨st, S, fp, r, p⟩ =>
  ⟨st, S, fp, r.rx, Post.go r p fun ds S1 H1 x1 q J w => by
    refine ⟨fun i m σ H => m = ds.length - i ∧ i ≤ ds.length ∧ ∃ st S' fp, Same S1 S' ∧ RR X.K cm W c st S' fp σ H ∧ Post X.K cm W c D S1 (forL g F (ds.drop i) st), ⟨_, rfl, Nat.zero_le _, st, S1, fp, Same.refl S1, r.ext x1, by rw [List.drop_zero]; exact q⟩, ?_⟩
    rintro i m σ2 H2 ⟨rfl, hi, st2, S2, fp2, s2, r2, q2⟩
    obtain ⟨w1, w2⟩ := w i S2 H2 s2 r2.rx.sh (s2.trans r2.rx.sh)
    cases q3 : ds[i]? with
    | none =>
      have hl : ds.length ≤ i := List.getElem?_eq_none_iff.mp q3
      rw [List.drop_eq_nil_of_le hl] at q2
      exact .inl ⟨w2 (Nat.le_antisymm hl hi), q2 σ2 H2 ⟨S2, fp2, s2, r2⟩⟩
    | some d =>
      have hl : i < ds.length := (List.getElem?_eq_some_iff.mp q3).1
      obtain ⟨go, y⟩ := w1 d q3
      rw [drop_get q3] at q2
      refine .inr ⟨go, fun σ H => ∃ st S' fp, Same S1 S' ∧ RR X.K cm W c st S' fp σ H ∧ Post X.K cm W c D S1 (forL g F (ds.drop (i + 1)) st), fun σ' H' n => ⟨ds.length - (i + 1), by omega, rfl, hl, n⟩, fun v H3 hy => ?_⟩
      obtain ⟨S3, x3, hv⟩ := y v H3 hy
      replace q2 : Post X.K cm W c D S1 (match g d st2 with
        | none => .bad
        | some st1 => match F st1 with
          | .nx st2 => forL g F (ds.drop (i + 1)) st2
          | .ct st2 => forL g F (ds.drop (i + 1)) st2
          | .bk st2 => .nx st2
          | o => o) := q2
      cases q4 : g d st2 with
      | none => rw [q4] at q2; exact q2.elim
      | some st4 =>
        rw [q4] at q2
        refine ⟨st2, S3, fp2, d, (r2.rx.ext x3).to, hv, st4, q4, fun σ4 fp4 r4 b4 kp => ⟨st4, S3, fp4, ⟨r4.to, r2.xt.trans x3, fun a m => r2.fr a (b4 a m), fx_keeps r2.fx kp hx⟩, ?_⟩⟩
        have s14 : Same S1 S3 := s2.trans x3.ss
        replace q2 : Post X.K cm W c D S1 (match F st4 with
          | .nx st2 => forL g F (ds.drop (i + 1)) st2
          | .ct st2 => forL g F (ds.drop (i + 1)) st2
          | .bk st2 => .nx st2
          | o => o) := q2
        cases q5 : F st4 with
        | bad => rw [q5] at q2; exact q2
        | nx st5 => rw [q5] at q2; exact fun σ5 H5 ⟨S5, fp5, s5, r5⟩ => ⟨st5, S5, fp5, s14.trans s5, r5, q2⟩
        | ct st5 => rw [q5] at q2; exact fun σ5 H5 ⟨S5, fp5, s5, r5⟩ => ⟨st5, S5, fp5, s14.trans s5, r5, q2⟩
        | bk st5 => rw [q5] at q2; exact fun σ5 H5 o => q2 σ5 H5 (o.mono s14)
        | rt d => rw [q5] at q2; exact fun v H S5 a => q2 v H S5 (s14.trans a)
        | ex st5 e5 => rw [q5] at q2; exact fun cls od σ H S5 fp5 a => q2 cls od σ H S5 fp5 (s14.trans a)⟩
/-! ### while -/
def whileL (b : LS → R Bool) (F : LS → Out) : Nat → LS → Out
  | 0, _ => .bad
  | n + 1, st => (b st).out st fun k => if k = true then (match F st with
      | .nx st2 => whileL b F n st2
      | .ct st2 => whileL b F n st2
      | .bk st2 => .nx st2
      | o => o) else .nx st
def whileS (n : Nat) (b : LS → R Bool) (F : LS → Out) : LS → Out := fun st => whileL b F n st
end
end DI
end
section
set_option Elab.async false
set_option linter.all false
set_option maxRecDepth 100000
set_option maxHeartbeats 2000000
/-! DI: comprehensions. -/
namespace DI
open PySem PySem.Spec PyProof.Rows L2
def R.noex {α : Type} : R α → R α
  | .ex _ => .bad
  | r => r
def wipeS (st : LS) : List Nat → LS
  | [] => st
  | v :: vs => (wipeS st vs).set v none
section
variable {K : PySem.W.Frag} {cm : CM} {S H : Hp} {σ σ' : Sg} {st : LS} {fp : List Addr}
theorem Rx.wipe {W W' : WH} [Free W'] (r : Rx K cm W st S fp σ H) : ∀ vs : List Nat, ∃ fp', Rx K cm W' (wipeS st vs) S fp' (L2.wipe σ vs) H ∧ ∀ a ∈ fp', a ∈ fp
  | [] => ⟨fp, r.to, fun _ m => m⟩
  | v :: vs => by
    obtain ⟨f1, r1, b1⟩ := Rx.wipe (W' := W') r vs
    obtain ⟨f2, r2, b2⟩ := r1.forget (W' := W') (o := none) v
    exact ⟨f2, r2, fun a m => b1 a (b2 a m)⟩
theorem wipe_get : ∀ (vs : List Nat) (i : Nat), (L2.wipe σ vs)[i]? = if i ∈ vs then σ[i]?.map (fun _ => none) else σ[i]?
  | [], i => by simp [L2.wipe]
  | v :: vs, i => by
    unfold L2.wipe
    by_cases h : v = i
    · subst h
      rw [List.getElem?_set]
      simp only [if_true, List.mem_cons, true_or]
      have := wipe_get vs v
      by_cases hl : v < σ.length
      · have hl2 : v < (L2.wipe σ vs).length := by rw [wipe_length]; exact hl
        rw [if_pos hl2, List.getElem?_eq_getElem hl]
        rfl
      · have hl2 : ¬ v < (L2.wipe σ vs).length := by rw [wipe_length]; exact hl
        rw [if_neg hl2, List.getElem?_eq_none (by omega)]
        rfl
    · rw [List.getElem?_set_ne h, wipe_get vs i]
      have : (i ∈ v :: vs) ↔ i ∈ vs := by simp [Ne.symm h]
      simp only [this]
theorem Keeps.wipe {vs : List Nat} (k : Keeps vs σ σ') : L2.wipe σ' vs = L2.wipe σ vs := by
  apply List.ext_getElem?
  intro i
  rw [wipe_get, wipe_get]
  by_cases h : i ∈ vs
  · rw [if_pos h, if_pos h]
    have e := k.1
    by_cases hl : i < σ.length
    · rw [List.getElem?_eq_getElem hl, List.getElem?_eq_getElem (show i < σ'.length by rw [e]; exact hl)]
      rfl
    · rw [List.getElem?_eq_none (show σ.length ≤ i by omega), List.getElem?_eq_none (show σ'.length ≤ i by rw [e]; omega)]
  · rw [if_neg h, if_neg h, k.2 i h]
end
def compL (g : D → LS → Option LS) (t : LS → R Bool) (f : LS → R D) (st : LS) : List D → R (List D)
  | [] => .ok []
  | d :: ds => match g d st with
    | none => .bad
    | some st1 => (t st1).noex.bind fun b => if b = true then (f st1).noex.bind fun y => (compL g t f st ds).bind fun ys => .ok (y :: ys) else compL g t f st ds
def compR (fi : LS → R (List D)) (vs : List Nat) (g : D → LS → Option LS) (t : LS → R Bool) (f : LS → R D) : LS → R (List D) := fun st => (fi st).bind fun ds => if ds.length ≤ sizeLine then compL g t f (wipeS st vs) ds else .bad
def compE (fi : LS → R (List D)) (vs : List Nat) (g : D → LS → Option LS) (t : LS → R Bool) (f : LS → R D) : LS → R D := fun st => (compR fi vs g t f st).bind fun ys => .ok (.lst ys)
def compF (fi : LS → R (List D)) (vs : List Nat) (g : D → LS → Option LS) (t : LS → R Bool) (f : LS → R D) : LS → R T := fun st => (compR fi vs g t f st).bind fun ys => .ok (imT ys)
def yesT : LS → R Bool := fun _ => .ok true
theorem R.noex_ok {α β : Type} {r : R α} {k : α → R β} {z : β} (h : (r.noex.bind k) = .ok z) : ∃ a, r = .ok a ∧ k a = .ok z := by
  cases r with
  | bad => cases h
  | ok a => exact ⟨a, rfl, h⟩
  | ex e => cases h
theorem R.bind_ok {α β : Type} {r : R α} {k : α → R β} {z : β} (h : (r.bind k) = .ok z) : ∃ a, r = .ok a ∧ k a = .ok z := by
  cases r with
  | bad => cases h
  | ok a => exact ⟨a, rfl, h⟩
  | ex e => cases h
theorem compL_ok {g : D → LS → Option LS} {t : LS → R Bool} {f : LS → R D} {st : LS} : ∀ ds : List D, compL g t f st ds = .bad ∨ ∃ zs, compL g t f st ds = .ok zs
  | [] => .inr ⟨[], rfl⟩
  | d :: ds => by
    have ih := compL_ok (g := g) (t := t) (f := f) (st := st) ds
    simp only [compL]
    cases g d st with
    | none => exact .inl rfl
    | some st1 =>
      simp only []
      cases t st1 with
      | bad => exact .inl rfl
      | ex e => exact .inl rfl
      | ok b =>
        simp only [R.noex, R.bind]
        cases b with
        | false => simpa using ih
        | true =>
          simp only [if_true]
          cases f st1 with
          | bad => exact .inl rfl
          | ex e => exact .inl rfl
          | ok y =>
            simp only []
            rcases ih with h | ⟨zs, h⟩
            · rw [h]; exact .inl rfl
            · rw [h]; exact .inr ⟨y :: zs, rfl⟩
section
variable {X : Cx} {cm : CM} {W : WH} {fi : LS → R (List D)} {vs : List Nat} {g : D → LS → Option LS} {t : LS → R Bool} {f : LS → R D}
theorem comp_reads {σ : Sg} {H : Hp} {Q : VK}
    (k : ∃ st S fp, Rx X.K cm W st S fp σ H ∧ Go X.K cm W (fun ys S' H' => ∀ L acc, H L = none → S' L = none → H' L = some (.lst acc) → RepL X.K cm S' acc ys → Q (.ref L) H') (compR fi vs g t f st) S H σ) :
    tLc (IV X.K cm W fi) (GX X.K cm vs g) (TB X.K cm WF t) (E X.K cm WF f) vs σ H Q := by
  obtain ⟨st, S, fp, r, k⟩ := k
  refine ⟨st, S, fp, r, k.bind.mono fun ds S1 H1 x1 q J w L hL => ?_⟩
  replace q : Go X.K cm W (fun ys S' H' => ∀ L acc, H L = none → S' L = none → H' L = some (.lst acc) → RepL X.K cm S' acc ys → Q (.ref L) H') (if ds.length ≤ sizeLine then compL g t f (wipeS st vs) ds else .bad) S1 H1 σ := q
  by_cases hlen : ds.length ≤ sizeLine
  · rw [if_pos hlen] at q
    obtain ⟨fp0, r0, b0⟩ := (r.ext x1).wipe (W' := WF) vs
    have s1L : S1 L = none := x1.sh.free hL
    rcases compL_ok (g := g) (t := t) (f := f) (st := wipeS st vs) ds with qz | ⟨zs, qz⟩
    · rw [qz] at q; exact q.elim
    rw [qz] at q
    refine ⟨fun i m H => m = ds.length - i ∧ i ≤ ds.length ∧ ∃ S' acc ys us, Xt S1 S' H1 H ∧ S' L = none ∧ H L = some (.lst acc) ∧ RepL X.K cm S' acc ys ∧ acc.length ≤ i ∧ compL g t f (wipeS st vs) (ds.drop i) = .ok us ∧ zs = ys ++ us,
      ⟨_, rfl, Nat.zero_le _, S1, [], [], zs, Xt.own x1.sh hL, s1L, upd_same, .nil, Nat.le_refl _, by rw [List.drop_zero]; exact qz, rfl⟩, ?_⟩
    rintro i m H2 ⟨rfl, hi, S2, acc, ys, us, x2, n2, hA, rA, lA, q2, qe⟩
    obtain ⟨w1, w2⟩ := w i S2 H2 x2.ss x2.sh x2.hh
    cases q3 : ds[i]? with
    | none =>
      have hl : ds.length ≤ i := List.getElem?_eq_none_iff.mp q3
      rw [List.drop_eq_nil_of_le hl] at q2
      cases q2
      rw [List.append_nil] at qe
      subst qe
      exact .inl ⟨w2 (Nat.le_antisymm hl hi), q H2 S2 x2 L acc (x1.hh.free hL) n2 hA rA⟩
    | some d =>
      have hl : i < ds.length := (List.getElem?_eq_some_iff.mp q3).1
      obtain ⟨go, y⟩ := w1 d q3
      rw [drop_get q3] at q2
      refine .inr ⟨go, fun H => i + 1 ≤ ds.length ∧ ∃ S' acc ys us, Xt S1 S' H1 H ∧ S' L = none ∧ H L = some (.lst acc) ∧ RepL X.K cm S' acc ys ∧ acc.length ≤ i + 1 ∧ compL g t f (wipeS st vs) (ds.drop (i + 1)) = .ok us ∧ zs = ys ++ us,
        fun H' n => ⟨ds.length - (i + 1), by omega, rfl, n⟩, fun v H3 hy => ?_⟩
      obtain ⟨S3, x3, hv⟩ := y v H3 hy
      replace q2 : (match g d (wipeS st vs) with
        | none => .bad
        | some st1 => (t st1).noex.bind fun b => if b = true then (f st1).noex.bind fun y => (compL g t f (wipeS st vs) (ds.drop (i + 1))).bind fun ys => .ok (y :: ys) else compL g t f (wipeS st vs) (ds.drop (i + 1))) = R.ok us := q2
      cases q4 : g d (wipeS st vs) with
      | none => rw [q4] at q2; cases q2
      | some st4 =>
        rw [q4] at q2
        obtain ⟨b, q5, q6⟩ := R.noex_ok q2
        have x13 := x2.trans x3
        have keepL : ∀ {S' H' : Hp}, Xt S2 S' H2 H' → S' L = none ∧ H' L = some (.lst acc) := fun {S' H'} x => by
          refine ⟨?_, x.hh _ _ hA⟩
          cases q : S' L with
          | none => rfl
          | some o =>
            have z := x.fr L o q n2
            rw [hA] at z
            cases z
        refine ⟨wipeS st vs, S3, fp0, d, r0.ext x13, hv, st4, q4, fun σ4 fp4 r4 b4 k4 => ⟨?_, st4, S3, fp4, r4, ?_⟩⟩
        · have e1 := k4.wipe
          rw [e1]
          apply List.ext_getElem?
          intro j
          rw [wipe_get]
          split
          · rename_i hj
            rw [wipe_get, if_pos hj]
            cases σ[j]? <;> rfl
          · rfl
        · rw [q5]
          intro H5 S5 x5
          cases b with
          | false =>
            obtain ⟨n5, hA5⟩ := keepL (x3.trans x5)
            exact ⟨hl, S5, acc, ys, us, x13.trans x5, n5, hA5, rA.mono (x3.ss.trans x5.ss), by omega, q6, qe⟩
          | true =>
            obtain ⟨u, q7, q8⟩ := R.noex_ok q6
            obtain ⟨us', q9, q10⟩ := R.bind_ok q8
            cases q10
            refine ⟨st4, S5, fp4, r4.ext x5, ?_⟩
            rw [q7]
            intro H6 S6 x6 z hz
            obtain ⟨n6, hA6⟩ := keepL ((x3.trans x5).trans x6)
            refine ⟨acc, hA6, by omega, hl, S6, acc ++ [z], ys ++ [u], us', ?_, n6, upd_same, (rA.mono ((x3.ss.trans x5.ss).trans x6.ss)).append (.cons hz .nil), by rw [List.length_append]; simp; omega, q9, by rw [qe]; simp⟩
            have xx := (x13.trans x5).trans x6
            exact ⟨xx.ss, same_upd2 xx.sh n6, fun b o e => by
              have ne : b ≠ L := fun z => by rw [z, hL] at e; cases e
              rw [upd_ne ne]
              exact xx.hh b o e, xx.fr⟩
  · rw [if_neg hlen] at q
    exact q.elim
variable {elt tg iter : Expr} {ifs : List Expr} {scope : Scope} {own : List (Str × Nat)} {pos spos : Pos} {c : Fr}
abbrev BX (X : Cx) (scope : Scope) (P : Cx → Prop) : Prop := ∀ (s : Shared) (H : Hp) (C : Addr) (cl : List (Str × Addr)) (fp : List Addr), P (X.blk s H scope (compEnvC scope cl C X.env) fp)
theorem ts_nil : PTs X [] (TB X.K cm W yesT) := ⟨fun pins s σ H Q I ⟨st, S, fp, r, k⟩ => pts_nil.run pins s σ H Q I (k.here r.sh)⟩
theorem ts_one {e : Expr} (h : PT X e (TB X.K cm W t)) : PTs X [e] (TB X.K cm W t) := pts_one h
theorem lc_frz {σ : Sg} {H : Hp} {Q : VK} (k : E X.K cm W (compE fi vs g t f) σ H Q) : tLc (IV X.K cm W fi) (GX X.K cm vs g) (TB X.K cm WF t) (E X.K cm WF f) vs σ H Q := by
  obtain ⟨st, S, fp, r, k⟩ := k
  refine comp_reads ⟨st, S, fp, r, ?_⟩
  replace k : Go X.K cm W (fun d S' H' => ∀ v, Rep X.K cm S' v d → Q v H') ((compR fi vs g t f st).bind fun ys => .ok (.lst ys)) S H σ := k
  cases q : compR fi vs g t f st with
  | bad => rw [q] at k; exact k
  | ex e => rw [q] at k; exact k
  | ok ys =>
    rw [q] at k
    intro H1 S1 x1 L acc hL s1 hA rA
    refine k H1 (upd S1 L (.lst acc)) ⟨x1.ss.trans (same_upd s1), fun b o e => ?_, x1.hh, fun b o e n => ?_⟩ _ (.lst upd_same (rA.mono (same_upd s1)))
    · by_cases hb : b = L
      · subst hb; rw [upd_same] at e; cases e; exact hA
      · rw [upd_ne hb] at e; exact x1.sh b o e
    · by_cases hb : b = L
      · subst hb; exact hL
      · rw [upd_ne hb] at e; exact x1.fr b o e n
theorem e_lc (hi : PI X tg iter (IV X.K cm W fi)) (ok : BlkOk X.N X.env.scope scope own) (hg : BX X scope fun Y => PG Y tg (GX X.K cm (own.map (·.2)) g)) (ht : BX X scope fun Y => PTs Y ifs (TB X.K cm WF t)) (he : BX X scope fun Y => PE Y elt (E X.K cm WF f))
    (hN : X.N.Nodup) (hc : X.calm = true := by rfl) (hs : ∀ x, foldedSetIterable iter X.env x = pure x := by intro _; rfl) : PE X (.ListComp elt [⟨tg, iter, ifs, 0⟩] scope pos) (E X.K cm W (compE fi (own.map (·.2)) g t f)) :=
  (pe_lc hc hN hi ok hg ht he hs).imp fun σ H Q k => lc_frz k
/-- name = [..] -/
theorem s_setLc [Free W] {i : Nat} {y : Str} {py : Pos} (hN : X.N.Nodup) (hy : X.N[i]? = some y) (hyl : X.env.scope.names.lookup y = some .local) (hsw : swapsWith (.ListComp elt [⟨tg, iter, ifs, 0⟩] scope pos) (some (.Name y py)) spos.line X.env = pure true)
    (hi : PI X tg iter (IV X.K cm W fi)) (ok : BlkOk X.N X.env.scope scope own) (hg : BX X scope fun Y => PG Y tg (GX X.K cm (own.map (·.2)) g)) (ht : BX X scope fun Y => PTs Y ifs (TB X.K cm WF t)) (he : BX X scope fun Y => PE Y elt (E X.K cm WF f))
    (hc : X.calm = true := by rfl) (hs : ∀ x, foldedSetIterable iter X.env x = pure x := by intro _; rfl) (hfx : c.fix i = none := by rfl) : PS X (.Assign [.Name y py] (.ListComp elt [⟨tg, iter, ifs, 0⟩] scope pos) spos) (SX X.K cm W c (setS i (compE fi (own.map (·.2)) g t f))) :=
  (ps_setLc hc hN hy hyl hsw hi ok hg ht he hs).imp fun D σ H ⟨st, S, fp, r, p⟩ => lc_frz ⟨st, S, fp, r.rx, Post.go r p fun d S' H' x q v hv => by
    obtain ⟨fp', r'⟩ := (r.ext x).set_im hv hfx
    exact q _ H' r'.on⟩
end
end DI
end
section
set_option Elab.async false
set_option linter.all false
set_option maxRecDepth 100000
set_option maxHeartbeats 2000000
/-! DI: what is under construction: changed, frozen. -/
namespace DI
open PySem PySem.Spec PyProof.Rows L2
section
variable {K : PySem.W.Frag} {cm : CM} {S S' H H' : Hp} {σ : Sg} {st : LS} {fp : List Addr} {c : Fr}
/-- one slot apart from the others -/
theorem Sls.split {t : T} : ∀ {σ : Sg} {st : LS} {fp : List Addr} {i : Nat}, Sls K cm S H σ st fp → st[i]? = some (some t) → fp.Nodup →
    ∃ (v : V) (f g : List Addr), σ[i]? = some (some v) ∧ Own K cm S H t v f ∧ f.Nodup ∧ (∀ a ∈ f, a ∈ fp) ∧ (∀ a ∈ g, a ∈ fp) ∧ (∀ a ∈ f, a ∉ g) ∧
      ∀ (S' H' : Hp) (t' : T) (f' : List Addr), Same S S' → (∀ a ∈ g, H' a = H a) → Own K cm S' H' t' v f' → f'.Nodup → (∀ a ∈ f', a ∉ g) → ∃ fp', Sls K cm S' H' σ (st.set i (some t')) fp' ∧ fp'.Nodup ∧ ∀ a ∈ fp', a ∈ g ∨ a ∈ f'
  | _, _, _, i, .nil, e, _ => by simp at e
  | _, _, _, 0, .no h, e, _ => by simp at e
  | _, _, _, i + 1, .no h, e, n => by
    obtain ⟨v, f, g, h1, h2, h3, h4, h5, h6, h7⟩ := Sls.split (i := i) h (by simpa using e) n
    exact ⟨v, f, g, by simpa using h1, h2, h3, h4, h5, h6, fun S' H' t' f' a b d e1 e2 => by
      obtain ⟨fp', x, y, z⟩ := h7 S' H' t' f' a b d e1 e2
      exact ⟨fp', .no x, y, z⟩⟩
  | _, _, _, 0, .yes (f1 := f1) (fp := fp) (σ := σ) (st := st) h hs, e, n => by
    simp at e
    subst e
    obtain ⟨n1, n2, n3⟩ := List.nodup_append.mp n
    refine ⟨_, f1, fp, rfl, h, n1, fun a m => List.mem_append_left _ m, fun a m => List.mem_append_right _ m, fun a m1 m2 => n3 a m1 a m2 rfl, fun S' H' t' f' a b d e1 e2 => ?_⟩
    exact ⟨f' ++ fp, .yes d (hs.mono a b), List.nodup_append.mpr ⟨e1, n2, fun x hx y hy z => e2 x hx (z ▸ hy)⟩, fun x m => (List.mem_append.mp m).elim .inr .inl⟩
  | _, _, _, i + 1, .yes (v := v0) (t := t0) (f1 := f1) (fp := fp) (σ := σ) (st := st) h hs, e, n => by
    obtain ⟨n1, n2, n3⟩ := List.nodup_append.mp n
    obtain ⟨v, f, g, h1, h2, h3, h4, h5, h6, h7⟩ := Sls.split (i := i) hs (by simpa using e) n2
    refine ⟨v, f, f1 ++ g, by simpa using h1, h2, h3, fun a m => List.mem_append_right _ (h4 a m), fun a m => (List.mem_append.mp m).elim (List.mem_append_left _) fun m => List.mem_append_right _ (h5 a m), fun a m1 m2 => ?_, fun S' H' t' f' a b d e1 e2 => ?_⟩
    · rcases List.mem_append.mp m2 with m2 | m2
      · exact n3 a m2 a (h4 a m1) rfl
      · exact h6 a m1 m2
    · obtain ⟨fp', x, y, z⟩ := h7 S' H' t' f' a (fun q m => b q (List.mem_append_right _ m)) d e1 (fun q m1 m2 => e2 q m1 (List.mem_append_right _ m2))
      refine ⟨f1 ++ fp', .yes (h.mono a fun q m => b q (List.mem_append_left _ m)) x, List.nodup_append.mpr ⟨n1, y, fun q hq w hw ew => ?_⟩, fun q m => ?_⟩
      · rcases z w hw with m | m
        · exact n3 q hq w (h5 w m) ew
        · exact e2 w m (List.mem_append_left _ (ew ▸ hq))
      · rcases List.mem_append.mp m with m | m
        · exact .inl (List.mem_append_left _ m)
        · exact (z q m).elim (fun m => .inl (List.mem_append_right _ m)) .inr
/-- the node at a slot is changed -/
theorem RR.mut {t : T} {i : Nat} (r : RR K cm W c st S fp σ H) (h : st[i]? = some (some t)) : ∃ (v : V) (f : List Addr), σ[i]? = some (some v) ∧ Own K cm S H t v f ∧ f.Nodup ∧ (∀ a ∈ f, a ∈ fp) ∧
    ∀ (S' H' H2 : Hp) (t' : T) (f' : List Addr), Xt S S' H H' → (∀ a, a ∉ f → H2 a = H' a) → Own K cm S' H2 t' v f' → f'.Nodup → (∀ a ∈ f', a ∈ f ∨ (H a = none ∧ S' a = none)) → On K cm W c S' (st.set i (some t')) σ H2 := by
  obtain ⟨v, f, g, h1, h2, h3, h4, h5, h6, h7⟩ := r.rx.sls.split h r.rx.nd
  refine ⟨v, f, h1, h2, h3, h4, fun S' H' H2 t' f' x he ho nd hf => ?_⟩
  have r2 := r.ext x
  have th := r.rx.sls.there
  obtain ⟨fp', x1, x2, x3⟩ := h7 S' H2 t' f' x.ss (fun a m => by
    rw [he a fun z => h6 a z m]
    cases q : H a with
    | none => exact absurd q (th a (h5 a m))
    | some o => exact x.hh a o q) ho nd (fun a m1 m2 => by
    rcases hf a m1 with z | z
    · exact h6 a z m2
    · exact th a (h5 a m2) z.1)
  have out : ∀ {a : Addr} {o : HO} {G : Hp}, (∀ b ∈ fp, G b = none) → G a = some o → a ∉ f := fun {a o G} hG e m => by
    rw [hG a (h4 a m)] at e
    cases e
  refine ⟨S', fp', Same.refl S', ⟨⟨fun a o e => ?_, x1, x2, fun a m => ?_, r2.rx.hd⟩, ⟨r2.xt.ss, fun a o e => ?_, fun a o e => ?_, r2.xt.fr⟩, fun a m => ?_, r.fx⟩⟩
  · rw [he a (out r2.rx.out e)]; exact x.sh a o e
  · rcases x3 a m with m | m
    · exact r2.rx.out a (h5 a m)
    · exact (hf a m).elim (fun z => r2.rx.out a (h4 a z)) fun z => z.2
  · rw [he a (out r2.rx.out e)]; exact x.sh a o e
  · rw [he a (out r2.fr e)]; exact r2.xt.hh a o e
  · rcases x3 a m with m | m
    · exact r2.fr a (h5 a m)
    · exact (hf a m).elim (fun z => r2.fr a (h4 a z)) fun z => r.xt.hh.free z.1
/-! ### freezing -/
mutual
def T.toD : T → D
  | .im d => d
  | .lst ts => .lst (T.toDs ts)
  | .ins c ds => .ins c ds
  | .dct ks ts => .dct false ks (T.toDs ts)
  | .nd ks ds => .nd ks ds
def T.toDs : List T → List D
  | [] => []
  | t :: ts => T.toD t :: T.toDs ts
end
mutual
theorem Own.rep (s : Same S S') : ∀ {t : T} {v : V} {f : List Addr}, (∀ a ∈ f, S' a = H a) → Own K cm S H t v f → Rep K cm S' v t.toD
  | _, _, _, k, .im h => by unfold T.toD; exact h.mono s
  | _, _, _, k, .lst h hs => by unfold T.toD; exact .lst ((k _ List.mem_cons_self).trans h) (OwnL.rep s (fun a m => k a (List.mem_cons_of_mem _ m)) hs)
  | _, _, _, k, .ins m h hs => by unfold T.toD; exact .ins m ((k _ List.mem_cons_self).trans h) (hs.mono s)
  | _, _, _, k, .dct h hl hn hs => by unfold T.toD; exact .dct (l := false) ((k _ List.mem_cons_self).trans h) hl hn (OwnL.rep s (fun a m => k a (List.mem_cons_of_mem _ m)) hs)
  | _, _, _, k, .nd h hk he hl hs => by unfold T.toD; exact .nd ((k _ List.mem_cons_self).trans h) (hk.mono s) he hl (hs.mono s)
theorem OwnL.rep (s : Same S S') : ∀ {ts : List T} {vs : List V} {f : List Addr}, (∀ a ∈ f, S' a = H a) → OwnL K cm S H ts vs f → RepL K cm S' vs (T.toDs ts)
  | _, _, _, k, .nil => by unfold T.toDs; exact .nil
  | _, _, _, k, .cons h hs => by unfold T.toDs; exact .cons (Own.rep s (fun a m => k a (List.mem_append_left _ m)) h) (OwnL.rep s (fun a m => k a (List.mem_append_right _ m)) hs)
end
/-- the nodes f stand for good from now on -/
def frzH (S H : Hp) (f : List Addr) : Hp := fun a => if a ∈ f then H a else S a
theorem frzH_in {f : List Addr} {a : Addr} (m : a ∈ f) : frzH S H f a = H a := if_pos m
theorem frzH_out {f : List Addr} {a : Addr} (m : a ∉ f) : frzH S H f a = S a := if_neg m
theorem frzH_same {f : List Addr} (sh : Same S H) : Same S (frzH S H f) := fun a o e => by
  by_cases m : a ∈ f
  · rw [frzH_in m]; exact sh a o e
  · rw [frzH_out m]; exact e
theorem frzH_sub {f : List Addr} (sh : Same S H) : Same (frzH S H f) H := fun a o e => by
  by_cases m : a ∈ f
  · rw [frzH_in m] at e; exact e
  · rw [frzH_out m] at e; exact sh a o e
end
def frz (i : Nat) (st : LS) : LS := match st[i]? with
  | some (some t) => st.set i (some (.im t.toD))
  | _ => st
section
variable {K : PySem.W.Frag} {cm : CM} {S S' H H' : Hp} {σ : Sg} {st : LS} {fp : List Addr} {c : Fr}
theorem RR.frz (r : RR K cm W c st S fp σ H) (i : Nat) : On K cm W c S (frz i st) σ H := by
  unfold DI.frz
  split
  · rename_i t h
    obtain ⟨v, f, g, h1, h2, h3, h4, h5, h6, h7⟩ := r.rx.sls.split h r.rx.nd
    have s1 : Same S (frzH S H f) := frzH_same r.rx.sh
    have hv := h2.rep s1 (fun a m => frzH_in m)
    obtain ⟨fp', x1, x2, x3⟩ := h7 (frzH S H f) H (.im t.toD) [] s1 (fun _ _ => rfl) (.im hv) List.nodup_nil (fun _ m => nomatch m)
    have x4 : ∀ a ∈ fp', a ∈ g := fun a m => (x3 a m).elim id fun z => nomatch z
    refine ⟨frzH S H f, fp', s1, ⟨⟨frzH_sub r.rx.sh, x1, x2, fun a m => ?_, W.mono s1 r.rx.hd⟩, ⟨r.xt.ss.trans s1, frzH_sub r.rx.sh, r.xt.hh, fun a o e n => ?_⟩, fun a m => r.fr a (h5 a (x4 a m)), r.fx⟩⟩
    · rw [frzH_out fun z => h6 a z (x4 a m)]
      exact r.rx.out a (h5 a (x4 a m))
    · by_cases m : a ∈ f
      · exact r.fr a (h4 a m)
      · rw [frzH_out m] at e
        exact r.xt.fr a o e n
  · exact r.on
end
section
variable {X : Cx} {cm : CM} {W : WH} {c : Fr} {pos p1 p2 p3 p4 : Pos} {F : LS → Out} {s : Stmt} {e eo ei : Expr} {x : Str} {i : Nat}
theorem s_frz (i : Nat) (h : PS X s (SX X.K cm W c F)) : PS X s (SX X.K cm W c fun st => F (frz i st)) := h.imp fun D σ H ⟨st, S, fp, r, p⟩ => by
  obtain ⟨S', fp', a, b⟩ := r.frz i
  exact ⟨_, S', fp', b, Post.mono a p⟩
theorem f_e {f : LS → R D} (h : PE X e (E X.K cm W f)) : PE X e (EF X.K cm W fun st => (f st).bind fun d => .ok (.im d)) := h.imp fun σ H Q ⟨st, S, fp, r, k⟩ => ⟨st, S, fp, r, k.bind.mono fun d S1 H1 x1 k1 v hv =>
  k1.here x1.sh v [] (.im hv) List.nodup_nil fun _ m => nomatch m⟩
/-! ### x.append(e) -/
def ownL : Option (Option T) → Option (List T)
  | some (some (.lst ts)) => some ts
  | _ => none
theorem ownL_some {o : Option (Option T)} {ts : List T} (h : ownL o = some ts) : o = some (some (.lst ts)) := by
  unfold ownL at h
  split at h
  · cases h; rfl
  · cases h
def appS (i : Nat) (f : LS → R T) : LS → Out := fun st => match ownL st[i]? with
  | none => .bad
  | some ts => (f st).out st fun t => if ts.length < sizeLine then .nx (st.set i (some (.lst (ts ++ [t])))) else .bad
theorem OwnL.length {K : PySem.W.Frag} {S H : Hp} : ∀ {ts : List T} {vs : List V} {f : List Addr}, OwnL K cm S H ts vs f → vs.length = ts.length
  | _, _, _, .nil => rfl
  | _, _, _, .cons _ hs => by rw [List.length_cons, List.length_cons, OwnL.length hs]
theorem OwnL.snoc {K : PySem.W.Frag} {S H : Hp} {t : T} {v : V} {f2 : List Addr} (o : Own K cm S H t v f2) : ∀ {ts : List T} {vs : List V} {f : List Addr}, OwnL K cm S H ts vs f → OwnL K cm S H (ts ++ [t]) (vs ++ [v]) (f ++ f2)
  | _, _, _, .nil => by
    have := OwnL.cons o OwnL.nil
    rw [List.append_nil] at this
    exact this
  | _, _, _, .cons h hs => by
    rw [List.append_assoc]
    exact .cons h (OwnL.snoc o hs)
theorem own_upd {K : PySem.W.Frag} {S H : Hp} {a : Addr} {o : HO} {t : T} {v : V} {f : List Addr} (n : a ∉ f) (h : Own K cm S H t v f) : Own K cm S (upd H a o) t v f := h.mono (Same.refl S) fun b m => upd_ne fun z => n (z ▸ m)
theorem ownL_upd {K : PySem.W.Frag} {S H : Hp} {a : Addr} {o : HO} {ts : List T} {vs : List V} {f : List Addr} (n : a ∉ f) (h : OwnL K cm S H ts vs f) : OwnL K cm S (upd H a o) ts vs f := h.mono (Same.refl S) fun b m => upd_ne fun z => n (z ▸ m)
theorem Own.ext {K : PySem.W.Frag} {S S' H H' : Hp} {t : T} {v : V} {f : List Addr} (h : Own K cm S H t v f) (x : Xt S S' H H') : Own K cm S' H' t v f := h.mono x.ss fun a m => by
  cases q : H a with
  | none => exact absurd q (h.there a m)
  | some o => exact x.hh a o q
theorem OwnL.ext {K : PySem.W.Frag} {S S' H H' : Hp} {t : List T} {v : List V} {f : List Addr} (h : OwnL K cm S H t v f) (x : Xt S S' H H') : OwnL K cm S' H' t v f := h.mono x.ss fun a m => by
  cases q : H a with
  | none => exact absurd q (h.there a m)
  | some o => exact x.hh a o q
theorem s_app {f : LS → R T} (h : PE X e (tBM X.K "list" rAppend (tVar i) (tCons (EF X.K cm W f) tNil))) (hs : swapsWith e none pos.line X.env = pure false := by rfl) : PS X (.Expr e pos) (SX X.K cm W c (appS i f)) := (ps_expr h hs).imp fun D σ H ⟨st, S, fp, r, p⟩ => by
  replace p : Post X.K cm W c D S (match ownL st[i]? with
    | none => .bad
    | some ts => (f st).out st fun t => if ts.length < sizeLine then .nx (st.set i (some (.lst (ts ++ [t])))) else .bad) := p
  cases q : ownL st[i]? with
  | none => rw [q] at p; exact p.elim
  | some ts =>
    rw [q] at p
    obtain ⟨v, f1, h1, h2, h3, h4, h5⟩ := r.mut (ownL_some q)
    cases h2 with
    | @lst a vs _ f2 ha hts =>
      obtain ⟨n1, n2⟩ := List.nodup_cons.mp h3
      refine ⟨.ref a, h1, .inl ⟨rfl, vs, SqL.of ha⟩, st, S, fp, r.rx, Post.go r p fun t S' H' x q v fn hv nd fo => ?_⟩
      split at q
      · rename_i hl
        have ha' := x.hh _ _ ha
        have afn : a ∉ fn := fun m => by
          rw [(fo a m).1] at ha
          cases ha
        refine ⟨a, vs, v, rfl, rfl, ha', by rw [hts.length]; exact hl, ?_⟩
        have th : ∀ b ∈ f2, H b ≠ none := hts.there
        refine q σ _ (h5 S' H' _ _ _ x (fun b n => upd_ne fun z => n (z ▸ List.mem_cons_self)) (.lst upd_same (OwnL.snoc (own_upd afn hv) (ownL_upd n1 (hts.ext x)))) (List.nodup_cons.mpr ⟨fun m => (List.mem_append.mp m).elim n1 afn, List.nodup_append.mpr ⟨n2, nd, fun b hb d hd z => ?_⟩⟩) fun b m => ?_)
        · subst z
          exact th b hb (fo b hd).1
        · rcases List.mem_cons.mp m with m | m
          · exact .inl (by rw [m]; exact List.mem_cons_self)
          · exact (List.mem_append.mp m).elim (fun m => .inl (List.mem_cons_of_mem _ m)) fun m => .inr (fo b m)
      · exact q.elim
/-! ### x[e] = v -/
/-- one item apart -/
theorem OwnL.split {K : PySem.W.Frag} {S H : Hp} {t : T} : ∀ {ts : List T} {vs : List V} {fp : List Addr} {i : Nat}, OwnL K cm S H ts vs fp → ts[i]? = some t → fp.Nodup →
    ∃ (v : V) (f g : List Addr), vs[i]? = some v ∧ Own K cm S H t v f ∧ f.Nodup ∧ (∀ a ∈ f, a ∈ fp) ∧ (∀ a ∈ g, a ∈ fp) ∧ (∀ a ∈ f, a ∉ g) ∧
      ∀ (S' H' : Hp) (t' : T) (v' : V) (f' : List Addr), Same S S' → (∀ a ∈ g, H' a = H a) → Own K cm S' H' t' v' f' → f'.Nodup → (∀ a ∈ f', a ∉ g) → ∃ fp', OwnL K cm S' H' (ts.set i t') (vs.set i v') fp' ∧ fp'.Nodup ∧ ∀ a ∈ fp', a ∈ g ∨ a ∈ f'
  | _, _, _, i, .nil, e, _ => by simp at e
  | _, _, _, 0, .cons (f1 := f1) (f2 := f2) h hs, e, n => by
    simp at e
    subst e
    obtain ⟨n1, n2, n3⟩ := List.nodup_append.mp n
    refine ⟨_, f1, f2, rfl, h, n1, fun a m => List.mem_append_left _ m, fun a m => List.mem_append_right _ m, fun a m1 m2 => n3 a m1 a m2 rfl, fun S' H' t' v' f' a b d e1 e2 => ?_⟩
    exact ⟨f' ++ f2, .cons d (hs.mono a b), List.nodup_append.mpr ⟨e1, n2, fun x hx y hy z => e2 x hx (z ▸ hy)⟩, fun x m => (List.mem_append.mp m).elim .inr .inl⟩
  | _, _, _, i + 1, .cons (f1 := f1) (f2 := f2) h hs, e, n => by
    obtain ⟨n1, n2, n3⟩ := List.nodup_append.mp n
    obtain ⟨v, f, g, h1, h2, h3, h4, h5, h6, h7⟩ := OwnL.split (i := i) hs (by simpa using e) n2
    refine ⟨v, f, f1 ++ g, by simpa using h1, h2, h3, fun a m => List.mem_append_right _ (h4 a m), fun a m => (List.mem_append.mp m).elim (List.mem_append_left _) fun m => List.mem_append_right _ (h5 a m), fun a m1 m2 => ?_, fun S' H' t' v' f' a b d e1 e2 => ?_⟩
    · rcases List.mem_append.mp m2 with m2 | m2
      · exact n3 a m2 a (h4 a m1) rfl
      · exact h6 a m1 m2
    · obtain ⟨fp', x, y, z⟩ := h7 S' H' t' v' f' a (fun q m => b q (List.mem_append_right _ m)) d e1 (fun q m1 m2 => e2 q m1 (List.mem_append_right _ m2))
      refine ⟨f1 ++ fp', .cons (h.mono a fun q m => b q (List.mem_append_left _ m)) x, List.nodup_append.mpr ⟨n1, y, fun q hq w hw ew => ?_⟩, fun q m => ?_⟩
      · rcases z w hw with m | m
        · exact n3 q hq w (h5 w m) ew
        · exact e2 w m (List.mem_append_left _ (ew ▸ hq))
      · rcases List.mem_append.mp m with m | m
        · exact .inl (List.mem_append_left _ m)
        · exact (z q m).elim (fun m => .inl (List.mem_append_right _ m)) .inr
theorem ixN_lt {n : Nat} {i : Int} {j : Nat} (h : ixN n i = some j) : j < n := (ixN_seq h).2.1
/-- the place that an index names -/
def placeD (n : Nat) (d : D) : Option Nat := (dInt d).bind fun i => ixN n i
def setIS (i : Nat) (f : LS → R T) (g : LS → R D) : LS → Out := fun st => match ownL st[i]? with
  | none => .bad
  | some ts => (f st).out st fun t => (g st).out st fun d => match placeD ts.length d with
    | some j => .nx (st.set i (some (.lst (ts.set j t))))
    | none => .bad
theorem s_setI {f : LS → R T} {g : LS → R D} {tg : Expr} (he : PE X e (EF X.K cm W f)) (hg : PG X tg (gSub (tVar i) (VE X.K cm W g) rSetL)) (hs : swapsWithSole [tg] e pos.line X.env = pure false := by rfl) (hw : swappedStores [tg] e X.env = pure none := by rfl)
    (h1 : (assignEach [tg] X.env).map (·.2) = [assign tg X.env] := by rfl) : PS X (.Assign [tg] e pos) (SX X.K cm W c (setIS i f g)) := (ps_asg he hg hs hw h1).imp fun D σ H ⟨st, S, fp, r, p⟩ => by
  replace p : Post X.K cm W c D S (match ownL st[i]? with
    | none => .bad
    | some ts => (f st).out st fun t => (g st).out st fun d => match placeD ts.length d with
      | some j => .nx (st.set i (some (.lst (ts.set j t))))
      | none => .bad) := p
  cases q : ownL st[i]? with
  | none => rw [q] at p; exact p.elim
  | some ts =>
    rw [q] at p
    obtain ⟨v, f1, h1, h2, h3, h4, h5⟩ := r.mut (ownL_some q)
    cases h2 with
    | @lst a vs _ f2 ha hts =>
      obtain ⟨n1, n2⟩ := List.nodup_cons.mp h3
      refine ⟨st, S, fp, r.rx, Post.go r p fun t S1 H1 x1 q1 v fn hv nd fo => ⟨.ref a, h1, st, S1, fp, r.rx.ext x1, Post.go (r.ext x1) q1 fun d S2 H2 x2 q2 u hu => ?_⟩⟩
      have x := x1.trans x2
      cases q3 : placeD ts.length d with
      | none => rw [q3] at q2; exact q2.elim
      | some j =>
        rw [q3] at q2
        cases d <;> try (cases q3; done)
        case int k =>
          replace q3 : ixN ts.length k = some j := q3
          have afn : a ∉ fn := fun m => by
            rw [(fo a m).1] at ha
            cases ha
          have hj : j < ts.length := ixN_lt q3
          have o2 := hts.ext x
          obtain ⟨w, fw, gw, e1, e2, e3, e4, e5, e6, e7⟩ := o2.split (List.getElem?_eq_getElem hj) n2
          have th : ∀ b ∈ f2, H b ≠ none := hts.there
          obtain ⟨fz, z1, z2, z3⟩ := e7 S2 (upd H2 a (.lst (vs.set j v))) t v fn (Same.refl _) (fun b m => upd_ne fun z => n1 (z ▸ e5 b m)) (own_upd afn (hv.ext x2)) nd (fun b m1 m2 => th b (e5 b m2) (fo b m1).1)
          refine ⟨a, vs, k, j, rfl, hu.int, x.hh _ _ ha, by rw [hts.length]; exact q3, ?_⟩
          refine q2 σ _ (h5 S2 H2 _ _ (a :: fz) x (fun b n => upd_ne fun z => n (z ▸ List.mem_cons_self)) (.lst upd_same z1) (List.nodup_cons.mpr ⟨fun m => ?_, z2⟩) fun b m => ?_)
          · exact (z3 a m).elim (fun m => n1 (e5 a m)) afn
          · rcases List.mem_cons.mp m with m | m
            · exact .inl (by rw [m]; exact List.mem_cons_self)
            · rcases z3 b m with m | m
              · exact .inl (List.mem_cons_of_mem _ (e5 b m))
              · refine .inr ⟨(fo b m).1, ?_⟩
                cases q : S2 b with
                | none => rfl
                | some o =>
                  have := x.fr b o q (r.rx.sh.free (fo b m).1)
                  have z := x2.fr b o q (fo b m).2
                  have y := hv.there b m
                  rw [z] at y
                  exact absurd rfl y
/-! ### x[e] op= v -/
end
end DI
end
section
set_option Elab.async false
set_option linter.all false
set_option maxRecDepth 100000
set_option maxHeartbeats 2000000
/-! DI: defs and their calls. -/
namespace DI
open PySem PySem.Spec PyProof.Rows L2
/-- what a call leaves -/
def Fin (K : PySem.W.Frag) (cm : CM) (S H : Hp) (Q : VK) (E : XK) (r : R D) : Prop :=
  r.Res (fun d => ∀ v H' S', Xt S S' H H' → Rep K cm S' v d → Q v H') fun e => ∀ cls od H' S', Xt S S' H H' → RepX K cm S' cls od e → E cls od H'
/-- THE PROMISE of a def: it hands back what its denotation says; nothing that stood is changed -/
def spD (K : PySem.W.Frag) (cm : CM) (n : Nat) (F : List D → R D) : Sp := fun vs H Q E => vs.length = n ∧ ∃ S ds, Same S H ∧ RepL K cm S vs ds ∧ Fin K cm S H Q E (F ds)
/-- the denotation of a body -/
def Out.end : Out → R D
  | .bad => .bad
  | .nx _ => .ok .non
  | .rt d => .ok d
  | .bk _ => .bad
  | .ct _ => .bad
  | .ex _ e => .ex e
def st0 (n : Nat) (ds : List D) : LS := ds.map (fun d => some (T.im d)) ++ List.replicate (n - ds.length) none
/-- the denotation of a def: m slots in all -/
def den (m : Nat) (F : LS → Out) (ds : List D) : R D := (F (st0 m ds)).end
section
variable {K : PySem.W.Frag} {cm : CM} {S H : Hp}
theorem sls_none : ∀ n : Nat, Sls K cm S H (List.replicate n none) (List.replicate n none) []
  | 0 => .nil
  | n + 1 => by rw [List.replicate_succ, List.replicate_succ]; exact .no (sls_none n)
theorem sls_start (n : Nat) : ∀ {vs : List V} {ds : List D}, RepL K cm S vs ds → Sls K cm S H (vs.map some ++ List.replicate n none) (ds.map (fun d => some (T.im d)) ++ List.replicate n none) []
  | _, _, .nil => sls_none n
  | _, _, .cons h hs => .yes (f1 := []) (.im h) (sls_start n hs)
end
section
variable {P : Program} {w : World} {K : PySem.W.Frag} {mg : Str → Option Value} {base : Heap} {cm : CM} {x qual : Str} {params : Arguments} {body : List Stmt} {scope : Scope} {dvs : List V} {kws : List (Str × V)} {f : Addr} {fd : FuncData} {N ps : List Str} {k : Nat}
/-- a def's body read as a denotation: the def keeps its promise -/
theorem fn_ok {F : LS → Out} (Fd : FunD K x qual params body scope dvs kws f fd) (Sc : FnScope N ps scope)
    (hb : ∀ (cdv : Value) (A : Around) (outer : List Env) (s : Shared) (H : Hp) (E : XK) (S0 F0 : Hp), Room k (A.deeper (envOfC qual scope s.heap.objs.size f cdv)) →
      Takes (cxOf (L2.CX P w) P w K mg base N qual scope f cdv A outer s H E) (fun cls d _ H => E cls d H) →
      PSs (cxOf (L2.CX P w) P w K mg base N qual scope f cdv A outer s H E) body (SX K cm (wt fun cls d _ H => E cls d H) ⟨S0, F0, noFix⟩ F)) :
    FnOk P w K mg base (L2.CX P w) (k + 1) f fd ps (spD K cm ps.length (den N.length F)) := by
  refine Fd.ok Sc (fun vs H Q E h => h.1) fun cdv A outer s H vs Q E hr ⟨hl, S, ds, sh, hv, fin⟩ => ?_
  refine ⟨_, hb cdv A outer s H E S H hr (takes_of rfl rfl rfl rfl), st0 N.length ds, S, [], ⟨⟨sh, ?_, List.nodup_nil, fun _ m => (nomatch m), trivial⟩, Xt.refl sh, fun _ m => (nomatch m), fun _ _ z => (nomatch z)⟩, ?_⟩
  · unfold L2.start st0
    rw [hv.length]
    exact sls_start _ hv
  · replace fin : Fin K cm S H Q E (F (st0 N.length ds)).end := fin
    cases q : F (st0 N.length ds) with
    | bad => rw [q] at fin; exact fin
    | nx st => rw [q] at fin; exact fun σ H' ⟨S', fp, a, r⟩ => fin .non H' S' r.xt .non
    | rt d => rw [q] at fin; exact fun v H' S' a x r => fin v H' S' x r
    | bk st => rw [q] at fin; exact fin.elim
    | ct st => rw [q] at fin; exact fin.elim
    | ex st e => rw [q] at fin; exact fun cls od σ H' S' fp a r x => fin cls od H' S' r.xt x
end
/-! ### f(..) -/
section
variable {X : Cx} {cm : CM} {W : WH} {k n : Nat} {f : Addr} {fd : FuncData} {ps : List Str} {x : Str} {p pos : Pos} {e : Expr} {es : List Expr} {args : LS → R (List D)} {F : List D → R D} {dvs : List V} {dd : List D} {us : List Value}
def callU (F : List D → R D) (dd : List D) (args : LS → R (List D)) : LS → R D := fun st => (args st).bind fun ds => F (ds ++ dd)
theorem call_reads (hd : ∀ S, RepL X.K cm S dvs dd) (hn : ∀ ds, F ds ≠ .bad → ds.length = n) {σ : Sg} {H : Hp} {Q : VK} (k : E X.K cm W (callU F dd args) σ H Q) : tCallSD (spD X.K cm n F) dvs (WE W.w) (EA X.K cm W args) σ H Q := by
  obtain ⟨st, S, fp, r, k⟩ := k
  refine ⟨st, S, fp, r, k.bind.mono fun ds S1 H1 x1 k1 vs hv => ?_⟩
  have hv2 := hv.append (hd S1)
  refine ⟨?_, S1, ds ++ dd, x1.sh, hv2, ?_⟩
  · rw [hv2.length]
    refine hn _ fun e => ?_
    rw [e] at k1
    exact k1.elim
  · exact R.Res.mono k1 (fun d q v H' S' x2 hr => q H' S' x2 v hr) fun e q => q
/-- a denotation that wants so many arguments -/
def ar (n : Nat) (F : List D → R D) : List D → R D := fun ds => if ds.length = n then F ds else .bad
theorem ar_len {F : List D → R D} : ∀ ds, ar n F ds ≠ .bad → ds.length = n := fun ds h => by
  unfold ar at h
  split at h
  · assumption
  · exact absurd rfl h
theorem spD_ar {K : PySem.W.Frag} {vs : List V} {H : Hp} {Q : VK} {E : XK} (h : spD K cm n (ar n F) vs H Q E) : spD K cm n F vs H Q E := by
  obtain ⟨a, S, ds, b, c, d⟩ := h
  refine ⟨a, S, ds, b, c, ?_⟩
  unfold ar at d
  split at d
  · exact d
  · exact d.elim
theorem e_call (G : FnOk X.prog X.w X.K X.mg X.base (L2.CX X.prog X.w) k f fd ps (spD X.K cm n F)) (tk : Takes X W.w) (hr : Room k X.A) (hm : X.mg x = some (.ref f)) (hk : PySem.W.keepIn X.K (.ref f) = true) (hb : Binds X.K fd ps us) (hu : Vals dvs us) (hd : ∀ S, RepL X.K cm S dvs dd)
    (ha : PA X (e :: es) (EA X.K cm W args)) (hg : Gl X x := by rfl) (hdb : (x == ("__debug__" : Str)) = false := by decide) (he : starEach (e :: es) X.env = (false, eval e X.env) :: starEach es X.env := by rfl) (hpl : (backTo pos (starEach es X.env)).any (·.1) = false := by rfl) :
    PE X (.Call (.Name x p) (e :: es) [] pos) (E X.K cm W (callU (ar n F) dd args)) :=
  (pe_callSD (G.imp fun vs H Q E h => spD_ar h) hr hg hm hk hb hu (fun σ => passAt tk σ) ha hdb he hpl).imp fun σ H Q k => call_reads hd ar_len k
end
/-! ### __init__ -/
/-- THE PROMISE of an __init__: the fields of the instance -/
def spI (K : PySem.W.Frag) (cm : CM) (c n : Nat) (F : List D → R (List D)) : Sp := fun vs H Q E => vs.length = n + 1 ∧ ∃ (x dx : Addr) (ws : List V) (S : Hp) (ds : List D), vs = .ref x :: ws ∧ Same S H ∧ S x = none ∧ H x = some (.ins (cm.addr c) dx []) ∧ RepL K cm S ws ds ∧
  (F ds).Res (fun fs => ∀ H' S' us dx', Xt S S' (fun a => if a = x then none else H a) H' → S' x = none → H' x = some (.ins (cm.addr c) dx' ((cm.names c).zip us)) → RepL K cm S' us fs → Q .non H')
    fun e => ∀ cls od H' S', Xt S S' (fun a => if a = x then none else H a) H' → RepX K cm S' cls od e → E cls od H'
/-- slot 0 is the instance -/
def stI (n c : Nat) (ds : List D) : LS := some (T.ins c []) :: (ds.map (fun d => some (T.im d)) ++ List.replicate (n - 1 - ds.length) none)
def Out.endI (c : Nat) : Out → R (List D)
  | .nx st => (match st[0]? with
    | some (some (T.ins c' fs)) => if c' = c then .ok fs else .bad
    | _ => .bad)
  | .ex _ e => .ex e
  | _ => .bad
def denI (m c : Nat) (F : LS → Out) (ds : List D) : R (List D) := (F (stI m c ds)).endI c
section
variable {P : Program} {w : World} {K : PySem.W.Frag} {mg : Str → Option Value} {base : Heap} {cm : CM} {x qual : Str} {params : Arguments} {body : List Stmt} {scope : Scope} {dvs : List V} {kws : List (Str × V)} {f : Addr} {fd : FuncData} {N ps : List Str} {k c n : Nat}
theorem init_ok {F : LS → Out} (hcm : c ∈ cm.cls) (Fd : FunD K x qual params body scope dvs kws f fd) (Sc : FnScope N ps scope) (hn : ps.length = n + 1)
    (hb : ∀ (cdv : Value) (A : Around) (outer : List Env) (s : Shared) (H : Hp) (E : XK) (S0 F0 : Hp) (x : Addr), Room k (A.deeper (envOfC qual scope s.heap.objs.size f cdv)) →
      Takes (cxOf (L2.CX P w) P w K mg base N qual scope f cdv A outer s H E) (fun cls d _ H => E cls d H) →
      PSs (cxOf (L2.CX P w) P w K mg base N qual scope f cdv A outer s H E) body (SX K cm (wt fun cls d _ H => E cls d H) ⟨S0, F0, fix0 x⟩ F)) :
    FnOk P w K mg base (L2.CX P w) (k + 1) f fd ps (spI K cm c n (denI N.length c F)) := by
  refine Fd.ok Sc (fun vs H Q E h => h.1.trans hn.symm) fun cdv A outer s H vs Q E hr ⟨hl, x, dx, ws, S, ds, e, sh, sx, hx, hv, fin⟩ => ?_
  subst e
  refine ⟨_, hb cdv A outer s H E S (fun a => if a = x then none else H a) x hr (takes_of rfl rfl rfl rfl), stI N.length c ds, S, [x], ⟨⟨sh, ?_, nodup1 x, fun a m => ?_, trivial⟩, ⟨Same.refl S, sh, fun a o q => ?_, fun a o q z => ?_⟩, fun a m => ?_, fun i v z => ?_⟩, ?_⟩
  · unfold L2.start stI
    have e1 : N.length - (V.ref x :: ws).length = N.length - 1 - ds.length := by rw [List.length_cons, hv.length]; omega
    rw [e1]
    have hx0 : H x = some (.ins (cm.addr c) dx ((cm.names c).zip [])) := by rw [hx]; simp
    exact Sls.yes (f1 := [x]) (.ins hcm hx0 .nil) (sls_start _ hv)
  · have e : a = x := by simpa using m
    rw [e]; exact sx
  · replace q : (if a = x then none else H a) = some o := q
    by_cases e : a = x
    · rw [if_pos e] at q; cases q
    · rw [if_neg e] at q; exact q
  · replace z : S a = none := z
    rw [z] at q; cases q
  · have e : a = x := by simpa using m
    exact if_pos e
  · replace z : (if i = 0 then some (V.ref x) else none) = some v := z
    split at z
    · rename_i e
      subst e
      cases z
      rfl
    · cases z
  · unfold denI at fin
    cases q : F (stI N.length c ds) with
    | bad => rw [q] at fin; exact fin.elim
    | rt d => rw [q] at fin; exact fin.elim
    | bk st => rw [q] at fin; exact fin.elim
    | ct st => rw [q] at fin; exact fin.elim
    | ex st e => rw [q] at fin; exact fun cls od σ H' S' fp a r x => fin cls od H' S' r.xt x
    | nx st =>
      rw [q] at fin
      intro σ H' ⟨S', fp, a, r⟩
      replace fin : (match st[0]? with
        | some (some (T.ins c' fs)) => if c' = c then R.ok fs else .bad
        | _ => .bad).Res _ _ := fin
      split at fin
      · rename_i c' fs e0
        split at fin
        · rename_i ec
          subst ec
          obtain ⟨v, f1, h1, h2, h3⟩ := r.rx.sls.get e0
          have h4 := r.fx 0 (.ref x) rfl
          rw [h4] at h1
          cases h1
          cases h2 with
          | ins _ h5 h6 => exact fin H' S' _ _ r.xt (r.rx.out x (h3 x List.mem_cons_self)) h5 h6
        · exact fin.elim
      · exact fin.elim
end
/-! ### C(..) -/
section
variable {X : Cx} {cm : CM} {W : WH} {k n c : Nat} {f : Addr} {fd : FuncData} {ps : List Str} {x : Str} {p pos : Pos} {e : Expr} {es : List Expr} {args : LS → R (List D)} {F : List D → R (List D)} {dvs : List V} {dd : List D} {us : List Value}
def makeU (c : Nat) (F : List D → R (List D)) (dd : List D) (args : LS → R (List D)) : LS → R D := fun st => (args st).bind fun ds => (F (ds ++ dd)).bind fun fs => .ok (.ins c fs)
def arI (n : Nat) (F : List D → R (List D)) : List D → R (List D) := fun ds => if ds.length = n then F ds else .bad
/-- C(..): what is raised is wished for at the caller's slots -/
def tMakeS (C : Addr) (sp : Sp) (dvs : List V) (E : Sg → XK) (t : TA) : TE := fun σ H Q => t σ H fun vs H1 => ∀ x dx, H1 x = none → H1 dx = none → dx ≠ x →
  sp (.ref x :: (vs ++ dvs)) (upd (upd H1 dx (.own x)) x (.ins C dx [])) (fun v H2 => v = .non ∧ Q (.ref x) H2) (E σ)
theorem makeS_run {pins : List (Addr × Obj)} {τ : Sg} {G : Hp} {z : Shared} {Q : VK} {as : List Value} {ws : List V} {sp : Sp} {C : Addr} {E : Sg → XK} (M : Mk X.K C f) (Fo : FnOk X.prog X.w X.K X.mg X.base (L2.CX X.prog X.w) k f fd ps sp) (room : Room (k + 1) X.A)
    (bi : Binds X.K fd ps us) (dv : Vals dvs us) (ha : PassesAt (L2.CX X.prog X.w) X τ (E τ)) (J : Inv X pins τ G z) (rel : Vals ws as)
    (ask : ∀ x dx, G x = none → G dx = none → dx ≠ x → sp (.ref x :: (ws ++ dvs)) (upd (upd G dx (.own x)) x (.ins C dx [])) (fun v H2 => v = .non ∧ Q (.ref x) H2) (E τ)) :
    wpAny (model X.prog X.w) X.A (call (.ref C) as) (EP X pins τ Q) X.xe z := by
  have asked := ask (z.heap.objs.size + 1) z.heap.objs.size (J.hok.fresh (Nat.le_succ _)) (J.hok.fresh (Nat.le_refl _)) (Nat.ne_of_lt (Nat.lt_succ_self _))
  have J2 := Inv.made (C := C) J
  have rel2 : Vals (V.ref (z.heap.objs.size + 1) :: (ws ++ dvs)) (Value.ref (z.heap.objs.size + 1) :: (as ++ us)) := .cons rfl (rel.append dv)
  have many : (Value.ref (z.heap.objs.size + 1) :: as ++ us).length = ps.length := (rel2.length.symm.trans (Fo.len _ _ _ _ asked))
  refine wpAny_call (make_map (f := f) J.kIn M.makes M.init (beq_iff_eq.mp M.fn) (codeAny_mono (Fo.run _ X.stack _ _ ⟨Value.ref (z.heap.objs.size + 1) :: as, []⟩ (Value.ref (z.heap.objs.size + 1) :: (as ++ us)) _ _ (E τ) (room.make C as [])
    (J2.env0.make C as []) (bi _ (Value.ref (z.heap.objs.size + 1) :: as) J2.kIn many) rel2 asked) fun out z' got => ?_))
  cases out with
  | error err => exact ha pins _ _ err z' J2 got
  | ok way =>
    cases way <;> try (exact False.elim got)
    obtain ⟨b, G', J3, rb, eb, goal⟩ := J2.after got
    subst eb
    exact ⟨rb, ⟨V.ref (z.heap.objs.size + 1), G', J3, rfl, goal⟩⟩
theorem pe_makeS {C : Addr} {sp : Sp} {t : TA} {E : Sg → XK} (M : Mk X.K C f) (Fo : FnOk X.prog X.w X.K X.mg X.base (L2.CX X.prog X.w) k f fd ps sp) (room : Room (k + 1) X.A) (hm : X.mg x = some (.ref C)) (bi : Binds X.K fd ps us) (dv : Vals dvs us)
    (hx : ∀ σ, PassesAt (L2.CX X.prog X.w) X σ (E σ)) (ha : PA X (e :: es) t) (hg : Gl X x) (hdb : (x == ("__debug__" : Str)) = false) (he : starEach (e :: es) X.env = (false, eval e X.env) :: starEach es X.env) (hpl : (backTo pos (starEach es X.env)).any (·.1) = false) :
    PE X (.Call (.Name x p) (e :: es) [] pos) (tMakeS C sp dvs E t) := by
  refine ⟨fun pins z τ G Q J ask => wpAny_Call_Name_kw (ld_glob J hg hm ?_ hdb)⟩
  refine PySem.W.callWith_K (h₀ := X.base) J.ok.mod.kin M.kp (thn (ha.run pos pins z τ G _ J ask) fun as z1 ⟨ws, G1, J1, rel, q⟩ => ⟨J1.kIn, ?_⟩) he hpl
  exact makeS_run M Fo room bi dv (hx τ) J1 rel q
theorem make_reads (hcm : c ∈ cm.cls) (hd : ∀ S, RepL X.K cm S dvs dd) {σ : Sg} {H : Hp} {Q : VK} (q : E X.K cm W (makeU c (arI n F) dd args) σ H Q) : tMakeS (cm.addr c) (spI X.K cm c n F) dvs (WE W.w) (EA X.K cm W args) σ H Q := by
  obtain ⟨st, S, fp, r, g⟩ := q
  exact ⟨st, S, fp, r, g.bind.mono fun ds S1 H1 x1 k1 vs hv x dx nx ndx ne => by
    have hv2 := hv.append (hd S1)
    replace k1 : Go X.K cm W (fun d S' H' => ∀ v, Rep X.K cm S' v d → Q v H') ((if (ds ++ dd).length = n then F (ds ++ dd) else .bad).bind fun fs => .ok (.ins c fs)) S1 H1 σ := k1
    split at k1
    · rename_i hl
      have sx : S1 x = none := x1.sh.free nx
      have sdx : S1 dx = none := x1.sh.free ndx
      have s2 : Same S1 (upd (upd H1 dx (.own x)) x (.ins (cm.addr c) dx [])) := same_upd2 (same_upd2 x1.sh sdx) sx
      have h1 : ∀ {H' : Hp}, Same (fun a => if a = x then none else (upd (upd H1 dx (.own x)) x (.ins (cm.addr c) dx [])) a) H' → Same H1 H' := fun {H'} s a o e => by
        have na : a ≠ x := fun z => by rw [z, nx] at e; cases e
        have nd : a ≠ dx := fun z => by rw [z, ndx] at e; cases e
        refine s a o ?_
        show (if a = x then none else (upd (upd H1 dx (.own x)) x (.ins (cm.addr c) dx [])) a) = some o
        rw [if_neg na, upd_ne na, upd_ne nd]
        exact e
      have h2 : ∀ {S' : Hp} {a : Addr} {o : HO}, (∀ a o, S' a = some o → S1 a = none → (if a = x then none else (upd (upd H1 dx (.own x)) x (.ins (cm.addr c) dx [])) a) = none) → S' a = some o → S1 a = none → a ≠ x → H1 a = none := fun {S' a o} fr e n na => by
        have z := fr a o e n
        rw [if_neg na, upd_ne na] at z
        by_cases nd : a = dx
        · rw [nd]; exact ndx
        · rw [upd_ne nd] at z; exact z
      refine ⟨by rw [List.length_cons, hv2.length, hl], x, dx, _, S1, ds ++ dd, rfl, s2, sx, upd_same, hv2, ?_⟩
      cases q : F (ds ++ dd) with
      | bad => rw [q] at k1; exact k1.elim
      | ex er =>
        rw [q] at k1
        intro cls od H' S' x2 hr
        refine k1 cls od H' S' ⟨x2.ss, x2.sh, h1 x2.hh, fun a o e n => ?_⟩ hr
        by_cases na : a = x
        · rw [na]; exact nx
        · exact h2 x2.fr e n na
      | ok fs =>
        rw [q] at k1
        intro H' S' ys dx' x2 nx' hx' hr'
        refine ⟨rfl, k1 H' (upd S' x (.ins (cm.addr c) dx' ((cm.names c).zip ys))) ⟨x2.ss.trans (same_upd nx'), fun a o e => ?_, h1 x2.hh, fun a o e n => ?_⟩ _ (.ins hcm upd_same (hr'.mono (same_upd nx')))⟩
        · by_cases na : a = x
          · rw [na, upd_same] at e; cases e; rw [na]; exact hx'
          · rw [upd_ne na] at e; exact x2.sh a o e
        · by_cases na : a = x
          · rw [na]; exact nx
          · rw [upd_ne na] at e; exact h2 x2.fr e n na
    · exact k1.elim⟩
theorem e_make {C : Addr} (hcm : c ∈ cm.cls) (hC : C = cm.addr c) (M : Mk X.K C f) (G : FnOk X.prog X.w X.K X.mg X.base (L2.CX X.prog X.w) k f fd ps (spI X.K cm c n F)) (tk : Takes X W.w) (hr : Room (k + 1) X.A) (hm : X.mg x = some (.ref C)) (hb : Binds X.K fd ps us) (hu : Vals dvs us) (hd : ∀ S, RepL X.K cm S dvs dd)
    (ha : PA X (e :: es) (EA X.K cm W args)) (hg : Gl X x := by rfl) (hdb : (x == ("__debug__" : Str)) = false := by decide) (he : starEach (e :: es) X.env = (false, eval e X.env) :: starEach es X.env := by rfl) (hpl : (backTo pos (starEach es X.env)).any (·.1) = false := by rfl) :
    PE X (.Call (.Name x p) (e :: es) [] pos) (E X.K cm W (makeU c (arI n F) dd args)) :=
  (pe_makeS M G hr hm hb hu (fun σ => passAt tk σ) ha hg hdb he hpl).imp fun σ H Q q => by
    subst hC
    exact make_reads hcm hd q
/-! ### o.m(..) -/
end
end DI
end
section
set_option Elab.async false
set_option linter.all false
set_option maxRecDepth 100000
set_option maxHeartbeats 2000000
/-! DI: built-ins. -/
namespace DI
open PySem PySem.Spec PyProof.Rows L2
section
variable {X : Cx} {cm : CM} {K : PySem.W.Frag} {S H : Hp}
theorem view1 {vs : List V} {d : D} (h : Paired (View K cm S H) vs [d]) : ∃ v, vs = [v] ∧ View K cm S H v d := by
  cases h with
  | cons a b => cases b; exact ⟨_, rfl, a⟩
theorem view2 {vs : List V} {d e : D} (h : Paired (View K cm S H) vs [d, e]) : ∃ v u, vs = [v, u] ∧ View K cm S H v d ∧ View K cm S H u e := by
  cases h with
  | cons a b =>
    obtain ⟨u, rfl, r⟩ := view1 b
    exact ⟨_, u, rfl, a, r⟩
/-! ### len -/
def rLen (K : PySem.W.Frag) : List V → Hp → VK → Prop := fun xs H Q => (∃ p ys, xs = [.ref p] ∧ (SqL K H p ys ∨ SqT K H p ys) ∧ Q (.int ys.length) H) ∨ ∃ z, xs = [.str z] ∧ z.length ≤ sizeLine ∧ Q (.int z.length) H
theorem c_len : CallR X (.builtin "len") (rLen X.K) := call_len_seq.or call_len_str
def dLen1 : D → Option D
  | .lst ds => some (.int ds.length)
  | .tup ds => some (.int ds.length)
  | .scr ds => some (.int ds.length)
  | .str z => if z.length ≤ sizeLine then some (.int z.length) else none
  | _ => none
def one (f : D → Option D) : List D → Option D
  | [d] => f d
  | _ => none
def two (f : D → D → Option D) : List D → Option D
  | [d, e] => f d e
  | _ => none
def dLen : List D → Option D := one dLen1
theorem one_some {α : Type} {f : D → Option D} {ds : List D} {z : D} (h : one f ds = some z) : ∃ d, ds = [d] ∧ f d = some z := by
  unfold one at h
  split at h
  · exact ⟨_, rfl, h⟩
  · cases h
theorem two_some {f : D → D → Option D} {ds : List D} {z : D} (h : two f ds = some z) : ∃ d e, ds = [d, e] ∧ f d e = some z := by
  unfold two at h
  split at h
  · exact ⟨_, _, rfl, h⟩
  · cases h
theorem d_len : OpN X.K cm (rLen X.K) dLen := by
  intro S H xs ds z Q sh hx ho k
  obtain ⟨d, rfl, h2⟩ := one_some (α := Unit) ho
  replace ho := h2
  clear h2
  obtain ⟨v, rfl, hv⟩ := view1 hx
  cases d <;> try (cases ho; done)
  case lst ds =>
    cases ho
    obtain ⟨a, us, rfl, ha, ra⟩ := hv.lst sh
    exact .inl ⟨a, us, rfl, .inl (SqL.of ha), by rw [ra.length]; exact k H S (Xt.refl sh) _ (.int _)⟩
  case tup ds =>
    cases ho
    obtain ⟨a, us, rfl, ha, ra⟩ := hv.tup
    exact .inl ⟨a, us, rfl, .inr (same_sqT sh ha), by rw [ra.length]; exact k H S (Xt.refl sh) _ (.int _)⟩
  case scr ds =>
    cases ho
    obtain ⟨a, us, rfl, ha, ra⟩ := hv.scr
    exact .inl ⟨a, us, rfl, .inl (same_sqL sh ha), by rw [ra.length]; exact k H S (Xt.refl sh) _ (.int _)⟩
  case str w =>
    replace ho : (if w.length ≤ sizeLine then some (D.int w.length) else none) = some z := ho
    split at ho
    · cases ho
      rw [hv.str]
      exact .inr ⟨w, rfl, by assumption, k H S (Xt.refl sh) _ (.int _)⟩
    · cases ho
/-! ### int, abs, min, max of two -/
def dInt1 : D → Option D
  | .int i => some (.int i)
  | .bl b => some (.int (if b = true then 1 else 0))
  | _ => none
def dToInt : List D → Option D := one dInt1
theorem d_toInt : OpN X.K cm (fun xs H Q => (∃ i, xs = [.int i] ∧ Q (.int i) H) ∨ ∃ k, xs = [.bl k] ∧ Q (.int (if k = true then 1 else 0)) H) dToInt := by
  intro S H xs ds z Q sh hx ho k
  obtain ⟨d, rfl, h2⟩ := one_some (α := Unit) ho
  replace ho := h2
  clear h2
  obtain ⟨v, rfl, hv⟩ := view1 hx
  cases d <;> try (cases ho; done)
  case int i =>
    cases ho
    rw [hv.int]
    exact .inl ⟨i, rfl, k H S (Xt.refl sh) _ (.int _)⟩
  case bl b =>
    cases ho
    rw [hv.bl]
    exact .inr ⟨b, rfl, k H S (Xt.refl sh) _ (.int _)⟩
def dMax2 : List D → Option D := two (dII fun i j => some (.int (if j > i then j else i)))
def dMin2 : List D → Option D := two (dII fun i j => some (.int (if j < i then j else i)))
theorem d_two {r : List V → Hp → VK → Prop} {g : Int → Int → Option D} (h : ∀ (i j : Int) (z : D) (H : Hp) (Q : VK), g i j = some z → ∃ v : V, (∀ S, Rep X.K cm S v z) ∧ (Q v H → r [.int i, .int j] H Q)) : OpN X.K cm r (two (dII g)) := by
  intro S H xs ds z Q sh hx ho k
  obtain ⟨d, e, rfl, h2⟩ := two_some ho
  replace ho := h2
  clear h2
  obtain ⟨v, u, rfl, hv, hu⟩ := view2 hx
  cases d <;> cases e <;> try (cases ho; done)
  case int.int i j =>
    rw [hv.int, hu.int]
    obtain ⟨y, hy, q⟩ := h i j z H Q ho
    exact q (k H S (Xt.refl sh) y (hy S))
theorem d_max2 : OpN X.K cm (fun xs H Q => ∃ i j, xs = [.int i, .int j] ∧ Q (.int (if j > i then j else i)) H) dMax2 := d_two fun i j z H Q e => by
  cases e
  exact ⟨_, fun _ => .int _, fun q => ⟨i, j, rfl, q⟩⟩
theorem d_min2 : OpN X.K cm (fun xs H Q => ∃ i j, xs = [.int i, .int j] ∧ Q (.int (if j < i then j else i)) H) dMin2 := d_two fun i j z H Q e => by
  cases e
  exact ⟨_, fun _ => .int _, fun q => ⟨i, j, rfl, q⟩⟩
/-! ### sums, greatest, least of a list of numbers -/
def dInts : List D → Option (List Int)
  | [] => some []
  | .int i :: ds => (dInts ds).map (i :: ·)
  | _ :: _ => none
theorem dInts_eq : ∀ {ds : List D} {ns : List Int}, dInts ds = some ns → ds = ns.map D.int
  | [], ns, h => by cases h; rfl
  | d :: ds, ns, h => by
    cases d <;> try (cases h; done)
    case int i =>
      replace h : (dInts ds).map (i :: ·) = some ns := h
      cases q : dInts ds with
      | none => rw [q] at h; cases h
      | some ms =>
        rw [q] at h
        cases h
        rw [dInts_eq q]
        rfl
theorem dInts_map : ∀ ns : List Int, dInts (ns.map D.int) = some ns
  | [] => rfl
  | n :: ns => by
    show (dInts (ns.map D.int)).map (n :: ·) = _
    rw [dInts_map ns]
    rfl
theorem rep_ints : ∀ {vs : List V} {ns : List Int}, RepL K cm S vs (ns.map D.int) → vs = ns.map V.int
  | [], [], _ => rfl
  | v :: vs, n :: ns, .cons h hs => by
    cases h
    rw [rep_ints hs]
    rfl
  | [], _ :: _, h => by cases h
  | _ :: _, [], h => by cases h
/-- the numbers of a list -/
def lstInts : D → Option (List Int)
  | .lst ds => dInts ds
  | _ => none
theorem lst_ints {v : V} {d : D} {ns : List Int} (sh : Same S H) (hv : View K cm S H v d) (h : lstInts d = some ns) : ∃ a, v = .ref a ∧ H a = some (.lst (ns.map V.int)) := by
  cases d <;> try (cases h; done)
  case lst ds =>
    obtain ⟨a, us, rfl, ha, ra⟩ := hv.lst sh
    rw [dInts_eq h] at ra
    rw [rep_ints ra] at ha
    exact ⟨a, rfl, ha⟩
/-! ### list, tuple, sorted -/
def dList1 : D → Option (List D)
  | .lst ds => some ds
  | .tup ds => some ds
  | .scr ds => some ds
  | _ => none
def oneF (f : D → Option (List D)) : List D → Option (List D)
  | [d] => f d
  | _ => none
theorem oneF_some {f : D → Option (List D)} {ds : List D} {z : List D} (h : oneF f ds = some z) : ∃ d, ds = [d] ∧ f d = some z := by
  unfold oneF at h
  split at h
  · exact ⟨_, rfl, h⟩
  · cases h
def dListF : List D → Option (List D) := oneF dList1
theorem d_listF : OpNF X.K cm (fun xs H Q => ∃ p ys, xs = [.ref p] ∧ (SqL X.K H p ys ∨ SqT X.K H p ys) ∧ ∀ l, H l = none → Q (.ref l) (upd H l (.lst ys))) dListF := by
  intro S H xs ds z Q sh hx ho k
  obtain ⟨d, rfl, h2⟩ := oneF_some ho
  replace ho := h2
  clear h2
  obtain ⟨v, rfl, hv⟩ := view1 hx
  cases d <;> try (cases ho; done)
  case lst ds =>
    cases ho
    obtain ⟨a, us, rfl, ha, ra⟩ := hv.lst sh
    exact ⟨a, us, rfl, .inl (SqL.of ha), fun l hl => k l us hl ra⟩
  case tup ds =>
    cases ho
    obtain ⟨a, us, rfl, ha, ra⟩ := hv.tup
    exact ⟨a, us, rfl, .inr (same_sqT sh ha), fun l hl => k l us hl ra⟩
  case scr ds =>
    cases ho
    obtain ⟨a, us, rfl, ha, ra⟩ := hv.scr
    exact ⟨a, us, rfl, .inl (same_sqL sh ha), fun l hl => k l us hl ra⟩
def dTuple : List D → Option D := one fun d => (dList1 d).map .tup
theorem d_tuple : OpN X.K cm (fun xs H Q => ∃ p ys, xs = [.ref p] ∧ ((SqL X.K H p ys ∧ ∀ l, H l = none → Q (.ref l) (upd H l (.tup ys))) ∨ (SqT X.K H p ys ∧ Q (.ref p) H))) dTuple := by
  intro S H xs ds z Q sh hx ho k
  obtain ⟨d, rfl, h2⟩ := one_some (α := Unit) ho
  replace ho := h2
  clear h2
  obtain ⟨v, rfl, hv⟩ := view1 hx
  cases d <;> try (cases ho; done)
  case lst ds =>
    cases ho
    obtain ⟨a, us, rfl, ha, ra⟩ := hv.lst sh
    exact ⟨a, us, rfl, .inl ⟨SqL.of ha, fin_tup sh ra k⟩⟩
  case tup ds =>
    cases ho
    obtain ⟨a, us, rfl, ha, ra⟩ := hv.tup
    exact ⟨a, us, rfl, .inr ⟨same_sqT sh ha, k H S (Xt.refl sh) _ (.tup ha ra)⟩⟩
  case scr ds =>
    cases ho
    obtain ⟨a, us, rfl, ha, ra⟩ := hv.scr
    exact ⟨a, us, rfl, .inl ⟨same_sqL sh ha, fin_tup sh ra k⟩⟩
/-- numbers in rising order -/
def insI (n : Int) : List Int → List Int
  | [] => [n]
  | m :: ms => if n ≤ m then n :: m :: ms else m :: insI n ms
def srtI : List Int → List Int
  | [] => []
  | n :: ns => insI n (srtI ns)
theorem insI_perm (n : Int) : ∀ ms : List Int, (insI n ms).Perm (n :: ms)
  | [] => .refl _
  | m :: ms => by
    unfold insI
    split
    · exact .refl _
    · exact (List.Perm.cons m (insI_perm n ms)).trans (List.Perm.swap n m ms)
theorem srtI_perm : ∀ ns : List Int, (srtI ns).Perm ns
  | [] => .refl _
  | n :: ns => (insI_perm n _).trans (List.Perm.cons n (srtI_perm ns))
theorem insI_up (n : Int) : ∀ {ms : List Int}, ms.Pairwise (· ≤ ·) → (insI n ms).Pairwise (· ≤ ·)
  | [], _ => by unfold insI; exact List.pairwise_singleton _ _
  | m :: ms, h => by
    obtain ⟨h1, h2⟩ := List.pairwise_cons.mp h
    unfold insI
    split
    · rename_i q
      exact List.pairwise_cons.mpr ⟨fun y hy => (List.mem_cons.mp hy).elim (fun e => by rw [e]; exact q) fun hy => Int.le_trans q (h1 y hy), h⟩
    · rename_i q
      refine List.pairwise_cons.mpr ⟨fun y hy => ?_, insI_up n h2⟩
      rcases List.mem_cons.mp ((insI_perm n ms).mem_iff.mp hy) with e | hy
      · omega
      · exact h1 y hy
theorem srtI_up : ∀ ns : List Int, (srtI ns).Pairwise (· ≤ ·)
  | [] => .nil
  | n :: ns => insI_up n (srtI_up ns)
theorem up_unique : ∀ {xs ys : List Int}, xs.Perm ys → xs.Pairwise (· ≤ ·) → ys.Pairwise (· ≤ ·) → xs = ys
  | [], ys, p, _, _ => (List.Perm.nil_eq p)
  | x :: xs, [], p, _, _ => by have := p.length_eq; simp at this
  | x :: xs, y :: ys, p, h1, h2 => by
    obtain ⟨a1, a2⟩ := List.pairwise_cons.mp h1
    obtain ⟨b1, b2⟩ := List.pairwise_cons.mp h2
    have e : x = y := by
      rcases List.mem_cons.mp (p.mem_iff.mp List.mem_cons_self) with e | m
      · exact e
      · rcases List.mem_cons.mp (p.mem_iff.mpr (List.mem_cons_self (a := y) (l := ys))) with e | m'
        · exact e.symm
        · exact Int.le_antisymm (a1 y m') (b1 x m)
    subst e
    rw [up_unique (List.Perm.cons_inv p) a2 b2]
def dSortF : List D → Option (List D) := oneF fun d => (lstInts d).map fun ns => (srtI ns).map D.int
theorem d_sortF : OpNF X.K cm (rSortedI X.K) dSortF := by
  intro S H xs ds z Q sh hx ho k
  obtain ⟨d, rfl, h2⟩ := oneF_some ho
  replace ho := h2
  clear h2
  obtain ⟨v, rfl, hv⟩ := view1 hx
  replace ho : ((lstInts d).map fun ns => (srtI ns).map D.int) = some z := ho
  cases q : lstInts d with
  | none => rw [q] at ho; cases ho
  | some ns =>
    rw [q] at ho
    cases ho
    obtain ⟨a, rfl, ha⟩ := lst_ints sh hv q
    refine ⟨a, ns, rfl, SqL.of ha, fun ns' p pm up hp => ?_⟩
    have e : ns' = srtI ns := up_unique (pm.trans (srtI_perm ns).symm) up (srtI_up ns)
    subst e
    exact k p _ hp (RepL.ints _)
end
end DI
end
section
set_option Elab.async false
set_option linter.all false
set_option maxRecDepth 100000
set_option maxHeartbeats 4000000
/-! DI: sets of tuples of numbers: made by a comprehension, sorted. -/
namespace DI
open PySem PySem.Spec PyProof.Rows L2
/-- a tuple of numbers comes to the set -/
theorem set_addT {P : Program} {w : World} {A : Around} {E : Value → Shared → Prop} {z : Shared} {a x : Addr} {k : List Int} {L : List (Addr × List Int)} {es : Array (Int × Value)} {ep : Nat} {t : SetTable} {Q : Value → Shared → Prop} (R : SetTR P w z.heap a L es ep t) (hx : IsT P w z.heap k x) (hu : A.units + 5 < cLine) (few : L.length + 1 < 64)
    (hQ : ∀ h' tk L' es' ep' t', Heap.SameBut a z.heap h' → SetTR P w h' a L' es' ep' t' → (k ∈ L.map (·.2) → L' = L) → (k ∉ L.map (·.2) → L'.Perm ((x, k) :: L)) → Q .none { z with heap := h', toks := tk }) :
    wpAny (model P w) A (call (.builtin "set.add") [.ref a, .ref x]) Q E z := by
  obtain ⟨o, ho, hex, hd⟩ := R.ob
  have ty : z.TypeIs (.ref a) "set" := ⟨o, ho, hex.1⟩
  refine wpAny_call_entry PySem.F.slot_set_add ty PySem.F.entry_set_add ?_ (PySem.F.args_set_add_2 _ _)
  unfold Builtin.«set.add» Builtin.Frozenset.oneOther
  simp only [List.isEmpty_nil, bind_assoc]
  unfold Builtin.Frozenset.addrOf setAdd
  refine wpAny_bind (wpAny_pure ?_)
  try dsimp only
  refine wpAny_bind (wpAny_pure ?_)
  try dsimp only
  refine wpAny_bind ?_
  refine wpAny_holding ?_
  refine wpAny_bind (wpAny_pyHash_tuple (by have : A.in1.units = A.units + 1 := rfl; omega) hx ?_)
  refine add_at (s := { z with toks := z.toks + (k.length + 1) }) R hx (by have : A.in1.units = A.units + 1 := rfl; omega) few fun b h' L' es' ep' t' sb r c1 c2 => ?_
  show wpAny _ _ (ret Value.none) _ _ _
  exact wpAny_pure ⟨_, rfl, hQ h' _ L' es' ep' t' sb r c1 c2⟩
section
variable {X : Cx} {cm : CM} {W : WH}
theorem tset_adds {pins : List (Addr × Obj)} {σ : Sg} {H : Hp} {s : Shared} {a x : Addr} {k : List Int} {L : List (Addr × List Int)} {Q : Value → Shared → Prop} {E : Value → Shared → Prop} (hu : X.A.units + 6 < cLine) (I : Inv X pins σ H s) (ha : H a = some (SetTO X.prog X.w a L)) (ht : ∀ p ∈ L, SqT X.K H p.1 (p.2.map V.int)) (hx : SqT X.K H x (k.map V.int)) (few : L.length + 1 < 64)
    (hQ : ∀ L', (k ∈ L.map (·.2) → L' = L) → (k ∉ L.map (·.2) → L'.Perm ((x, k) :: L)) → ∀ s', Inv X pins σ (upd H a (SetTO X.prog X.w a L')) s' → Q .none s') : wpAny (model X.prog X.w) X.A (call (.builtin "set.add") [.ref a, .ref x]) Q E s := by
  obtain ⟨es, ep, t, R⟩ := SetT0.full (I.hok a _ ha).1 fun p hp => I.isT (ht p hp)
  refine set_addT R (I.isT hx) (by omega) few fun h' tk L' es' ep' t' sb r c1 c2 => ?_
  obtain ⟨o, ho, _⟩ := id r.ob
  exact hQ L' c1 c2 _ (I.write (e := a) (t' := tk) (by rw [ha]; trivial) (.inl rfl) (fun b u hb hu => (sb.2 b hb).trans hu) ⟨o, ho⟩ (setTO_new r.t0))
/-- {elt for target in iter if ..}, elt a tuple of numbers: D the new set -/
def tSt (K : PySem.W.Frag) (P : Program) (w : World) (wi : TI) (g : TG) (tt : TT) (te : TE) (vs : List Nat) : TE := fun σ H Q => wi σ H fun J H1 => ∀ D, H1 D = none → ∃ W : Nat → Nat → Hp → Prop, (∃ m, W 0 m (upd H1 D (SetTO P w D []))) ∧ ∀ i m H, W i m H →
  (J.stop i H ∧ Q (.ref D) H) ∨ (J.go i H ∧ ∃ Nx : Hp → Prop, (∀ H', Nx H' → ∃ m', m' < m ∧ W (i + 1) m' H') ∧ ∀ x H', J.yld i H x H' → g x (wipe σ vs) H' fun σ2 H2 => wipe σ2 vs = wipe σ vs ∧ tt σ2 H2 fun b H3 =>
    if b = true then te σ2 H3 fun y H4 => ∃ (x : Addr) (k : List Int) (L : List (Addr × List Int)), y = .ref x ∧ SqT K H4 x (k.map V.int) ∧ H4 D = some (SetTO P w D L) ∧ (∀ p ∈ L, SqT K H4 p.1 (p.2.map V.int)) ∧ L.length + 1 < 64 ∧
      ∀ L', (k ∈ L.map (·.2) → L' = L) → (k ∉ L.map (·.2) → L'.Perm ((x, k) :: L)) → Nx (upd H4 D (SetTO P w D L')) else Nx H3)
end
section
variable {Y : Cx}
open PpSet
theorem tset_core {pp : List (Addr × Obj)} {z : Shared} {τ : L2.St} {G : Hp} {Q : VK} {elt tg iter : Expr} {ifs : List Expr} {scope : Scope} {own : List (Str × Nat)} {pos pos' : Pos} {wi : TI} {g : TG} {tt : TT} {te : TE} {use : Option (Value → Sem Unit)} {Qf : Value → Shared → Prop}
    (kroom : Y.A.units + 6 < cLine) (kc : Y.calm = true) (kN : Y.N.Nodup) (J : Inv Y pp τ G z) (ki : PI Y tg iter wi) (okb : BlkOk Y.N Y.env.scope scope own)
    (kg : ∀ (z : Shared) (G : Hp) (C : Addr) (cl : List (Str × Addr)) (mem : List Addr), PG (Y.blk z G scope (compEnvC scope cl C Y.env) mem) tg g) (kt : ∀ (z : Shared) (G : Hp) (C : Addr) (cl : List (Str × Addr)) (mem : List Addr), PTs (Y.blk z G scope (compEnvC scope cl C Y.env) mem) ifs tt)
    (ke : ∀ (z : Shared) (G : Hp) (C : Addr) (cl : List (Str × Addr)) (mem : List Addr), PE (Y.blk z G scope (compEnvC scope cl C Y.env) mem) elt te) (ks : ∀ x, foldedSetIterable iter Y.env x = pure x)
    (ask : tSt Y.K Y.prog Y.w wi g tt te (own.map (·.2)) τ G Q)
    (kR : ∀ B C z' m G', Inv Y pp τ G' z' → Q (.ref B) G' → z'.heap.Ns C m → FpOk Y pp G' C → compPost (model Y.prog Y.w) Y.A Y.xe use Qf (.ref B) C (.ok .next) z') :
    wpAny (model Y.prog Y.w) Y.A (comprehension (.SetComp elt [⟨tg, iter, ifs, 0⟩] scope pos) scope Y.env pos' (newSet (.type "set")) false (eval iter Y.env) use) Qf Y.xe z := by
  have frees : ∀ y ∈ scope.names, y.2 = .free → ∃ c, Y.env.cells.lookup y.1 = some c := fun y hy e => by
    rcases okb.free y hy e with k | k
    · exact J.ok.has _ (.inl k)
    · exact J.ok.has _ (.inr k)
  refine wpAny_comprehension_free (use := use) rfl ks (closure_ok frees) okb.kind (fun y hy e => by rw [okb.uniq y hy, e])
    (thn (ki.run pp z τ G _ J ask) fun xw s1 hx => thn hx fun itrv z2 got2 => ?_)
  obtain ⟨itr, mem, sta, Jt, G2, e, J2, tr, sz2, fo2, q⟩ := got2
  subst e
  refine newSet_ok (newEnv_comp ?_)
  generalize eB : z2.heap.objs.size = B
  have nB : G2 B = none := J2.hok.fresh (Nat.le_of_eq eB)
  obtain ⟨Inw, ⟨m0, iw0⟩, trn⟩ := q B nB
  -- the new list
  generalize ez3 : ({ z2 with heap := z2.heap.push { cls := .type "set", dict := none, data := .set #[] 0 (.fresh 0 0 (!Y.w.params.followText "set-order")) } } : Shared) = z3
  have J3 : Inv Y pp τ (upd G2 B (SetTO Y.prog Y.w B [])) z3 := by
    rw [← ez3]
    refine J2.laid (t' := z2.toks) (fun b o e => Heap.get?_push_of_some _ e) (Nat.le_of_eq eB) ?_
    rw [← eB]
    exact setTO_new (SetTR.t0 (setTR_fresh (Heap.get?_push_size _ rfl)))
  have got3 : z3.heap = z2.heap.push { cls := .type "set", dict := none, data := .set #[] 0 (.fresh 0 0 (!Y.w.params.followText "set-order")) } := by rw [← ez3]
  have siz : ∀ b ∈ mem, b < z2.heap.objs.size := fun b hb => by
    obtain ⟨o, e, _⟩ := tr.obj _ _ sz2 b hb
    exact Heap.lt_size e
  have fo3 : ∀ b ∈ mem, FpOk Y pp (upd G2 B (SetTO Y.prog Y.w B [])) b ∧ b < z3.heap.objs.size := fun b hb => by
    have hlt := siz b hb
    refine ⟨⟨?_, (fo2 b hb).2⟩, by rw [got3, Heap.size_push]; exact Nat.lt_succ_of_lt hlt⟩
    rw [upd_ne (by rw [← eB]; exact Nat.ne_of_lt hlt)]
    exact (fo2 b hb).1
  have sz3 : sta 0 z3.heap := tr.keep _ _ _ sz2 fun b _ o e => by rw [got3]; exact Heap.get?_push_of_some _ e
  have J4 := block_start J3 okb kN fo3
  have qg := kg z3 (upd G2 B (SetTO Y.prog Y.w B [])) z3.heap.objs.size (cellsFrom (z3.heap.objs.size + 1) scope.names (cloFrom Y.env.cells scope.names [])) mem
  have qt := kt z3 (upd G2 B (SetTO Y.prog Y.w B [])) z3.heap.objs.size (cellsFrom (z3.heap.objs.size + 1) scope.names (cloFrom Y.env.cells scope.names [])) mem
  have qe := ke z3 (upd G2 B (SetTO Y.prog Y.w B [])) z3.heap.objs.size (cellsFrom (z3.heap.objs.size + 1) scope.names (cloFrom Y.env.cells scope.names [])) mem
  show codeAny _ _ (.compStart (.SetComp elt [⟨tg, iter, ifs, 0⟩] scope pos) 0 (.ref itr) (.ref B) (compEnvC scope (cellsFrom (z3.heap.objs.size + 1) scope.names (cloFrom Y.env.cells scope.names [])) z3.heap.objs.size Y.env)) (compPost (model Y.prog Y.w) Y.A Y.xe use Qf (.ref B) z3.heap.objs.size) { z3 with heap := pushCells (z3.heap.push { cls := .type "dict", data := .dict #[] }) scope.names }
  have nmem : ∀ b ∈ mem, (upd G2 B (SetTO Y.prog Y.w B [])) b = none := fun b hb => (fo3 b hb).1.1
  generalize ece : compEnvC scope (cellsFrom (z3.heap.objs.size + 1) scope.names (cloFrom Y.env.cells scope.names [])) z3.heap.objs.size Y.env = env1 at J4 qg qt qe ⊢
  have eL : env1.locals = z3.heap.objs.size := by subst ece; rfl
  generalize eG3 : upd G2 B (SetTO Y.prog Y.w B []) = G3 at J3 J4 qg qt qe iw0 nmem fo3
  generalize ez4 : ({ z3 with heap := pushCells (z3.heap.push { cls := .type "dict", data := .dict #[] }) scope.names } : Shared) = z4 at J4 ⊢
  have sz4 : sta 0 z4.heap := tr.keep _ _ _ sz3 fun b _ o e => by rw [← ez4]; exact pushCells_keeps _ _ _ _ (Heap.get?_push_of_some _ e)
  have still : ∀ {τ' : L2.St} {G' : Hp} {z' : Shared}, Inv (Y.blk z3 G3 scope env1 mem) [] τ' G' z' → (∀ b ∈ mem, G' b = none) → ∀ b ∈ mem, FpOk (Y.blk z3 G3 scope env1 mem) [] G' b := fun {τ' G' z'} J' hn b hb =>
    ⟨hn b hb, (J'.ok.exf b hb).1, J'.ok.exfs b hb, .inl hb, fun x c e => (J'.ok.exf b hb).2 x c e, fun p hp => absurd (show p ∈ ([] : List (Addr × Obj)) ++ [] from hp) (by simp)⟩
  have walk1 : codeAny (model Y.prog Y.w) Y.A (.compLoop (.SetComp elt [⟨tg, iter, ifs, 0⟩] scope pos) 0 (.ref itr) (.ref B) env1) (compPost (model Y.prog Y.w) Y.A Y.xe use Qf (.ref B) z3.heap.objs.size) z4 := by
    refine compLoopS_any (fun nn z' => ∃ i G', Inv (Y.blk z3 G3 scope env1 mem) [] (wipe τ (own.map (·.2))) G' z' ∧ sta i z'.heap ∧ (∀ b ∈ mem, G' b = none) ∧ Inw i nn G') ?_ m0 ⟨0, G3, J4, sz4, nmem, iw0⟩
    rintro nn z5 ⟨i, G5, J5, sz5, nn5, iw5⟩
    rcases trn i nn G5 iw5 with ⟨stop, qq⟩ | ⟨go, Nx, hNx, step⟩
    · have fd := tr.done (Y.blk z3 G3 scope env1 mem) rfl rfl rfl kc i [] z5 _ G5 (fun _ _ => False) J5 (still J5 nn5) sz5 stop
      refine thnF fd fun r z6 ⟨er, J6⟩ => ?_
      subst er
      -- back in the def's context
      have J7 : Inv Y pp τ G5 z6 := J3.call' (ch := mem) J6.os J6.base J6.hok J6.bare fun b hb => ⟨(fo3 b hb).1.2.2.2.1, (fo3 b hb).1.2.1, (fo3 b hb).1.2.2.2.2.1, (fo3 b hb).1.2.2.2.2.2⟩
      have nC : G5 z3.heap.objs.size = none := by
        have z : G5 env1.locals = none := J6.free
        rw [eL] at z
        exact z
      obtain ⟨m, hn, _⟩ := J6.loc
      have hn : z6.heap.Ns env1.locals m := hn
      rw [eL] at hn
      exact kR B z3.heap.objs.size z6 m G5 J7 qq hn (J3.fpOk (Nat.le_refl _) nC)
    · have fi := tr.item (Y.blk z3 G3 scope env1 mem) rfl rfl rfl kc i [] z5 _ G5 (fun _ _ => False) J5 (still J5 nn5) sz5 go
      refine thnF fi fun r z6 ⟨u, er, h6⟩ => ?_
      subst er
      refine thnF h6 fun _ z7 ⟨x, G7, J7, r7, y7, sz7, nn7⟩ => ?_
      have J7' := J7.pinned (still J7 nn7) (tr.obj _ _ sz7)
      refine thnF (qg.run _ z7 _ G7 x u _ J7' r7 (step x G7 y7)) fun _ z8 ⟨τ8, G8, J8, hw8, q8⟩ => ?_
      refine thnF (qt.run _ z8 τ8 G8 _ J8 q8) fun b z9 ⟨G9, J9, q9⟩ => ?_
      -- the turn's end
      have turned : ∀ {z' : Shared} {G' : Hp}, Inv (Y.blk z3 G3 scope env1 mem) ([] ++ pinsAt mem z7.heap) τ8 G' z' → Nx G' → ∃ m, m < nn ∧ ∃ i G', Inv (Y.blk z3 G3 scope env1 mem) [] (wipe τ (own.map (·.2))) G' z' ∧ sta i z'.heap ∧ (∀ b ∈ mem, G' b = none) ∧ Inw i m G' := fun {z' G'} J' nx => by
        obtain ⟨m', hm, w'⟩ := hNx G' nx
        have pin' : ∀ b ∈ mem, ∀ o, z7.heap.get? b = some o → z'.heap.get? b = some o ∧ G' b = none := fun b hb o e =>
          let z := J'.pin (b, o) (List.mem_append_right _ (List.mem_append_right _ (mem_pinsAt hb e)))
          ⟨z.1, z.2.1⟩
        have hl : (wipe τ (own.map (·.2))).length = τ8.length := by rw [← hw8, wipe_length]
        refine ⟨m', hm, i + 1, G', (J'.unpinned (pins := [])).weak hl (fun j v e => ?_), tr.keep _ _ _ sz7 fun b hb o e => (pin' b hb o e).1, fun b hb => ?_, w'⟩
        · rw [← hw8] at e
          exact (wipe_some e).1
        · obtain ⟨o, e, _⟩ := tr.obj _ _ sz7 b hb
          exact (pin' b hb o e).2
      cases b with
      | false =>
        simp only [Bool.false_eq_true, if_false] at q9 ⊢
        exact turned J9 q9
      | true =>
        simp only [if_true] at q9 ⊢
        refine thnF (qe.run _ z9 τ8 G9 _ J9 q9) fun w1 z10 ⟨yv, G10, J10, r10, xa, ks1, L0, ey, hxa, hD10, hL0, hz10, nx⟩ => ?_
        subst ey
        cases (show w1 = Value.ref xa from r10)
        exact tset_adds (X := Y.blk z3 G3 scope env1 mem) kroom J10 hD10 hL0 hxa hz10 fun L1 c1 c2 z11 J11 => turned J11 (nx L1 c1 c2)
  exact codeAny_compStart_set walk1 (tr.self Y.A 0 _ _ _ sz4 walk1)
end
/-! ### the data -/
def tupInts : D → Option (List Int)
  | .tup ds => dInts ds
  | _ => none
def keysOf : List D → Option (List (List Int))
  | [] => some []
  | d :: ds => match tupInts d, keysOf ds with
    | some k, some ks => some (k :: ks)
    | _, _ => none
/-- what comes into a set: once -/
def addK (xs : List (List Int)) (k : List Int) : List (List Int) := if k ∈ xs then xs else xs ++ [k]
def onceK (ks : List (List Int)) : List (List Int) := ks.foldl addK []
def setR (fi : LS → R (List D)) (vs : List Nat) (g : D → LS → Option LS) (t : LS → R Bool) (f : LS → R D) : LS → R (List (List Int)) := fun st => (compR fi vs g t f st).bind fun ys => match keysOf ys with
  | some ks => if ks.length < 64 then .ok ks else .bad
  | none => .bad
def setE (fi : LS → R (List D)) (vs : List Nat) (g : D → LS → Option LS) (t : LS → R Bool) (f : LS → R D) : LS → R D := fun st => (setR fi vs g t f st).bind fun ks => .ok (.tset (onceK ks))
theorem keysOf_append : ∀ {xs ys : List D} {ks : List (List Int)}, keysOf (xs ++ ys) = some ks → ∃ k1 k2, keysOf xs = some k1 ∧ keysOf ys = some k2 ∧ ks = k1 ++ k2
  | [], ys, ks, h => ⟨[], ks, rfl, h, rfl⟩
  | d :: xs, ys, ks, h => by
    rw [List.cons_append] at h
    unfold keysOf at h
    split at h
    · rename_i k ks' e1 e2
      cases h
      obtain ⟨k1, k2, a, b, c⟩ := keysOf_append e2
      refine ⟨k :: k1, k2, ?_, b, by rw [c]; rfl⟩
      unfold keysOf
      rw [e1, a]
    · cases h
theorem tup_ints {K : PySem.W.Frag} {cm : CM} {S : Hp} {v : V} {d : D} {k : List Int} (h : Rep K cm S v d) (e : tupInts d = some k) : ∃ x, v = .ref x ∧ SqT K S x (k.map V.int) := by
  cases d <;> try (cases e; done)
  case tup ds =>
    cases h with
    | @tup a xs _ h1 h2 =>
      rw [dInts_eq e] at h2
      rw [rep_ints h2] at h1
      exact ⟨a, rfl, h1⟩
theorem onceK_snoc (ks : List (List Int)) (k : List Int) : onceK (ks ++ [k]) = addK (onceK ks) k := by
  unfold onceK
  rw [List.foldl_append]
  rfl
theorem addK_len (xs : List (List Int)) (k : List Int) : (addK xs k).length ≤ xs.length + 1 := by
  unfold addK
  split
  · omega
  · simp
theorem onceK_len : ∀ ks : List (List Int), (onceK ks).length ≤ ks.length := by
  intro ks
  have gen : ∀ (ks xs : List (List Int)), (ks.foldl addK xs).length ≤ xs.length + ks.length := by
    intro ks
    induction ks with
    | nil => intro xs; simp
    | cons k ks ih =>
      intro xs
      have h1 := ih (addK xs k)
      have h2 := addK_len xs k
      simp only [List.foldl_cons, List.length_cons]
      omega
  have := gen ks []
  rw [List.length_nil, Nat.zero_add] at this
  exact this
section
variable {X : Cx} {cm : CM} {W : WH} {fi : LS → R (List D)} {vs : List Nat} {g : D → LS → Option LS} {t : LS → R Bool} {f : LS → R D}
theorem tset_reads {σ : Sg} {H : Hp} {Q : VK} (hset : cm.setO = SetTO X.prog X.w) (k : E X.K cm W (setE fi vs g t f) σ H Q) : tSt X.K X.prog X.w (IV X.K cm W fi) (GX X.K cm vs g) (TB X.K cm WF t) (E X.K cm WF f) vs σ H Q := by
  obtain ⟨st, S, fp, r, k⟩ := k
  refine ⟨st, S, fp, r, ?_⟩
  cases qf : fi st with
  | bad => unfold setE setR compR at k; rw [qf] at k; exact k.elim
  | ex e => unfold setE setR compR at k; rw [qf] at k; exact k
  | ok ds =>
    intro H1 S1 x1 J w L0 hL
    replace k : Go X.K cm W (fun d S' H' => ∀ v, Rep X.K cm S' v d → Q v H') ((((if ds.length ≤ sizeLine then compL g t f (wipeS st vs) ds else .bad).bind fun ys => match keysOf ys with
      | some ks => if ks.length < 64 then R.ok ks else .bad
      | none => .bad).bind fun ks => .ok (.tset (onceK ks)))) S H σ := by
      unfold setE setR compR at k
      rw [qf] at k
      exact k
    by_cases hlen : ds.length ≤ sizeLine
    case neg => rw [if_neg hlen] at k; exact k.elim
    rw [if_pos hlen] at k
    obtain ⟨fp0, r0, b0⟩ := (r.ext x1).wipe (W' := WF) vs
    have s1L : S1 L0 = none := x1.sh.free hL
    rcases compL_ok (g := g) (t := t) (f := f) (st := wipeS st vs) ds with qz | ⟨zs, qz⟩
    · rw [qz] at k; exact k.elim
    rw [qz] at k
    cases qk : keysOf zs with
    | none =>
      replace k : Go X.K cm W (fun d S' H' => ∀ v, Rep X.K cm S' v d → Q v H') ((match keysOf zs with
        | some ks => if ks.length < 64 then R.ok ks else .bad
        | none => .bad).bind fun ks => .ok (.tset (onceK ks))) S H σ := k
      rw [qk] at k
      exact k.elim
    | some kz =>
    replace k : Go X.K cm W (fun d S' H' => ∀ v, Rep X.K cm S' v d → Q v H') ((match keysOf zs with
      | some ks => if ks.length < 64 then R.ok ks else .bad
      | none => .bad).bind fun ks => .ok (.tset (onceK ks))) S H σ := k
    rw [qk] at k
    replace k : Go X.K cm W (fun d S' H' => ∀ v, Rep X.K cm S' v d → Q v H') ((if kz.length < 64 then R.ok kz else .bad).bind fun ks => .ok (.tset (onceK ks))) S H σ := k
    by_cases few : kz.length < 64
    case neg => rw [if_neg few] at k; exact k.elim
    rw [if_pos few] at k
    replace k : ∀ H' S', Xt S S' H H' → ∀ v, Rep X.K cm S' v (.tset (onceK kz)) → Q v H' := k
    let Good : Nat → Hp → Prop := fun i H => ∃ S' L ys us ky, Xt S1 S' H1 H ∧ S' L0 = none ∧ H L0 = some (SetTO X.prog X.w L0 L) ∧ (∀ p ∈ L, SqT X.K S' p.1 (p.2.map V.int)) ∧ keysOf ys = some ky ∧ (L.map (·.2)).Perm (onceK ky) ∧ compL g t f (wipeS st vs) (ds.drop i) = .ok us ∧ zs = ys ++ us
    refine ⟨fun i m H => m = ds.length - i ∧ i ≤ ds.length ∧ Good i H, ⟨_, rfl, Nat.zero_le _, S1, [], [], zs, [], Xt.own x1.sh hL, s1L, upd_same, fun p m => (nomatch m), rfl, List.Perm.refl _, by rw [List.drop_zero]; exact qz, rfl⟩, ?_⟩
    rintro i m H2 ⟨rfl, hi, S2, L, ys, us, ky, x2, n2, hA, hT, hky, pm, q2, qe⟩
    obtain ⟨w1, w2⟩ := w i S2 H2 x2.ss x2.sh x2.hh
    cases q3 : ds[i]? with
    | none =>
      have hl : ds.length ≤ i := List.getElem?_eq_none_iff.mp q3
      rw [List.drop_eq_nil_of_le hl] at q2
      cases q2
      rw [List.append_nil] at qe
      subst qe
      rw [hky] at qk
      cases qk
      refine .inl ⟨w2 (Nat.le_antisymm hl hi), k H2 (upd S2 L0 (SetTO X.prog X.w L0 L)) ⟨(x1.ss.trans x2.ss).trans (same_upd n2), fun b o e => ?_, x1.hh.trans x2.hh, fun b o e n => ?_⟩ _ (.tset (L := L) (by rw [hset]; exact upd_same) (fun p m => same_sqT (same_upd n2) (hT p m)) pm)⟩
      · by_cases hb : b = L0
        · subst hb; rw [upd_same] at e; cases e; exact hA
        · rw [upd_ne hb] at e; exact x2.sh b o e
      · by_cases hb : b = L0
        · subst hb; exact x1.hh.free hL
        · rw [upd_ne hb] at e; exact (x1.trans x2).fr b o e n
    | some d =>
      have hl : i < ds.length := (List.getElem?_eq_some_iff.mp q3).1
      obtain ⟨go, y⟩ := w1 d q3
      rw [drop_get q3] at q2
      refine .inr ⟨go, fun H => i + 1 ≤ ds.length ∧ Good (i + 1) H, fun H' n => ⟨ds.length - (i + 1), by omega, rfl, n⟩, fun v H3 hy => ?_⟩
      obtain ⟨S3, x3, hv⟩ := y v H3 hy
      replace q2 : (match g d (wipeS st vs) with
        | none => .bad
        | some st1 => (t st1).noex.bind fun b => if b = true then (f st1).noex.bind fun y => (compL g t f (wipeS st vs) (ds.drop (i + 1))).bind fun ys => .ok (y :: ys) else compL g t f (wipeS st vs) (ds.drop (i + 1))) = R.ok us := q2
      cases q4 : g d (wipeS st vs) with
      | none => rw [q4] at q2; cases q2
      | some st4 =>
        rw [q4] at q2
        obtain ⟨b, q5, q6⟩ := R.noex_ok q2
        have x13 := x2.trans x3
        have keepL : ∀ {S' H' : Hp}, Xt S2 S' H2 H' → S' L0 = none ∧ H' L0 = some (SetTO X.prog X.w L0 L) := fun {S' H'} x => by
          refine ⟨?_, x.hh _ _ hA⟩
          cases q : S' L0 with
          | none => rfl
          | some o =>
            have z := x.fr L0 o q n2
            rw [hA] at z
            cases z
        refine ⟨wipeS st vs, S3, fp0, d, r0.ext x13, hv, st4, q4, fun σ4 fp4 r4 b4 k4 => ⟨?_, st4, S3, fp4, r4, ?_⟩⟩
        · have e1 := k4.wipe
          rw [e1]
          apply List.ext_getElem?
          intro j
          rw [wipe_get]
          split
          · rename_i hj
            rw [wipe_get, if_pos hj]
            cases σ[j]? <;> rfl
          · rfl
        · rw [q5]
          intro H5 S5 x5
          have s25 : Same S2 S5 := x3.ss.trans x5.ss
          cases b with
          | false =>
            obtain ⟨n5, hA5⟩ := keepL (x3.trans x5)
            exact ⟨hl, S5, L, ys, us, ky, x13.trans x5, n5, hA5, fun p m => same_sqT s25 (hT p m), hky, pm, q6, qe⟩
          | true =>
            obtain ⟨u, q7, q8⟩ := R.noex_ok q6
            obtain ⟨us', q9, q10⟩ := R.bind_ok q8
            cases q10
            refine ⟨st4, S5, fp4, r4.ext x5, ?_⟩
            rw [q7]
            intro H6 S6 x6 z hz
            obtain ⟨n6, hA6⟩ := keepL ((x3.trans x5).trans x6)
            rw [qe] at qk
            obtain ⟨k1, k2, e1, e2, e3⟩ := keysOf_append qk
            rw [hky] at e1
            cases e1
            have e4 : ∃ ku, tupInts u = some ku ∧ ∃ kr, k2 = ku :: kr := by
              unfold keysOf at e2
              split at e2
              · rename_i ku kr a1 a2
                cases e2
                exact ⟨ku, a1, kr, rfl⟩
              · cases e2
            obtain ⟨ku, hku, kr, rfl⟩ := e4
            obtain ⟨xa, rfl, hxa⟩ := tup_ints hz hku
            have s26 : Same S2 S6 := s25.trans x6.ss
            have hT6 : ∀ p ∈ L, SqT X.K S6 p.1 (p.2.map V.int) := fun p m => same_sqT s26 (hT p m)
            have lenL : L.length ≤ ky.length := by
              have := pm.length_eq
              rw [List.length_map] at this
              rw [this]
              exact onceK_len ky
            have lenZ : ky.length + 1 ≤ kz.length := by rw [e3]; simp
            refine ⟨xa, ku, L, rfl, same_sqT x6.sh hxa, hA6, fun p m => same_sqT x6.sh (hT6 p m), by omega, fun L' c1 c2 => ⟨hl, S6, L', ys ++ [u], us', ky ++ [ku], ?_, n6, upd_same, fun p m => ?_, ?_, ?_, q9, by rw [qe]; simp⟩⟩
            · have xx := (x13.trans x5).trans x6
              exact ⟨xx.ss, same_upd2 xx.sh n6, fun b o e => by
                have ne : b ≠ L0 := fun z => by rw [z, hL] at e; cases e
                rw [upd_ne ne]
                exact xx.hh b o e, xx.fr⟩
            · rcases Classical.em (ku ∈ L.map (·.2)) with c | c
              · rw [c1 c] at m; exact hT6 p m
              · rcases List.mem_cons.mp ((c2 c).mem_iff.mp m) with e | m
                · rw [e]; exact hxa
                · exact hT6 p m
            · have gen : ∀ {a : List D} {ka : List (List Int)}, keysOf a = some ka → keysOf (a ++ [u]) = some (ka ++ [ku]) := by
                intro a
                induction a with
                | nil =>
                  intro ka h
                  cases h
                  show keysOf [u] = _
                  unfold keysOf
                  rw [hku]
                  rfl
                | cons d0 a ih =>
                  intro ka h
                  unfold keysOf at h
                  split at h
                  · rename_i k0 ks0 a1 a2
                    cases h
                    show keysOf (d0 :: (a ++ [u])) = _
                    unfold keysOf
                    rw [a1, ih a2]
                    rfl
                  · cases h
              exact gen hky
            · rw [onceK_snoc]
              unfold addK
              rcases Classical.em (ku ∈ L.map (·.2)) with c | c
              · rw [c1 c, if_pos (pm.mem_iff.mp c)]
                exact pm
              · rw [if_neg fun z => c (pm.mem_iff.mpr z)]
                have p2 := (c2 c).map (·.2)
                rw [List.map_cons] at p2
                exact (p2.trans (List.Perm.cons ku pm)).trans (List.perm_append_comm (l₁ := [ku]))
variable {elt tg iter : Expr} {ifs : List Expr} {scope : Scope} {own : List (Str × Nat)} {pos : Pos}
theorem e_sc {k : Nat} (hset : cm.setO = SetTO X.prog X.w) (hr : Room k X.A) (hi : PI X tg iter (IV X.K cm W fi)) (ok : BlkOk X.N X.env.scope scope own) (hg : BX X scope fun Y => PG Y tg (GX X.K cm (own.map (·.2)) g)) (ht : BX X scope fun Y => PTs Y ifs (TB X.K cm WF t)) (he : BX X scope fun Y => PE Y elt (E X.K cm WF f))
    (hN : X.N.Nodup) (hc : X.calm = true := by rfl) (hs : ∀ x, foldedSetIterable iter X.env x = pure x := by intro _; rfl) : PE X (.SetComp elt [⟨tg, iter, ifs, 0⟩] scope pos) (E X.K cm W (setE fi (own.map (·.2)) g t f)) := by
  refine ⟨fun pins s σ H Q I h => ?_⟩
  rw [PpSet.eval_SetComp]
  refine tset_core (by have := hr.un; omega) hc hN I hi ok hg ht he hs (tset_reads hset h) fun B C s' m H' I' q hn f => ⟨m, hn, fun h'' sb => ?_⟩
  obtain ⟨f0, f1, f2, f3, f4, f5⟩ := f
  exact ⟨.ref B, H', I'.turned (t' := s'.toks) (fun b o hb e => (sb.2 b hb).trans e) f0 f1 f3 f4 f5, rfl, q⟩
end
end DI
end
section
set_option Elab.async false
set_option linter.all false
set_option maxRecDepth 100000
set_option maxHeartbeats 2000000
/-! DI: isinstance, own operators, methods. -/
namespace DI
open PySem PySem.Spec PyProof.Rows L2
/-! ### types -/
inductive BT where
  | non | bool | int | str | tuple | list
def BT.nm : BT → String
  | .non => "NoneType"
  | .bool => "bool"
  | .int => "int"
  | .str => "str"
  | .tuple => "tuple"
  | .list => "list"
/-- a type: a built-in one, an own class by its tag -/
inductive TY where
  | b (t : BT)
  | c (k : Nat)
def TY.vl (cm : CM) : TY → Value
  | .b t => .type t.nm
  | .c k => .ref (cm.addr k)
def D.ty : D → Option TY
  | .non => some (.b .non)
  | .bl _ => some (.b .bool)
  | .int _ => some (.b .int)
  | .str _ => some (.b .str)
  | .tup _ => some (.b .tuple)
  | .lst _ => some (.b .list)
  | .scr _ => some (.b .list)
  | .ins c _ => some (.c c)
  | .tset _ => none
  | .dct _ _ _ => none
  | .rng _ _ => none
  | .nd _ _ => none
def BT.sub : BT → BT → Bool
  | .non, .non => true
  | .bool, .bool => true
  | .bool, .int => true
  | .int, .int => true
  | .str, .str => true
  | .tuple, .tuple => true
  | .list, .list => true
  | _, _ => false
/-- is a value of this type an instance of that one; sub: the classes' own order -/
def TY.sub (sub : Nat → Nat → Bool) : TY → TY → Bool
  | .b s, .b t => s.sub t
  | .c k, .c j => sub k j
  | _, _ => false
def dIs (sub : Nat → Nat → Bool) (ts : List TY) : D → Option D := fun d => d.ty.map fun t => .bl (ts.any (t.sub sub))
/-- a dict with nested keys: its entries, each with the key's own tuple -/
def NDO (P : Program) (w : World) (a : Addr) (ps : List (NestedKey × Addr × V)) : HO := .ext fun h =>
  (a == sysModules) = false ∧ ps.length ≤ sizeLine ∧ ∃ xs : List (NestedKey × Addr × Value), Paired (fun p q => p.1 = q.1 ∧ p.2.1 = q.2.1 ∧ RelV p.2.2 q.2.2) ps xs ∧
    ∃ o es ep, h.get? a = some o ∧ o.ExactDict ∧ o.data = .dict es ep ∧ es.toList = xs.map (entryOfKey (nestedKind P w)) ∧ (xs.map (·.1)).Nodup
/-- what is known of an own class -/
structure ClsOk (K : PySem.W.Frag) (C : Addr) : Prop where
  cl : Cls K C
  ca : PySem.W.findIn K (.ref C) "__class__" = some (some (.builtin "object.__class__"))
  cn : PySem.W.specialIn K (.builtin "object.__class__") "__get__" = some (some (.builtin "getset_descriptor.__get__"))
  ct : PySem.W.takesIn K (.builtin "object.__class__") = some true
  cm : PySem.W.mroIn K C (.type "object") = some true
section
variable {K : PySem.W.Frag} {cm : CM} {S H : Hp}
theorem tyx_lst {a : Addr} {xs : List V} (h : SqL K H a xs) : TyX K H (.ref a) (.type "list") := by
  rcases h with (h | ⟨o, h⟩) | ⟨o, _, _, h, c, _⟩
  · exact .base (.lst h)
  · exact .base (.frz h)
  · exact .kList h c
theorem tyx_tup {a : Addr} {xs : List V} (h : SqT K H a xs) : TyX K H (.ref a) (.type "tuple") := by
  rcases h with (h | ⟨o, h⟩) | ⟨o, _, _, h, c, _⟩
  · exact .base (.tup h)
  · exact .fTuple h
  · exact .kTuple h c
theorem tyx_of {v : V} {d : D} {t : TY} (ok : ∀ c ∈ cm.cls, ClsOk K (cm.addr c)) (sh : Same S H) (h : View K cm S H v d) (e : d.ty = some t) : TyX K H v (t.vl cm) := by
  rcases h with h | ⟨a, vs, ds, rfl, rfl, h, _⟩
  · cases h with
    | non => cases e; exact .base .non
    | bl b => cases e; exact .base (.bl b)
    | int i => cases e; exact .base (.int i)
    | str x => cases e; exact .base (.str x)
    | tup h _ => cases e; exact tyx_tup (same_sqT sh h)
    | lst h _ => cases e; exact .base (.lst (sh _ _ h))
    | scr h _ => cases e; exact tyx_lst (same_sqL sh h)
    | tset _ _ _ => cases e
    | dct _ _ _ _ => cases e
    | rng _ => cases e
    | nd _ _ _ _ _ => cases e
    | ins m h _ => cases e; exact .base (.ins (sh _ _ h) (ok _ m).cl (ok _ m).ca (ok _ m).cn (ok _ m).ct (ok _ m).cm)
  · cases e; exact .base (.lst h)
theorem bt_kit (s t : BT) : PySem.W.kitOne K (.type s.nm) (.type t.nm) = some (s.sub t) := by
  cases s <;> cases t <;> exact kit_ty (by decide +kernel)
/-- what isinstance answers, over the classes and the types that are asked -/
def KitOk (K : PySem.W.Frag) (cm : CM) (sub : Nat → Nat → Bool) (t : TY) : Prop := match t with
  | .b t => ∀ c ∈ cm.cls, PySem.W.kitOne K (.ref (cm.addr c)) (.type t.nm) = some false
  | .c j => (∀ s : BT, PySem.W.kitOne K (.type s.nm) (.ref (cm.addr j)) = some false) ∧ ∀ c ∈ cm.cls, PySem.W.kitOne K (.ref (cm.addr c)) (.ref (cm.addr j)) = some (sub c j)
theorem View.insm {v : V} {c : Nat} {ds : List D} (h : View K cm S H v (.ins c ds)) : c ∈ cm.cls := by
  rcases h with h | ⟨_, _, _, _, e, _⟩
  · cases h; assumption
  · cases e
theorem kit_one {sub : Nat → Nat → Bool} {v : V} {d : D} {t u : TY} (ok : KitOk K cm sub u) (h : View K cm S H v d) (e : d.ty = some t) : PySem.W.kitOne K (t.vl cm) (u.vl cm) = some (t.sub sub u) := by
  cases u with
  | b u =>
    cases t with
    | b t => exact bt_kit t u
    | c k =>
      cases d <;> cases e
      exact ok _ h.insm
  | c j =>
    cases t with
    | b t => exact ok.1 t
    | c k =>
      cases d <;> cases e
      exact ok.2 _ h.insm
theorem kit_any {sub : Nat → Nat → Bool} {v : V} {d : D} {t : TY} (h : View K cm S H v d) (e : d.ty = some t) : ∀ {us : List TY}, (∀ u ∈ us, KitOk K cm sub u) → PySem.W.kitAny K (t.vl cm) (us.map (TY.vl cm)) = some (us.any (t.sub sub))
  | [], _ => kitAny_nil
  | u :: us, ok => by
    have h1 := kit_one (ok u List.mem_cons_self) h e
    have h2 := kit_any h e fun x m => ok x (List.mem_cons_of_mem _ m)
    rw [List.map_cons, List.any_cons]
    refine kitAny_cons h1 (fun z => ?_) fun z => ?_
    · rw [z, Bool.false_or]; exact h2
    · rw [z, Bool.true_or]
end
/-- a class as an expression -/
def TY.v (cm : CM) : TY → V
  | .b t => .ty t.nm
  | .c k => .ref (cm.addr k)
theorem TY.clsv (cm : CM) : ∀ t : TY, ClsV (t.v cm) (t.vl cm)
  | .b _ => .ty _
  | .c _ => .own _
theorem TY.clsvs (cm : CM) : ∀ ts : List TY, Paired ClsV (ts.map (TY.v cm)) (ts.map (TY.vl cm))
  | [] => .nil
  | t :: ts => .cons (t.clsv cm) (TY.clsvs cm ts)
def tys (cm : CM) : List TY → TA
  | [] => tNil
  | t :: ts => tCons (tC (t.v cm)) (tys cm ts)
theorem tys_run {cm : CM} {σ : Sg} {H : Hp} {Q : List V → Hp → Prop} : ∀ {ts : List TY}, Q (ts.map (TY.v cm)) H → tys cm ts σ H Q
  | [], h => h
  | t :: ts, h => tys_run (Q := fun xs H2 => Q (t.v cm :: xs) H2) h
section
variable {X : Cx} {cm : CM} {W : WH} {sub : Nat → Nat → Bool} {f g : LS → R D} {p pos tpos : Pos} {a b e : Expr} {es : List Expr} {t : TY} {ts : List TY}
theorem e_isi (ok : ∀ c ∈ cm.cls, ClsOk X.K (cm.addr c)) (kit : KitOk X.K cm sub t) (hm : X.mg "isinstance" = none) (ha : PE X a (VE X.K cm W f)) (hc : PE X e (tC (t.v cm))) (hg : Gl X "isinstance" := by rfl)
    (hs1 : starEach [a, e] X.env = (false, eval a X.env) :: starEach [e] X.env := by rfl) (hs2 : starEach [e] X.env = (false, eval e X.env) :: starEach [] X.env := by rfl)
    (hpl : (backTo pos (starEach [e] X.env)).any (·.1) = false := by rfl) : PE X (.Call (.Name "isinstance" p) [a, e] [] pos) (E X.K cm W (un (dIs sub [t]) f)) :=
  (pe_callB call_isi hg hm PyProof.Rows.boot_isinstance (pa_cons ha (pa_cons hc pa_nil hs2) hs1) (by decide) (by decide) hs1 hpl).imp fun σ H Q ⟨st, S, fp, rx, k⟩ => ⟨st, S, fp, rx, k.bind.mono fun d S1 H1 x1 k1 v hv => by
    obtain ⟨z, hz, k2⟩ := k1.of
    unfold dIs at hz
    cases q : d.ty with
    | none => rw [q] at hz; cases hz
    | some ty =>
      rw [q] at hz
      cases hz
      refine ⟨v, t.v cm, ty.vl cm, t.vl cm, ty.sub sub t, rfl, t.clsv cm, tyx_of ok x1.sh hv q, kit_one kit hv q, ?_⟩
      have := k2 H1 S1 (Xt.refl x1.sh) (.bl (List.any [t] (ty.sub sub))) (.bl _)
      simpa using this⟩
/-- isinstance(a, (c1, c2)) -/
theorem e_isiT {k : Nat} (ok : ∀ c ∈ cm.cls, ClsOk X.K (cm.addr c)) (kit : ∀ t ∈ ts, KitOk X.K cm sub t) (hl : ts.length ≤ sizeLine) (hm : X.mg "isinstance" = none) (ha : PE X a (VE X.K cm W f)) (hc : PA X es (tys cm ts)) (hg : Gl X "isinstance" := by rfl)
    (hs1 : starEach [a, .Tuple es k tpos] X.env = (false, eval a X.env) :: starEach [.Tuple es k tpos] X.env := by rfl) (hs2 : starEach [.Tuple es k tpos] X.env = (false, eval (.Tuple es k tpos) X.env) :: starEach [] X.env := by rfl)
    (hpl : (backTo pos (starEach [.Tuple es k tpos] X.env)).any (·.1) = false := by rfl) : PE X (.Call (.Name "isinstance" p) [a, .Tuple es k tpos] [] pos) (E X.K cm W (un (dIs sub ts) f)) :=
  (pe_callB call_isiT hg hm PyProof.Rows.boot_isinstance (pa_cons ha (pa_cons (pe_tup hc) pa_nil hs2) hs1) (by decide) (by decide) hs1 hpl).imp fun σ H Q ⟨st, S, fp, rx, k⟩ => ⟨st, S, fp, rx, k.bind.mono fun d S1 H1 x1 k1 v hv => by
    obtain ⟨z, hz, k2⟩ := k1.of
    unfold dIs at hz
    cases q : d.ty with
    | none => rw [q] at hz; cases hz
    | some ty =>
      rw [q] at hz
      cases hz
      refine tys_run (ts := ts) ⟨by rw [List.length_map]; exact hl, fun r hr => ?_⟩
      have x2 : Xt S1 S1 H1 (upd H1 r (.tup (ts.map (TY.v cm)))) := Xt.own x1.sh hr
      exact ⟨v, r, ts.map (TY.v cm), ty.vl cm, ts.map (TY.vl cm), ts.any (ty.sub sub), rfl, upd_same, TY.clsvs cm ts, tyx_of ok x2.sh (hv.ext x2) q, kit_any hv q kit, k2 _ S1 x2 _ (.bl _)⟩⟩
/-! ### own operators: what is raised is wished for at the slots -/
def OpS (X : Cx) (f : Value → Value → Sem Value) (r : Sg → R2) : Prop :=
  ∀ (pins : List (Addr × Obj)) (s : Shared) (σ : Sg) (H : Hp) (x y : V) (v u : Value) (Q : VK), Inv X pins σ H s → RelV x v → RelV y u → r σ x y H Q →
    wpAny (model X.prog X.w) X.A (f v u) (EP X pins σ Q) X.xe s
def tOpS (r : Sg → R2) (ta tb : TE) : TE := fun σ H Q => ta σ H fun x H1 => tb σ H1 fun y H2 => r σ x y H2 Q
theorem OpR.toS {h : Value → Value → Sem Value} {r : R2} (o : OpR X h r) : OpS X h (fun _ => r) := o
theorem OpS.or {h : Value → Value → Sem Value} {r r' : Sg → R2} (o : OpS X h r) (o' : OpS X h r') : OpS X h (fun σ x y H Q => r σ x y H Q ∨ r' σ x y H Q) :=
  fun pins s σ H x y v u Q I rx ry q => q.elim (o pins s σ H x y v u Q I rx ry) (o' pins s σ H x y v u Q I rx ry)
theorem pe_cmpS {op : CmpOp} {r : Sg → R2} {ta tb : TE} (ho : OpS X (compareOp op) r) (ha : PE X a ta) (hb : PE X b tb) (hm : behindInMarks op b = false) : PE X (.Compare a [op] [b] pos) (tOpS r ta tb) :=
  ⟨fun pins s σ H Q I h => wpAny_Compare1 (binT ha hb I h fun v u s2 x y H2 I2 rx ry q => ho pins s2 σ H2 x y v u Q I2 rx ry q) hm⟩
theorem pt_cmpS {op : CmpOp} {r : Sg → R2} {ta tb : TE} (ho : OpS X (compareOp op) r) (ha : PE X a ta) (hb : PE X b tb) (hm : behindInMarks op b = false) : PT X (.Compare a [op] [b] pos) (tTest (tOpS r ta tb)) :=
  ⟨fun pins s σ H Q I h => wpAny_isTrue_Compare1 (thn (ha.run pins s σ H _ I h) fun v s1 ⟨x, H1, I1, r1, q1⟩ => thn (hb.run pins s1 σ H1 _ I1 q1) fun u s2 ⟨y, H2, I2, r2, q2⟩ =>
    thn (ho pins s2 σ H2 x y v u _ I2 r1 r2 q2) fun c s3 ⟨z, H3, I3, r3, k, e, q3⟩ => by
      subst e
      cases r3
      exact wpAny_truthy_bool ⟨H3, I3, q3⟩) hm⟩
/-- x op y by a def of x's class -/
def rOwnD (K : PySem.W.Frag) (C : Addr) (sp : Sp) (E : Sg → XK) : Sg → R2 := fun σ x y H Q => ∃ a dx fs t, x = .ref a ∧ H a = some (.ins C dx fs) ∧ TyX K H y t ∧ PySem.W.notFirst K C t = true ∧ sp [x, y] H Q (E σ)
variable {C h : Addr} {fd : FuncData} {ps : List Str} {n : Nat} {sp : Sp} {Ex : Sg → XK}
theorem own_cmp {op : CmpOp} (hop : ∀ a b, compareOp op a b = richCompare op a b) (hs : PySem.W.findIn X.K (.ref C) (cmpInfo op).2.1 = some (some (.ref h))) (hf : PySem.W.isFn X.K (.ref h) = true) (Fo : FnOk X.prog X.w X.K X.mg X.base (L2.CX X.prog X.w) n h fd ps sp)
    (hb : Binds X.K fd ps []) (hr : Room n X.A) (hx : ∀ σ, PassesAt (L2.CX X.prog X.w) X σ (Ex σ)) : OpS X (compareOp op) (rOwnD X.K C sp Ex) := by
  intro pins s σ H x y v u Q I rx ry ⟨a, dx, fs, t, ex, ha, ty, nf, q⟩
  subst ex
  cases (show v = Value.ref a from rx)
  obtain ⟨mA, J, _⟩ := ins_get I.hok ha
  obtain ⟨od, J, _⟩ := J.look
  obtain ⟨P, Z, p, _⟩ := kit_of I ry ty
  obtain ⟨m, hF⟩ := I.fr
  rw [hop]
  refine PySem.W.cmp_K (op := op) (tb := t) hr.units0 hF I.ok.mod.kin J (Z.ty _ _ I.kIn p) nf hs hf ?_
  refine wpAny_mono (run_fnSD (us := [.ref a, u]) (vs := [.ref a, y]) (ds := []) (dvs := []) Fo hr hb .nil (hx σ) I (.cons rfl (.cons ry .nil)) q) (fun w s' z => ?_) fun _ _ x => x
  obtain ⟨z', H', I', rz, qz⟩ := z
  exact SlX.cmpback rz ⟨z', H', I', rz, qz⟩
end
end DI
end
section
set_option Elab.async false
set_option linter.all false
set_option maxRecDepth 100000
set_option maxHeartbeats 2000000
/-! DI: fields of an instance that its __init__ makes; own operators and methods over data. -/
namespace DI
open PySem PySem.Spec PyProof.Rows L2
theorem putF_app {f : Str} {y : V} : ∀ {ns : List Str} {vs : List V}, ns.Nodup → ns[vs.length]? = some f → putF f y (ns.zip vs) = ns.zip (vs ++ [y])
  | [], vs, _, e => by simp at e
  | n :: ns, [], _, e => by
    have e : n = f := by simpa using e
    subst e
    simp [putF]
  | n :: ns, v :: vs, h, e => by
    obtain ⟨h1, h2⟩ := List.nodup_cons.mp h
    have e : ns[vs.length]? = some f := by simpa using e
    have ne : n ≠ f := fun z => h1 (z ▸ List.mem_of_getElem? e)
    show (if n = f then _ else (n, v) :: putF f y (ns.zip vs)) = _
    rw [if_neg ne, putF_app h2 e]
    rfl
theorem putF_set {f : Str} {y : V} : ∀ {ns : List Str} {vs : List V} {j : Nat}, ns.Nodup → j < vs.length → ns[j]? = some f → putF f y (ns.zip vs) = ns.zip (vs.set j y)
  | [], vs, _, _, _, e => by simp at e
  | n :: ns, [], _, _, l, _ => by simp at l
  | n :: ns, v :: vs, 0, _, _, e => by
    have e : n = f := by simpa using e
    subst e
    show (if n = n then (n, y) :: ns.zip vs else _) = _
    rw [if_pos rfl]
    rfl
  | n :: ns, v :: vs, j + 1, h, l, e => by
    obtain ⟨h1, h2⟩ := List.nodup_cons.mp h
    have e : ns[j]? = some f := by simpa using e
    have ne : n ≠ f := fun z => h1 (z ▸ List.mem_of_getElem? e)
    show (if n = f then _ else (n, v) :: putF f y (ns.zip vs)) = _
    rw [if_neg ne, putF_set h2 (by simpa using l) e]
    rfl
theorem RepL.set {K : PySem.W.Frag} {cm : CM} {S : Hp} {v : V} {d : D} (h : Rep K cm S v d) : ∀ {vs : List V} {ds : List D} (j : Nat), RepL K cm S vs ds → RepL K cm S (vs.set j v) (ds.set j d)
  | _, _, _, .nil => .nil
  | _, _, 0, .cons _ hs => .cons h hs
  | _, _, j + 1, .cons a hs => .cons a (RepL.set h j hs)
def putD (j : Nat) (d : D) (fs : List D) : Option (List D) := if j = fs.length then some (fs ++ [d]) else if j < fs.length then some (fs.set j d) else none
def insO (c : Nat) : Option (Option T) → Option (List D)
  | some (some (.ins c' fs)) => if c' = c then some fs else none
  | _ => none
theorem insO_some {c : Nat} {o : Option (Option T)} {fs : List D} (h : insO c o = some fs) : o = some (some (.ins c fs)) := by
  unfold insO at h
  split at h
  · split at h
    · rename_i e; subst e; cases h; rfl
    · cases h
  · cases h
/-- self.f = e: the instance of class c is at slot i, f is its j-th field -/
def slfS (i c j : Nat) (f : LS → R D) : LS → Out := fun st => match insO c st[i]? with
  | none => .bad
  | some fs => (f st).out st fun d => match putD j d fs with
    | some fs' => .nx (st.set i (some (.ins c fs')))
    | none => .bad
/-- self.f -/
def slfE (i c j : Nat) : LS → R D := fun st => .of ((insO c st[i]?).bind fun fs => fs[j]?)
section
variable {X : Cx} {cm : CM} {W : WH} {c : Fr} {i k j : Nat} {f : LS → R D} {fn : Str} {p p' pos : Pos} {e o : Expr}
theorem s_slf (ok : FldOk X.K cm fn k j) (hl : (cm.names k).length < 1000) (ho : PE X o (tVar i)) (he : PE X e (E X.K cm W f)) (hs : swapsWith e (some (.Attribute o fn p')) pos.line X.env = pure false := by rfl) :
    PS X (.Assign [.Attribute o fn p'] e pos) (SX X.K cm W c (slfS i k j f)) := (ps_fld ho he hs).imp fun D σ H ⟨st, S, fp, r, p⟩ => by
  replace p : Post X.K cm W c D S (match insO k st[i]? with
    | none => .bad
    | some fs => (f st).out st fun d => match putD j d fs with
      | some fs' => .nx (st.set i (some (.ins k fs')))
      | none => .bad) := p
  cases q : insO k st[i]? with
  | none => rw [q] at p; exact p.elim
  | some fs =>
    rw [q] at p
    obtain ⟨v, f1, h1, h2, h3, h4, h5⟩ := r.mut (insO_some q)
    cases h2 with
    | @ins a dx _ vs _ m0 ha hr =>
      refine ⟨st, S, fp, r.rx, Post.go r p fun d S' H' x q2 y hy => ⟨.ref a, h1, a, cm.addr k, dx, _, rfl, x.hh _ _ ha, ok.cl, ok.na, Nat.lt_of_le_of_lt (by rw [List.length_zip]; exact Nat.min_le_left _ _) hl, ?_⟩⟩
      have hr' := hr.mono x.ss
      cases q3 : putD j d fs with
      | none => rw [q3] at q2; exact q2.elim
      | some fs' =>
        rw [q3] at q2
        have key : ∃ vs', putF fn y ((cm.names k).zip vs) = (cm.names k).zip vs' ∧ RepL X.K cm S' vs' fs' := by
          unfold putD at q3
          split at q3
          · rename_i ej
            cases q3
            exact ⟨_, putF_app ok.nd (by rw [hr.length, ← ej]; exact ok.at_), hr'.append (.cons hy .nil)⟩
          · split at q3
            · rename_i lj
              cases q3
              exact ⟨_, putF_set ok.nd (by rw [hr.length]; exact lj) ok.at_, hr'.set hy j⟩
            · cases q3
        obtain ⟨vs', e1, r1⟩ := key
        rw [e1]
        refine q2 σ _ (h5 S' H' _ _ [a] x (fun b n => upd_ne fun z => n (by rw [z]; exact List.mem_cons_self)) (.ins m0 upd_same r1) (nodup1 a) fun b m => .inl m)
theorem e_slf (ok : FldOk X.K cm fn k j) (ho : PE X o (tVar i)) (hb : attributeBase o fn X.env (eval o X.env) = eval o X.env := by rfl) : PE X (.Attribute o fn pos) (E X.K cm W (slfE i k j)) :=
  (pe_fld ho hb).imp fun σ H Q ⟨st, S, fp, r, g⟩ => by
    obtain ⟨d, e, kk⟩ := g.of
    cases q : insO k st[i]? with
    | none => rw [q] at e; cases e
    | some fs =>
      rw [q] at e
      obtain ⟨v, f1, h1, h2, _⟩ := r.sls.get (insO_some q)
      cases h2 with
      | @ins a dx _ vs _ m0 ha hr =>
        obtain ⟨u, e1, r1⟩ := hr.get e
        exact ⟨.ref a, h1, a, cm.addr k, dx, _, u, rfl, ha, ok.cl, ok.na, by rw [zip_lookup ok.nd ok.at_]; exact e1, kk H S (Xt.refl r.sh) u r1⟩
end
/-! ### own operators over data -/
/-- x == y: by class c's own __eq__, or over plain data -/
def eqO (c : Nat) (F : List D → R D) : D → D → R D := fun x y => match x with
  | .ins a _ => if a = c then F [x, y] else .bad
  | _ => .of (dEq x y)
def op2R (op : D → D → R D) (f g : LS → R D) : LS → R D := fun st => (f st).bind fun x => (g st).bind fun y => op x y
section
variable {X : Cx} {cm : CM} {W : WH} {n c : Nat} {C h : Addr} {f g : LS → R D} {pos : Pos} {a b : Expr} {fd : FuncData} {ps : List Str} {F : List D → R D}
/-- a def that keeps its promise, without default values -/
structure DefOk (X : Cx) (cm : CM) (W : WH) (n m : Nat) (h : Addr) (F : List D → R D) : Prop where
  ok : ∃ fd ps, FnOk X.prog X.w X.K X.mg X.base (L2.CX X.prog X.w) n h fd ps (spD X.K cm m F) ∧ Binds X.K fd ps []
  room : Room n X.A
  tk : Takes X W.w
theorem spD_run {K : PySem.W.Frag} {S H : Hp} {vs : List V} {ds : List D} {Q : VK} {σ : Sg} {m : Nat} (sh : Same S H) (hv : RepL K cm S vs ds) (hl : ds.length = m) (k : Go K cm W (fun d S' H' => ∀ v, Rep K cm S' v d → Q v H') (F ds) S H σ) : spD K cm m F vs H Q (WE W.w σ) :=
  ⟨by rw [hv.length]; exact hl, S, ds, sh, hv, R.Res.mono k (fun d q v H' S' x2 hr => q H' S' x2 v hr) fun e q => q⟩
theorem OpS.e {r : Sg → R2} {op : D → D → R D}
    (od : ∀ (S H : Hp) (x y : V) (d e : D) (σ : Sg) (Q : VK), Same S H → Rep X.K cm S x d → Rep X.K cm S y e → Go X.K cm W (fun z S' H' => ∀ v, Rep X.K cm S' v z → Q v H') (op d e) S H σ → r σ x y H Q)
    {σ : Sg} {H : Hp} {Q : VK} (k : E X.K cm W (op2R op f g) σ H Q) : tOpS r (E X.K cm W f) (E X.K cm W g) σ H Q := by
  obtain ⟨st, S, fp, rx, k⟩ := k
  refine ⟨st, S, fp, rx, k.bind.mono fun d S1 H1 x1 k1 v hv => ?_⟩
  refine ⟨st, S1, fp, rx.ext x1, k1.bind.mono fun z S2 H2 x2 k2 u hu => ?_⟩
  exact od S2 H2 v u d z σ Q x2.sh (hv.mono x2.ss) hu k2
/-- no other class stands below c -/
def NfOk (K : PySem.W.Frag) (cm : CM) (c : Nat) : Prop := (∀ t : BT, PySem.W.notFirst K (cm.addr c) (.type t.nm) = true) ∧ ∀ k ∈ cm.cls, PySem.W.notFirst K (cm.addr c) (.ref (cm.addr k)) = true
theorem own_eqO {op : CmpOp} (hop : ∀ a b, compareOp op a b = richCompare op a b) (ok : ∀ c ∈ cm.cls, ClsOk X.K (cm.addr c)) (nf : NfOk X.K cm c) (o : DefOk X cm W n 2 h F) (hs : PySem.W.findIn X.K (.ref (cm.addr c)) (cmpInfo op).2.1 = some (some (.ref h))) (hf : PySem.W.isFn X.K (.ref h) = true) :
    ∃ Ex : Sg → XK, OpS X (compareOp op) (rOwnD X.K (cm.addr c) (spD X.K cm 2 F) Ex) ∧ ∀ (S H : Hp) (x y : V) (ds : List D) (e : D) (σ : Sg) (Q : VK), Same S H → Rep X.K cm S x (.ins c ds) → Rep X.K cm S y e → e.ty ≠ none → Go X.K cm W (fun z S' H' => ∀ v, Rep X.K cm S' v z → Q v H') (F [.ins c ds, e]) S H σ →
      rOwnD X.K (cm.addr c) (spD X.K cm 2 F) Ex σ x y H Q := by
  obtain ⟨fd, ps, Fo, bi⟩ := o.ok
  refine ⟨WE W.w, own_cmp hop hs hf Fo bi o.room (fun σ => passAt o.tk σ), fun S H x y ds e σ Q sh hx hy te k => ?_⟩
  have hx' := hx
  cases hx with
  | @ins a dx _ _ _ _ h1 _ =>
    cases q : e.ty with
    | none => exact absurd q te
    | some t =>
      refine ⟨a, dx, _, t.vl cm, rfl, sh _ _ h1, tyx_of ok sh (.inl hy) q, ?_, spD_run sh (.cons hx' (.cons hy .nil)) rfl k⟩
      cases t with
      | b t => exact nf.1 t
      | c j =>
        cases e <;> cases q
        cases hy with
        | ins m _ _ => exact nf.2 _ m
/-- .. its answers on data that have a type -/
def eqT (c : Nat) (F : List D → R D) : D → D → R D := fun x y => match y.ty with
  | none => .bad
  | some _ => eqO c F x y
theorem eq_od {r : R2} {Ex : Sg → XK} (od : Op2 X.K cm r dEq)
    (oo : ∀ (S H : Hp) (x y : V) (ds : List D) (e : D) (σ : Sg) (Q : VK), Same S H → Rep X.K cm S x (.ins c ds) → Rep X.K cm S y e → e.ty ≠ none → Go X.K cm W (fun z S' H' => ∀ v, Rep X.K cm S' v z → Q v H') (F [.ins c ds, e]) S H σ →
      rOwnD X.K (cm.addr c) (spD X.K cm 2 F) Ex σ x y H Q) : ∀ (S H : Hp) (x y : V) (d e : D) (σ : Sg) (Q : VK), Same S H → Rep X.K cm S x d → Rep X.K cm S y e → Go X.K cm W (fun z S' H' => ∀ v, Rep X.K cm S' v z → Q v H') (eqT c F d e) S H σ →
      (rOwnD X.K (cm.addr c) (spD X.K cm 2 F) Ex σ x y H Q ∨ r x y H Q) := by
  intro S H x y d e σ Q sh hx hy k
  unfold eqT at k
  cases q : e.ty with
  | none => rw [q] at k; exact k.elim
  | some t =>
    rw [q] at k
    replace k : Go X.K cm W (fun z S' H' => ∀ v, Rep X.K cm S' v z → Q v H') (eqO c F d e) S H σ := k
    by_cases hd : ∃ a ds, d = .ins a ds
    · obtain ⟨a, ds, rfl⟩ := hd
      replace k : Go X.K cm W (fun z S' H' => ∀ v, Rep X.K cm S' v z → Q v H') (if a = c then F [.ins a ds, e] else .bad) S H σ := k
      split at k
      · rename_i ee
        subst ee
        exact .inl (oo S H x y ds e σ Q sh hx hy (by rw [q]; exact fun z => nomatch z) k)
      · exact k.elim
    · have e1 : eqO c F d e = .of (dEq d e) := by
        cases d <;> first | rfl | exact absurd ⟨_, _, rfl⟩ hd
      rw [e1] at k
      obtain ⟨z, hz, k2⟩ := k.of
      exact .inr (od S H x y d e z Q sh (.inl hx) (.inl hy) hz fun H' S' x v hv => k2 H' S' x v hv)
variable {r : R2}
theorem e_eqO (hop : ∀ a b, compareOp .Eq a b = richCompare .Eq a b) (ok : ∀ c ∈ cm.cls, ClsOk X.K (cm.addr c)) (nf : NfOk X.K cm c) (o : DefOk X cm W n 2 h F) (hs : PySem.W.findIn X.K (.ref (cm.addr c)) "__eq__" = some (some (.ref h))) (hf : PySem.W.isFn X.K (.ref h) = true)
    (hr : OpR X (compareOp .Eq) r) (od : Op2 X.K cm r dEq) (ha : PE X a (E X.K cm W f)) (hb : PE X b (E X.K cm W g)) (hm : behindInMarks .Eq b = false) : PE X (.Compare a [.Eq] [b] pos) (E X.K cm W (op2R (eqT c F) f g)) := by
  obtain ⟨Ex, h1, h2⟩ := own_eqO (op := .Eq) hop ok nf o hs hf
  exact (pe_cmpS (h1.or (OpR.toS hr)) ha hb hm).imp fun σ H Q k => OpS.e (eq_od od h2) k
theorem t_eqO (hop : ∀ a b, compareOp .Eq a b = richCompare .Eq a b) (ok : ∀ c ∈ cm.cls, ClsOk X.K (cm.addr c)) (nf : NfOk X.K cm c) (o : DefOk X cm W n 2 h F) (hs : PySem.W.findIn X.K (.ref (cm.addr c)) "__eq__" = some (some (.ref h))) (hf : PySem.W.isFn X.K (.ref h) = true)
    (hr : OpR X (compareOp .Eq) r) (od : Op2 X.K cm r dEq) (ha : PE X a (E X.K cm W f)) (hb : PE X b (E X.K cm W g)) (hm : behindInMarks .Eq b = false) : PT X (.Compare a [.Eq] [b] pos) (TB X.K cm W (tb (op2R (eqT c F) f g))) := by
  obtain ⟨Ex, h1, h2⟩ := own_eqO (op := .Eq) hop ok nf o hs hf
  exact (pt_cmpS (h1.or (OpR.toS hr)) ha hb hm).imp fun σ H Q k => OpS.e (eq_od od h2) (TB.of k)
end
end DI
end
section
set_option Elab.async false
set_option linter.all false
set_option maxRecDepth 100000
set_option maxHeartbeats 2000000
/-! DI: sorted(set of tuples of numbers). -/
namespace DI
open PySem PySem.Spec PyProof.Rows L2
def lexle : List Int → List Int → Bool
  | [], _ => true
  | _ :: _, [] => false
  | a :: as, b :: bs => decide (a < b) || (decide (a = b) && lexle as bs)
def insT (k : List Int) : List (List Int) → List (List Int)
  | [] => [k]
  | m :: ms => if lexle k m = true then k :: m :: ms else m :: insT k ms
def srtT : List (List Int) → List (List Int)
  | [] => []
  | k :: ks => insT k (srtT ks)
theorem insT_perm (n : List Int) : ∀ ms : List (List Int), (insT n ms).Perm (n :: ms)
  | [] => .refl _
  | m :: ms => by
    unfold insT
    split
    · exact .refl _
    · exact (List.Perm.cons m (insT_perm n ms)).trans (List.Perm.swap n m ms)
theorem srtT_perm : ∀ ns : List (List Int), (srtT ns).Perm ns
  | [] => .refl _
  | n :: ns => (insT_perm n _).trans (List.Perm.cons n (srtT_perm ns))
theorem lexle_code {B : Int} : ∀ {x y : List Int}, x.length = y.length → TS.Bd B x → TS.Bd B y → (lexle x y = true → TS.code B x ≤ TS.code B y) ∧ (lexle x y = false → TS.code B y ≤ TS.code B x)
  | [], [], _, _, _ => ⟨fun _ => Int.le_refl _, fun _ => Int.le_refl _⟩
  | [], _ :: _, h, _, _ => by simp at h
  | _ :: _, [], h, _, _ => by simp at h
  | a :: x, b :: y, h, hx, hy => by
    have hl : x.length = y.length := by simpa using h
    obtain ⟨i1, i2⟩ := lexle_code hl hx.tail hy.tail
    rcases Int.lt_trichotomy a b with c | c | c
    · have q := TS.code_lt hl hx.tail hy.tail c
      refine ⟨fun _ => Int.le_of_lt q, fun z => ?_⟩
      unfold lexle at z
      rw [decide_eq_true c] at z
      cases z
    · subst c
      have e1 : ∀ {u v : List Int}, u.length = v.length → (TS.code B u ≤ TS.code B v → TS.code B (a :: u) ≤ TS.code B (a :: v)) := fun {u v} huv le => by
        show a * B ^ u.length + TS.code B u ≤ a * B ^ v.length + TS.code B v
        rw [huv]
        omega
      have e2 : lexle (a :: x) (a :: y) = lexle x y := by
        show (decide (a < a) || (decide (a = a) && lexle x y)) = _
        simp
      rw [e2]
      exact ⟨fun z => e1 hl (i1 z), fun z => e1 hl.symm (i2 z)⟩
    · have q := TS.code_lt hl.symm hy.tail hx.tail c
      refine ⟨fun z => ?_, fun _ => Int.le_of_lt q⟩
      unfold lexle at z
      rw [decide_eq_false (by omega : ¬ a < b), decide_eq_false (by omega : ¬ a = b)] at z
      cases z
theorem code_inj {B : Int} : ∀ {x y : List Int}, x.length = y.length → TS.Bd B x → TS.Bd B y → TS.code B x = TS.code B y → x = y
  | [], [], _, _, _, _ => rfl
  | [], _ :: _, h, _, _, _ => by simp at h
  | _ :: _, [], h, _, _, _ => by simp at h
  | a :: x, b :: y, h, hx, hy, e => by
    have hl : x.length = y.length := by simpa using h
    rcases Int.lt_trichotomy a b with c | c | c
    · have q := TS.code_lt hl hx.tail hy.tail c
      omega
    · subst c
      have e : a * B ^ x.length + TS.code B x = a * B ^ y.length + TS.code B y := e
      rw [hl] at e
      rw [code_inj hl hx.tail hy.tail (by omega)]
    · have q := TS.code_lt hl.symm hy.tail hx.tail c
      omega
theorem insT_up {B : Int} {d : Nat} (k : List Int) (hk : k.length = d ∧ TS.Bd B k) : ∀ {ms : List (List Int)}, (∀ m ∈ ms, m.length = d ∧ TS.Bd B m) → ms.Pairwise (fun a b => TS.code B a ≤ TS.code B b) → (insT k ms).Pairwise (fun a b => TS.code B a ≤ TS.code B b)
  | [], _, _ => by unfold insT; exact List.pairwise_singleton _ _
  | m :: ms, hm, h => by
    obtain ⟨h1, h2⟩ := List.pairwise_cons.mp h
    have m0 := hm m List.mem_cons_self
    obtain ⟨l1, l2⟩ := lexle_code (x := k) (y := m) (hk.1.trans m0.1.symm) hk.2 m0.2
    unfold insT
    split
    · rename_i q
      exact List.pairwise_cons.mpr ⟨fun y hy => (List.mem_cons.mp hy).elim (fun e => by rw [e]; exact l1 q) fun hy => Int.le_trans (l1 q) (h1 y hy), h⟩
    · rename_i q
      have q : lexle k m = false := by simpa using q
      refine List.pairwise_cons.mpr ⟨fun y hy => ?_, insT_up k hk (fun x hx => hm x (List.mem_cons_of_mem _ hx)) h2⟩
      rcases List.mem_cons.mp ((insT_perm k ms).mem_iff.mp hy) with e | hy
      · rw [e]; exact l2 q
      · exact h1 y hy
theorem srtT_up {B : Int} {d : Nat} : ∀ {ms : List (List Int)}, (∀ m ∈ ms, m.length = d ∧ TS.Bd B m) → (srtT ms).Pairwise (fun a b => TS.code B a ≤ TS.code B b)
  | [], _ => .nil
  | k :: ks, h => insT_up k (h k List.mem_cons_self) (fun m hm => h m (List.mem_cons_of_mem _ ((srtT_perm ks).mem_iff.mp hm))) (srtT_up fun m hm => h m (List.mem_cons_of_mem _ hm))
theorem code_unique {B : Int} {d : Nat} {xs ys : List (List Int)} (p : xs.Perm ys) (h : ∀ m ∈ ys, m.length = d ∧ TS.Bd B m) (h1 : xs.Pairwise (fun a b => TS.code B a ≤ TS.code B b)) (h2 : ys.Pairwise (fun a b => TS.code B a ≤ TS.code B b)) : xs = ys := by
  have e : xs.map (TS.code B) = ys.map (TS.code B) := up_unique (p.map _) (List.pairwise_map.mpr h1) (List.pairwise_map.mpr h2)
  have gen : ∀ {xs ys : List (List Int)}, (∀ m ∈ xs, m.length = d ∧ TS.Bd B m) → (∀ m ∈ ys, m.length = d ∧ TS.Bd B m) → xs.map (TS.code B) = ys.map (TS.code B) → xs = ys := by
    intro xs
    induction xs with
    | nil =>
      intro ys _ _ e
      cases ys with
      | nil => rfl
      | cons y ys => simp at e
    | cons x xs ih =>
      intro ys a b e
      cases ys with
      | nil => simp at e
      | cons y ys =>
        rw [List.map_cons, List.map_cons] at e
        injection e with e1 e2
        have a0 := a x List.mem_cons_self
        have b0 := b y List.mem_cons_self
        rw [code_inj (a0.1.trans b0.1.symm) a0.2 b0.2 e1, ih (fun m hm => a m (List.mem_cons_of_mem _ hm)) (fun m hm => b m (List.mem_cons_of_mem _ hm)) e2]
  exact gen (fun m hm => h m (p.mem_iff.mp hm)) h e
/-- all of one length, not empty, no number below 0 -/
def okT : List (List Int) → Bool
  | [] => true
  | k :: ks => decide (1 ≤ k.length) && (k :: ks).all fun q => decide (q.length = k.length) && q.all fun n => decide (0 ≤ n)
def mxI : List Int → Int
  | [] => 0
  | n :: ns => max n (mxI ns)
theorem mxI_le : ∀ {ns : List Int} {n : Int}, n ∈ ns → n ≤ mxI ns
  | m :: ns, n, h => by
    show n ≤ max m (mxI ns)
    rcases List.mem_cons.mp h with e | h
    · rw [e]; exact Int.le_max_left _ _
    · exact Int.le_trans (mxI_le h) (Int.le_max_right _ _)
theorem okT_bd {xs : List (List Int)} (h : okT xs = true) : ∃ (d : Nat) (B : Int), 1 ≤ d ∧ ∀ k ∈ xs, k.length = d ∧ TS.Bd B k := by
  cases xs with
  | nil => exact ⟨1, 1, Nat.le_refl 1, fun k hk => nomatch hk⟩
  | cons k ks =>
    unfold okT at h
    rw [Bool.and_eq_true, decide_eq_true_eq, List.all_eq_true] at h
    obtain ⟨h1, h2⟩ := h
    refine ⟨k.length, mxI (k :: ks).flatten + 1, h1, fun q hq => ?_⟩
    have h3 := h2 q hq
    rw [Bool.and_eq_true, decide_eq_true_eq, List.all_eq_true] at h3
    refine ⟨h3.1, fun n hn => ⟨by simpa using h3.2 n hn, ?_⟩⟩
    have := mxI_le (List.mem_flatten.mpr ⟨q, hq, hn⟩)
    omega
def dSortU : List D → Option (List D) := oneF fun d => match d with
  | .tset xs => if okT xs = true then some ((srtT xs).map fun k => .tup (k.map .int)) else none
  | _ => none
theorem repL_tups {K : PySem.W.Frag} {cm : CM} {S : Hp} : ∀ {L : List (Addr × List Int)}, (∀ p ∈ L, SqT K S p.1 (p.2.map V.int)) → RepL K cm S (L.map fun q => V.ref q.1) ((L.map (·.2)).map fun k => .tup (k.map .int))
  | [], _ => .nil
  | p :: L, h => .cons (.tup (h p List.mem_cons_self) (RepL.ints _)) (repL_tups fun q hq => h q (List.mem_cons_of_mem _ hq))
theorem d_sortU {X : Cx} {cm : CM} (hset : cm.setO = SetTO X.prog X.w) : OpNF X.K cm (rSortedT X.K X.prog X.w) dSortU := by
  intro S H xs ds z Q sh hx ho k
  obtain ⟨d, rfl, h2⟩ := oneF_some ho
  clear ho
  obtain ⟨v, rfl, hv⟩ := view1 hx
  cases d <;> try (cases h2; done)
  case tset ks =>
    replace h2 : (if okT ks = true then some ((srtT ks).map fun k => D.tup (k.map .int)) else none) = some z := h2
    split at h2
    · rename_i ok
      cases h2
      rcases hv with hv | ⟨_, _, _, _, e, _⟩
      · cases hv with
        | @tset a L _ h1 h3 pm =>
          obtain ⟨d, B, hd, hB⟩ := okT_bd ok
          have hB2 : ∀ p ∈ L, p.2.length = d ∧ TS.Bd B p.2 := fun p hp => hB _ (pm.mem_iff.mp (List.mem_map.mpr ⟨p, hp, rfl⟩))
          rw [hset] at h1
          refine ⟨a, L, d, B, rfl, sh _ _ h1, fun p hp => same_sqT sh (h3 p hp), hd, hB2, fun L' p pL nd hl pw hp => ?_⟩
          have e : L'.map (·.2) = srtT ks := code_unique (d := d) (B := B) (((pL.map (·.2)).trans pm).trans (srtT_perm ks).symm) (fun m hm => hB m ((srtT_perm ks).mem_iff.mp hm)) (List.pairwise_map.mpr pw) (srtT_up hB)
          have r := repL_tups (K := X.K) (cm := cm) (S := S) (L := L') fun q hq => h3 q (pL.mem_iff.mp hq)
          rw [e] at r
          exact k p _ hp r
      · cases e
    · cases h2
end DI
end
section
set_option Elab.async false
set_option linter.all false
set_option maxRecDepth 100000
set_option maxHeartbeats 2000000
/-! DI: lists under construction inside lists under construction. -/
namespace DI
open PySem PySem.Spec PyProof.Rows L2
/-! ### [fresh for ..] -/
def compTL (g : D → LS → Option LS) (t : LS → R Bool) (f : LS → R T) (st : LS) : List D → R (List T)
  | [] => .ok []
  | d :: ds => match g d st with
    | none => .bad
    | some st1 => (t st1).noex.bind fun b => if b = true then (f st1).noex.bind fun y => (compTL g t f st ds).bind fun ys => .ok (y :: ys) else compTL g t f st ds
def compTF (fi : LS → R (List D)) (vs : List Nat) (g : D → LS → Option LS) (t : LS → R Bool) (f : LS → R T) : LS → R T := fun st => (fi st).bind fun ds => if ds.length ≤ sizeLine then (compTL g t f (wipeS st vs) ds).bind fun ts => .ok (.lst ts) else .bad
theorem compTL_ok {g : D → LS → Option LS} {t : LS → R Bool} {f : LS → R T} {st : LS} : ∀ ds : List D, compTL g t f st ds = .bad ∨ ∃ zs, compTL g t f st ds = .ok zs
  | [] => .inr ⟨[], rfl⟩
  | d :: ds => by
    have ih := compTL_ok (g := g) (t := t) (f := f) (st := st) ds
    simp only [compTL]
    cases g d st with
    | none => exact .inl rfl
    | some st1 =>
      simp only []
      cases t st1 with
      | bad => exact .inl rfl
      | ex e => exact .inl rfl
      | ok b =>
        simp only [R.noex, R.bind]
        cases b with
        | false => simpa using ih
        | true =>
          simp only [if_true]
          cases f st1 with
          | bad => exact .inl rfl
          | ex e => exact .inl rfl
          | ok y =>
            simp only []
            rcases ih with h | ⟨zs, h⟩
            · rw [h]; exact .inl rfl
            · rw [h]; exact .inr ⟨y :: zs, rfl⟩
section
variable {X : Cx} {cm : CM} {W : WH} {fi : LS → R (List D)} {vs : List Nat} {g : D → LS → Option LS} {t : LS → R Bool} {f : LS → R T}
theorem compT_reads {σ : Sg} {H : Hp} {Q : VK} (k : EF X.K cm W (compTF fi vs g t f) σ H Q) : tLc (IV X.K cm W fi) (GX X.K cm vs g) (TB X.K cm WF t) (EF X.K cm WF f) vs σ H Q := by
  obtain ⟨st, S, fp, r, k⟩ := k
  refine ⟨st, S, fp, r, k.bind.mono fun ds S1 H1 x1 q J w L hL => ?_⟩
  replace q : Go X.K cm W (fun t S' H' => ∀ v fn, Own X.K cm S' H' t v fn → fn.Nodup → (∀ a ∈ fn, H a = none ∧ S' a = none) → Q v H') (if ds.length ≤ sizeLine then (compTL g t f (wipeS st vs) ds).bind fun ts => .ok (.lst ts) else .bad) S1 H1 σ := q
  by_cases hlen : ds.length ≤ sizeLine
  · rw [if_pos hlen] at q
    obtain ⟨fp0, r0, b0⟩ := (r.ext x1).wipe (W' := WF) vs
    have s1L : S1 L = none := x1.sh.free hL
    rcases compTL_ok (g := g) (t := t) (f := f) (st := wipeS st vs) ds with qz | ⟨zs, qz⟩
    · rw [qz] at q; exact q.elim
    rw [qz] at q
    let Good : Nat → List V → List T → List Addr → Hp → Hp → Prop := fun i acc ys fA S' H => Xt S1 S' H1 H ∧ S' L = none ∧ H L = some (.lst acc) ∧ OwnL X.K cm S' H ys acc fA ∧ fA.Nodup ∧ (∀ a ∈ fA, H1 a = none ∧ S' a = none ∧ a ≠ L) ∧ acc.length ≤ i
    refine ⟨fun i m H => m = ds.length - i ∧ i ≤ ds.length ∧ ∃ S' acc ys us fA, Good i acc ys fA S' H ∧ compTL g t f (wipeS st vs) (ds.drop i) = .ok us ∧ zs = ys ++ us,
      ⟨_, rfl, Nat.zero_le _, S1, [], [], zs, [], ⟨Xt.own x1.sh hL, s1L, upd_same, .nil, List.nodup_nil, (fun _ m => nomatch m), Nat.le_refl _⟩, by rw [List.drop_zero]; exact qz, rfl⟩, ?_⟩
    rintro i m H2 ⟨rfl, hi, S2, acc, ys, us, fA, ⟨x2, n2, hA, rA, nA, fF, lA⟩, q2, qe⟩
    obtain ⟨w1, w2⟩ := w i S2 H2 x2.ss x2.sh x2.hh
    cases q3 : ds[i]? with
    | none =>
      have hl : ds.length ≤ i := List.getElem?_eq_none_iff.mp q3
      rw [List.drop_eq_nil_of_le hl] at q2
      cases q2
      rw [List.append_nil] at qe
      subst qe
      refine .inl ⟨w2 (Nat.le_antisymm hl hi), q H2 S2 x2 (.ref L) (L :: fA) (.lst hA rA) (List.nodup_cons.mpr ⟨fun m => (fF L m).2.2 rfl, nA⟩) fun b m => ?_⟩
      rcases List.mem_cons.mp m with e | m
      · rw [e]; exact ⟨x1.hh.free hL, n2⟩
      · exact ⟨x1.hh.free (fF b m).1, (fF b m).2.1⟩
    | some d =>
      have hl : i < ds.length := (List.getElem?_eq_some_iff.mp q3).1
      obtain ⟨go, y⟩ := w1 d q3
      rw [drop_get q3] at q2
      refine .inr ⟨go, fun H => i + 1 ≤ ds.length ∧ ∃ S' acc ys us fA, Good (i + 1) acc ys fA S' H ∧ compTL g t f (wipeS st vs) (ds.drop (i + 1)) = .ok us ∧ zs = ys ++ us,
        fun H' n => ⟨ds.length - (i + 1), by omega, rfl, n⟩, fun v H3 hy => ?_⟩
      obtain ⟨S3, x3, hv⟩ := y v H3 hy
      replace q2 : (match g d (wipeS st vs) with
        | none => .bad
        | some st1 => (t st1).noex.bind fun b => if b = true then (f st1).noex.bind fun y => (compTL g t f (wipeS st vs) (ds.drop (i + 1))).bind fun ys => .ok (y :: ys) else compTL g t f (wipeS st vs) (ds.drop (i + 1))) = R.ok us := q2
      cases q4 : g d (wipeS st vs) with
      | none => rw [q4] at q2; cases q2
      | some st4 =>
        rw [q4] at q2
        obtain ⟨b, q5, q6⟩ := R.noex_ok q2
        have x13 := x2.trans x3
        have keepL : ∀ {S' H' : Hp}, Xt S2 S' H2 H' → S' L = none ∧ H' L = some (.lst acc) ∧ OwnL X.K cm S' H' ys acc fA ∧ ∀ a ∈ fA, H1 a = none ∧ S' a = none ∧ a ≠ L := fun {S' H'} x => by
          refine ⟨?_, x.hh _ _ hA, rA.ext x, fun a m => ⟨(fF a m).1, ?_, (fF a m).2.2⟩⟩
          · cases q : S' L with
            | none => rfl
            | some o =>
              have z := x.fr L o q n2
              rw [hA] at z
              cases z
          · cases q : S' a with
            | none => rfl
            | some o => exact absurd (x.fr a o q (fF a m).2.1) (rA.there a m)
        refine ⟨wipeS st vs, S3, fp0, d, r0.ext x13, hv, st4, q4, fun σ4 fp4 r4 b4 k4 => ⟨?_, st4, S3, fp4, r4, ?_⟩⟩
        · have e1 := k4.wipe
          rw [e1]
          apply List.ext_getElem?
          intro j
          rw [wipe_get]
          split
          · rename_i hj
            rw [wipe_get, if_pos hj]
            cases σ[j]? <;> rfl
          · rfl
        · rw [q5]
          intro H5 S5 x5
          cases b with
          | false =>
            obtain ⟨n5, hA5, rA5, fF5⟩ := keepL (x3.trans x5)
            exact ⟨hl, S5, acc, ys, us, fA, ⟨x13.trans x5, n5, hA5, rA5, nA, fF5, by omega⟩, q6, qe⟩
          | true =>
            obtain ⟨u, q7, q8⟩ := R.noex_ok q6
            obtain ⟨us', q9, q10⟩ := R.bind_ok q8
            cases q10
            refine ⟨st4, S5, fp4, r4.ext x5, ?_⟩
            rw [q7]
            intro H6 S6 x6 z fn hz nd fo
            have x25 := x3.trans x5
            obtain ⟨n6, hA6, rA6, fF6⟩ := keepL (x25.trans x6)
            have Lfn : L ∉ fn := fun m => by
              have e := x25.hh _ _ hA
              rw [(fo L m).1] at e
              cases e
            have LfA : L ∉ fA := fun m => (fF L m).2.2 rfl
            refine ⟨acc, hA6, by omega, hl, S6, acc ++ [z], ys ++ [u], us', fA ++ fn, ⟨?_, n6, upd_same, OwnL.snoc (own_upd Lfn hz) (ownL_upd LfA rA6), List.nodup_append.mpr ⟨nA, nd, fun a ha b hb e => ?_⟩, fun a m => ?_, by rw [List.length_append]; simp; omega⟩, q9, by rw [qe]; simp⟩
            · have xx := (x13.trans x5).trans x6
              exact ⟨xx.ss, same_upd2 xx.sh n6, fun b o e => by
                have ne : b ≠ L := fun z => by rw [z, hL] at e; cases e
                rw [upd_ne ne]
                exact xx.hh b o e, xx.fr⟩
            · subst e
              exact (rA.ext x25).there a ha (fo a hb).1
            · rcases List.mem_append.mp m with m | m
              · exact fF6 a m
              · exact ⟨((x13.trans x5).hh.free (fo a m).1), (fo a m).2, fun e => Lfn (e ▸ m)⟩
  · rw [if_neg hlen] at q
    exact q.elim
variable {elt tg iter : Expr} {ifs : List Expr} {scope : Scope} {own : List (Str × Nat)} {pos spos : Pos} {c : Fr}
/-- name = [fresh for ..] -/
theorem s_setLcT [Free W] {i : Nat} {y : Str} {py : Pos} (hN : X.N.Nodup) (hy : X.N[i]? = some y) (hyl : X.env.scope.names.lookup y = some .local) (hsw : swapsWith (.ListComp elt [⟨tg, iter, ifs, 0⟩] scope pos) (some (.Name y py)) spos.line X.env = pure true)
    (hi : PI X tg iter (IV X.K cm W fi)) (ok : BlkOk X.N X.env.scope scope own) (hg : BX X scope fun Y => PG Y tg (GX X.K cm (own.map (·.2)) g)) (ht : BX X scope fun Y => PTs Y ifs (TB X.K cm WF t)) (he : BX X scope fun Y => PE Y elt (EF X.K cm WF f))
    (hc : X.calm = true := by rfl) (hs : ∀ x, foldedSetIterable iter X.env x = pure x := by intro _; rfl) (hfx : c.fix i = none := by rfl) : PS X (.Assign [.Name y py] (.ListComp elt [⟨tg, iter, ifs, 0⟩] scope pos) spos) (SX X.K cm W c (setF i (compTF fi (own.map (·.2)) g t f))) :=
  (ps_setLc hc hN hy hyl hsw hi ok hg ht he hs).imp fun D σ H ⟨st, S, fp, r, p⟩ => compT_reads ⟨st, S, fp, r.rx, Post.go r p fun t S' H' x q v fn hv nd fo => by
    have r2 := r.ext x
    obtain ⟨fp', a, b⟩ := r2.rx.set_ow hv nd (fun a m1 m2 => r.rx.sls.there a m2 (fo a m1).1) (fun a m => (fo a m).2) i
    refine q _ H' (RR.on ⟨a, r2.xt, fun y m => ?_, fx_set r2.fx hfx⟩)
    rcases b y m with m | m
    · exact r2.fr y m
    · exact r.xt.hh.free (fo y m).1⟩
end
/-! ### x[e].append(y) -/
def lstT : Option T → Option (List T)
  | some (.lst us) => some us
  | _ => none
theorem lstT_some {o : Option T} {us : List T} (h : lstT o = some us) : o = some (.lst us) := by
  unfold lstT at h
  split at h
  · cases h; rfl
  · cases h
def appPS (i : Nat) (g : LS → R D) (f : LS → R T) : LS → Out := fun st => match ownL st[i]? with
  | none => .bad
  | some ts => (g st).out st fun d => match placeD ts.length d with
    | none => .bad
    | some j => match lstT ts[j]? with
      | none => .bad
      | some us => (f st).out st fun t => if us.length < sizeLine then .nx (st.set i (some (.lst (ts.set j (.lst (us ++ [t])))))) else .bad
section
variable {X : Cx} {cm : CM} {W : WH} {c : Fr} {pos : Pos} {e : Expr} {i : Nat}
theorem s_appP {f : LS → R T} {g : LS → R D} (h : PE X e (tBM X.K "list" rAppend (tOp (rIx X.K) (tVar i) (VE X.K cm W g)) (tCons (EF X.K cm W f) tNil))) (hs : swapsWith e none pos.line X.env = pure false := by rfl) : PS X (.Expr e pos) (SX X.K cm W c (appPS i g f)) := (ps_expr h hs).imp fun D σ H ⟨st, S, fp, r, p⟩ => by
  replace p : Post X.K cm W c D S (match ownL st[i]? with
    | none => .bad
    | some ts => (g st).out st fun d => match placeD ts.length d with
      | none => .bad
      | some j => match lstT ts[j]? with
        | none => .bad
        | some us => (f st).out st fun t => if us.length < sizeLine then .nx (st.set i (some (.lst (ts.set j (.lst (us ++ [t])))))) else .bad) := p
  cases q : ownL st[i]? with
  | none => rw [q] at p; exact p.elim
  | some ts =>
    rw [q] at p
    obtain ⟨v, f1, h1, h2, h3, h4, h5⟩ := r.mut (ownL_some q)
    cases h2 with
    | @lst a vs _ f2 ha hts =>
      obtain ⟨n1, n2⟩ := List.nodup_cons.mp h3
      refine ⟨.ref a, h1, st, S, fp, r.rx, Post.go r p fun d S1 H1 x1 q1 u hu => ?_⟩
      cases q3 : placeD ts.length d with
      | none => rw [q3] at q1; exact q1.elim
      | some j =>
        rw [q3] at q1
        cases d <;> try (cases q3; done)
        case int kk =>
          replace q3 : ixN ts.length kk = some j := q3
          replace q1 : Post X.K cm W c D S1 (match lstT ts[j]? with
            | none => .bad
            | some us => (f st).out st fun t => if us.length < sizeLine then .nx (st.set i (some (.lst (ts.set j (.lst (us ++ [t])))))) else .bad) := q1
          cases q4 : lstT ts[j]? with
          | none => rw [q4] at q1; exact q1.elim
          | some us =>
            rw [q4] at q1
            have o1 := hts.ext x1
            obtain ⟨w, fw, gw, e1, e2, e3, e4, e5, e6, e7⟩ := o1.split (lstT_some q4) n2
            cases e2 with
            | @lst b ws _ fb hb hus =>
              obtain ⟨m1, m2⟩ := List.nodup_cons.mp e3
              have ab : a ≠ b := fun z => n1 (e4 a (by rw [z]; exact List.mem_cons_self))
              refine .inl ⟨a, vs, kk, .ref b, rfl, hu.int, SqL.of (x1.hh _ _ ha), ?_, .inl ⟨rfl, ws, SqL.of hb⟩, st, S1, fp, r.rx.ext x1, Post.go (r.ext x1) q1 fun t S2 H2 x2 q5 v fn hv nd fo => ?_⟩
              · unfold L2.atI
                rw [hts.length, q3]
                exact e1
              · split at q5
                · rename_i hl
                  have x := x1.trans x2
                  have hb2 := x2.hh _ _ hb
                  have bfn : b ∉ fn := fun m => by
                    rw [(fo b m).1] at hb
                    cases hb
                  have afn : a ∉ fn := fun m => by
                    have := x1.hh _ _ ha
                    rw [(fo a m).1] at this
                    cases this
                  refine ⟨b, ws, v, rfl, rfl, hb2, by rw [hus.length]; exact hl, ?_⟩
                  have thw : ∀ c ∈ fb, H1 c ≠ none := hus.there
                  have thg : ∀ c ∈ gw, H1 c ≠ none := fun c m => o1.there c (e5 c m)
                  have bg : b ∉ gw := e6 b List.mem_cons_self
                  obtain ⟨fz, z1, z2, z3⟩ := e7 S2 (upd H2 b (.lst (ws ++ [v]))) (.lst (us ++ [t])) (.ref b) (b :: (fb ++ fn)) x2.ss (fun c m => by
                    have cb : c ≠ b := fun z => bg (z ▸ m)
                    rw [upd_ne cb]
                    cases q : H1 c with
                    | none => exact absurd q (thg c m)
                    | some o => exact x2.hh c o q) (.lst upd_same (OwnL.snoc (own_upd bfn hv) (ownL_upd m1 (hus.ext x2))))
                    (List.nodup_cons.mpr ⟨fun m => (List.mem_append.mp m).elim m1 bfn, List.nodup_append.mpr ⟨m2, nd, fun c hc d hd z => by subst z; exact thw c hc (fo c hd).1⟩⟩)
                    (fun c m1 m2 => by
                      rcases List.mem_cons.mp m1 with m | m
                      · exact bg (m ▸ m2)
                      · rcases List.mem_append.mp m with m | m
                        · exact e6 c (List.mem_cons_of_mem _ m) m2
                        · exact thg c m2 (fo c m).1)
                  have e8 : vs.set j (.ref b) = vs := by
                    apply List.ext_getElem?
                    intro n
                    by_cases hn : j = n
                    · subst hn
                      have hj := (List.getElem?_eq_some_iff.mp e1).1
                      rw [List.getElem?_set_self hj, e1]
                    · rw [List.getElem?_set_ne hn]
                  rw [e8] at z1
                  refine q5 σ _ (h5 S2 H2 _ _ (a :: fz) x (fun c n => upd_ne fun z => n (z ▸ List.mem_cons_of_mem _ (e4 b List.mem_cons_self))) (.lst ?_ z1) (List.nodup_cons.mpr ⟨fun m => ?_, z2⟩) fun c m => ?_)
                  · rw [upd_ne ab]
                    exact x.hh _ _ ha
                  · rcases z3 a m with m | m
                    · exact n1 (e5 a m)
                    · rcases List.mem_cons.mp m with m | m
                      · exact ab m
                      · rcases List.mem_append.mp m with m | m
                        · exact n1 (e4 a (List.mem_cons_of_mem _ m))
                        · exact afn m
                  · rcases List.mem_cons.mp m with m | m
                    · exact .inl (by rw [m]; exact List.mem_cons_self)
                    · rcases z3 c m with m | m
                      · exact .inl (List.mem_cons_of_mem _ (e5 c m))
                      · rcases List.mem_cons.mp m with m | m
                        · exact .inl (List.mem_cons_of_mem _ (e4 c (by rw [m]; exact List.mem_cons_self)))
                        · rcases List.mem_append.mp m with m | m
                          · exact .inl (List.mem_cons_of_mem _ (e4 c (List.mem_cons_of_mem _ m)))
                          · exact .inr ⟨x1.hh.free (fo c m).1, (fo c m).2⟩
                · exact q5.elim
end
end DI
end
section
set_option Elab.async false
set_option linter.all false
set_option maxRecDepth 100000
set_option maxHeartbeats 2000000
/-! DI: o.m(..). -/
namespace DI
open PySem PySem.Spec PyProof.Rows L2
end DI
end
section
set_option Elab.async false
set_option linter.all false
set_option maxRecDepth 100000
set_option maxHeartbeats 2000000
/-! DI: enumerate and zip over lists and tuples. -/
namespace DI
open PySem PySem.Spec PyProof.Rows L2
/-- a list (false) or a tuple (true) -/
def SqB (K : PySem.W.Frag) (k : Bool) (H : Hp) (a : Addr) (xs : List V) : Prop := if k = true then SqT K H a xs else SqL K H a xs
def IsB (k : Bool) (h : Heap) (a : Addr) (xs : Array Value) : Prop := if k = true then h.IsTuple a xs else h.IsList a xs
def ItB (k : Bool) (h : Heap) (i a : Addr) (n : Nat) : Prop := if k = true then h.IsTupleIter i a n else h.IsListIter i a n
def obB (k : Bool) (a : Addr) : Obj := { cls := .type (if k = true then "tuple_iterator" else "list_iterator"), data := .fields #[.ref a, .int 0 0] }
theorem begB (k : Bool) (a : Addr) (xs : Array Value) : Begins (.ref a) (obB k a) fun h => IsB k h a xs := by
  cases k
  · exact begins_list a xs
  · exact begins_tuple a xs
theorem drwB {prog : Program} {w : World} {A : Around} (hh : A.handled = none) (k : Bool) (i a : Addr) (ne : a ≠ i) (xs : Array Value) : Draws prog w A i [i, a] xs.size (fun n v => xs[n]? = some v) (fun n h => ItB k h i a n ∧ IsB k h a xs) := by
  cases k
  · exact .list hh i a ne xs
  · exact .tuple hh i a ne xs
theorem itB_obj {k : Bool} {h : Heap} {i a : Addr} {n : Nat} (t : ItB k h i a n) : ∃ o, h.get? i = some o ∧ ∀ v, o.data ≠ .cell v := by
  cases k
  · obtain ⟨o, e, _, d⟩ := t
    exact ⟨o, e, fun v z => by rw [d] at z; cases z⟩
  · obtain ⟨o, e, _, d⟩ := t
    exact ⟨o, e, fun v z => by rw [d] at z; cases z⟩
theorem itB_at {k : Bool} {h h' : Heap} {i a : Addr} {n : Nat} (t : ItB k h i a n) (g : ∀ o, h.get? i = some o → h'.get? i = some o) : ItB k h' i a n := by
  cases k
  · exact Heap.IsListIter.at t fun o e => g o e
  · exact Heap.IsTupleIter.at t fun o e => g o e
theorem itB_new {k : Bool} {h : Heap} {i a : Addr} (e : h.get? i = some (obB k a)) : ItB k h i a 0 := by
  cases k
  · exact ⟨_, e, rfl, rfl⟩
  · exact ⟨_, e, rfl, rfl⟩
section
variable {X : Cx} {pins : List (Addr × Obj)} {σ : Sg} {H : Hp} {s : Shared} {k : Bool} {a : Addr} {xs ys : List V}
theorem seqB (I : Inv X pins σ H s) (h : SqB X.K k H a xs) : ∃ its : List Value, Vals xs its ∧ IsB k s.heap a its.toArray ∧ a < s.heap.objs.size := by
  cases k
  · obtain ⟨its, rv, p, _⟩ := I.list h
    exact ⟨its, rv, p.isList, p.lt⟩
  · obtain ⟨its, rv, p, _⟩ := I.tuple h
    obtain ⟨o, ho, _⟩ := id p
    exact ⟨its, rv, p, Heap.lt_size ho⟩
theorem seqB_inj (I : Inv X pins σ H s) (h : SqB X.K k H a xs) (h' : SqB X.K k H a ys) : xs = ys := by
  cases k
  · exact I.list_inj h h'
  · exact I.tuple_inj h h'
end
theorem Vals.item {xs : List V} {its : List Value} {i : Nat} {u : Value} (r : Vals xs its) (e : its.toArray[i]? = some u) : ∃ x, xs[i]? = some x ∧ RelV x u := by
  have hi : i < its.length := by
    have := (Array.getElem?_eq_some_iff.mp e).1
    simpa using this
  have hx : i < xs.length := by rw [r.length]; exact hi
  obtain ⟨v, e1, r1⟩ := r.get (List.getElem?_eq_getElem hx)
  have e2 : its[i]? = some u := by simpa using e
  rw [e2] at e1
  cases e1
  exact ⟨_, List.getElem?_eq_getElem hx, r1⟩
/-! ### enumerate -/
def IteB (K : PySem.W.Frag) (k : Bool) (c : Int) (a : Addr) : It :=
  ⟨fun i H => ∃ (xs : List V) (x : V), SqB K k H a xs ∧ xs[i]? = some x, fun i H v H' => ∃ T x, v = .ref T ∧ H T = none ∧ H' = upd H T (.tup [.int (c + (i : Int)), x]) ∧ ∀ xs, SqB K k H a xs → xs[i]? = some x, fun i H => ∃ xs : List V, SqB K k H a xs ∧ xs.length = i⟩
theorem turn_enB {P : Program} {w : World} {K : PySem.W.Frag} {elts : List Expr} {kk : Nat} {tpos : Pos} (k : Bool) (c : Int) (a e it : Addr) (hne : e ≠ it) (hea : e ≠ a) (hai : a ≠ it) :
    Turn P w K (.Tuple elts kk tpos) (IteB K k c a) [e, it] e (fun i h => (∃ old, IsEnum h e it (c + (i : Int)) old) ∧ ItB k h it a i) where
  mem := by simp
  obj := fun i h st b hb => by
    obtain ⟨⟨old, he⟩, hi⟩ := st
    have e' : b = e ∨ b = it := by simpa using hb
    rcases e' with z | z
    · rw [z]; exact ⟨_, he, fun v q => nomatch q⟩
    · rw [z]; exact itB_obj hi
  keep := fun i h h' st kp => let ⟨⟨old, he⟩, hi⟩ := st; ⟨⟨old, kp e (by simp) _ he⟩, itB_at hi fun o q => kp it (by simp) o q⟩
  item := by
    intro X hP hw hK hc i pins s σ H E I hf st hg
    subst hP hw hK
    obtain ⟨⟨old, he⟩, hit⟩ := st
    obtain ⟨xs, x, hq, hx⟩ := hg
    obtain ⟨its, rv, p, hz⟩ := seqB I hq
    have hl := rv.length
    have hlt : i < its.toArray.size := by
      have := (List.getElem?_eq_some_iff.mp hx).1
      simp; omega
    have hel : e < s.heap.objs.size := Heap.lt_size he
    have hil : it < s.heap.objs.size := by obtain ⟨_, q, _⟩ := itB_obj hit; exact Heap.lt_size q
    have hnf : e ∉ [it, a] := fun m => by
      rcases List.mem_cons.mp m with z | m
      · exact hne z
      · exact hea (by simpa using m)
    refine wpAny_pyNext_enum_itemC (drwB (A := X.A.in1) (I.ok.hd hc) k it a hai its.toArray) he ⟨hit, p⟩ hlt hne hnf fun u h' tk hu ho hit' hT hsz hk => ?_
    obtain ⟨x', hx', ru⟩ := Vals.item rv hu
    rw [hx] at hx'
    cases hx'
    refine ⟨_, rfl, wpAny_letOwnedTupleGo_enum (s := { s with heap := h', toks := tk + 1 }) ho fun h'' he' sb => ?_⟩
    have hT2 : h''.get? s.heap.objs.size = some { cls := .type "tuple", data := .seq #[.int (c + (i : Int)) tk, u] } := (sb.2 _ (Nat.ne_of_gt hel)).trans hT
    have new : ObjOk X.prog X.w (upd H s.heap.objs.size (.tup [.int (c + (i : Int)), x])) h'' s.heap.objs.size (.tup [.int (c + (i : Int)), x]) :=
      ⟨by show 2 ≤ sizeLine; decide, [.int (c + (i : Int)) tk, u], .cons ⟨_, rfl⟩ (.cons ru .nil), ⟨_, hT2, rfl, _, rfl⟩⟩
    have I1 : Inv X pins σ (upd H s.heap.objs.size (.tup [.int (c + (i : Int)), x])) { s with heap := h'', toks := tk + 1 } :=
      I.turnedNew (ch := [e, it]) (fun b ob hb q => (sb.2 b (fun z => hb (by simp [z]))).trans (hk b ob (fun z => hb (by simp [z])) (fun z => hb (by simp [z])) q)) hf (Nat.le_refl _) new
    refine ⟨.ref s.heap.objs.size, _, I1, rfl, ⟨_, x, rfl, I.hok.fresh (Nat.le_refl _), rfl, fun ys hy => by rw [seqB_inj I hy hq]; exact hx⟩, ⟨⟨u, ?_⟩, itB_at hit'.1 fun o q => (sb.2 it (Ne.symm hne)).trans q⟩, fun b hb => ?_⟩
    · have e1 : c + ((i + 1 : Nat) : Int) = c + (i : Int) + 1 := by omega
      rw [e1]; exact he'
    · have hb' : b < s.heap.objs.size := by
        have e' : b = e ∨ b = it := by simpa using hb
        rcases e' with z | z
        · rw [z]; exact hel
        · rw [z]; exact hil
      rw [upd_ne (Nat.ne_of_lt hb')]
      exact (hf b hb).1
  done := by
    intro X hP hw hK hc i pins s σ H E I hf st hg
    subst hP hw hK
    obtain ⟨⟨old, he⟩, hit⟩ := st
    obtain ⟨xs, hq, hx⟩ := hg
    obtain ⟨its, rv, p, hz⟩ := seqB I hq
    obtain ⟨f0, f1, f2, f3, f4, f5⟩ := hf it (by simp)
    have hl := rv.length
    have hn : its.toArray.size = i := by simp; omega
    refine wpAny_pyNext_enum_endD (drwB (A := X.A.in1) (I.ok.hd hc) k it a hai its.toArray) he ⟨?_, p⟩ fun h' eb => ⟨rfl, I.turned (t' := s.toks) (fun b o hb q => eb b o hb q) f0 f1 f3 f4 f5⟩
    rw [hn]
    exact hit
  self := fun A i s Q E st h => let ⟨⟨_, he⟩, _⟩ := st; wpAny_pyIter_enum he h
theorem meets_en1 {v : Value} {o : Obj} {H : Heap → Prop} (B : Begins v o H) :
    Meets (Builtin.«enumerate.__new__» ⟨[.type "enumerate", v], []⟩) (fun _ R s => H s.heap ∧
      R (.ok (.ret (.ref (s.heap.push o).objs.size))) { s with heap := (s.heap.push o).push { cls := .type "enumerate", data := .fields #[.none, .bool false, .ref s.heap.objs.size, rawInt 0, .none, .none] } }) :=
  .of_wp fun prog w A R s h => by
    obtain ⟨hp, g, d, tk, os⟩ := s
    obtain ⟨h1, h⟩ := h
    have hsub := sub_enumerate
    have begun : ∀ {A' : Around} {E : Value → Shared → Prop} {Q : Value → Shared → Prop}, Q (.ref hp.objs.size) ⟨hp.push o, g, d, tk, os⟩ → wpAny (model prog w) A' (pyIter v) Q E ⟨hp, g, d, tk, os⟩ :=
      fun q => B.iter prog w _ _ ⟨hp, g, d, tk, os⟩ _ h1 q
    wp_walk using begun
    refine wpAny_stack_any fun st => wpAny_pure ?_
    split
    · rename_i c _ _ _ _ _
      cases (c == Value.type "enumerate") <;> (wp_walk using begun; exact ⟨_, rfl, h⟩)
    · wp_walk using begun
      exact ⟨_, rfl, h⟩
section
variable {prog : Program} {w : World} {A : Around} {E : Value → Shared → Prop} {s : Shared}
theorem en1_begins {v : Value} {o : Obj} {H : Heap → Prop} {Q : Value → Shared → Prop} (B : Begins v o H) (h1 : H s.heap)
    (h : ∀ h', IsEnum h' (s.heap.objs.size + 1) s.heap.objs.size 0 .none → h'.get? s.heap.objs.size = some o → h'.objs.size = s.heap.objs.size + 2 →
      (∀ b o, s.heap.get? b = some o → h'.get? b = some o) → Q (.ref (s.heap.objs.size + 1)) { s with heap := h' }) :
    wpAny (model prog w) A (call (.type "enumerate") [v]) Q E s := by
  refine callType_new F.called_enumerate (by decide) (F.typeCall_enumerate_1 _) (F.newCall_enumerate_1 _) (fun obj => F.args_object_init_2 obj _) F.entry_enumerate_new (meets_en1 B) ⟨h1, ?_⟩
  have grown : (s.heap.push o).objs.size = s.heap.objs.size + 1 := Heap.size_push ..
  have last := Heap.get?_push_size (s.heap.push o) (o := { cls := .type "enumerate", data := .fields #[.none, .bool false, .ref s.heap.objs.size, rawInt 0, .none, .none] }) rfl
  show _ ∧ _
  rw [grown] at last ⊢
  exact ⟨⟨_, last, rfl⟩, h _ last (Heap.get?_push_of_some _ (Heap.get?_push_size _ B.free)) (by rw [Heap.size_push, grown]) fun b u x => Heap.get?_push_of_some _ (Heap.get?_push_of_some _ x)⟩
end
def iEnB (K : PySem.W.Frag) (ta : TA) : TI := fun σ H R => ta σ H fun vs H1 => ∃ k a xs, vs = [.ref a] ∧ SqB K k H1 a xs ∧ R (IteB K k 0 a) H1
theorem pi_enB {X : Cx} {e : Expr} {ta : TA} {p pos tpos : Pos} {elts : List Expr} {kk : Nat} (hg : Gl X "enumerate") (hm : X.mg "enumerate" = none) (ha : PA X [e] ta) (hs : starEach [e] X.env = [(false, eval e X.env)] := by rfl) :
    PI X (.Tuple elts kk tpos) (.Call (.Name "enumerate" p) [e] [] pos) (iEnB X.K ta) := by
  refine ⟨fun pins s σ H R I h => ?_⟩
  refine Call_ (ld_blt I hg hm boot_enumerate (PyProof.Rows.callWith_type1 (thn (ha.run pos pins s σ H _ I h) fun us s1 ⟨vs, H1, I1, r1, q1⟩ => ?_) hs rfl))
  obtain ⟨k, a, xs, ex, hq, q⟩ := q1
  subst ex
  cases r1 with
  | cons r rr =>
    cases rr
    cases r
    obtain ⟨its, rv, p', hz⟩ := seqB I1 hq
    refine en1_begins (begB k a its.toArray) p' fun h' he hit hsz hk => wpAny_pyIter_enum he ?_
    have I2 : Inv X pins σ H1 { s1 with heap := h' } := I1.kept (t' := s1.toks) hk
    refine ⟨s1.heap.objs.size + 1, [s1.heap.objs.size + 1, s1.heap.objs.size], _, _, H1, rfl, I2, turn_enB k 0 a (s1.heap.objs.size + 1) s1.heap.objs.size (Nat.succ_ne_self _) (Nat.ne_of_gt (Nat.lt_succ_of_lt hz)) (Nat.ne_of_lt hz), ⟨⟨.none, he⟩, itB_new hit⟩, fun b hb => ?_, q⟩
    have e' : b = s1.heap.objs.size + 1 ∨ b = s1.heap.objs.size := by simpa using hb
    have hle : s1.heap.objs.size ≤ b := by
      rcases e' with z | z
      · rw [z]; exact Nat.le_add_right _ _
      · rw [z]; exact Nat.le_refl _
    exact I1.fpOk hle (I1.hok.fresh hle)
/-! ### zip of two -/
/-! ### over data -/
def seqD : D → Option (Bool × List D)
  | .lst ds => some (false, ds)
  | .scr ds => some (false, ds)
  | .tup ds => some (true, ds)
  | _ => none
theorem seqD_rep {K : PySem.W.Frag} {cm : CM} {S H : Hp} {v : V} {d : D} {k : Bool} {ds : List D} (sh : Same S H) (h : View K cm S H v d) (e : seqD d = some (k, ds)) : ∃ a xs, v = .ref a ∧ SqB K k H a xs ∧ RepL K cm S xs ds := by
  cases d <;> cases e
  · obtain ⟨a, xs, rfl, h1, h2⟩ := h.tup
    exact ⟨a, xs, rfl, same_sqT sh h1, h2⟩
  · obtain ⟨a, xs, rfl, h1, h2⟩ := h.lst sh
    exact ⟨a, xs, rfl, SqL.of h1, h2⟩
  · obtain ⟨a, xs, rfl, h1, h2⟩ := h.scr
    exact ⟨a, xs, rfl, same_sqL sh h1, h2⟩
def enumL (c : Int) : List D → List D
  | [] => []
  | d :: ds => .tup [.int c, d] :: enumL (c + 1) ds
theorem enumL_get : ∀ {ds : List D} {c : Int} {i : Nat}, (enumL c ds)[i]? = ds[i]?.map fun d => .tup [.int (c + (i : Int)), d]
  | [], _, i => by simp [enumL]
  | d :: ds, c, 0 => by simp [enumL]
  | d :: ds, c, i + 1 => by
    show (enumL (c + 1) ds)[i]? = _
    rw [enumL_get]
    have e : c + 1 + (i : Int) = c + ((i + 1 : Nat) : Int) := by omega
    rw [e]
    simp
theorem enumL_len : ∀ {ds : List D} {c : Int}, (enumL c ds).length = ds.length
  | [], _ => rfl
  | d :: ds, c => by simp [enumL, enumL_len]
def zipL : List D → List D → List D
  | x :: xs, y :: ys => .tup [x, y] :: zipL xs ys
  | _, _ => []
section
variable {K : PySem.W.Frag} {cm : CM} {S S' H H' : Hp}
theorem sqB_same {k : Bool} {a : Addr} {xs : List V} (e : Same H H') (h : SqB K k H a xs) : SqB K k H' a xs := by
  cases k
  · exact same_sqL e h
  · exact same_sqT e h
theorem wk_enB {k : Bool} {c : Int} {a : Addr} {xs : List V} {ds : List D} {S B : Hp} (h : ∀ H, Same B H → SqB K k H a xs) (r : RepL K cm S xs ds) : Wk K cm (IteB K k c a) S B (enumL c ds) := fun i S' H s1 s2 s3 => by
  refine ⟨fun d e => ?_, fun l => ?_⟩
  · rw [enumL_get] at e
    cases q : ds[i]? with
    | none => rw [q] at e; cases e
    | some d0 =>
      rw [q] at e
      cases e
      obtain ⟨v, e1, r1⟩ := r.get q
      refine ⟨⟨xs, v, h H s3, e1⟩, fun x H' ⟨T, y, e2, e3, e4, e5⟩ => ?_⟩
      have := e5 xs (h H s3)
      rw [e1] at this
      cases this
      subst e2 e4
      exact ⟨_, Xt.new s2 e3, .tup (.inl (.inl upd_same)) (.cons (.int _) (.cons (r1.mono (s1.trans (same_upd (s2.free e3)))) .nil))⟩
  · exact ⟨xs, h H s3, by rw [r.length, ← l, enumL_len]⟩
end
/-- enumerate(e) -/
def enumI (f : LS → R (List D)) : LS → R (List D) := fun st => (f st).bind fun ds => match ds with
  | [d] => .of ((seqD d).map fun p => enumL 0 p.2)
  | _ => .bad
/-- zip(e, e2) -/
def zipI (f : LS → R (List D)) : LS → R (List D) := fun st => (f st).bind fun ds => match ds with
  | [d, e] => .of ((seqD d).bind fun p => (seqD e).map fun q => zipL p.2 q.2)
  | _ => .bad
section
variable {X : Cx} {cm : CM} {W : WH} {e e2 : Expr} {p pos tpos : Pos} {elts : List Expr} {kk : Nat} {args : LS → R (List D)}
theorem i_enum (hm : X.mg "enumerate" = none) (ha : PA X [e] (EA X.K cm W args)) (hg : Gl X "enumerate" := by rfl) (hs : starEach [e] X.env = [(false, eval e X.env)] := by rfl) :
    PI X (.Tuple elts kk tpos) (.Call (.Name "enumerate" p) [e] [] pos) (IE X.K cm W (enumI args)) :=
  (pi_enB hg hm ha hs).imp fun σ H R ⟨st, S, fp, r, g⟩ => ⟨st, S, fp, r, g.bind.mono fun ds S1 H1 x1 k1 vs hv => by
    match ds, k1, hv with
    | [d], k1, hv =>
      obtain ⟨its, hi, k2⟩ := k1.of
      cases q : seqD d with
      | none => rw [q] at hi; cases hi
      | some pr =>
        obtain ⟨k, ds⟩ := pr
        rw [q] at hi
        cases hi
        obtain ⟨v, rfl, rv⟩ := rep1 hv
        obtain ⟨a, xs, rfl, h1, h2⟩ := seqD_rep (Same.refl S1) (.inl rv) q
        exact ⟨k, a, xs, rfl, sqB_same x1.sh h1, k2 H1 S1 (Xt.refl x1.sh) _ (wk_enB (fun H s => sqB_same s h1) h2)⟩
    | [], k1, hv => exact k1.elim
    | _ :: _ :: _, k1, hv => exact k1.elim⟩
end
end DI
end
section
set_option Elab.async false
set_option linter.all false
set_option maxRecDepth 100000
set_option maxHeartbeats 2000000
/-! DI: bundles for the text that the program prints. -/
namespace DI
open PySem PySem.Spec PyProof.Rows L2
def frzS (i : Nat) (F : LS → Out) : LS → Out := fun st => F (frz i st)
theorem takesF {X : Cx} : Takes X WF.w := fun u s' ⟨a, B, sI, pins, σ, H, cls, d, e, I, nb, up, sky, na, os, ag, w⟩ => w.elim
/-- a def, its promise, its default values -/
structure DefP (P : Program) (w : World) (K : PySem.W.Frag) (mg : Str → Option Value) (base : Heap) (cm : CM) (k n : Nat) (f : Addr) (F : List D → R D) (dds : List D) : Prop where
  ok : ∃ fd ps dvs, FnOk P w K mg base (L2.CX P w) k f fd ps (spD K cm n F) ∧ (∀ S, RepL K cm S dvs dds) ∧ ∀ j, j ≤ dds.length → ∃ us, Vals (dvs.drop j) us ∧ Binds K fd ps us
/-- an __init__ -/
structure IniP (P : Program) (w : World) (K : PySem.W.Frag) (mg : Str → Option Value) (base : Heap) (cm : CM) (k n c : Nat) (f : Addr) (F : List D → R (List D)) (dds : List D) : Prop where
  ok : ∃ fd ps dvs, FnOk P w K mg base (L2.CX P w) k f fd ps (spI K cm c n F) ∧ (∀ S, RepL K cm S dvs dds) ∧ ∀ j, j ≤ dds.length → ∃ us, Vals (dvs.drop j) us ∧ Binds K fd ps us
/-- the name stands at the top for this def -/
structure At (K : PySem.W.Frag) (mg : Str → Option Value) (x : Str) (f : Addr) : Prop where
  mg : mg x = some (.ref f)
  kp : PySem.W.keepIn K (.ref f) = true
/-- the name stands at the top for this class -/
structure ClsAt (K : PySem.W.Frag) (mg : Str → Option Value) (cm : CM) (x : Str) (c : Nat) (f : Addr) : Prop where
  mg : mg x = some (.ref (cm.addr c))
  make : Mk K (cm.addr c) f
  mem : c ∈ cm.cls
section
variable {X : Cx} {cm : CM} {W : WH} {k n c : Nat} {f : Addr} {x m : Str} {p pos apos : Pos} {e o a b : Expr} {es : List Expr} {args : LS → R (List D)} {fo f1 g1 : LS → R D} {F : List D → R D} {G : List D → R (List D)} {dds : List D}
theorem DefP.def {P : Program} {w : World} {K : PySem.W.Frag} {mg : Str → Option Value} {base : Heap} {n k : Nat} {F : List D → R D} (h : DefP P w K mg base cm k n f F []) : ∃ fd ps, FnOk P w K mg base (L2.CX P w) k f fd ps (spD K cm n F) ∧ Binds K fd ps [] := by
  obtain ⟨fd, ps, dvs, a, r, b⟩ := h.ok
  obtain ⟨us, c, d⟩ := b 0 (Nat.zero_le _)
  have r0 := r (fun _ => none)
  cases r0
  cases c
  exact ⟨fd, ps, a, d⟩
theorem DefP.dok (h : DefP X.prog X.w X.K X.mg X.base cm k n f F []) (tk : Takes X W.w) (hr : Room k X.A) : DefOk X cm W k n f F := ⟨h.def, hr, tk⟩
theorem e_callP (j : Nat) (h : DefP X.prog X.w X.K X.mg X.base cm k n f F dds) (A : At X.K X.mg x f) (tk : Takes X W.w) (hr : Room k X.A) (hj : j ≤ dds.length) (ha : PA X (e :: es) (EA X.K cm W args)) (hg : Gl X x := by rfl) (hdb : (x == ("__debug__" : Str)) = false := by decide)
    (he : starEach (e :: es) X.env = (false, eval e X.env) :: starEach es X.env := by rfl) (hpl : (backTo pos (starEach es X.env)).any (·.1) = false := by rfl) : PE X (.Call (.Name x p) (e :: es) [] pos) (E X.K cm W (callU (ar n F) (dds.drop j) args)) := by
  obtain ⟨fd, ps, dvs, h1, r, h2⟩ := h.ok
  obtain ⟨us, h3, h4⟩ := h2 j hj
  exact e_call h1 tk hr A.mg A.kp h4 h3 (fun S => (r S).drop j) ha hg hdb he hpl
theorem e_makeP (j : Nat) (h : IniP X.prog X.w X.K X.mg X.base cm k n c f G dds) (A : ClsAt X.K X.mg cm x c f) (tk : Takes X W.w) (hr : Room (k + 1) X.A) (hj : j ≤ dds.length) (ha : PA X (e :: es) (EA X.K cm W args)) (hg : Gl X x := by rfl) (hdb : (x == ("__debug__" : Str)) = false := by decide)
    (he : starEach (e :: es) X.env = (false, eval e X.env) :: starEach es X.env := by rfl) (hpl : (backTo pos (starEach es X.env)).any (·.1) = false := by rfl) : PE X (.Call (.Name x p) (e :: es) [] pos) (E X.K cm W (makeU c (arI n G) (dds.drop j) args)) := by
  obtain ⟨fd, ps, dvs, h1, r, h2⟩ := h.ok
  obtain ⟨us, h3, h4⟩ := h2 j hj
  exact e_make A.mem rfl A.make h1 tk hr A.mg h4 h3 (fun S => (r S).drop j) ha hg hdb he hpl
/-- an own __eq__ -/
structure EqP (K : PySem.W.Frag) (cm : CM) (c : Nat) (f : Addr) : Prop where
  nf : NfOk K cm c
  at_ : PySem.W.findIn K (.ref (cm.addr c)) "__eq__" = some (some (.ref f))
  fn : PySem.W.isFn K (.ref f) = true
theorem e_eqP (ok : ∀ c ∈ cm.cls, ClsOk X.K (cm.addr c)) (h : DefP X.prog X.w X.K X.mg X.base cm k 2 f F []) (q : EqP X.K cm c f) (tk : Takes X W.w) (hr : Room k X.A) (ha : PE X a (E X.K cm W f1)) (hb : PE X b (E X.K cm W g1)) (hm : behindInMarks .Eq b = false := by rfl) :
    PE X (.Compare a [.Eq] [b] pos) (E X.K cm W (op2R (eqT c F) f1 g1)) := e_eqO (fun _ _ => rfl) ok q.nf (h.dok tk hr) q.at_ q.fn (or_eq hr) d_eq ha hb hm
theorem t_eqP (ok : ∀ c ∈ cm.cls, ClsOk X.K (cm.addr c)) (h : DefP X.prog X.w X.K X.mg X.base cm k 2 f F []) (q : EqP X.K cm c f) (tk : Takes X W.w) (hr : Room k X.A) (ha : PE X a (E X.K cm W f1)) (hb : PE X b (E X.K cm W g1)) (hm : behindInMarks .Eq b = false := by rfl) :
    PT X (.Compare a [.Eq] [b] pos) (TB X.K cm W (tb (op2R (eqT c F) f1 g1))) := t_eqO (fun _ _ => rfl) ok q.nf (h.dok tk hr) q.at_ q.fn (or_eq hr) d_eq ha hb hm
end
def dIAdd : D → D → Option D := dII fun i j => some (.int (i + j))
/-- an empty tuple that stands -/
theorem rep_t0 {K : PySem.W.Frag} {cm : CM} {t : Addr} {o : Obj} {n : Nat} (h : K.lookup t = some o) (c : o.cls = .type "tuple") (d : o.data = .seq #[] n) : ∀ S, Rep K cm S (.ref t) (.tup []) := fun S => .tup (.inr ⟨o, #[], n, h, c, d, by decide, .nil⟩) .nil
/-! ### built-in names -/
theorem b_len : bootBuiltins "len" = some (.builtin "len") := by decide +kernel
theorem b_max : bootBuiltins "max" = some (.builtin "max") := by decide +kernel
theorem b_min : bootBuiltins "min" = some (.builtin "min") := by decide +kernel
theorem b_sorted : bootBuiltins "sorted" = some (.builtin "sorted") := by decide +kernel
theorem b_int : bootBuiltins "int" = some (.type "int") := by decide +kernel
theorem b_bool : bootBuiltins "bool" = some (.type "bool") := by decide +kernel
theorem b_list : bootBuiltins "list" = some (.type "list") := by decide +kernel
theorem b_tuple : bootBuiltins "tuple" = some (.type "tuple") := by decide +kernel
/-! ### what stands at the top -/
theorem fa_nil {p : Nat → Prop} : ∀ c ∈ ([] : List Nat), p c := fun _ m => nomatch m
theorem fa_cons {p : Nat → Prop} {a : Nat} {l : List Nat} (h : p a) (t : ∀ c ∈ l, p c) : ∀ c ∈ a :: l, p c := fun c m => (List.mem_cons.mp m).elim (fun e => e ▸ h) (t c)
theorem fp_nil {p : Nat × Nat → Prop} : ∀ c ∈ ([] : List (Nat × Nat)), p c := fun _ m => nomatch m
theorem fp_cons {p : Nat × Nat → Prop} {a : Nat × Nat} {l : List (Nat × Nat)} (h : p a) (t : ∀ c ∈ l, p c) : ∀ c ∈ a :: l, p c := fun c m => (List.mem_cons.mp m).elim (fun e => e ▸ h) (t c)
/-! ### the law -/
/-- the law's promise, told without classes -/
def spLaw (K : PySem.W.Frag) : Sp := fun vs H Q _ => ∃ (a : Addr) (ns : List Int), vs = [.ref a] ∧ SqL K H a (ns.map V.int) ∧ ns.length ≤ 63 ∧ (∀ z ∈ ns, Builtin.Int.intBits z ≤ 1048576) ∧ ∀ H', Q (.bl true) H'
theorem law_sp {K : PySem.W.Frag} {cm : CM} {F : List D → R D} (h : ∀ ns : List Int, ns.length ≤ 63 → (∀ z ∈ ns, Builtin.Int.intBits z ≤ 1048576) → F [.scr (ns.map D.int)] = .ok (.bl true)) : ∀ vs H Q E, spLaw K vs H Q E → spD K cm 1 F vs H Q E := by
  rintro vs H Q E ⟨a, ns, rfl, hS, hl, hb, k⟩
  refine ⟨rfl, H, [.scr (ns.map D.int)], Same.refl H, .cons (.scr hS (RepL.ints ns)) .nil, ?_⟩
  show Fin K cm H H Q E (F [.scr (ns.map D.int)])
  rw [h ns hl hb]
  intro v H' S' x hv
  cases hv
  exact k H'
theorem cx_none {P : Program} {w : World} {H : Hp} {s : Shared} {e : Value} {s' : Shared} (h : L2.CX P w [] H s (fun _ _ _ => False) e s') : False := by
  obtain ⟨a, B, H', cls, d, rfl, fl, hok, ub, na, os, ag, hE⟩ := h
  exact hE
theorem walk {l : PySem.W.OpenLaw} {q : Program} {loose : List Str} {XP : (Str → Option Value) → Heap → Prop} {YP : World → Heap → Prop} {d : DefRec} {K : Params → PySem.W.Frag} {k : Nat} (hn : l.most = some 63) (hdf : d.params.defaults = []) (hr : Room k callerA)
    (hY : ∀ (w : World) (h : Heap), YP w h → (K w.params).In h)
    (F : ∀ (w : World) (mg : Str → Option Value) (fa : Addr) (h : Heap), (K w.params).In h → h.Ns mainGlobals mg → mg d.name = some (.ref fa) →
      ∃ fd : FuncData, (∀ (s : Shared) (u : Value), BindsTo s fd ⟨[u], []⟩ [("_law_script", u)]) ∧ ∀ base : Heap, (K w.params).In base → base.Ns mainGlobals mg → FnOk l.prog w (K w.params) mg base (L2.CX l.prog w) k fa fd ["_law_script"] (spLaw (K w.params))) :
    PySem.W.WalkO q loose XP YP l.row.toRowW d [] (fun f vs => PySem.call f vs) :=
  walk_ofB (n := 63) (k := k) (x := "_law_script") (CX := fun w => L2.CX l.prog w) (sp := fun w => spLaw (K w.params)) hn (by decide) hdf hr hY F (fun w H a ns hl hb _ hS => ⟨a, ns, rfl, hS, hl, hb, fun _ => rfl⟩) fun w H s e s' z => cx_none z
end DI
end
section
set_option Elab.async false
set_option linter.all false
set_option maxRecDepth 100000
set_option maxHeartbeats 2000000
/-! DI: reckoning with denotations. -/
namespace DI
open PySem L2
section
variable {st : LS} {F G : LS → Out} {f g : LS → R D} {a b : D} {d e : D} {o : Option (Option T)} {t : T} {i j : Int} {α β : Type} {k : α → Out} {kk : α → R β}
@[simp] theorem ev_get0 {x : Option T} {l : LS} : (x :: l)[0]? = some x := rfl
@[simp] theorem ev_getS {x : Option T} {l : LS} {n : Nat} : (x :: l)[n + 1]? = l[n]? := rfl
@[simp] theorem ev_put0 {x y : Option T} {l : LS} : (x :: l).set 0 y = y :: l := rfl
@[simp] theorem ev_putS {x y : Option T} {l : LS} {n : Nat} : (x :: l).set (n + 1) y = x :: l.set n y := rfl
@[simp] theorem ev_seq : seqS F G st = (F st).seq G := rfl
@[simp] theorem ev_seq_nx : (Out.nx st).seq G = G st := rfl
@[simp] theorem ev_seq_rt : (Out.rt d).seq G = .rt d := rfl
@[simp] theorem ev_seq_bk : (Out.bk st).seq G = .bk st := rfl
@[simp] theorem ev_seq_ct : (Out.ct st).seq G = .ct st := rfl
@[simp] theorem ev_seq_ex {x : Ex} : (Out.ex st x).seq G = .ex st x := rfl
theorem ev_seq_ite {c : Prop} [Decidable c] {x y : Out} : (if c then x else y).seq G = if c then x.seq G else y.seq G := by split <;> rfl
@[simp] theorem ev_end_rt : (Out.rt d).end = .ok d := rfl
@[simp] theorem ev_end_nx : (Out.nx st).end = .ok .non := rfl
@[simp] theorem ev_end_ex {x : Ex} : (Out.ex st x).end = .ex x := rfl
theorem ev_end_ite {c : Prop} [Decidable c] {x y : Out} : (if c then x else y).end = if c then x.end else y.end := by split <;> rfl
@[simp] theorem ev_nil : nilS st = .nx st := rfl
@[simp] theorem ev_ok {x : α} : (R.ok x).bind kk = kk x := rfl
@[simp] theorem ev_ex {x : Ex} : (R.ex x : R α).bind kk = .ex x := rfl
@[simp] theorem ev_out {x : α} : (R.ok x).out st k = k x := rfl
@[simp] theorem ev_outx {x : Ex} : (R.ex x : R α).out st k = .ex st x := rfl
@[simp] theorem ev_of {x : α} : R.of (some x) = .ok x := rfl
@[simp] theorem ev_bind_ite {c : Prop} [Decidable c] {x y : R α} : (if c then x else y).bind kk = if c then x.bind kk else y.bind kk := by split <;> rfl
@[simp] theorem ev_out_ite {c : Prop} [Decidable c] {x y : R α} : (if c then x else y).out st k = if c then x.out st k else y.out st k := by split <;> rfl
@[simp] theorem ev_imD : imD (some (some (.im d))) = some d := rfl
@[simp] theorem ev_vi {n : Nat} : vi n st = .of (imD st[n]?) := rfl
@[simp] theorem ev_vv {n : Nat} : vv n st = .of (viewD st[n]?) := rfl
@[simp] theorem ev_viewI : viewD (some (some (.im d))) = some d := rfl
@[simp] theorem ev_viewL {ts : List T} : viewD (some (some (.lst ts))) = (imms ts).map .lst := rfl
@[simp] theorem ev_imms {ds : List D} : imms (ds.map .im) = some ds := by
  induction ds with
  | nil => rfl
  | cons d ds ih => rw [List.map_cons]; unfold imms; rw [ih]; rfl
@[simp] theorem ev_cc : cc d st = .ok d := rfl
@[simp] theorem ev_bin {op : D → D → Option D} : bin op f g st = (f st).bind fun x => (g st).bind fun y => .of (op x y) := rfl
@[simp] theorem ev_un {op : D → Option D} : un op f st = (f st).bind fun x => .of (op x) := rfl
@[simp] theorem ev_tb : tb f st = (f st).bind fun x => .of (dB x) := rfl
@[simp] theorem ev_dB {b : Bool} : dB (.bl b) = some b := rfl
@[simp] theorem ev_chain {op op' : D → D → Option D} {h : LS → R D} : chain op op' f g h st = (f st).bind fun x => (g st).bind fun y => (R.of (op x y)).bind fun z => (R.of (dB z)).bind fun b => if b = true then (h st).bind fun u => .of (op' y u) else .ok (.bl false) := rfl
@[simp] theorem ev_andB {p q : LS → R Bool} : andB p q st = (p st).bind fun b => if b = true then q st else .ok false := rfl
@[simp] theorem ev_orB {p q : LS → R Bool} : orB p q st = (p st).bind fun b => if b = true then .ok true else q st := rfl
@[simp] theorem ev_notB {p : LS → R Bool} : notB p st = (p st).bind fun b => .ok (!b) := rfl
@[simp] theorem ev_andE : andE f g st = (f st).bind fun x => (R.of (dB x)).bind fun b => if b = true then g st else .ok (.bl false) := rfl
@[simp] theorem ev_orE : orE f g st = (f st).bind fun x => (R.of (dB x)).bind fun b => if b = true then .ok (.bl true) else g st := rfl
@[simp] theorem ev_notE : notE f st = (f st).bind fun x => .of (dNot x) := rfl
@[simp] theorem ev_dNot {b : Bool} : dNot (.bl b) = some (.bl (!b)) := rfl
@[simp] theorem ev_ifE {p : LS → R Bool} : ifE p f g st = (p st).bind fun b => if b = true then f st else g st := rfl
@[simp] theorem ev_nilA : nilA st = .ok [] := rfl
@[simp] theorem ev_consA {r : LS → R (List D)} : consA f r st = (f st).bind fun x => (r st).bind fun xs => .ok (x :: xs) := rfl
@[simp] theorem ev_tupE {r : LS → R (List D)} : tupE r st = (r st).bind fun ds => .of ((lineL ds).map .tup) := rfl
@[simp] theorem ev_lstE {r : LS → R (List D)} : lstE r st = (r st).bind fun ds => .of ((lineL ds).map .lst) := rfl
@[simp] theorem ev_lstF {r : LS → R (List D)} : lstF r st = (r st).bind fun ds => .of ((lineL ds).map imT) := rfl
@[simp] theorem ev_line0 : lineL [] = some [] := if_pos (Nat.zero_le _)
theorem ev_line {ds : List D} (h : ds.length ≤ 16777216) : lineL ds = some ds := if_pos h
@[simp] theorem ev_ret : retS f st = (f st).out st .rt := rfl
@[simp] theorem ev_set {n : Nat} : setS n f st = (f st).out st fun d => .nx (st.set n (some (.im d))) := rfl
@[simp] theorem ev_setF {n : Nat} {f : LS → R T} : setF n f st = (f st).out st fun t => .nx (st.set n (some t)) := rfl
@[simp] theorem ev_asg {gg : D → LS → Option LS} : asgS f gg st = (f st).out st fun d => .of (gg d st) := rfl
@[simp] theorem ev_Oof : Out.of (some st) = .nx st := rfl
theorem ev_if {c : LS → R Bool} : ifS c F G st = (c st).out st fun b => if b = true then F st else G st := rfl
@[simp] theorem ev_drop : dropS f st = (f st).out st fun _ => .nx st := rfl
@[simp] theorem ev_for {fi : LS → R (List D)} {gg : D → LS → Option LS} : forS fi gg F st = (fi st).out st fun ds => forL gg F ds st := rfl
@[simp] theorem ev_while {n : Nat} {c : LS → R Bool} : whileS n c F st = whileL c F n st := rfl
@[simp] theorem ev_frzS {n : Nat} : frzS n F st = F (frz n st) := rfl
@[simp] theorem ev_gN {n : Nat} : gN n d st = some (st.set n (some (.im d))) := rfl
@[simp] theorem ev_gsNil : gsNil [] st = some st := rfl
@[simp] theorem ev_gsCons {gg : D → LS → Option LS} {hh : List D → LS → Option LS} {ds : List D} : gsCons gg hh (d :: ds) st = (gg d st).bind fun s => hh ds s := rfl
@[simp] theorem ev_gT {n : Nat} {hh : List D → LS → Option LS} {ds : List D} : gT n hh (.tup ds) st = if ds.length = n then hh ds st else none := rfl
def oB {α : Type} (o : Option α) (k : α → Out) : Out := match o with
  | none => .bad
  | some a => k a
@[simp] theorem oB_some {α : Type} {a : α} {k : α → Out} : oB (some a) k = k a := rfl
@[simp] theorem ev_app {n : Nat} {f : LS → R T} : appS n f st = oB (ownL st[n]?) fun ts => (f st).out st fun t => if ts.length < sizeLine then .nx (st.set n (some (.lst (ts ++ [t])))) else .bad := by
  unfold appS
  cases ownL st[n]? <;> rfl
@[simp] theorem ev_frz0 {t : T} {l : LS} : frz 0 (some t :: l) = some (.im t.toD) :: l := rfl
@[simp] theorem ev_frzS' {n : Nat} {x : Option T} {l : LS} : frz (n + 1) (x :: l) = x :: frz n l := by
  unfold frz
  rw [ev_getS]
  split <;> rfl
@[simp] theorem ev_size : sizeLine = 16777216 := rfl
@[simp] theorem ev_imI {xs : List D} : (List.map T.im xs).length = xs.length := List.length_map ..
@[simp] theorem ev_ownL {ts : List T} : ownL (some (some (.lst ts))) = some ts := rfl
@[simp] theorem ev_callU {H : List D → R D} {dd : List D} {r : LS → R (List D)} : callU H dd r st = (r st).bind fun ds => H (ds ++ dd) := rfl
theorem ev_ar {n : Nat} {H : List D → R D} {ds : List D} (h : ds.length = n) : ar n H ds = H ds := if_pos h
theorem ev_arI {n : Nat} {H : List D → R (List D)} {ds : List D} (h : ds.length = n) : arI n H ds = H ds := if_pos h
@[simp] theorem ev_makeU {c : Nat} {H : List D → R (List D)} {dd : List D} {r : LS → R (List D)} : makeU c H dd r st = (r st).bind fun ds => (H (ds ++ dd)).bind fun fs => .ok (.ins c fs) := rfl
@[simp] theorem ev_callE {op : List D → Option D} {r : LS → R (List D)} : callE op r st = (r st).bind fun ds => .of (op ds) := rfl
@[simp] theorem ev_callF {op : List D → Option (List D)} {r : LS → R (List D)} : callF op r st = (r st).bind fun ds => .of ((op ds).map imT) := rfl
@[simp] theorem ev_callI {op : List D → Option (List D)} {r : LS → R (List D)} : callI op r st = (r st).bind fun ds => .of (op ds) := rfl
@[simp] theorem ev_items : items f st = (f st).bind fun d => .of (itemsD d) := rfl
@[simp] theorem ev_itL {ds : List D} : itemsD (.lst ds) = some ds := rfl
@[simp] theorem ev_itT {ds : List D} : itemsD (.tup ds) = some ds := rfl
@[simp] theorem ev_itS {ds : List D} : itemsD (.scr ds) = some ds := rfl
def enumX : List D → R (List D)
  | [d] => .of ((seqD d).map fun p => enumL 0 p.2)
  | _ => .bad
@[simp] theorem ev_enum {r : LS → R (List D)} : enumI r st = (r st).bind enumX := rfl
@[simp] theorem ev_enumT {ds : List D} : enumX [.tup ds] = .ok (enumL 0 ds) := rfl
@[simp] theorem ev_enumL {ds : List D} : enumX [.lst ds] = .ok (enumL 0 ds) := rfl
def zipX : List D → R (List D)
  | [d, e] => .of ((seqD d).bind fun p => (seqD e).map fun q => zipL p.2 q.2)
  | _ => .bad
@[simp] theorem ev_zip {r : LS → R (List D)} : zipI r st = (r st).bind zipX := rfl
@[simp] theorem ev_zipTT {ds es : List D} : zipX [.tup ds, .tup es] = .ok (zipL ds es) := rfl
@[simp] theorem ev_zipTL {ds es : List D} : zipX [.tup ds, .lst es] = .ok (zipL ds es) := rfl
@[simp] theorem ev_zipLT {ds es : List D} : zipX [.lst ds, .tup es] = .ok (zipL ds es) := rfl
@[simp] theorem ev_zipLL {ds es : List D} : zipX [.lst ds, .lst es] = .ok (zipL ds es) := rfl
@[simp] theorem ev_compE {fi : LS → R (List D)} {vs : List Nat} {gg : D → LS → Option LS} {c : LS → R Bool} : compE fi vs gg c f st = (compR fi vs gg c f st).bind fun ys => .ok (.lst ys) := rfl
@[simp] theorem ev_compF {fi : LS → R (List D)} {vs : List Nat} {gg : D → LS → Option LS} {c : LS → R Bool} : compF fi vs gg c f st = (compR fi vs gg c f st).bind fun ys => .ok (imT ys) := rfl
@[simp] theorem ev_compR {fi : LS → R (List D)} {vs : List Nat} {gg : D → LS → Option LS} {c : LS → R Bool} : compR fi vs gg c f st = (fi st).bind fun ds => if ds.length ≤ sizeLine then compL gg c f (wipeS st vs) ds else .bad := rfl
@[simp] theorem ev_yes : yesT st = .ok true := rfl
@[simp] theorem ev_noex {x : α} : (R.ok x).noex = .ok x := rfl
@[simp] theorem ev_wipe0 : wipeS st [] = st := rfl
@[simp] theorem ev_wipe1 {n : Nat} {ns : List Nat} : wipeS st (n :: ns) = (wipeS st ns).set n none := rfl
@[simp] theorem ev_op2R {op : D → D → R D} : op2R op f g st = (f st).bind fun x => (g st).bind fun y => op x y := rfl
@[simp] theorem ev_slE {lo hi : LS → R (Option Int)} : slE f lo hi st = (f st).bind fun d => (lo st).bind fun l => (hi st).bind fun h => .of (dSl d l h) := rfl
@[simp] theorem ev_partN : partN st = .ok none := rfl
@[simp] theorem ev_partI : partI f st = (f st).bind fun d => (R.of (dInt d)).bind fun i => .ok (some i) := rfl
@[simp] theorem ev_dInt : dInt (.int i) = some i := rfl
@[simp] theorem ev_den {m : Nat} {ds : List D} : den m F ds = (F (st0 m ds)).end := rfl
@[simp] theorem ev_st0_0 : st0 0 [] = [] := rfl
theorem ev_st0n {n : Nat} : st0 n [] = List.replicate n none := by unfold st0; simp
@[simp] theorem ev_st0 {n : Nat} {ds : List D} : st0 (n + 1) (d :: ds) = some (.im d) :: st0 n ds := by unfold st0; simp [Nat.add_sub_add_right]
/-! operators -/
@[simp] theorem ev_add : dAdd (.int i) (.int j) = some (.int (i + j)) := rfl
@[simp] theorem ev_sub : dSub (.int i) (.int j) = some (.int (i - j)) := rfl
@[simp] theorem ev_iadd : dIAdd (.int i) (.int j) = some (.int (i + j)) := rfl
@[simp] theorem ev_lt : dLt (.int i) (.int j) = some (.bl (decide (i < j))) := rfl
@[simp] theorem ev_le : dLe (.int i) (.int j) = some (.bl (decide (i ≤ j))) := rfl
@[simp] theorem ev_gt : dGt (.int i) (.int j) = some (.bl (decide (j < i))) := rfl
@[simp] theorem ev_ge : dGe (.int i) (.int j) = some (.bl (decide (j ≤ i))) := rfl
theorem ev_mod (h : 0 < j) : dMod (.int i) (.int j) = some (.int (i % j)) := by
  show (if decide (0 < j) = true then some (D.int (i % j)) else none) = _
  rw [if_pos (decide_eq_true h)]
theorem ev_div (h : 0 < j) (h2 : j < 1000000000000000000000000000000000000000000000000000000000000000000000000000) : dDiv (.int i) (.int j) = some (.int (i / j)) := by
  have : divC i j = true := by
    unfold divC
    rw [Bool.and_eq_true, decide_eq_true_eq, decide_eq_true_eq]
    refine ⟨h, ?_⟩
    have e : j.natAbs < 2 ^ 300 := Nat.lt_of_lt_of_le (show j.natAbs < 1000000000000000000000000000000000000000000000000000000000000000000000000000 by omega) (by decide)
    rcases Nat.eq_zero_or_pos j.natAbs with z | z
    · rw [z]; decide
    · have := (Nat.log2_lt (by omega)).mpr e
      omega
  show (if divC i j = true then some (D.int (i / j)) else none) = _
  rw [if_pos this]
theorem log_small {n : Nat} {k : Nat} (h : n < 2 ^ k) (hk : 0 < k) : n.log2 < k := by
  rcases Nat.eq_zero_or_pos n with z | z
  · rw [z]; exact hk
  · exact (Nat.log2_lt (by omega)).mpr h
theorem ev_mul (h1 : -1000000000000000000000000000000000000000000000000000000000000000000000000000 < i) (h2 : i < 1000000000000000000000000000000000000000000000000000000000000000000000000000) (h3 : -1000000000000000000000000000000000000000000000000000000000000000000000000000 < j) (h4 : j < 1000000000000000000000000000000000000000000000000000000000000000000000000000) : dMul (.int i) (.int j) = some (.int (i * j)) := by
  have a1 : i.natAbs < 2 ^ 300 := Nat.lt_of_lt_of_le (show i.natAbs < 1000000000000000000000000000000000000000000000000000000000000000000000000000 by omega) (by decide)
  have a2 : j.natAbs < 2 ^ 300 := Nat.lt_of_lt_of_le (show j.natAbs < 1000000000000000000000000000000000000000000000000000000000000000000000000000 by omega) (by decide)
  have b1 := log_small a1 (by decide)
  have b2 := log_small a2 (by decide)
  have : mulC i j = true := by
    unfold mulC
    rw [decide_eq_true_eq]
    omega
  show (if mulC i j = true then some (D.int (i * j)) else none) = _
  rw [if_pos this]
theorem ev_pow (h1 : 0 ≤ j) (h2 : j ≤ 1000000) (h3 : i.natAbs < 2 ^ 64) : dPow (.int i) (.int j) = some (.int (i ^ j.toNat)) := by
  have : powC i j = true := by
    unfold powC
    simp [h1, h2, h3]
  show (if powC i j = true then some (D.int (i ^ j.toNat)) else none) = _
  rw [if_pos this]
@[simp] theorem ev_toInt : dToInt [.int i] = some (.int i) := rfl
@[simp] theorem ev_toIntB {b : Bool} : dToInt [.bl b] = some (.int (if b = true then 1 else 0)) := rfl
@[simp] theorem ev_max2 : dMax2 [.int i, .int j] = some (.int (max i j)) := by
  show some (D.int (if j > i then j else i)) = _
  congr 2
  split <;> omega
@[simp] theorem ev_min2 : dMin2 [.int i, .int j] = some (.int (min i j)) := by
  show some (D.int (if j < i then j else i)) = _
  congr 2
  split <;> omega
@[simp] theorem ev_lenL {ds : List D} : dLen [.lst ds] = some (.int ds.length) := rfl
@[simp] theorem ev_lenT {ds : List D} : dLen [.tup ds] = some (.int ds.length) := rfl
@[simp] theorem ev_lenS {ds : List D} : dLen [.scr ds] = some (.int ds.length) := rfl
@[simp] theorem ev_tupL {ds : List D} : dTuple [.lst ds] = some (.tup ds) := rfl
@[simp] theorem ev_tupT {ds : List D} : dTuple [.tup ds] = some (.tup ds) := rfl
@[simp] theorem ev_listL {ds : List D} : dListF [.lst ds] = some ds := rfl
@[simp] theorem ev_listT {ds : List D} : dListF [.tup ds] = some ds := rfl
@[simp] theorem ev_dL {ds : List D} : dL (some ds) = some (.lst ds) := rfl
theorem ev_rng1 (h : i ≤ 1000000000) (h2 : -1000000000 ≤ i) : rng1 [.int i] = some (rangeD 0 i.toNat) := if_pos ⟨by omega, by omega⟩
theorem ev_rng2 (h : i ≤ 1000000000) (h2 : -1000000000 ≤ i) (h3 : j ≤ 1000000000) (h4 : -1000000000 ≤ j) : rng2 [.int i, .int j] = some (rangeD i (j - i).toNat) := if_pos ⟨by omega, by omega, by omega, by omega⟩
theorem ev_idx {ds : List D} (h : 0 ≤ i) (h2 : i.toNat < ds.length) : dIdx (.lst ds) (.int i) = ds[i.toNat]? := by
  show atI ds i = _
  unfold atI ixN
  rw [if_pos h, if_pos (by omega)]
  rfl
theorem ev_idxT {ds : List D} (h : 0 ≤ i) (h2 : i.toNat < ds.length) : dIdx (.tup ds) (.int i) = ds[i.toNat]? := by
  show atI ds i = _
  unfold atI ixN
  rw [if_pos h, if_pos (by omega)]
  rfl
theorem ev_idxS {ds : List D} (h : 0 ≤ i) (h2 : i.toNat < ds.length) : dIdx (.scr ds) (.int i) = ds[i.toNat]? := by
  show atI ds i = _
  unfold atI ixN
  rw [if_pos h, if_pos (by omega)]
  rfl
@[simp] theorem ev_ix0T {a : D} {ds : List D} : dIdx (.tup (a :: ds)) (.int 0) = some a := by rw [ev_idxT (by omega) (by simp)]; rfl
@[simp] theorem ev_ix1T {a b : D} {ds : List D} : dIdx (.tup (a :: b :: ds)) (.int 1) = some b := by rw [ev_idxT (by omega) (by simp)]; rfl
@[simp] theorem ev_ix2T {a b c : D} {ds : List D} : dIdx (.tup (a :: b :: c :: ds)) (.int 2) = some c := by rw [ev_idxT (by omega) (by simp)]; rfl
@[simp] theorem ev_ix0 {a : D} {ds : List D} : dIdx (.lst (a :: ds)) (.int 0) = some a := by rw [ev_idx (by omega) (by simp)]; rfl
@[simp] theorem ev_ix1 {a b : D} {ds : List D} : dIdx (.lst (a :: b :: ds)) (.int 1) = some b := by rw [ev_idx (by omega) (by simp)]; rfl
@[simp] theorem ev_ix2 {a b c : D} {ds : List D} : dIdx (.lst (a :: b :: c :: ds)) (.int 2) = some c := by rw [ev_idx (by omega) (by simp)]; rfl
@[simp] theorem ev_catL {xs ys : List D} (h : xs.length + ys.length ≤ 16777216) : dAdd (.lst xs) (.lst ys) = some (.lst (xs ++ ys)) := by
  show (lineC xs ys).map D.lst = _
  unfold lineC
  rw [if_pos (show xs.length + ys.length ≤ sizeLine from h)]
  rfl
theorem ev_repL {xs : List D} (h : 0 ≤ i) (h2 : i < 1000) (h3 : xs.length < 1000) : dMul (.lst xs) (.int i) = some (.lst (List.replicate i.toNat xs).flatten) := by
  show (repD xs i).map D.lst = _
  unfold repD
  have h4 : xs.length * i.toNat ≤ 1000 * 1000 := Nat.mul_le_mul (by omega) (by omega)
  rw [if_pos ⟨by omega, by omega, Nat.le_trans h4 (by decide)⟩]
  rfl
@[simp] theorem ev_isN : dIsN .non .non = some (.bl true) := rfl
@[simp] theorem ev_isL {s : Nat → Nat → Bool} {ts : List TY} {ds : List D} : dIs s ts (.lst ds) = some (.bl (ts.any ((TY.b .list).sub s))) := rfl
@[simp] theorem ev_isT {s : Nat → Nat → Bool} {ts : List TY} {ds : List D} : dIs s ts (.tup ds) = some (.bl (ts.any ((TY.b .tuple).sub s))) := rfl
@[simp] theorem ev_isI {s : Nat → Nat → Bool} {ts : List TY} {i : Int} : dIs s ts (.int i) = some (.bl (ts.any ((TY.b .int).sub s))) := rfl
@[simp] theorem ev_isB {s : Nat → Nat → Bool} {ts : List TY} {b : Bool} : dIs s ts (.bl b) = some (.bl (ts.any ((TY.b .bool).sub s))) := rfl
@[simp] theorem ev_isNo {s : Nat → Nat → Bool} {ts : List TY} : dIs s ts .non = some (.bl (ts.any ((TY.b .non).sub s))) := rfl
@[simp] theorem ev_isC {s : Nat → Nat → Bool} {ts : List TY} {c : Nat} {ds : List D} : dIs s ts (.ins c ds) = some (.bl (ts.any ((TY.c c).sub s))) := rfl
@[simp] theorem ev_tyBB {s : Nat → Nat → Bool} {a b : BT} : (TY.b a).sub s (.b b) = a.sub b := rfl
@[simp] theorem ev_tyBC {s : Nat → Nat → Bool} {a : BT} {k : Nat} : (TY.b a).sub s (.c k) = false := rfl
@[simp] theorem ev_tyCB {s : Nat → Nat → Bool} {a : BT} {k : Nat} : (TY.c k).sub s (.b a) = false := rfl
@[simp] theorem ev_tyCC {s : Nat → Nat → Bool} {j k : Nat} : (TY.c k).sub s (.c j) = s k j := rfl
end
/-! ### an __init__ -/
theorem ev_denI {m c : Nat} {F : LS → Out} {ds : List D} : denI m c F ds = (F (stI m c ds)).endI c := rfl
theorem ev_stI {n c : Nat} {ds : List D} : stI n c ds = some (T.ins c []) :: st0 (n - 1) ds := rfl
theorem ev_slfS {i c j : Nat} {f : LS → R D} {st : LS} : slfS i c j f st = oB (insO c st[i]?) fun fs => (f st).out st fun d => oB (putD j d fs) fun fs' => .nx (st.set i (some (.ins c fs'))) := by
  unfold slfS
  cases insO c st[i]? with
  | none => rfl
  | some fs =>
    show (f st).out st _ = (f st).out st _
    congr 1
    funext d
    cases putD j d fs <;> rfl
theorem ev_slfE {i c j : Nat} {st : LS} : slfE i c j st = .of ((insO c st[i]?).bind fun fs => fs[j]?) := rfl
@[simp] theorem ev_insO {c : Nat} {fs : List D} : insO c (some (some (.ins c fs))) = some fs := if_pos rfl
@[simp] theorem ev_put0' {d : D} : putD 0 d [] = some [d] := rfl
@[simp] theorem ev_put1 {a d : D} : putD 1 d [a] = some [a, d] := rfl
@[simp] theorem ev_put2 {a b d : D} : putD 2 d [a, b] = some [a, b, d] := rfl
@[simp] theorem ev_put3 {a b c d : D} : putD 3 d [a, b, c] = some [a, b, c, d] := rfl
@[simp] theorem ev_endI {c : Nat} {fs : List D} {l : LS} : (Out.nx (some (.ins c fs) :: l)).endI c = .ok fs := if_pos rfl
/-! ### lists under construction, typed -/
section
variable {α : Type} {enc : α → D} {xs : List α}
def tE (enc : α → D) (xs : List α) : T := .lst (xs.map (T.im ∘ enc))
@[simp] theorem ev_ownE : ownL (some (some (tE enc xs))) = some (xs.map (T.im ∘ enc)) := rfl
theorem imms_enc : ∀ xs : List α, imms (xs.map (T.im ∘ enc)) = some (xs.map enc)
  | [] => rfl
  | x :: xs => by
    show (imms (xs.map (T.im ∘ enc))).map (enc x :: ·) = _
    rw [imms_enc xs]
    rfl
@[simp] theorem ev_viewE : viewD (some (some (tE enc xs))) = some (.lst (xs.map enc)) := by
  show (imms (xs.map (T.im ∘ enc))).map D.lst = _
  rw [imms_enc]
  rfl
theorem toDs_enc : ∀ xs : List α, T.toDs (xs.map (T.im ∘ enc)) = xs.map enc
  | [] => rfl
  | x :: xs => by
    show T.toDs ((T.im ∘ enc) x :: xs.map (T.im ∘ enc)) = _
    unfold T.toDs
    rw [toDs_enc xs]
    show T.toD (.im (enc x)) :: _ = _
    unfold T.toD
    rfl
@[simp] theorem ev_toDE : (tE enc xs).toD = .lst (xs.map enc) := by
  unfold tE T.toD
  rw [toDs_enc]
@[simp] theorem ev_toDim {d : D} : (T.im d).toD = d := by unfold T.toD; rfl
theorem tE_nil : imT [] = tE enc ([] : List α) := rfl
theorem tE_imT : imT (xs.map enc) = tE enc xs := by unfold imT tE; rw [List.map_map]
@[simp] theorem tE_snoc {y : α} : T.lst (xs.map (T.im ∘ enc) ++ [T.im (enc y)]) = tE enc (xs ++ [y]) := by unfold tE; simp
end
/-- pairs of numbers -/
def dP (p : Int × Int) : D := .tup [.int p.1, .int p.2]
@[simp] theorem tP_snoc {xs : List (Int × Int)} {a b : Int} : T.lst (xs.map (T.im ∘ dP) ++ [T.im (.tup [.int a, .int b])]) = tE dP (xs ++ [(a, b)]) := tE_snoc (enc := dP) (y := (a, b))
/-! ### lists of lists of numbers, under construction -/
def tN (rows : List (List Int)) : T := .lst (rows.map (tE D.int))
def apR (rows : List (List Int)) (j y : Int) : List (List Int) := rows.set j.toNat (rows.getD j.toNat [] ++ [y])
@[simp] theorem apR_len {rows : List (List Int)} {j y : Int} : (apR rows j y).length = rows.length := by unfold apR; rw [List.length_set]
theorem ev_appP {i : Nat} {g : LS → R D} {f : LS → R T} {st : LS} {rows : List (List Int)} {j y : Int} (h1 : st[i]? = some (some (tN rows))) (h2 : g st = .ok (.int j)) (h3 : f st = .ok (.im (.int y))) (h4 : 0 ≤ j) (h5 : j < rows.length) (h6 : ∀ r ∈ rows, r.length < 16777216) :
    appPS i g f st = .nx (st.set i (some (tN (apR rows j y)))) := by
  have hj : j.toNat < rows.length := by omega
  have e1 : ownL st[i]? = some (rows.map (tE D.int)) := by rw [h1]; rfl
  have e2 : placeD (rows.map (tE D.int)).length (.int j) = some j.toNat := by
    show ixN (rows.map (tE D.int)).length j = _
    unfold ixN
    rw [if_pos h4, if_pos (by rw [List.length_map]; exact h5)]
  have e3 : lstT (rows.map (tE D.int))[j.toNat]? = some ((rows[j.toNat]).map (T.im ∘ D.int)) := by
    rw [List.getElem?_map, List.getElem?_eq_getElem hj]
    rfl
  have hl : ((rows[j.toNat]).map (T.im ∘ D.int)).length < sizeLine := by
    rw [List.length_map]
    exact h6 _ (List.getElem_mem hj)
  have e4 : (rows.map (tE D.int)).set j.toNat (.lst ((rows[j.toNat]).map (T.im ∘ D.int) ++ [.im (.int y)])) = (apR rows j y).map (tE D.int) := by
    unfold apR
    rw [List.map_set, tE_snoc, List.getD_eq_getElem?_getD, List.getElem?_eq_getElem hj]
    rfl
  unfold appPS
  simp only [e1, h2, ev_out, e2, e3, h3, if_pos hl, e4]
  rfl
theorem toDs_tN : ∀ rows : List (List Int), T.toDs (rows.map (tE D.int)) = rows.map fun r => .lst (r.map .int)
  | [] => by rw [List.map_nil, List.map_nil]; unfold T.toDs; rfl
  | r :: rows => by
    rw [List.map_cons, List.map_cons]
    unfold T.toDs
    rw [toDs_tN rows, ev_toDE]
@[simp] theorem ev_toDN {rows : List (List Int)} : (tN rows).toD = .lst (rows.map fun r => .lst (r.map .int)) := by
  unfold tN T.toD
  rw [toDs_tN]
theorem ev_sort {xs : List Int} : dSortF [.lst (xs.map .int)] = some ((srtI xs).map .int) := by
  show (dInts (xs.map .int)).map (fun ns => (srtI ns).map D.int) = _
  rw [dInts_map]
  rfl
theorem cutL_take {α : Type} {xs : List α} {k : Int} (h : 0 ≤ k) : cutL xs none (some k) = xs.take k.toNat := by
  unfold cutL
  have e1 : HT.sIx xs.length 0 none = 0 := rfl
  have e2 : HT.sIx xs.length xs.length (some k) = min k.toNat xs.length := by
    show (if k < 0 then (k + (xs.length : Int)).toNat else min k.toNat xs.length) = _
    rw [if_neg (by omega)]
  rw [e1, e2, List.drop_zero, Nat.sub_zero, List.take_eq_take_iff]
  omega
theorem ev_slL {ds : List D} {k : Int} (h : 0 ≤ k) : dSl (.lst ds) none (some k) = some (.lst (ds.take k.toNat)) := by
  show some (D.lst (cutL ds none (some k))) = _
  rw [cutL_take h]
/-! ### equality -/
theorem eqv_ii (i j : Int) : PyData.eqv (.int i) (.int j) = (i == j) := by unfold PyData.eqv; rfl
@[simp] theorem sh_int (i : Int) : (D.int i).sh = some (.int i) := by
  have e : SeqAt.shaped (.int i) = true := by unfold SeqAt.shaped; simp [PyData.canLay0, PyData.depth]
  unfold D.sh D.py
  show (if SeqAt.shaped (.int i) = true then some (PyData.int i) else none) = _
  rw [if_pos e]
@[simp] theorem ev_eqI {i j : Int} : dEq (.int i) (.int j) = some (.bl (decide (i = j))) := by
  unfold dEq dEqB
  rw [sh_int, sh_int]
  show some (D.bl (PyData.eqv (.int i) (.int j))) = _
  rw [eqv_ii]
  rfl
@[simp] theorem ev_neI {i j : Int} : dNe (.int i) (.int j) = some (.bl (!decide (i = j))) := by
  unfold dNe dEqB
  rw [sh_int, sh_int]
  show some (D.bl (!PyData.eqv (.int i) (.int j))) = _
  rw [eqv_ii]
  rfl
mutual
theorem eqv_refl : ∀ p : PyData, p.canLay0 = true → PyData.eqv p p = true
  | .none, _ => by unfold PyData.eqv; rfl
  | .bool b, _ => by unfold PyData.eqv; cases b <;> rfl
  | .int i, _ => by unfold PyData.eqv; simp
  | .str x, _ => by unfold PyData.eqv; simp
  | .list xs, h => by unfold PyData.eqv; exact eqvAll_refl xs (by unfold PyData.canLay0 at h; exact h)
  | .tuple xs, h => by unfold PyData.eqv; exact eqvAll_refl xs (by unfold PyData.canLay0 at h; exact h)
  | .dict _, h => by unfold PyData.canLay0 at h; cases h
theorem eqvAll_refl : ∀ ps : List PyData, PyData.canLayAll0 ps = true → PyData.eqvAll ps ps = true
  | [], _ => by unfold PyData.eqvAll; rfl
  | p :: ps, h => by
    unfold PyData.canLayAll0 at h
    rw [Bool.and_eq_true] at h
    unfold PyData.eqvAll
    rw [eqv_refl p h.1, eqvAll_refl ps h.2]
    rfl
end
theorem sh_shaped {d : D} {p : PyData} (h : d.sh = some p) : p.canLay0 = true := SeqAt.canLay_of_shaped (D.sh_some h).2
theorem ev_eqR {d : D} (h : d.sh.isSome = true) : dEq d d = some (.bl true) := by
  obtain ⟨p, hp⟩ := Option.isSome_iff_exists.mp h
  unfold dEq dEqB
  rw [hp]
  show some (D.bl (PyData.eqv p p)) = _
  rw [eqv_refl p (sh_shaped hp)]
theorem ev_neR {d : D} (h : d.sh.isSome = true) : dNe d d = some (.bl false) := by
  obtain ⟨p, hp⟩ := Option.isSome_iff_exists.mp h
  unfold dNe dEqB
  rw [hp]
  show some (D.bl (!PyData.eqv p p)) = _
  rw [eqv_refl p (sh_shaped hp)]
  rfl
/-- plain data of a depth -/
def D.plain : Nat → D → Bool
  | _, .non => true
  | _, .bl _ => true
  | _, .int _ => true
  | n + 1, .tup ds => ds.all (D.plain n)
  | n + 1, .lst ds => ds.all (D.plain n)
  | _, _ => false
theorem pys_of {n : Nat} (ih : ∀ d, D.plain n d = true → ∃ p, d.py = some p ∧ p.canLay0 = true ∧ p.depth ≤ n + 1) : ∀ ds : List D, ds.all (D.plain n) = true → ∃ ps, D.pys ds = some ps ∧ PyData.canLayAll0 ps = true ∧ PyData.depthAll ps ≤ n + 1
  | [], _ => ⟨[], by unfold D.pys; rfl, by unfold PyData.canLayAll0; rfl, by unfold PyData.depthAll; omega⟩
  | d :: ds, h => by
    rw [List.all_cons, Bool.and_eq_true] at h
    obtain ⟨p, e1, c1, d1⟩ := ih d h.1
    obtain ⟨ps, e2, c2, d2⟩ := pys_of ih ds h.2
    refine ⟨p :: ps, by unfold D.pys; rw [e1, e2], by unfold PyData.canLayAll0; rw [c1, c2]; rfl, by unfold PyData.depthAll; omega⟩
theorem py_of : ∀ (n : Nat) (d : D), D.plain n d = true → ∃ p, d.py = some p ∧ p.canLay0 = true ∧ p.depth ≤ n + 1
  | n, .non, _ => ⟨.none, by unfold D.py; rfl, by unfold PyData.canLay0; rfl, by unfold PyData.depth; omega⟩
  | n, .bl b, _ => ⟨.bool b, by unfold D.py; rfl, by unfold PyData.canLay0; rfl, by unfold PyData.depth; omega⟩
  | n, .int i, _ => ⟨.int i, by unfold D.py; rfl, by unfold PyData.canLay0; rfl, by unfold PyData.depth; omega⟩
  | n + 1, .tup ds, h => by
    obtain ⟨ps, e, c, dd⟩ := pys_of (py_of n) ds (by unfold D.plain at h; exact h)
    exact ⟨.tuple ps, by unfold D.py; rw [e]; rfl, by unfold PyData.canLay0; exact c, by unfold PyData.depth; omega⟩
  | n + 1, .lst ds, h => by
    obtain ⟨ps, e, c, dd⟩ := pys_of (py_of n) ds (by unfold D.plain at h; exact h)
    exact ⟨.list ps, by unfold D.py; rw [e]; rfl, by unfold PyData.canLay0; exact c, by unfold PyData.depth; omega⟩
  | 0, .tup _, h => by unfold D.plain at h; cases h
  | 0, .lst _, h => by unfold D.plain at h; cases h
  | n, .str _, h => by cases n <;> (unfold D.plain at h; cases h)
  | n, .ins _ _, h => by cases n <;> (unfold D.plain at h; cases h)
  | n, .scr _, h => by cases n <;> (unfold D.plain at h; cases h)
  | n, .tset _, h => by cases n <;> (unfold D.plain at h; cases h)
  | n, .dct _ _ _, h => by cases n <;> (unfold D.plain at h; cases h)
  | n, .rng _ _, h => by cases n <;> (unfold D.plain at h; cases h)
  | n, .nd _ _, h => by cases n <;> (unfold D.plain at h; cases h)
theorem sh_plain {n : Nat} {d : D} (h : D.plain n d = true) (hn : n ≤ 60) : ∃ p, d.py = some p ∧ d.sh = some p := by
  obtain ⟨p, e, c, dd⟩ := py_of n d h
  refine ⟨p, e, ?_⟩
  unfold D.sh
  rw [e]
  have : SeqAt.shaped p = true := by
    unfold SeqAt.shaped
    rw [c]
    simp
    omega
  show (if SeqAt.shaped p = true then some p else none) = _
  rw [if_pos this]
/-- x in xs answers something -/
theorem inP {n m : Nat} {d e : D} (h : D.plain n d = true) (h2 : D.plain m e = true) (hn : n ≤ 60) (hm : m ≤ 60) (hs : ∃ ds, e = .lst ds ∨ e = .tup ds) : ∃ b, dInB d e = some b := by
  obtain ⟨p, _, e1⟩ := sh_plain h hn
  obtain ⟨q, y, e2⟩ := sh_plain h2 hm
  obtain ⟨ds, rfl | rfl⟩ := hs
  · unfold D.py at y
    cases z : D.pys ds with
    | none => rw [z] at y; cases y
    | some ps =>
      rw [z] at y
      cases y
      unfold dInB
      rw [e1, e2]
      exact ⟨_, rfl⟩
  · unfold D.py at y
    cases z : D.pys ds with
    | none => rw [z] at y; cases y
    | some ps =>
      rw [z] at y
      cases y
      unfold dInB
      rw [e1, e2]
      exact ⟨_, rfl⟩
theorem ints_plain {n : Nat} (xs : List Int) : (xs.map D.int).all (D.plain n) = true := by
  rw [List.all_eq_true]
  intro d hd
  obtain ⟨x, _, rfl⟩ := List.mem_map.mp hd
  cases n <;> rfl
theorem pys_ints : ∀ xs : List Int, D.pys (xs.map D.int) = some (xs.map PyData.int)
  | [] => by unfold D.pys; rfl
  | x :: xs => by rw [List.map_cons]; unfold D.pys; rw [pys_ints xs]; unfold D.py; rfl
theorem any_ints (x : Int) (xs : List Int) : ((xs.map PyData.int).any fun z => PyData.eqv z (.int x)) = decide (x ∈ xs) := by
  rw [List.any_map]
  induction xs with
  | nil => rfl
  | cons y xs ih =>
    rw [List.any_cons, ih]
    show (PyData.eqv (.int y) (.int x) || _) = _
    rw [eqv_ii]
    by_cases h : x = y
    · subst h; simp
    · have : ¬ y = x := fun e => h e.symm
      simp [h, this]
theorem ev_inL {x : Int} {xs : List Int} : dIn (.int x) (.lst (xs.map .int)) = some (.bl (decide (x ∈ xs))) := by
  obtain ⟨p, y, e2⟩ := sh_plain (n := 1) (d := .lst (xs.map .int)) (by unfold D.plain; exact ints_plain xs) (by omega)
  unfold D.py at y
  rw [pys_ints] at y
  cases y
  unfold dIn dInB
  rw [sh_int, e2]
  show some (D.bl ((xs.map PyData.int).any fun z => PyData.eqv z (.int x))) = _
  rw [any_ints]
theorem ev_inT {x : Int} {xs : List Int} : dIn (.int x) (.tup (xs.map .int)) = some (.bl (decide (x ∈ xs))) := by
  obtain ⟨p, y, e2⟩ := sh_plain (n := 1) (d := .tup (xs.map .int)) (by unfold D.plain; exact ints_plain xs) (by omega)
  unfold D.py at y
  rw [pys_ints] at y
  cases y
  unfold dIn dInB
  rw [sh_int, e2]
  show some (D.bl ((xs.map PyData.int).any fun z => PyData.eqv z (.int x))) = _
  rw [any_ints]
theorem ev_notInT {x : Int} {xs : List Int} : dNotIn (.int x) (.tup (xs.map .int)) = some (.bl (!decide (x ∈ xs))) := by
  have h := ev_inT (x := x) (xs := xs)
  unfold dIn at h
  unfold dNotIn
  cases q : dInB (.int x) (.tup (xs.map .int)) with
  | none => rw [q] at h; cases h
  | some b =>
    rw [q] at h
    injection h with h
    injection h with h
    rw [← h]
    rfl
/-! ### comprehensions and loops -/
section
variable {α : Type} {enc : α → D} {g : D → LS → Option LS} {t : LS → R Bool} {f : LS → R D} {st : LS} {F : LS → Out}
theorem compL_eq {p : α → Bool} {φ : α → D} : ∀ {xs : List α}, (∀ x ∈ xs, ∃ st1, g (enc x) st = some st1 ∧ t st1 = .ok (p x) ∧ (p x = true → f st1 = .ok (φ x))) → compL g t f st (xs.map enc) = .ok ((xs.filter p).map φ)
  | [], _ => rfl
  | x :: xs, h => by
    obtain ⟨st1, h1, h2, h3⟩ := h x List.mem_cons_self
    have ih := compL_eq (p := p) (φ := φ) fun y m => h y (List.mem_cons_of_mem _ m)
    rw [List.map_cons]
    simp only [compL, h1, h2, ev_noex, ev_ok]
    cases q : p x with
    | false => simp [q, ih]
    | true => simp [q, ih, h3 q]
theorem compL_map {φ : α → D} {xs : List α} (h : ∀ x ∈ xs, ∃ st1, g (enc x) st = some st1 ∧ t st1 = .ok true ∧ f st1 = .ok (φ x)) : compL g t f st (xs.map enc) = .ok (xs.map φ) := by
  have := compL_eq (p := fun _ => true) (φ := φ) (xs := xs) (g := g) (t := t) (f := f) (st := st) (enc := enc) fun x m => by
    obtain ⟨st1, a, b, c⟩ := h x m
    exact ⟨st1, a, b, fun _ => c⟩
  rw [this, List.filter_eq_self.mpr fun _ _ => rfl]
theorem forL_inv (P : List α → LS → Prop) : ∀ {xs pre : List α} {st : LS}, P pre st → (∀ pr x po s, pre ++ xs = pr ++ x :: po → P pr s → ∃ s1 s2, g (enc x) s = some s1 ∧ F s1 = .nx s2 ∧ P (pr ++ [x]) s2) → ∃ s', forL g F (xs.map enc) st = .nx s' ∧ P (pre ++ xs) s'
  | [], pre, st, h0, _ => ⟨st, rfl, by rw [List.append_nil]; exact h0⟩
  | x :: xs, pre, st, h0, h => by
    obtain ⟨s1, s2, a, b, c⟩ := h pre x xs st rfl h0
    obtain ⟨s', d, e⟩ := forL_inv P (xs := xs) (pre := pre ++ [x]) c fun pr y po s q => h pr y po s (by rw [← q]; simp)
    refine ⟨s', ?_, by rw [List.append_assoc] at e; exact e⟩
    rw [List.map_cons]
    simp only [forL, a, b]
    exact d
theorem for_inv (P : List α → LS → Prop) {xs : List α} {st : LS} (h0 : P [] st) (h : ∀ pr x po s, xs = pr ++ x :: po → P pr s → ∃ s1 s2, g (enc x) s = some s1 ∧ F s1 = .nx s2 ∧ P (pr ++ [x]) s2) : ∃ s', forL g F (xs.map enc) st = .nx s' ∧ P xs s' := by
  obtain ⟨s', a, b⟩ := forL_inv (enc := enc) (g := g) (F := F) P (xs := xs) (pre := []) h0 (by simpa using h)
  exact ⟨s', a, by simpa using b⟩
/-- .. that may be left by return -/
theorem forL_ret (P : List α → LS → Prop) (Q : Out → Prop) : ∀ {xs pre : List α} {st : LS}, P pre st → (∀ pr x po s, pre ++ xs = pr ++ x :: po → P pr s → ∃ s1, g (enc x) s = some s1 ∧ ((∃ s2, F s1 = .nx s2 ∧ P (pr ++ [x]) s2) ∨ ∃ d, F s1 = .rt d ∧ Q (.rt d))) →
    (∃ s', forL g F (xs.map enc) st = .nx s' ∧ P (pre ++ xs) s') ∨ ∃ d, forL g F (xs.map enc) st = .rt d ∧ Q (.rt d)
  | [], pre, st, h0, _ => .inl ⟨st, rfl, by rw [List.append_nil]; exact h0⟩
  | x :: xs, pre, st, h0, h => by
    obtain ⟨s1, a, ⟨s2, b, c⟩ | ⟨d, b, c⟩⟩ := h pre x xs st rfl h0
    · rw [List.map_cons]
      simp only [forL, a, b]
      rcases forL_ret P Q (xs := xs) (pre := pre ++ [x]) c fun pr y po s q => h pr y po s (by rw [← q]; simp) with ⟨s', d, e⟩ | z
      · exact .inl ⟨s', d, by rw [List.append_assoc] at e; exact e⟩
      · exact .inr z
    · rw [List.map_cons]
      simp only [forL, a, b]
      exact .inr ⟨d, rfl, c⟩
end
theorem range_split {n i : Nat} {pr po : List Nat} (h : List.range n = pr ++ i :: po) : i = pr.length ∧ i < n ∧ pr = List.range i := by
  have hl : pr.length < n := by
    have := congrArg List.length h
    simp at this
    omega
  have e : (List.range n)[pr.length]? = some i := by rw [h]; simp
  rw [List.getElem?_range hl] at e
  have e := Option.some.inj e
  refine ⟨e.symm, by omega, ?_⟩
  have := congrArg (List.take pr.length) h
  rw [List.take_range, List.take_left] at this
  rw [← this, ← e]
  congr 1
  omega
/-- the number at a place -/
def nI (xs : List Int) (i : Int) : Int := xs.getD i.toNat 0
theorem nI_nat {xs : List Int} {i : Nat} (h : i < xs.length) : nI xs (i : Int) = xs[i] := by
  unfold nI
  rw [Int.toNat_natCast, List.getD_eq_getElem?_getD, List.getElem?_eq_getElem h]
  rfl
theorem nI_mem {xs : List Int} {i : Int} (h : 0 ≤ i) (h2 : i < xs.length) : nI xs i ∈ xs := by
  have e := nI_nat (xs := xs) (i := i.toNat) (by omega)
  rw [Int.toNat_of_nonneg h] at e
  rw [e]
  exact List.getElem_mem _
theorem ev_idxI {xs : List Int} {i : Int} (h : 0 ≤ i) (h2 : i < xs.length) : dIdx (.lst (xs.map D.int)) (.int i) = some (.int (nI xs i)) := by
  have h3 : i.toNat < xs.length := by omega
  unfold nI
  rw [ev_idx h (by rw [List.length_map]; exact h3), List.getElem?_map, List.getElem?_eq_getElem h3, List.getD_eq_getElem?_getD, List.getElem?_eq_getElem h3]
  rfl
theorem ev_idxIT {xs : List Int} {i : Int} (h : 0 ≤ i) (h2 : i < xs.length) : dIdx (.tup (xs.map D.int)) (.int i) = some (.int (nI xs i)) := by
  have h3 : i.toNat < xs.length := by omega
  unfold nI
  rw [ev_idxT h (by rw [List.length_map]; exact h3), List.getElem?_map, List.getElem?_eq_getElem h3, List.getD_eq_getElem?_getD, List.getElem?_eq_getElem h3]
  rfl
theorem ev_idxIS {xs : List Int} {i : Int} (h : 0 ≤ i) (h2 : i < xs.length) : dIdx (.scr (xs.map D.int)) (.int i) = some (.int (nI xs i)) := by
  have h3 : i.toNat < xs.length := by omega
  unfold nI
  rw [ev_idxS h (by rw [List.length_map]; exact h3), List.getElem?_map, List.getElem?_eq_getElem h3, List.getD_eq_getElem?_getD, List.getElem?_eq_getElem h3]
  rfl
/-- one turn of a loop -/
def turn (g : D → LS → Option LS) (F : LS → Out) (d : D) (s : LS) : Out := match g d s with
  | none => .bad
  | some s1 => F s1
theorem turn_nx {g : D → LS → Option LS} {F : LS → Out} {d : D} {s s2 : LS} (h : turn g F d s = .nx s2) : ∃ s1, g d s = some s1 ∧ F s1 = .nx s2 := by
  unfold turn at h
  split at h
  · cases h
  · exact ⟨_, by assumption, h⟩
section
variable {F : LS → Out} {d a b c : D} {s : LS} {i j k : Nat}
@[simp] theorem turn_gN : turn (gN i) F d s = F (s.set i (some (.im d))) := rfl
@[simp] theorem turn_g2 : turn (gT 2 (gsCons (gN i) (gsCons (gN j) gsNil))) F (.tup [a, b]) s = F ((s.set i (some (.im a))).set j (some (.im b))) := rfl
@[simp] theorem turn_g12 : turn (gT 2 (gsCons (gN i) (gsCons (gT 2 (gsCons (gN j) (gsCons (gN k) gsNil))) gsNil))) F (.tup [a, .tup [b, c]]) s = F (((s.set i (some (.im a))).set j (some (.im b))).set k (some (.im c))) := rfl
end
section
variable {α : Type} {enc : α → D} {g : D → LS → Option LS} {st : LS} {F : LS → Out} {xs : List α} {o : Out}
theorem loop (hL : forL g F (xs.map enc) st = o) (P : List α → LS → Prop) (h0 : P [] st) (h : ∀ pr x po s, xs = pr ++ x :: po → P pr s → ∃ s2, turn g F (enc x) s = .nx s2 ∧ P (pr ++ [x]) s2) : ∃ s', o = .nx s' ∧ P xs s' := by
  obtain ⟨s', a, b⟩ := for_inv (enc := enc) (g := g) (F := F) (xs := xs) P h0 fun pr x po s q p => by
    obtain ⟨s2, c, d⟩ := h pr x po s q p
    obtain ⟨s1, e1, e2⟩ := turn_nx c
    exact ⟨s1, s2, e1, e2, d⟩
  exact ⟨s', hL.symm.trans a, b⟩
/-- each turn ends or leaves by return -/
theorem loopR (hL : forL g F (xs.map enc) st = o) (P : List α → LS → Prop) (Q : D → Prop) (h0 : P [] st)
    (h : ∀ pr x po s, xs = pr ++ x :: po → P pr s → (∃ s2, turn g F (enc x) s = .nx s2 ∧ P (pr ++ [x]) s2) ∨ ∃ d, turn g F (enc x) s = .rt d ∧ Q d) : (∃ s', o = .nx s' ∧ P xs s') ∨ ∃ d, o = .rt d ∧ Q d := by
  have := forL_ret (enc := enc) (g := g) (F := F) (xs := xs) (pre := []) (st := st) P (fun o => ∃ d, o = .rt d ∧ Q d) h0 fun pr x po s q p => by
    rcases h pr x po s (by simpa using q) p with ⟨s2, c, d⟩ | ⟨d, c, e⟩
    · obtain ⟨s1, e1, e2⟩ := turn_nx c
      exact ⟨s1, e1, .inl ⟨s2, e2, d⟩⟩
    · unfold turn at c
      split at c
      · cases c
      · exact ⟨_, by assumption, .inr ⟨d, c, d, rfl, e⟩⟩
  rcases this with ⟨s', a, b⟩ | ⟨d, a, d', b, c⟩
  · exact .inl ⟨s', hL.symm.trans a, by simpa using b⟩
  · cases b
    exact .inr ⟨d, hL.symm.trans a, c⟩
end
section
variable {α β : Type} {enc : α → D} {g : D → LS → Option LS} {t : LS → R Bool} {f : LS → R D} {ft : LS → R T} {st : LS} {xs : List α} {o : R (List D)} {ot : R (List T)}
theorem comp (hC : compL g t f st (xs.map enc) = o) (e : β → D) (ψ : α → β) (h : ∀ x ∈ xs, ∃ st1, g (enc x) st = some st1 ∧ t st1 = .ok true ∧ f st1 = .ok (e (ψ x))) : o = .ok ((xs.map ψ).map e) := by
  rw [← hC, compL_map (φ := fun x => e (ψ x)) h, List.map_map]
  rfl
theorem compP (hC : compL g t f st (xs.map enc) = o) (p : α → Bool) (e : β → D) (ψ : α → β) (h : ∀ x ∈ xs, ∃ st1, g (enc x) st = some st1 ∧ t st1 = .ok (p x) ∧ (p x = true → f st1 = .ok (e (ψ x)))) : o = .ok (((xs.filter p).map ψ).map e) := by
  rw [← hC, compL_eq (p := p) (φ := fun x => e (ψ x)) h, List.map_map]
  rfl
theorem compT (hC : compTL g t ft st (xs.map enc) = ot) (φ : α → T) (h : ∀ x ∈ xs, ∃ st1, g (enc x) st = some st1 ∧ t st1 = .ok true ∧ ft st1 = .ok (φ x)) : ot = .ok (xs.map φ) := by
  rw [← hC]
  clear hC
  induction xs with
  | nil => rfl
  | cons x xs ih =>
    obtain ⟨st1, h1, h2, h3⟩ := h x List.mem_cons_self
    have ih := ih fun y m => h y (List.mem_cons_of_mem _ m)
    rw [List.map_cons]
    simp only [compTL, h1, h2, h3, ev_noex, ev_ok, ih, if_true, List.map_cons]
end
@[simp] theorem ev_compTF {fi : LS → R (List D)} {vs : List Nat} {gg : D → LS → Option LS} {c : LS → R Bool} {f : LS → R T} {st : LS} : compTF fi vs gg c f st = (fi st).bind fun ds => if ds.length ≤ sizeLine then (compTL gg c f (wipeS st vs) ds).bind fun ts => .ok (.lst ts) else .bad := rfl
section
variable {α : Type} {enc : α → D} {g : D → LS → Option LS} {st : LS} {F : LS → Out} {xs : List α} {o : Out}
theorem enumL_map (e : α → D) : ∀ (c : Int) (xs : List α), enumL c (xs.map e) = (xs.zipIdx).map fun p => .tup [.int (c + (p.2 : Int)), e p.1]
  | c, [] => rfl
  | c, x :: xs => by
    rw [List.map_cons, List.zipIdx_cons, List.map_cons]
    show D.tup [.int c, e x] :: enumL (c + 1) (xs.map e) = _
    rw [enumL_map e (c + 1) xs, List.zipIdx_succ, List.map_map]
    congr 1
    · simp
    · apply List.map_congr_left
      intro p _
      show D.tup [.int (c + 1 + (p.2 : Int)), e p.1] = D.tup [.int (c + ((p.2 + 1 : Nat) : Int)), e p.1]
      have : c + 1 + (p.2 : Int) = c + ((p.2 + 1 : Nat) : Int) := by omega
      rw [this]
theorem zipIdx_split {p : α × Nat} {pr po : List (α × Nat)} (h : xs.zipIdx = pr ++ p :: po) : p.2 = pr.length ∧ xs = pr.map (·.1) ++ p.1 :: po.map (·.1) := by
  have e : xs = (pr ++ p :: po).map (·.1) := by rw [← h, List.zipIdx_map_fst]
  have g : xs.zipIdx[pr.length]? = some p := by rw [h]; simp
  rw [List.getElem?_zipIdx] at g
  cases q : xs[pr.length]? with
  | none => rw [q] at g; cases g
  | some x =>
    rw [q] at g
    have g := Option.some.inj g
    refine ⟨by rw [← g]; simp, by rw [e, List.map_append]; rfl⟩
/-- a loop over enumerate -/
theorem loopE (hL : forL g F (enumL 0 (xs.map enc)) st = o) (P : List α → LS → Prop) (h0 : P [] st) (h : ∀ pr x po s, xs = pr ++ x :: po → P pr s → ∃ s2, turn g F (.tup [.int (pr.length : Int), enc x]) s = .nx s2 ∧ P (pr ++ [x]) s2) : ∃ s', o = .nx s' ∧ P xs s' := by
  rw [enumL_map] at hL
  obtain ⟨s', a, b⟩ := loop hL (fun pr s => P (pr.map (·.1)) s) h0 fun pr p po s q hp => by
    obtain ⟨e1, e2⟩ := zipIdx_split q
    obtain ⟨s2, c, d⟩ := h _ p.1 _ s e2 hp
    refine ⟨s2, ?_, by rw [List.map_append]; exact d⟩
    rw [e1, Int.zero_add]
    rw [List.length_map] at c
    exact c
  exact ⟨s', a, by rw [List.zipIdx_map_fst] at b; exact b⟩
end
theorem rangeD_length (lo : Int) (n : Nat) : (rangeD lo n).length = n := rangeD_len
/-! ### sets of tuples of numbers -/
theorem keys_enc : ∀ ks : List (List Int), keysOf (ks.map fun k => .tup (k.map .int)) = some ks
  | [] => rfl
  | k :: ks => by
    rw [List.map_cons]
    have e : tupInts (.tup (k.map .int)) = some k := dInts_map k
    unfold keysOf
    rw [e, keys_enc ks]
theorem ev_setE {fi : LS → R (List D)} {vs : List Nat} {g : D → LS → Option LS} {t : LS → R Bool} {f : LS → R D} {st : LS} {ks : List (List Int)} (h : compR fi vs g t f st = .ok (ks.map fun k => .tup (k.map .int))) (hl : ks.length < 64) : setE fi vs g t f st = .ok (.tset (onceK ks)) := by
  unfold setE setR
  simp only [h, ev_ok, keys_enc, if_pos hl]
theorem onceK_nodup {ks : List (List Int)} (h : ks.Nodup) : onceK ks = ks := by
  have gen : ∀ (ks xs : List (List Int)), (xs ++ ks).Nodup → ks.foldl addK xs = xs ++ ks := by
    intro ks
    induction ks with
    | nil => intro xs _; simp
    | cons k ks ih =>
      intro xs hn
      have nk : k ∉ xs := fun m => by
        have := (List.nodup_append.mp hn).2.2 k m k List.mem_cons_self
        exact this rfl
      have e : addK xs k = xs ++ [k] := if_neg nk
      show ks.foldl addK (addK xs k) = _
      rw [e, ih (xs ++ [k]) (by rw [List.append_assoc]; exact hn), List.append_assoc]
      rfl
  exact gen ks [] (by simpa using h)
theorem srtT_up' {ks : List (List Int)} (h : ks.Pairwise fun a b => lexle a b = true) : srtT ks = ks := by
  induction ks with
  | nil => rfl
  | cons k ks ih =>
    obtain ⟨h1, h2⟩ := List.pairwise_cons.mp h
    show insT k (srtT ks) = _
    rw [ih h2]
    cases ks with
    | nil => rfl
    | cons m ms =>
      unfold insT
      rw [if_pos (h1 m List.mem_cons_self)]
theorem ev_sortU {ks : List (List Int)} (h : okT ks = true) : dSortU [.tset ks] = some ((srtT ks).map fun k => .tup (k.map .int)) := if_pos h
end DI
end
section
set_option Elab.async false
set_option linter.all false
set_option maxRecDepth 100000
set_option maxHeartbeats 2000000
/-! DI: f(a, k = b): keywords that fill the parameters behind the positional ones. -/
namespace DI
open PySem PySem.Spec PyProof.Rows L2
section
variable {X : Cx} {cm : CM} {W : WH} {k n m : Nat} {f : Addr} {fd : FuncData} {ps ks : List Str} {x : Str} {p pos kpos : Pos} {e : Expr} {es : List Expr} {kws : List Keyword} {a b r : LS → R (List D)} {f1 : LS → R D} {F : List D → R D} {g : List Value → List Value → List Value} {nm : Option Str}
/-- positional ones, then the keywords' ones -/
def callK (m j : Nat) (F : List D → R D) (a b : LS → R (List D)) : LS → R D := fun st => (a st).bind fun xs => (b st).bind fun ys => if xs.length = m ∧ ys.length = j then F (xs ++ ys) else .bad
end
@[simp] theorem ev_callK {m j : Nat} {F : List D → R D} {a b : LS → R (List D)} {st : LS} : callK m j F a b st = (a st).bind fun xs => (b st).bind fun ys => if xs.length = m ∧ ys.length = j then F (xs ++ ys) else .bad := rfl
end DI
end
section
set_option Elab.async false
set_option linter.all false
set_option maxRecDepth 100000
set_option maxHeartbeats 2000000
/-! DI: x.extend(e), e a list that stands. -/
namespace DI
open PySem PySem.Spec PyProof.Rows L2
end DI
end
section
set_option Elab.async false
set_option linter.all false
set_option maxRecDepth 100000
set_option maxHeartbeats 2000000
/-! DI: a list under construction is lent to an expression whose datum holds no list. -/
namespace DI
open PySem PySem.Spec PyProof.Rows L2
variable {cm : CM}
mutual
def D.noL : D → Bool
  | .non => true
  | .bl _ => true
  | .int _ => true
  | .str _ => true
  | .tup ds => D.noLs ds
  | .ins _ ds => D.noLs ds
  | _ => false
def D.noLs : List D → Bool
  | [] => true
  | d :: ds => D.noL d && D.noLs ds
end
/-- without the node a -/
def wo (S : Hp) (a : Addr) : Hp := fun b => if b = a then none else S b
section
variable {K : PySem.W.Frag} {S : Hp} {a : Addr} {zs : List V}
theorem wo_at {b : Addr} {o : HO} (h : S a = some (.lst zs)) (e : S b = some o) (n : ∀ z, o ≠ .lst z) : wo S a b = some o := by
  unfold wo
  rw [if_neg]
  · exact e
  · intro q
    subst q
    rw [h] at e
    cases e
    exact n _ rfl
theorem wo_sqT {b : Addr} {xs : List V} (h : S a = some (.lst zs)) (e : SqT K S b xs) : SqT K (wo S a) b xs := by
  rcases e with (e | ⟨o, e⟩) | e
  · exact .inl (.inl (wo_at h e fun z q => nomatch q))
  · exact .inl (.inr ⟨o, wo_at h e fun z q => nomatch q⟩)
  · exact .inr e
mutual
theorem rep_wo (h : S a = some (.lst zs)) : ∀ {v : V} {d : D}, D.noL d = true → Rep K cm S v d → Rep K cm (wo S a) v d
  | _, _, _, .non => .non
  | _, _, _, .bl b => .bl b
  | _, _, _, .int i => .int i
  | _, _, _, .str x => .str x
  | _, _, n, .tup q qs => .tup (wo_sqT h q) (repL_wo h (by unfold D.noL at n; exact n) qs)
  | _, _, n, .lst _ _ => by unfold D.noL at n; cases n
  | _, _, n, .scr _ _ => by unfold D.noL at n; cases n
  | _, _, n, .tset _ _ _ => by unfold D.noL at n; cases n
  | _, _, n, .dct _ _ _ _ => by unfold D.noL at n; cases n
  | _, _, n, .rng _ => by unfold D.noL at n; cases n
  | _, _, n, .nd _ _ _ _ _ => by unfold D.noL at n; cases n
  | _, _, n, .ins m q qs => .ins m (wo_at h q fun z e => nomatch e) (repL_wo h (by unfold D.noL at n; exact n) qs)
theorem repL_wo (h : S a = some (.lst zs)) : ∀ {vs : List V} {ds : List D}, D.noLs ds = true → RepL K cm S vs ds → RepL K cm (wo S a) vs ds
  | _, _, _, .nil => .nil
  | _, _, n, .cons q qs => by
    unfold D.noLs at n
    rw [Bool.and_eq_true] at n
    exact .cons (rep_wo h n.1 q) (repL_wo h n.2 qs)
end
end
def R.noL : R D → R D
  | .ok d => if D.noL d = true then .ok d else .bad
  | .ex e => if D.noLs e.2 = true then .ex e else .bad
  | .bad => .bad
def lentL : Option (Option T) → Option (List D)
  | some (some (.lst ts)) => imms ts
  | _ => none
/-- f, with the list at i as a datum -/
def lendE (i : Nat) (f : LS → R D) : LS → R D := fun st => match lentL st[i]? with
  | none => .bad
  | some ds => (f (st.set i (some (.im (.lst ds))))).noL
section
variable {X : Cx} {W : WH} {e : Expr} {i : Nat}
theorem e_lend (i : Nat) {f : LS → R D} (h : PE X e (E X.K cm W f)) : PE X e (E X.K cm W (lendE i f)) := h.imp fun σ H Q ⟨st, S, fp, r, k⟩ => by
  replace k : Go X.K cm W (fun d S' H' => ∀ v, Rep X.K cm S' v d → Q v H') (match lentL st[i]? with
    | none => .bad
    | some ds => (f (st.set i (some (.im (.lst ds))))).noL) S H σ := k
  cases q : lentL st[i]? with
  | none => rw [q] at k; exact k.elim
  | some ds =>
    rw [q] at k
    replace k : Go X.K cm W (fun d S' H' => ∀ v, Rep X.K cm S' v d → Q v H') (f (st.set i (some (.im (.lst ds))))).noL S H σ := k
    obtain ⟨ts, q1, q2⟩ : ∃ ts, st[i]? = some (some (T.lst ts)) ∧ imms ts = some ds := by
      unfold lentL at q
      split at q
      · rename_i ts e1
        exact ⟨ts, e1, q⟩
      · cases q
    obtain ⟨v, f0, g, h1, h2, h3, h4, h5, h6, h7⟩ := r.sls.split q1 r.nd
    cases h2 with
    | @lst a vs _ f2 ha hts =>
      have hl := own_imms hts q2
      have na : S a = none := r.out a (h4 a List.mem_cons_self)
      have s1 : Same S (frzH S H [a]) := frzH_same r.sh
      have sa : frzH S H [a] a = some (.lst vs) := (frzH_in (by simp)).trans ha
      obtain ⟨fp', x1, x2, x3⟩ := h7 (frzH S H [a]) H (.im (.lst ds)) [] s1 (fun _ _ => rfl) (.im (.lst sa (hl.mono s1))) List.nodup_nil (fun _ m => nomatch m)
      have x4 : ∀ b ∈ fp', b ∈ g := fun b m => (x3 b m).elim id fun z => nomatch z
      refine ⟨st.set i (some (.im (.lst ds))), frzH S H [a], fp', ⟨frzH_sub r.sh, x1, x2, fun b m => ?_, W.mono s1 r.hd⟩, ?_⟩
      · have : b ∉ [a] := fun z => h6 b (by rw [List.mem_singleton.mp z]; exact List.mem_cons_self) (x4 b m)
        rw [frzH_out this]
        exact r.out b (h5 b (x4 b m))
      · have back : ∀ {S2 H2 : Hp}, Xt (frzH S H [a]) S2 H H2 → S2 a = some (.lst vs) ∧ Xt S (wo S2 a) H H2 := fun {S2 H2} x => by
          refine ⟨x.ss _ _ sa, ⟨fun b o eb => ?_, fun b o eb => ?_, x.hh, fun b o eb n => ?_⟩⟩
          · unfold wo
            rw [if_neg (fun z => by rw [z, na] at eb; cases eb)]
            exact x.ss _ _ (s1 _ _ eb)
          · unfold wo at eb
            split at eb
            · cases eb
            · exact x.sh _ _ eb
          · unfold wo at eb
            split at eb
            · cases eb
            · rename_i z
              exact x.fr _ _ eb (by rw [frzH_out (by simpa using z)]; exact n)
        generalize f (st.set i (some (.im (.lst ds)))) = rr at k ⊢
        cases rr with
        | bad => exact k.elim
        | ok d =>
          replace k : Go X.K cm W (fun d S' H' => ∀ v, Rep X.K cm S' v d → Q v H') (if D.noL d = true then .ok d else .bad) S H σ := k
          split at k
          · rename_i nl
            intro H2 S2 x v hv
            obtain ⟨b1, b2⟩ := back x
            exact k H2 _ b2 v (rep_wo b1 nl hv)
          · exact k.elim
        | ex er =>
          replace k : Go X.K cm W (fun d S' H' => ∀ v, Rep X.K cm S' v d → Q v H') (if D.noLs er.2 = true then .ex er else .bad) S H σ := k
          split at k
          · rename_i nl
            intro cls od H2 S2 x hx
            obtain ⟨b1, b2⟩ := back x
            refine k cls od H2 _ b2 ⟨hx.1, ?_⟩
            rcases hx.2 with z | ⟨dx, us, z1, z2, z3⟩
            · exact .inl z
            · exact .inr ⟨dx, us, z1, wo_at b1 z2 (fun z q => nomatch q), repL_wo b1 nl z3⟩
          · exact k.elim
end
end DI
end
section
set_option Elab.async false
set_option linter.all false
set_option maxRecDepth 100000
set_option maxHeartbeats 2000000
/-! DI: x //= j, x *= j. -/
namespace DI
open PySem PySem.Spec PyProof.Rows L2
end DI
end
section
set_option Elab.async false
set_option linter.all false
set_option maxRecDepth 100000
set_option maxHeartbeats 2000000
/-! DI: errors: raise C(..), try: .. except C as e: .., what the suite asks of e. -/
namespace DI
open PySem PySem.Spec PyProof.Rows L2
/-! ### the classes -/
def oexO (C : Addr) (cd : ClassData) (sl : Array (Option Value)) : Bool := match cd.mro, sl.toList with
  | .ref D :: bm, [_, _, _, _, some (.builtin n), _] => D == C && (n == "ValueError.__new__" && (!cd.hasDel && (cd.hasDict && PySem.HandSPX.refsVE bm)))
  | _, _ => false
theorem oexC_of {K : PySem.W.Frag} {C : Addr} {dd : Option Addr} {cd : ClassData} {sl : Array (Option Value)} (l : K.lookup C = some ⟨.type "type", dd, .cls cd, sl⟩) (ok : oexO C cd sl = true)
    (sa : PySem.W.findIn K (.ref C) "__setattr__" = some (some (.builtin "object.__setattr__"))) (ex : PySem.W.subIn K (.ref C) (.type "BaseException") = some true) (ty : PySem.W.typeIn K (.ref C) = some (.type "type")) (kp : PySem.W.keepIn K (.ref C) = true) : OexC K C := by
  refine ⟨?_, sa, ex, ty, kp⟩
  unfold oexO at ok
  split at ok
  · rename_i D bm k0 k1 k2 k3 n k5 hm hs
    simp only [Bool.and_eq_true, beq_iff_eq, Bool.not_eq_true'] at ok
    obtain ⟨rfl, rfl, hdel, hdct, hb⟩ := ok
    obtain ⟨nm, bs, mro, ns, qn, hd, sn, sub, ab, col, del⟩ := cd
    dsimp only at hm hdel hdct hb
    subst hm hdel hdct
    have hsl : sl = #[k0, k1, k2, k3, some (.builtin "ValueError.__new__"), k5] := by
      obtain ⟨l⟩ := sl
      simp only at hs
      rw [hs]
    subst hsl
    exact ⟨nm, qn, ns, bs, bm, sn, sub, ab, col, dd, k0, k1, k2, k3, k5, l, hb⟩
  · cases ok
structure XOk (K : PySem.W.Frag) (C : Addr) : Prop where
  oe : OexC K C
  xf : XfC K C
  ca : PySem.W.findIn K (.ref C) "__class__" = some (some (.builtin "object.__class__"))
  cn : PySem.W.specialIn K (.builtin "object.__class__") "__get__" = some (some (.builtin "getset_descriptor.__get__"))
  ct : PySem.W.takesIn K (.builtin "object.__class__") = some true
  mo : PySem.W.mroIn K C (.type "object") = some true
/-! ### __init__ -/
section
variable {P : Program} {w : World} {K : PySem.W.Frag} {mg : Str → Option Value} {base : Heap} {x qual f g s y z : Str} {params : Arguments} {body : List Stmt} {scope : Scope} {fI : Addr} {fd : FuncData} {k : Nat}
/-- THE PROMISE of an error's __init__ that keeps one value -/
def spX1 (K : PySem.W.Frag) (f : Str) : Sp := fun vs H Q _ => ∃ (a C : Addr) (v : V), vs = [.ref a, v] ∧ OexC K C ∧ PySem.W.findIn K (.ref C) f = some none ∧ H a = some (exo a C none) ∧ ∀ dx, H dx = none → dx ≠ a → Q .non (upd (upd H dx (exd dx [(f, v)])) a (exo a C (some dx)))
theorem xinit1 {n1 n2 : Str} (Fd : FunD K x qual params body scope [] [] fI fd) (Sc : FnScope [n1, n2] [n1, n2] scope)
    (hb : ∀ (cdv : Value) (A : Around) (outer : List Env) (s : Shared) (H : Hp) (E : XK), PSs (cxOf (L2.CX P w) P w K mg base [n1, n2] qual scope fI cdv A outer s H E) body (tOst K f (tVar 0) (tVar 1))) :
    FnOk P w K mg base (L2.CX P w) (k + 1) fI fd [n1, n2] (spX1 K f) := by
  refine Fd.ok Sc (fun vs H Q E h => by obtain ⟨a, C, v, rfl, _⟩ := h; rfl) fun cdv A outer s H vs Q E hr ⟨a, C, v, e, T, hno, ha, q⟩ => ?_
  subst e
  exact ⟨_, hb cdv A outer s H E, v, rfl, .ref a, rfl, a, C, rfl, T, hno, .inl ⟨ha, fun dx n ne => q dx n ne⟩⟩
end
/-- an error's class at its name -/
structure XAt (K : PySem.W.Frag) (mg : Str → Option Value) (cm : CM) (x : Str) (c : Nat) (fI : Addr) : Prop where
  hm : mg x = some (.ref (cm.addr c))
  ok : XOk K (cm.addr c)
  iC : PySem.W.findIn K (.ref (cm.addr c)) "__init__" = some (some (.ref fI))
  tI : PySem.W.typeIn K (.ref fI) = some (.type "function")
/-- its __init__, one value, two values -/
def XP1 (P : Program) (w : World) (K : PySem.W.Frag) (mg : Str → Option Value) (base : Heap) (k : Nat) (fI : Addr) (f : Str) : Prop := ∃ fd ps, ps.length = 2 ∧ FnOk P w K mg base (L2.CX P w) k fI fd ps (spX1 K f) ∧ Binds K fd ps []
/-! ### raise -/
section
variable {K : PySem.W.Frag} {cm : CM} {W W' : WH} {c : Fr} {S S' H H' : Hp} {st : LS} {fp : List Addr} {σ : Sg}
theorem RR.to [Free W'] (r : RR K cm W c st S fp σ H) : RR K cm W' c st S fp σ H := ⟨r.rx.to, r.xt, r.fr, r.fx⟩
theorem On.to [Free W'] (r : On K cm W c S st σ H) : On K cm W' c S st σ H := let ⟨S', fp, a, b⟩ := r; ⟨S', fp, a, b.to⟩
end
section
variable {X : Cx} {cm : CM} {W : WH} {c0 : Fr} {x f g : Str} {p pos pos' : Pos} {e e2 : Expr} {F G : LS → R D} {c k : Nat} {fI : Addr}
def raise1S (c : Nat) (F : LS → R D) : LS → Out := fun st => (F st).out st fun d => .ex st (c, [d])
theorem end_upd {H : Hp} {a dx : Addr} {o1 o2 o3 o4 : HO} (na : H a = none) (ne : dx ≠ a) : upd (del (upd (upd (upd H a o1) dx o2) a o3) a) dx o4 = upd H dx o4 := by
  funext b
  by_cases hb : b = dx
  · subst hb; rw [upd_same, upd_same]
  · rw [upd_ne hb, upd_ne hb]
    by_cases ha : b = a
    · subst ha; rw [del_same, na]
    · rw [del_ne ha, upd_ne ha, upd_ne hb, upd_ne ha]
theorem s_raise1 (G1 : XP1 X.prog X.w X.K X.mg X.base k fI f) (A : XAt X.K X.mg cm x c fI) (nm : cm.names c = [f]) (hno : PySem.W.findIn X.K (.ref (cm.addr c)) f = some none) (tk : Takes X W.w) (hr : Room (k + 1) X.A) (he : PE X e (E X.K cm W F))
    (hc : X.calm = true := by rfl) (hg : Gl X x := by rfl) (hdb : (x == ("__debug__" : Str)) = false := by decide) (hse : starEach (e :: []) X.env = (false, eval e X.env) :: starEach [] X.env := by rfl) (hpl : (backTo pos (starEach [] X.env)).any (·.1) = false := by rfl) :
    PS X (.Raise (some (.Call (.Name x p) [e] [] pos)) none pos') (SX X.K cm W c0 (raise1S c F)) := by
  obtain ⟨fd, ps, hl, G1, B⟩ := G1
  refine (ps_raise hc tk (pmk_oex A.ok.oe A.iC A.tI G1 hr B .nil (passes_call tk (fun _ _ _ _ h => h.elim)) hg A.hm (pa_cons he pa_nil hse) hdb hse hpl)).imp fun D σ H ⟨st, S, fp, r, p⟩ => ?_
  refine ⟨st, S, fp, r.rx, Post.go (k := fun d => .ex st (c, [d])) r p fun d S1 H1 x1 q v hv => ?_⟩
  refine ⟨by simp, fun a na => ⟨a, _, v, rfl, A.ok.oe, hno, upd_same, fun dx n ne => ⟨rfl, dx, [(f, v)], upd_same, by rw [upd_ne ne, upd_same], ?_, ?_⟩⟩⟩
  · rw [upd_ne ne] at n; exact n
  · rw [upd_ne ne] at n
    rw [end_upd na ne]
    have x2 : Xt S1 (upd S1 dx (.xd [(f, v)])) H1 (upd H1 dx (.xd [(f, v)])) := Xt.new x1.sh n
    exact q _ _ σ _ _ fp x2.ss ((r.ext x1).ext x2) ⟨rfl, .inr ⟨dx, [v], rfl, by rw [nm]; exact upd_same, .cons (hv.mono x2.ss) .nil⟩⟩
end
/-! ### try: .. except C as n: .. -/
def Out.gone (i : Nat) : Out → Out
  | .nx st => .nx (st.set i none)
  | .bk st => .bk (st.set i none)
  | .ct st => .ct (st.set i none)
  | .rt d => .rt d
  | .ex _ _ => .bad
  | .bad => .bad
/-- xs: the classes of errors that are known; j: the clause's one; i: the clause's name -/
def tryS (sub : Nat → Nat → Bool) (xs : List Nat) (j i : Nat) (F : LS → Out) (G : Ex → LS → Out) : LS → Out := fun st => match F st with
  | .ex st' e => if e.1 ∈ xs then (if sub e.1 j = true then (if i < st'.length then (G e (st'.set i none)).gone i else .bad) else .ex st' e) else .bad
  | o => o
/-- in the suite: slot i holds the error -/
def WS (a : Addr) (i : Nat) (S0 : Hp) : WH := ⟨fun _ _ _ _ => False, fun σ S => σ[i]? = some (some (V.ref a)) ∧ Same S0 S, fun s h => ⟨h.1, h.2.trans s⟩⟩
theorem xt_back {S0 F S1 H1 S3 H2 : Hp} (x1 : Xt S0 S1 F H1) (x3 : Xt S1 S3 F H2) : Xt S0 S3 F H2 := ⟨x1.ss.trans x3.ss, x3.sh, x3.hh, fun x o e n => by
  cases z : S1 x with
  | none => exact x3.fr x o e z
  | some u => exact x1.fr x u z n⟩
section
variable {X : Cx} {cm : CM} {W : WH} {c : Fr} {x n : Str} {cv : Addr} {i j : Nat} {xs : List Nat} {sub : Nat → Nat → Bool} {body suite : List Stmt} {b₀ : Stmt} {np pos pos' : Pos} {F : LS → Out} {G : Ex → LS → Out}
theorem s_try [Free W] (hs : X.stack = X.env :: X.outer) (hf : X.env.frame = some X.env.locals) (hN : X.N.Nodup) (hi : X.N[i]? = some n) (hln : X.env.kindOf n = some .local) (hc : Names X x (.ref cv)) (tk : Takes X W.w) (hfx : c.fix i = none)
    (ht : ∀ t ∈ xs, PySem.W.exmOne X.K (.ref (cm.addr t)) (.ref cv) = some (sub t j))
    (hb : ∀ (W' : WX) (pn : List (Addr × Obj)) (xe : Value → Shared → Prop), Takes (X.tr pn xe) W' → PassesOwn (model X.prog X.w) X.A X.env xe → PSs (X.tr pn xe) body (SX X.K cm (wt W') c F))
    (hsu : ∀ (a : Addr) (oe : Obj) (cls : Value) (d : Option Addr) (pn : List (Addr × Obj)) (e : Ex) (S0 : Hp) (c' : Fr), Zc cls d oe → (∃ vs, oe.data = .fields vs) → RepX X.K cm S0 cls d e → PSs (X.suite a ((a, oe) :: pn)) (b₀ :: suite) (SX X.K cm (WS a i S0) c' (G e))) :
    PS X (.Try body [.ExceptHandler (some (.Name x np)) (some n) (b₀ :: suite) pos'] [] [] pos) (SX X.K cm W c (tryS sub xs j i F G)) := by
  refine (ps_try_as (ts := fun a cls d D σ H => ∃ (e : Ex) (S0 : Hp) (c' : Fr), RepX X.K cm S0 cls d e ∧ SX X.K cm (WS a i S0) c' (G e) D σ H) (tb := fun W' => SX X.K cm (wt W') c F) hs hf hN hi hln hc tk hb
    (fun a oe cls d pn hz hd => ⟨fun pins s σ H D I ⟨e, S0, c', hx, q⟩ => (hsu a oe cls d pn e S0 c' hz hd hx).run pins s σ H D I q⟩)).imp fun D σ H ⟨st, S, fp, r, p⟩ => ?_
  refine ⟨st, S, fp, r.to, ?_⟩
  replace p : Post X.K cm W c D S (match F st with
    | .ex st' e => if e.1 ∈ xs then (if sub e.1 j = true then (if i < st'.length then (G e (st'.set i none)).gone i else .bad) else .ex st' e) else .bad
    | o => o) := p
  cases q : F st with
  | bad => rw [q] at p; exact p
  | nx st' => rw [q] at p; exact fun σ H o => p σ H o.to
  | bk st' => rw [q] at p; exact fun σ H o => p σ H o.to
  | ct st' => rw [q] at p; exact fun σ H o => p σ H o.to
  | rt d => rw [q] at p; exact p
  | ex st' e =>
    rw [q] at p
    intro cls od σ1 H1 S1 fp1 s1 r1 hx
    replace p : Post X.K cm W c D S (if e.1 ∈ xs then (if sub e.1 j = true then (if i < st'.length then (G e (st'.set i none)).gone i else .bad) else .ex st' e) else .bad) := p
    by_cases hm : e.1 ∈ xs
    · rw [if_pos hm] at p
      have hex : PySem.W.exmOne X.K cls (.ref cv) = some (sub e.1 j) := by rw [hx.1]; exact ht _ hm
      refine ⟨_, hex, fun hbt a na => ?_, fun hbf => ?_⟩
      · rw [if_pos hbt] at p
        by_cases hl : i < st'.length
        · rw [if_pos hl] at p
          have hl2 : i < σ1.length := by rw [r1.rx.sls.length]; exact hl
          obtain ⟨fp2, a1, b1, c1⟩ := r1.rx.sls.forget (o := some (V.ref a)) i
          refine ⟨e, S1, ⟨S1, c.F, fun k => if k = i then some (.ref a) else c.fix k⟩, hx, st'.set i none, S1, fp2, ⟨⟨r1.rx.sh, a1, b1 r1.rx.nd, fun x m => r1.rx.out x (c1 x m), by simp [hl2], Same.refl S1⟩, ⟨Same.refl S1, r1.rx.sh, r1.xt.hh, fun a o e n => by have n : S1 a = none := n; rw [n] at e; cases e⟩, fun x m => r1.fr x (c1 x m), fun k v z => ?_⟩, ?_⟩
          · replace z : (if k = i then some (V.ref a) else c.fix k) = some v := z
            by_cases hk : k = i
            · subst hk
              rw [if_pos rfl] at z
              cases z
              simp [hl2]
            · rw [if_neg hk] at z
              rw [List.getElem?_set_ne (Ne.symm hk)]
              exact r1.fx k v z
          · have back : ∀ {st2 : LS} {σ2 : Sg} {H2 : Hp}, On X.K cm (WS a i S1) ⟨S1, c.F, fun k => if k = i then some (.ref a) else c.fix k⟩ S1 st2 σ2 H2 → On X.K cm W c S (st2.set i none) (σ2.set i none) H2 := fun {st2 σ2 H2} ⟨S3, fp3, s3, r3⟩ => by
              obtain ⟨fp4, a4, b4⟩ := r3.rx.forget (W' := W) (o := none) i
              refine ⟨S3, fp4, s1.trans s3, a4, xt_back r1.xt r3.xt, fun x m => r3.fr x (b4 x m), fun k v z => ?_⟩
              have hk : k ≠ i := fun y => by rw [y, hfx] at z; cases z
              rw [List.getElem?_set_ne (Ne.symm hk)]
              exact r3.fx k v (by show (if k = i then some (V.ref a) else c.fix k) = some v; rw [if_neg hk]; exact z)
            cases qg : G e (st'.set i none) with
            | bad => rw [qg] at p; exact p
            | nx st2 => rw [qg] at p; exact fun σ2 H2 o => p _ H2 (back o)
            | bk st2 => rw [qg] at p; exact fun σ2 H2 o => p _ H2 (back o)
            | ct st2 => rw [qg] at p; exact fun σ2 H2 o => p _ H2 (back o)
            | rt d => rw [qg] at p; exact fun v H2 S3 s3 x3 hr => p v H2 S3 (s1.trans s3) (xt_back r1.xt x3) hr
            | ex st2 e2 => rw [qg] at p; exact p.elim
        · rw [if_neg hl] at p
          exact p.elim
      · rw [if_neg (by rw [hbf]; simp)] at p
        exact p cls od σ1 H1 S1 fp1 s1 r1.to hx
    · rw [if_neg hm] at p
      exact p.elim
end
/-! ### in the suite -/
theorem takesX {X : Cx} {a : Addr} {i : Nat} {S0 : Hp} : Takes X (WS a i S0).w := fun u s' ⟨a, B, sI, pins, σ, H, cls, d, e, I, nb, up, sky, na, os, ag, w⟩ => w.elim
/-- e.f -/
def xfE (tbl : List (Nat × Nat)) (e : Ex) : LS → R D := fun _ => .of ((tbl.lookup e.1).bind fun n => e.2[n]?)
structure XFld (K : PySem.W.Frag) (cm : CM) (f : Str) (c n : Nat) : Prop where
  xf : XfC K (cm.addr c)
  no : PySem.W.findIn K (.ref (cm.addr c)) f = some none
  ix : (cm.names c)[n]? = some f
  nd : (cm.names c).Nodup
theorem xlookup_mem {α : Type} : ∀ {l : List (Nat × α)} {k : Nat} {v : α}, l.lookup k = some v → (k, v) ∈ l
  | [], _, _, h => by simp at h
  | (a, b) :: l, k, v, h => by
    rw [List.lookup_cons] at h
    by_cases e : k = a
    · subst e
      simp at h
      subst h
      exact List.mem_cons_self
    · rw [show (k == a) = false from by simpa using e] at h
      exact List.mem_cons_of_mem _ (xlookup_mem h)
section
variable {X : Cx} {cm : CM} {a : Addr} {oe : Obj} {cls : Value} {d : Option Addr} {pn : List (Addr × Obj)} {e : Ex} {S0 : Hp} {i : Nat} {en f : Str} {p pos : Pos} {tbl : List (Nat × Nat)}
theorem e_xf (Fl : ∀ p ∈ tbl, XFld X.K cm f p.1 p.2) (hz : Zc cls d oe) (hd : ∃ vs, oe.data = .fields vs) (hx : RepX X.K cm S0 cls d e) (hN : X.N[i]? = some en := by rfl) (hv : Vis X.env.scope en := by first | exact Or.inl rfl | exact Or.inr (Or.inl rfl) | exact Or.inr (Or.inr rfl))
    (hdb : (en == ("__debug__" : Str)) = false := by decide) (hcd : (en == ("__classdict__" : Str)) = false := by decide) (hb : attributeBase (.Name en p) f X.env (eval (.Name en p) X.env) = eval (.Name en p) X.env := by rfl) :
    PE (X.suite a ((a, oe) :: pn)) (.Attribute (.Name en p) f pos) (E X.K cm (WS a i S0) (xfE tbl e)) := ⟨fun pins s σ H Q I ⟨st, S, fp, r, k⟩ => by
  obtain ⟨v, hv1, k2⟩ := k.of
  cases ql : tbl.lookup e.1 with
  | none => rw [ql] at hv1; cases hv1
  | some n =>
    rw [ql] at hv1
    have hv1 : e.2[n]? = some v := hv1
    have fl := Fl _ (xlookup_mem ql)
    obtain ⟨hc, hx | ⟨dx, vs, hod, hS, hl⟩⟩ := hx
    · rw [hx.1] at hv1; simp at hv1
    · obtain ⟨w, hw1, hw2⟩ := hl.get hv1
      have hS2 := r.sh _ _ (r.hd.2 _ _ hS)
      exact (pe_xf (X := X) (a := a) (cls := cls) (d := d) (pn := pn) fl.xf fl.no hz hd (pe_var (X := X.suite a ((a, oe) :: pn)) (i := i) hN hv hdb hcd) hb).run pins s σ H Q I
        ⟨.ref a, r.hd.1, rfl, hc, dx, _, w, hod, hS2, (zip_lookup fl.nd fl.ix).trans hw1, k2 H S (Xt.refl r.sh) w (hw2.mono r.hd.2)⟩⟩
/-! isinstance(e, ..) -/
/-- a class that is asked for -/
inductive XT where
  | c (k : Nat)
  | b (n : String)
def XT.v (cm : CM) : XT → V
  | .c k => .ref (cm.addr k)
  | .b n => .ty n
def XT.vl (cm : CM) : XT → Value
  | .c k => .ref (cm.addr k)
  | .b n => .type n
def XT.sub (sub : Nat → Nat → Bool) (t : Nat) : XT → Bool
  | .c k => sub t k
  | .b _ => true
theorem XT.clsv (cm : CM) : ∀ t : XT, ClsV (t.v cm) (t.vl cm)
  | .b _ => .ty _
  | .c _ => .own _
/-- what isinstance answers of an error of one of the classes xs -/
def XKit (K : PySem.W.Frag) (cm : CM) (sub : Nat → Nat → Bool) (xs : List Nat) (t : XT) : Prop := ∀ c ∈ xs, PySem.W.kitOne K (.ref (cm.addr c)) (t.vl cm) = some (t.sub sub c)
def xisE (sub : Nat → Nat → Bool) (xs : List Nat) (ts : List XT) (e : Ex) : LS → R D := fun _ => if e.1 ∈ xs then .ok (.bl (ts.any (XT.sub sub e.1))) else .bad
/-- the error's dict, where it has one -/
def XdAt (d : Option Addr) (H : Hp) : Prop := ∀ dx, d = some dx → ∃ fs, H dx = some (.xd fs)
def rXis (K : PySem.W.Frag) (a : Addr) (cls : Value) (d : Option Addr) : List V → Hp → VK → Prop := fun xs H Q => ∃ (c : V) (t : Value) (b : Bool), xs = [.ref a, c] ∧ ClsV c t ∧ PySem.W.kitOne K cls t = some b ∧ XdAt d H ∧ Q (.bl b) H
theorem xinst {pins : List (Addr × Obj)} {s : Shared} {σ : Sg} {H : Hp} {C : Addr} (I : Inv (X.suite a ((a, oe) :: pn)) pins σ H s) (hz : Zc (.ref C) d oe) (hd : ∃ vs, oe.data = .fields vs) (hx : XdAt d H) : ∃ od, PySem.W.InstAt s.heap a oe C od := by
  obtain ⟨ha, _⟩ := I.pin (a, oe) (List.mem_append_left _ List.mem_cons_self)
  obtain ⟨vs, hv⟩ := hd
  cases d with
  | none => exact ⟨none, ha, hz.1, by unfold PySem.W.notCls; rw [hv] <;> rfl, by rw [hz.2]; exact True.intro⟩
  | some dx =>
    obtain ⟨fs, hf⟩ := hx dx rfl
    obtain ⟨mA, hns, _⟩ := (show ObjOk X.prog X.w H s.heap dx (.xd fs) from I.hok dx _ hf)
    obtain ⟨od, ho, _⟩ := lookIn_ns hns
    exact ⟨some od, ha, hz.1, by unfold PySem.W.notCls; rw [hv] <;> rfl, by rw [hz.2]; exact ho⟩
theorem call_xis {C : Addr} (ok : XOk X.K C) (hz : Zc (.ref C) d oe) (hd : ∃ vs, oe.data = .fields vs) : CallR (X.suite a ((a, oe) :: pn)) (.builtin "isinstance") (rXis X.K a (.ref C) d) := by
  intro pins s σ H xs us Q I r h
  obtain ⟨c, t, b, rfl, k, e, hx, q⟩ := h
  obtain ⟨u1, u2, rfl, r1, r2⟩ := vals2 r
  have e2 := k.eq r2
  subst e2
  cases (show u1 = Value.ref a from r1)
  obtain ⟨od, J⟩ := xinst I hz hd hx
  obtain ⟨cd, hcd, _⟩ := PySem.W.any_some ok.xf.hdC
  exact PySem.W.kia_one (PySem.W.kitx_exc (by rw [hcd]; rfl) ok.xf.ga ok.xf.gg ok.xf.exC ok.ca ok.cn ok.ct ok.mo) I.kIn J e (fun z => nomatch z) fun tk => ⟨.bl b, H, I.tok tk, rfl, q⟩
theorem xdAt {K : PySem.W.Frag} {S H : Hp} (hx : RepX K cm S0 cls d e) (s1 : Same S0 S) (sh : Same S H) : XdAt d H := fun dx hd => by
  obtain ⟨_, ⟨_, h⟩ | ⟨dy, vs, hod, hS, _⟩⟩ := hx
  · rw [h] at hd; cases hd
  · rw [hod] at hd
    cases hd
    exact ⟨_, sh _ _ (s1 _ _ hS)⟩
variable {sub : Nat → Nat → Bool} {xs : List Nat} {t : XT} {ts : List XT} {ct : Expr} {es : List Expr} {kk : Nat} {p2 p3 tpos : Pos}
theorem e_xis (ok : ∀ c ∈ xs, XOk X.K (cm.addr c)) (kit : XKit X.K cm sub xs t) (hm : X.mg "isinstance" = none) (hz : Zc cls d oe) (hd : ∃ vs, oe.data = .fields vs) (hx : RepX X.K cm S0 cls d e) (hc : PE (X.suite a ((a, oe) :: pn)) ct (tC (t.v cm)))
    (hN : X.N[i]? = some en := by rfl) (hv : Vis X.env.scope en := by first | exact Or.inl rfl | exact Or.inr (Or.inl rfl) | exact Or.inr (Or.inr rfl))
    (hdb : (en == ("__debug__" : Str)) = false := by decide) (hcd : (en == ("__classdict__" : Str)) = false := by decide) (hg : Gl X "isinstance" := by rfl)
    (hs1 : starEach [.Name en p, ct] X.env = (false, eval (.Name en p) X.env) :: starEach [ct] X.env := by rfl) (hs2 : starEach [ct] X.env = (false, eval ct X.env) :: starEach [] X.env := by rfl) (hpl : (backTo pos (starEach [ct] X.env)).any (·.1) = false := by rfl) :
    PE (X.suite a ((a, oe) :: pn)) (.Call (.Name "isinstance" p2) [.Name en p, ct] [] pos) (E X.K cm (WS a i S0) (xisE sub xs [t] e)) := ⟨fun pins s σ H Q I ⟨st, S, fp, r, k⟩ => by
  by_cases hm2 : e.1 ∈ xs
  · have k2 : Go X.K cm (WS a i S0) _ (if e.1 ∈ xs then .ok (D.bl ([t].any (XT.sub sub e.1))) else .bad) S H σ := k
    rw [if_pos hm2] at k2
    have hc1 : cls = .ref (cm.addr e.1) := hx.1
    subst hc1
    refine (pe_callB (X := X.suite a ((a, oe) :: pn)) (call_xis (ok _ hm2) hz hd) hg hm PyProof.Rows.boot_isinstance (pa_cons (pe_var (X := X.suite a ((a, oe) :: pn)) (i := i) hN hv hdb hcd) (pa_cons hc pa_nil hs2) hs1) (by decide) (by decide) hs1 hpl).run pins s σ H Q I ?_
    refine ⟨.ref a, r.hd.1, t.v cm, t.vl cm, t.sub sub e.1, rfl, t.clsv cm, kit _ hm2, xdAt hx r.hd.2 r.sh, ?_⟩
    have := k2 H S (Xt.refl r.sh) (.bl ([t].any (XT.sub sub e.1))) (.bl _)
    simpa using this
  · have k2 : Go X.K cm (WS a i S0) _ (if e.1 ∈ xs then .ok (D.bl ([t].any (XT.sub sub e.1))) else .bad) S H σ := k
    rw [if_neg hm2] at k2
    exact k2.elim⟩
end
end DI
end
section
set_option Elab.async false
set_option linter.all false
set_option maxRecDepth 100000
set_option maxHeartbeats 2000000
/-! DI: a def that raises nothing and walks nothing, called in an except suite. -/
namespace DI
open PySem PySem.Spec PyProof.Rows L2 L2H
section
variable {P : Program} {w : World} {K : PySem.W.Frag} {mg : Str → Option Value} {base : Heap} {cm : CM} {x qual : Str} {params : Arguments} {body : List Stmt} {scope : Scope} {f : Addr} {fd : FuncData} {N ps : List Str} {k n : Nat}
/-- THE PROMISE of such a def, whatever is handled: p is an object that stands by -/
structure WarmP (P : Program) (w : World) (K : PySem.W.Frag) (mg : Str → Option Value) (base : Heap) (cm : CM) (n : Nat) (f : Addr) (F : List D → R D) : Prop where
  run : ∀ (A : Around) (outer : List Env) (s : Shared) (H : Hp) (us : List Value) (vs : List V) (Q : VK) (E : XK) (p : Addr × Obj), RoomH 1 A → PinOk outer H s p → Env0 P w K mg base A outer s H → Vals vs us → spD K cm n F vs H Q E →
    codeAny (model P w) A (.call (.ref f) ⟨us, []⟩) (CR (L2.CX P w) outer P w H s Q E) s
theorem warm_ok {F : LS → Out} (Fd : FunD K x qual params body scope [] [] f fd) (Sc : FnScope N ps scope) (B : Binds K fd ps [])
    (hb : ∀ (cdv : Value) (A : Around) (outer : List Env) (s : Shared) (H : Hp) (E : XK) (p : Addr × Obj) (W : WH) (c : Fr), PSs (cxH (L2.CX P w) P w K mg base N qual scope f cdv A outer s H E p) body (SX K cm W c F)) :
    WarmP P w K mg base cm ps.length f (den N.length F) := by
  refine ⟨fun A outer s H us vs Q E p hr hp e0 r ⟨hl, S, ds, sh, hv, fin⟩ => ?_⟩
  obtain ⟨oc, od, dV, kV, doc, pm, an, cdv, ct, osl, rfl, lk, hcd, _, _⟩ := Fd.ex
  have KX : K.In s.heap := e0.mod.kin.keeps fun b o e => (e0.bs b o e).1
  have lim : s.heap.NoLimit := e0.mod.nolimit.keeps fun b o e => (e0.bs b o e).1
  have lu : us.length = ps.length := r.length.symm.trans hl
  have bd := B s us KX (by rw [List.append_nil]; exact lu)
  rw [List.append_nil] at bd
  have names : ∀ y ∈ ps.zip us, scope.names.lookup y.1 = some .local ∨ (scope.names.lookup y.1 = some .cell ∧ ((cellsFrom (s.heap.objs.size + 1) scope.names []).lookup y.1).isSome = true) := fun ⟨m, v⟩ hy =>
    (Sc.par m (List.of_mem_zip hy).1).imp id fun q => ⟨q, PySem.W.cellsFrom_some _ _ _ (.inl q)⟩
  refine codeAny_call_function hr.depth (KX _ _ lk) rfl Sc.co Sc.gen rfl (PySem.W.codeRec_of KX hcd) (bd _ _ _ _ ?_)
  refine wpAny_newFunctionEnv_cells Sc.kind names fun env he s1 inside => ?_
  subst he
  refine ⟨lim.keeps inside.toInCall.keep, codeAny_func ?_⟩
  have I := inv_startH (CX := L2.CX P w) (E := E) Sc hp e0 hl r inside
  refine wpAny_mono ((hb cdv A outer s H E p (wt fun cls d _ H => E cls d H) ⟨S, H, noFix⟩).run [] s1 (L2.start N vs) H { nx := fun _ H' => Q .non H', rt := Q } I ⟨st0 N.length ds, S, [], ⟨⟨sh, ?_, List.nodup_nil, fun _ m => (nomatch m), trivial⟩, Xt.refl sh, fun _ m => (nomatch m), fun _ _ z => (nomatch z)⟩, ?_⟩) (fun fl s2 hs => ?_) fun e s2 hs => hs
  · unfold L2.start st0
    rw [hv.length]
    exact sls_start _ hv
  · replace fin : Fin K cm S H Q E (F (st0 N.length ds)).end := fin
    cases q : F (st0 N.length ds) with
    | bad => rw [q] at fin; exact fin
    | nx st => rw [q] at fin; exact fun σ H' ⟨S', fp, a, r⟩ => fin .non H' S' r.xt .non
    | rt d => rw [q] at fin; exact fun v H' S' a x r => fin v H' S' x r
    | bk st => rw [q] at fin; exact fin.elim
    | ct st => rw [q] at fin; exact fin.elim
    | ex st e => rw [q] at fin; exact fun cls od σ H' S' fp a r x => fin cls od H' S' r.xt x
  · cases fl with
    | ret u => obtain ⟨v, _, H', J, rv, q⟩ := hs; exact ⟨v, H', J.os, J.bare, J.base, J.hok, rv, q⟩
    | next => obtain ⟨_, H', J, q⟩ := hs; exact ⟨.non, H', J.os, J.bare, J.base, J.hok, rfl, q⟩
    | brk => exact hs.elim fun _ z => z.elim fun _ y => y.2.elim
    | cont => exact hs.elim fun _ z => z.elim fun _ y => y.2.elim
end
section
variable {X : Cx} {cm : CM} {a : Addr} {oe : Obj} {pn : List (Addr × Obj)} {S0 : Hp} {i k n : Nat} {f : Addr} {x : Str} {F : List D → R D} {args : LS → R (List D)} {e : Expr} {es : List Expr} {p pos : Pos}
theorem e_warm (G : WarmP X.prog X.w X.K X.mg X.base cm n f F) (At' : At X.K X.mg x f) (hr : Room (k + 1) X.A) (ha : PA (X.suite a ((a, oe) :: pn)) (e :: es) (EA X.K cm (WS a i S0) args)) (hg : Gl X x := by rfl) (hdb : (x == ("__debug__" : Str)) = false := by decide)
    (he : starEach (e :: es) X.env = (false, eval e X.env) :: starEach es X.env := by rfl) (hpl : (backTo pos (starEach es X.env)).any (·.1) = false := by rfl) :
    PE (X.suite a ((a, oe) :: pn)) (.Call (.Name x p) (e :: es) [] pos) (E X.K cm (WS a i S0) (callU (ar n F) [] args)) := ⟨fun pins s σ H Q I k0 => by
  obtain ⟨st, S, fp, r, k0⟩ := k0
  refine wpAny_Call_Name_kw (ld_glob (X := X.suite a ((a, oe) :: pn)) I hg At'.mg ?_ hdb)
  refine PySem.W.callWith_K (h₀ := X.base) I.ok.mod.kin At'.kp (thn (ha.run pos pins s σ H (fun vs H1 => spD X.K cm n F vs H1 Q (fun _ _ _ => False)) I ⟨st, S, fp, r, k0.bind.mono fun ds S1 H1 x1 k1 vs hv => ?_⟩) fun us s1 ⟨vs, H1, I1, rv, q⟩ => ⟨I1.kIn, ?_⟩) he hpl
  · refine spD_ar ⟨?_, S1, ds, x1.sh, hv, ?_⟩
    · rw [hv.length]
      refine ar_len (F := F) _ fun e => ?_
      rw [List.append_nil, e] at k1
      exact k1.elim
    · rw [List.append_nil] at k1
      exact R.Res.mono k1 (fun d q v H' S' x2 hr => q H' S' x2 v hr) fun e q => q
  · have P1 := I1.pin (a, oe) (List.mem_append_left _ List.mem_cons_self)
    have hpin : PinOk (X.suite a ((a, oe) :: pn)).stack H1 s1 (a, oe) := ⟨P1.1, P1.2.1, fun hm => (List.mem_cons.mp (I1.stkSub a hm)).elim P1.2.2.1 P1.2.2.2.1, P1.2.2.2.2⟩
    refine wpAny_call (codeAny_mono (G.run (X.A.mark (some (.ref a))) _ s1 H1 us vs Q _ (a, oe) ⟨by have := hr.dp; show X.A.depth + _ < _; omega, by have := hr.un; show X.A.units + _ < _; omega⟩ hpin I1.env0 rv q) fun r s2 hq => ?_)
    cases r with
    | error er => exact passes_call (X := X.suite a ((a, oe) :: pn)) (takesX (a := a) (i := i) (S0 := S0)) (fun _ _ _ _ h => h) pins σ H1 s1 er s2 I1 hq
    | ok fl =>
      cases fl with
      | ret u => exact I1.after hq
      | next => exact hq.elim
      | brk => exact hq.elim
      | cont => exact hq.elim⟩
end
/-! comparisons in a suite -/
section
variable {X : Cx} {a : Addr} {pn : List (Addr × Obj)} {k : Nat}
theorem or_eqX (hr : Room k X.A) : OpR (X.suite a pn) (compareOp .Eq) (rEqD X.K) := op_eqD (X := X.suite a pn) (by have := hr.un; show X.A.units + _ < _; omega)
theorem or_neX (hr : Room k X.A) : OpR (X.suite a pn) (compareOp .NotEq) (rNeD X.K) := op_neD (X := X.suite a pn) (by have := hr.un; show X.A.units + _ < _; omega)
end
/-! C(..) with all its arguments -/
section
variable {X : Cx} {cm : CM} {W : WH} {k n c : Nat} {f : Addr} {x : Str} {p pos : Pos} {e : Expr} {es : List Expr} {args : LS → R (List D)} {G : List D → R (List D)} {dds : List D}
theorem e_makeF (h : IniP X.prog X.w X.K X.mg X.base cm k n c f G dds) (A : ClsAt X.K X.mg cm x c f) (tk : Takes X W.w) (hr : Room (k + 1) X.A) (ha : PA X (e :: es) (EA X.K cm W args)) (hg : Gl X x := by rfl) (hdb : (x == ("__debug__" : Str)) = false := by decide)
    (he : starEach (e :: es) X.env = (false, eval e X.env) :: starEach es X.env := by rfl) (hpl : (backTo pos (starEach es X.env)).any (·.1) = false := by rfl) : PE X (.Call (.Name x p) (e :: es) [] pos) (E X.K cm W (makeU c (arI n G) [] args)) := by
  have z := e_makeP (p := p) dds.length h A tk hr (Nat.le_refl _) ha hg hdb he hpl
  rw [List.drop_length] at z
  exact z
end
/-! C(e).f: an error that is made and asked at once -/
end DI
namespace DI
open PySem PySem.Spec PyProof.Rows L2
/-- the classes: l those whose instances are data, lx those of errors -/
def mkCMx (P : Program) (w : World) (l lx : List (Nat × Addr × List Str)) : CM where
  addr c := (((l ++ lx).lookup c).map (·.1)).getD 0
  names c := (((l ++ lx).lookup c).map (·.2)).getD []
  setO := SetTO P w
  nd := NDO P w
  cls := l.map (·.1)
end DI
end
section
set_option Elab.async false
set_option linter.all false
set_option maxRecDepth 100000
set_option maxHeartbeats 2000000
/-! DI: max, min of a list or a tuple of numbers. -/
namespace DI
open PySem PySem.Spec PyProof.Rows L2
/-! by values -/
end DI
end
section
set_option Elab.async false
set_option linter.all false
set_option maxRecDepth 100000
set_option maxHeartbeats 2000000
/-! DI: a list under construction is lent, locked, to an expression whose datum does not hold it. -/
namespace DI
open PySem PySem.Spec PyProof.Rows L2
/-! reckoning -/
end DI
end
section
set_option Elab.async false
set_option linter.all false
set_option maxRecDepth 100000
set_option maxHeartbeats 2000000
/-! DI: f(), C(), is True, is False. -/
namespace DI
open PySem PySem.Spec PyProof.Rows L2
/-! f(..) with all its arguments -/
/-! ### is True, is not False -/
def dIsBl : D → D → Option D
  | .bl a, .bl b => some (.bl (decide (a = b)))
  | _, _ => none
def dNotBl : D → D → Option D
  | .bl a, .bl b => some (.bl (!decide (a = b)))
  | _, _ => none
theorem d_isBl {K : PySem.W.Frag} {cm : CM} : Op2 K cm rIsB dIsBl := by
  intro S H x y d e z Q sh hx hy ho k
  cases d <;> cases e <;> try (cases ho; done)
  rw [hx.bl, hy.bl]
  cases ho
  exact ⟨_, _, rfl, rfl, k H S (Xt.refl sh) _ (.bl _)⟩
theorem d_notBl {K : PySem.W.Frag} {cm : CM} : Op2 K cm rNotB dNotBl := by
  intro S H x y d e z Q sh hx hy ho k
  cases d <;> cases e <;> try (cases ho; done)
  rw [hx.bl, hy.bl]
  cases ho
  exact ⟨_, _, rfl, rfl, k H S (Xt.refl sh) _ (.bl _)⟩
@[simp] theorem ev_isBT {a : Bool} : dIsBl (.bl a) (.bl true) = some (.bl a) := by cases a <;> rfl
@[simp] theorem ev_isBF {a : Bool} : dIsBl (.bl a) (.bl false) = some (.bl (!a)) := by cases a <;> rfl
@[simp] theorem ev_notBT {a : Bool} : dNotBl (.bl a) (.bl true) = some (.bl (!a)) := by cases a <;> rfl
@[simp] theorem ev_notBF {a : Bool} : dNotBl (.bl a) (.bl false) = some (.bl a) := by cases a <;> rfl
end DI
end
section
set_option Elab.async false
set_option linter.all false
set_option maxRecDepth 100000
set_option maxHeartbeats 3200000
/-! DI: set(t), t a tuple of tuples of numbers. -/
namespace DI
open PySem PySem.Spec PyProof.Rows L2
end DI
end
section
set_option Elab.async false
set_option linter.all false
set_option maxRecDepth 100000
set_option maxHeartbeats 2000000
/-! DI: dicts with keys that are numbers and texts. -/
namespace DI
open PySem PySem.Spec PyProof.Rows L2
/-! ### keys -/
/-! ### {} under construction -/
end DI
end
section
set_option Elab.async false
set_option linter.all false
set_option maxRecDepth 100000
set_option maxHeartbeats 2000000
/-! DI: a dict locked for good, its items; dict comprehensions; d.get(k, x). -/
namespace DI
open PySem PySem.Spec PyProof.Rows L2
end DI
end
section
set_option Elab.async false
set_option linter.all false
set_option maxRecDepth 100000
set_option maxHeartbeats 2000000
/-! DI: x in o, o an instance with its own __contains__. -/
namespace DI
open PySem PySem.Spec PyProof.Rows L2
end DI
end
section
set_option Elab.async false
set_option linter.all false
set_option maxRecDepth 100000
set_option maxHeartbeats 2000000
/-! DI: len(o), o an instance with its own __len__. -/
namespace DI
open PySem PySem.Spec PyProof.Rows L2
end DI
end
section
set_option Elab.async false
set_option linter.all false
set_option maxRecDepth 100000
set_option maxHeartbeats 2000000
/-! DI: a range object as a value. -/
namespace DI
open PySem PySem.Spec PyProof.Rows L2
end DI
end
section
set_option Elab.async false
set_option linter.all false
set_option maxRecDepth 100000
set_option maxHeartbeats 2000000
/-! DI: a dict of data under construction: d[k] = v, k in d, d[k]. -/
namespace DI
open PySem PySem.Spec PyProof.Rows L2
end DI
end
section
set_option Elab.async false
set_option linter.all false
set_option maxRecDepth 100000
set_option maxHeartbeats 2000000
/-! DI: a dict made of one pair; d.get(k). -/
namespace DI
open PySem PySem.Spec PyProof.Rows L2
end DI
end
section
set_option Elab.async false
set_option linter.all false
set_option maxRecDepth 100000
set_option maxHeartbeats 2000000
/-! DI: a dict comprehension as a fresh dict; d.get(k) of a dict under construction. -/
namespace DI
open PySem PySem.Spec PyProof.Rows L2
end DI
end
section
set_option Elab.async false
set_option linter.all false
set_option maxRecDepth 100000
set_option maxHeartbeats 2000000
/-! DI: sorted(d) of a dict under construction with int keys; d.get(k) of a dict that stands. -/
namespace DI
open PySem PySem.Spec PyProof.Rows L2
end DI
end
section
set_option Elab.async false
set_option linter.all false
set_option maxRecDepth 100000
set_option maxHeartbeats 2000000
/-! DI: dicts whose keys are nested tuples, under construction: {}, {k: v}, k in d, d[k], d[k] = v (k new). -/
namespace DI
open PySem PySem.Spec PyProof.Rows L2
/-! ### keys -/
/-! ### keys and values -/
/-! ### readings and rules -/
/-! ### over data -/
end DI
end
section
set_option Elab.async false
set_option linter.all false
set_option maxRecDepth 100000
set_option maxHeartbeats 4000000
/-! DI: zip over three lists or tuples. -/
namespace DI
open PySem PySem.Spec PyProof.Rows L2
end DI
end
section
set_option Elab.async false
set_option linter.all false
set_option maxRecDepth 100000
set_option maxHeartbeats 4000000
/-! DI: l.index(x), gcd, divmod. -/
namespace DI
open PySem PySem.Spec PyProof.Rows L2
end DI
namespace DI
open PySem PySem.Spec PyProof.Rows L2
end DI
end
section
set_option Elab.async false
set_option linter.all false
set_option maxRecDepth 100000
set_option maxHeartbeats 4000000
/-! DI: sorted(l), l a list of pairs of whole numbers. -/
namespace DI
open PySem PySem.Spec PyProof.Rows L2
/-! ### of data -/
end DI
end
section
set_option Elab.async false
set_option linter.all false
set_option maxRecDepth 100000
set_option maxHeartbeats 4000000
/-! DI: a name that holds a zip of three, walked at once behind it. -/
namespace DI
open PySem PySem.Spec PyProof.Rows L2
/-! ### cells that stand as they were made -/
/-! ### zip(..) as a value -/
/-! ### x = zip(..); return tuple([.. for .. in x]) -/
end DI
end
section
set_option Elab.async false
set_option linter.all false
set_option maxRecDepth 100000
set_option maxHeartbeats 3200000
/-! DI: sorted(set(t)), t a tuple of ints. -/
namespace DI
open PySem PySem.Spec PyProof.Rows L2
end DI
end
section
set_option Elab.async false
set_option linter.all false
set_option maxRecDepth 100000
set_option maxHeartbeats 2000000
/-! DI: name = {k: v for ..} on one line, the name a local. -/
namespace DI
open PySem PySem.Spec PyProof.Rows L2
end DI
end
section
set_option Elab.async false
set_option linter.all false
set_option maxRecDepth 100000
set_option maxHeartbeats 2000000
/-! DI: for c in text, sep.join(list of texts), text.find(text). -/
namespace DI
open PySem PySem.Spec PyProof.Rows L2
section
variable {X : Cx} {cm : CM} {W : WH} {tg e o : Expr} {f fo fa : LS → R D} {apos pos : Pos}
def sgn (c : Nat) : D := .str ⟨#[c]⟩
def sitemsD : D → Option (List D)
  | .str z => some (z.cps.toList.map sgn)
  | _ => none
def sitems (f : LS → R D) : LS → R (List D) := fun st => (f st).bind fun d => .of (sitemsD d)
theorem wk_str {K : PySem.W.Frag} {S B : Hp} (z : Str) : Wk K cm (Its z) S B (z.cps.toList.map sgn) := fun i S' H s1 s2 s3 => by
  refine ⟨fun d e => ?_, fun l => ?_⟩
  · rw [List.getElem?_map] at e
    cases q : z.cps.toList[i]? with
    | none => rw [q] at e; cases e
    | some c =>
      rw [q] at e
      cases e
      have hi : i < z.cps.size := by simpa using (List.getElem?_eq_some_iff.mp q).1
      refine ⟨hi, fun x H' ⟨e2, c2, e3, e4⟩ => ?_⟩
      subst e2 e4
      have : z.cps.toList[i]? = some c2 := by rw [Array.getElem?_toList]; exact e3
      rw [q] at this
      cases this
      exact ⟨S', Xt.refl s2, .str _⟩
  · show z.cps.size ≤ i
    rw [List.length_map, Array.length_toList] at l
    omega
theorem i_str (h : PE X e (E X.K cm W f)) : PI X tg e (IE X.K cm W (sitems f)) := (pi_str h).imp fun σ H R ⟨st, S, fp, r, g⟩ => ⟨st, S, fp, r, g.bind.mono fun d S1 H1 x1 k1 v hv => by
  obtain ⟨w, hw, k3⟩ := k1.of
  cases d <;> try (cases hw; done)
  case str z =>
    cases hw
    cases hv
    exact ⟨z, rfl, k3 H1 S1 (Xt.refl x1.sh) _ (wk_str z)⟩⟩
def isStr : D → Bool
  | .str _ => true
  | _ => false
theorem isStr_some {d : D} (h : isStr d = true) : ∃ z, d = .str z := by
  cases d <;> first | exact ⟨_, rfl⟩ | cases h
def strsOf : List D → Option (List Str)
  | [] => some []
  | .str z :: ds => (strsOf ds).map (z :: ·)
  | _ :: _ => none
theorem strs_at {K : PySem.W.Frag} {S : Hp} : ∀ {ds : List D} {vs : List V} {ys : List Str}, RepL K cm S vs ds → strsOf ds = some ys → vs = ys.map V.str
  | [], _, _, h, e => by
    cases h
    cases e
    rfl
  | d :: ds, _, _, h, e => by
    cases h with
    | cons h hs =>
      cases d <;> try (cases e; done)
      case str z =>
        replace e : (strsOf ds).map (z :: ·) = some _ := e
        cases q : strsOf ds with
        | none => rw [q] at e; cases e
        | some zs =>
          rw [q] at e
          cases e
          cases h
          rw [strs_at hs q]
          rfl
def dJoin : D → D → Option D
  | .str a, .lst ds => match strsOf ds with
    | some ys => if (ys.map (·.length)).sum + ys.length * a.length ≤ 16777216 then some (.str (Txt.join a ys)) else none
    | none => none
  | _, _ => none
def dFind : D → D → Option D
  | .str a, .str b => some (.int (Txt.find a b))
  | _, _ => none
def strmE (op : D → D → Option D) (fo fa : LS → R D) : LS → R D := fun st => (fo st).bind fun d => if isStr d = true then (fa st).bind fun e => .of (op d e) else .bad
theorem e_join (ho : PE X o (E X.K cm W fo)) (ha : PE X e (E X.K cm W fa)) (hs : starEach [e] X.env = [(false, eval e X.env)] := by rfl) (hbase : attributeBase o "join" X.env (eval o X.env) = eval o X.env := by rfl) (hline : (apos.endLine == pos.line) = true := by rfl) :
    PE X (.Call (.Attribute o "join" apos) [e] [] pos) (E X.K cm W (strmE dJoin fo fa)) :=
  (pe_join ho ha hs hbase hline).imp fun σ H Q ⟨st, S, fp, rx, g⟩ => by
    refine ⟨st, S, fp, rx, g.bind.mono fun d S1 H1 x1 k1 v hv => ?_⟩
    replace k1 : Go X.K cm W (fun d S' H' => ∀ v, Rep X.K cm S' v d → Q v H') (if isStr d = true then (fa st).bind fun e => .of (dJoin d e) else .bad) S1 H1 σ := k1
    split at k1
    · rename_i il
      obtain ⟨a, rfl⟩ := isStr_some il
      cases hv
      refine ⟨⟨a, rfl⟩, st, S1, fp, rx.ext x1, k1.bind.mono fun y S2 H2 x2 k2 u hu => ?_⟩
      obtain ⟨z, hz, k3⟩ := k2.of
      cases y <;> try (cases hz; done)
      case lst ds =>
        replace hz : (match strsOf ds with
          | some ys => if (ys.map (·.length)).sum + ys.length * a.length ≤ 16777216 then some (D.str (Txt.join a ys)) else none
          | none => none) = some z := hz
        split at hz
        · rename_i ys hy
          split at hz
          · rename_i few
            cases hz
            cases hu with
            | @lst p xs _ h1 h2 =>
              have e2 := strs_at h2 hy
              subst e2
              exact ⟨a, p, ys, rfl, rfl, .inl (SqL.of (x2.sh _ _ h1)), few, k3 H2 S2 (Xt.refl x2.sh) _ (.str _)⟩
          · cases hz
        · cases hz
    · exact k1.elim
theorem e_find (ho : PE X o (E X.K cm W fo)) (ha : PE X e (E X.K cm W fa)) (hs : starEach [e] X.env = [(false, eval e X.env)] := by rfl) (hbase : attributeBase o "find" X.env (eval o X.env) = eval o X.env := by rfl) (hline : (apos.endLine == pos.line) = true := by rfl) :
    PE X (.Call (.Attribute o "find" apos) [e] [] pos) (E X.K cm W (strmE dFind fo fa)) :=
  (pe_m1 F.slot_str_find F.type_str_find mt_find ho ha hs hbase hline).imp fun σ H Q ⟨st, S, fp, rx, g⟩ => by
    refine ⟨st, S, fp, rx, g.bind.mono fun d S1 H1 x1 k1 v hv => ?_⟩
    replace k1 : Go X.K cm W (fun d S' H' => ∀ v, Rep X.K cm S' v d → Q v H') (if isStr d = true then (fa st).bind fun e => .of (dFind d e) else .bad) S1 H1 σ := k1
    split at k1
    · rename_i il
      obtain ⟨a, rfl⟩ := isStr_some il
      cases hv
      refine ⟨⟨a, rfl⟩, st, S1, fp, rx.ext x1, k1.bind.mono fun y S2 H2 x2 k2 u hu => ?_⟩
      obtain ⟨z, hz, k3⟩ := k2.of
      cases y <;> try (cases hz; done)
      case str b =>
        cases hz
        cases hu
        exact ⟨a, b, rfl, rfl, k3 H2 S2 (Xt.refl x2.sh) _ (.int _)⟩
    · exact k1.elim
/-- a text that a module's name stands for -/
theorem e_gstr {x : Str} {z : Str} (h : ∃ t, X.mg x = some (.str z t)) (hg : Gl X x := by rfl) (hd : (x == ("__debug__" : Str)) = false := by decide) : PE X (.Name x pos) (E X.K cm W (cc (.str z))) := by
  obtain ⟨t, h⟩ := h
  exact (pe_glob (v := .str z) hg h ⟨t, rfl⟩ hd).imp fun σ H Q ⟨st, S, fp, rx, g⟩ => g H S (Xt.refl rx.sh) _ (.str _)
end
end DI
end
section
set_option Elab.async false
set_option linter.all false
set_option maxRecDepth 100000
set_option maxHeartbeats 2000000
namespace FR
open PySem PySem.Spec PyProof.Rows L2 DI
def fl_around : List (Nat × Nat) := [(46, 2)]
def fl_lines : List (Nat × Nat) := [(32, 5), (35, 5), (45, 2), (46, 1)]
def fl_picture : List (Nat × Nat) := [(39, 1)]
def fl_size : List (Nat × Nat) := [(42, 1), (46, 0)]
def fl_web : List (Nat × Nat) := [(39, 0)]
def subL : List (Nat × Nat) := [(0, 0), (1, 1), (2, 2), (3, 3), (4, 4), (5, 5), (6, 6), (6, 5), (7, 7), (7, 5), (8, 8), (8, 5), (9, 9), (9, 5), (10, 10), (10, 5), (11, 11), (11, 5), (12, 12), (12, 5), (13, 13), (13, 5), (14, 14), (14, 5), (15, 15), (15, 5), (16, 16), (16, 5), (17, 17), (17, 5), (18, 18), (18, 5), (19, 19), (19, 5), (20, 20), (20, 5), (21, 21), (21, 5), (22, 22), (22, 21), (22, 5), (23, 23), (23, 21), (23, 5), (24, 24), (24, 21), (24, 5), (25, 25), (25, 21), (25, 5), (26, 26), (26, 21), (26, 5), (27, 27), (27, 21), (27, 5), (28, 28), (28, 21), (28, 5), (29, 29), (29, 21), (29, 5), (30, 30), (30, 21), (30, 5), (31, 31), (31, 21), (31, 5), (32, 32), (32, 35), (33, 33), (34, 34), (35, 35), (36, 36), (37, 37), (38, 38), (39, 39), (40, 40), (41, 41), (42, 42), (43, 43), (44, 44), (45, 45), (46, 46), (47, 47), (48, 48)]
def subC (a b : Nat) : Bool := subL.contains (a, b)
def xsL : List Nat := [7, 10]
def xl_index : List (Nat × Nat) := [(7, 0), (10, 0)]
def d__law_web : List D → R D := den 9 (seqS (setS 2 (callE dMin2 (consA (vi 1) (consA (bin dIdx (lstE (consA (cc (.int 5)) (consA (cc (.int 4)) (consA (cc (.int 6)) (consA (cc (.int 3)) (consA (cc (.int 5)) (consA (cc (.int 7)) (consA (cc (.int 4)) (consA (cc (.int 6)) (consA (cc (.int 2)) (consA (cc (.int 5)) (consA (cc (.int 1)) (consA (cc (.int 6)) (nilA)))))))))))))) (bin dIdx (vi 0) (cc (.int 0)))) (nilA)))))
  (seqS (setF 3 (lstF (nilA)))
  (seqS (forS (callI rng2 (consA (cc (.int 1)) (consA (vi 2) (nilA)))) (gN 4)
  (seqS (setS 5 (bin dIdx (lstE (consA (bin dSub (vi 4) (cc (.int 1))) (consA (bin dSub (vi 4) (cc (.int 1))) (consA (bin dSub (vi 4) (cc (.int 1))) (consA (cc (.int 0)) (consA (bin dDiv (vi 4) (cc (.int 2))) (consA (cc (.int 0)) (nilA)))))))) (bin dIdx (vi 0) (bin dMul (cc (.int 2)) (vi 4)))))
  (seqS (ifS (tb (bin dLt (bin dIdx (vi 0) (cc (.int 13))) (cc (.int 4))))
  (setS 5 (bin dSub (vi 4) (cc (.int 1))))
  (nilS))
  (ifS (tb (bin dLt (bin dIdx (vi 0) (bin dSub (bin dMul (cc (.int 2)) (vi 4)) (cc (.int 1)))) (cc (.int 19))))
  (appS 3 (fun st => ((tupE (consA (vi 5) (consA (vi 4) (nilA)))) st).bind fun d => .ok (.im d)))
  (nilS)))))
  (seqS (ifS (andB (tb (bin dGt (vi 2) (cc (.int 2)))) (tb (bin dLt (bin dIdx (vi 0) (cc (.int 13))) (cc (.int 6)))))
  (appS 3 (fun st => ((tupE (consA (cc (.int 0)) (consA (bin dSub (vi 2) (cc (.int 1))) (nilA)))) st).bind fun d => .ok (.im d)))
  (nilS))
  (seqS (forS (callI rng1 (consA (cc (.int 3)) (nilA))) (gN 4)
  (seqS (setS 6 (bin dMod (bin dIdx (vi 0) (bin dAdd (cc (.int 14)) (bin dMul (cc (.int 2)) (vi 4)))) (vi 2)))
  (seqS (setS 7 (bin dMod (bin dIdx (vi 0) (bin dAdd (cc (.int 15)) (bin dMul (cc (.int 2)) (vi 4)))) (vi 2)))
  (ifS (andB (tb (bin dLt (vi 6) (vi 7))) (tb (bin dGt (bin dIdx (vi 0) (bin dAdd (cc (.int 15)) (bin dMul (cc (.int 2)) (vi 4)))) (cc (.int 2)))))
  (appS 3 (fun st => ((tupE (consA (vi 6) (consA (vi 7) (nilA)))) st).bind fun d => .ok (.im d)))
  (nilS)))))
  (seqS (setF 8 (lstF (nilA)))
  (seqS (forS (callI rng1 (consA (vi 2) (nilA))) (gN 6)
  (forS (callI rng2 (consA (bin dAdd (vi 6) (cc (.int 1))) (consA (vi 2) (nilA)))) (gN 7)
  (frzS 3 (ifS (tb (bin dIn (tupE (consA (vi 6) (consA (vi 7) (nilA)))) (vi 3)))
  (appS 8 (fun st => ((tupE (consA (vi 6) (consA (vi 7) (nilA)))) st).bind fun d => .ok (.im d)))
  (nilS)))))
  (frzS 8 (retS (lstE (consA (vi 2) (consA (vi 8) (nilA)))))))))))))
def d__law_digits : List D → R D := den 8 (seqS (setF 2 (lstF (nilA)))
  (seqS (setS 3 (callE dToInt (consA (vi 0) (nilA))))
  (seqS (ifS (tb (bin dGe (vi 3) (bin dPow (cc (.int 10)) (cc (.int 18)))))
  (seqS (setS 3 (bin dSub (vi 3) (bin dPow (cc (.int 10)) (cc (.int 18)))))
  (seqS (forS (items (vi 1)) (gN 4)
  (seqS (appS 2 (fun st => ((bin dMod (callE dToInt (consA (vi 3) (nilA))) (vi 4)) st).bind fun d => .ok (.im d)))
  (setS 3 (bin dDiv (callE dToInt (consA (vi 3) (nilA))) (vi 4)))))
  (frzS 2 (retS (vi 2)))))
  (nilS))
  (seqS (setS 5 (bin dMod (callE dToInt (consA (vi 3) (nilA))) (cc (.int 2147483629))))
  (seqS (forS (callI rng1 (consA (callE dLen (consA (vi 1) (nilA))) (nilA))) (gN 6)
  (seqS (setS 5 (bin dMod (callE dToInt (consA (bin dAdd (bin dAdd (bin dMul (vi 5) (cc (.int 48271))) (bin dMul (cc (.int 974711)) (vi 6))) (cc (.int 12345))) (nilA))) (cc (.int 2147483647))))
  (seqS (setS 7 (bin dMod (callE dToInt (consA (bin dMul (vi 5) (bin dAdd (bin dDiv (vi 5) (cc (.int 65537))) (cc (.int 3)))) (nilA))) (cc (.int 2147483629))))
  (appS 2 (fun st => ((bin dMod (bin dDiv (vi 7) (cc (.int 19))) (bin dIdx (vi 1) (vi 6))) st).bind fun d => .ok (.im d))))))
  (frzS 2 (retS (vi 2))))))))
def d__law_cell : List D → R D := den 4 (seqS (ifS (tb (bin dLt (vi 1) (callE dLen (consA (vi 0) (nilA)))))
  (retS (bin dIdx (vi 0) (vi 1)))
  (nilS))
  (seqS (setS 2 (cc (.int 17)))
  (seqS (forS (items (vi 0)) (gN 3)
  (setS 2 (bin dMod (callE dToInt (consA (bin dAdd (bin dMul (vi 2) (cc (.int 31))) (bin dMod (callE dToInt (consA (vi 3) (nilA))) (cc (.int 1000003)))) (nilA))) (cc (.int 1000003)))))
  (retS (bin dMod (callE dToInt (consA (bin dMul (bin dMul (bin dAdd (vi 2) (cc (.int 7))) (bin dAdd (vi 1) (cc (.int 3)))) (cc (.int 69621))) (nilA))) (cc (.int 2147483647)))))))
def d__law_picture : List D → R D := den 3 (seqS (ifS (andB (tb (bin dGe (bin dIdx (vi 0) (cc (.int 0))) (cc (.int 4)))) (tb (bin dLe (bin dIdx (vi 0) (cc (.int 0))) (cc (.int 7)))))
  (retS (callE dTuple (consA (compE (callI rng1 (consA (vi 1) (nilA))) [2] (gN 2) (yesT) (bin dMod (callE dToInt (consA (bin dAdd (vi 2) (bin dIdx (vi 0) (cc (.int 1)))) (nilA))) (cc (.int 3)))) (nilA))))
  (nilS))
  (seqS (ifS (tb (bin dEq (bin dIdx (vi 0) (cc (.int 0))) (cc (.int 8))))
  (retS (callE dTuple (consA (compE (callI rng1 (consA (vi 1) (nilA))) [2] (gN 2) (yesT) (bin dMul (bin dMod (callE dToInt (consA (bin dAdd (vi 2) (bin dIdx (vi 0) (cc (.int 1)))) (nilA))) (cc (.int 3))) (callE dToInt (consA (bin dNe (vi 2) (bin dAdd (bin dIdx (vi 0) (cc (.int 2))) (cc (.int 1)))) (nilA))))) (nilA))))
  (nilS))
  (seqS (ifS (tb (bin dEq (bin dIdx (vi 0) (cc (.int 0))) (cc (.int 9))))
  (retS (callE dTuple (consA (compE (callI rng1 (consA (vi 1) (nilA))) [2] (gN 2) (yesT) (callE dToInt (consA (bin dEq (vi 2) (bin dIdx (vi 0) (cc (.int 1)))) (nilA)))) (nilA))))
  (nilS))
  (retS (callE dTuple (consA (compE (callI rng1 (consA (vi 1) (nilA))) [2] (gN 2) (yesT) (bin dIdx (vi 0) (bin dAdd (cc (.int 2)) (vi 2)))) (nilA)))))))
def d__law_scene : List D → R D := den 5 (seqS (setS 3 (callU (ar 2 d__law_web) [] (consA (callU (ar 2 d__law_digits) [] (consA (callU (ar 2 d__law_cell) [] (consA (vi 0) (consA (vi 1) (nilA)))) (consA (bin dAdd (bin dAdd (bin dAdd (lstE (consA (cc (.int 12)) (nilA))) (bin dMul (lstE (consA (cc (.int 20)) (consA (cc (.int 6)) (nilA)))) (cc (.int 6)))) (lstE (consA (cc (.int 8)) (nilA)))) (bin dMul (lstE (consA (cc (.int 8)) (consA (cc (.int 8)) (nilA)))) (cc (.int 3)))) (nilA)))) (consA (vi 2) (nilA)))))
  (seqS (setS 4 (callU (ar 2 d__law_picture) [] (consA (callU (ar 2 d__law_digits) [] (consA (callU (ar 2 d__law_cell) [] (consA (vi 0) (consA (bin dAdd (vi 1) (cc (.int 1))) (nilA)))) (consA (bin dAdd (lstE (consA (cc (.int 10)) (consA (cc (.int 3)) (nilA)))) (bin dMul (lstE (consA (cc (.int 3)) (nilA))) (cc (.int 7)))) (nilA)))) (consA (bin dIdx (vi 3) (cc (.int 0))) (nilA)))))
  (retS (lstE (consA (bin dIdx (vi 3) (cc (.int 0))) (consA (bin dIdx (vi 3) (cc (.int 1))) (consA (vi 4) (nilA))))))))
def d_checked_lines : List D → R D := den 5 (seqS (forS (enumI (consA (vi 1) (nilA))) (gT 2 (gsCons (gN 2) (gsCons (gT 2 (gsCons (gN 3) (gsCons (gN 4) (gsNil)))) (gsNil))))
  (ifS (orB (tb (bin dEq (vi 3) (vi 4))) (orB (notB (tb (chain dLe dLt (cc (.int 0)) (vi 3) (vi 0)))) (notB (tb (chain dLe dLt (cc (.int 0)) (vi 4) (vi 0))))))
  (raise1S 7 (vi 2))
  (nilS)))
  (retS (callE dTuple (consA (callE (fun ds => dL (dSortU ds)) (consA (setE (items (vi 1)) [3, 4] (gT 2 (gsCons (gN 3) (gsCons (gN 4) (gsNil)))) (yesT) (tupE (consA (callE dMin2 (consA (vi 3) (consA (vi 4) (nilA)))) (consA (callE dMax2 (consA (vi 3) (consA (vi 4) (nilA)))) (nilA))))) (nilA))) (nilA)))))
def d_frozen : Nat → List D → R D
  | 0 => fun _ => .bad
  | k + 1 => den 2 (seqS (ifS (tb (un (dIs subC [.b .list, .b .tuple]) (vi 0)))
  (retS (callE dTuple (consA (compE (items (vi 0)) [1] (gN 1) (yesT) (callU (ar 1 (d_frozen k)) [] (consA (vi 1) (nilA)))) (nilA))))
  (nilS))
  (retS (vi 0)))
def d_neighbour_rows : List D → R D := den 7 (seqS (setF 3 (compTF (callI rng1 (consA (vi 0) (nilA))) [2] (gN 2) (yesT) (lstF (nilA))))
  (seqS (forS (items (vi 1)) (gT 2 (gsCons (gN 4) (gsCons (gN 5) (gsNil))))
  (seqS (appPS 3 (vi 4) (fun st => ((vi 5) st).bind fun d => .ok (.im d)))
  (appPS 3 (vi 5) (fun st => ((vi 4) st).bind fun d => .ok (.im d)))))
  (frzS 3 (retS (callE dTuple (consA (compE (items (vi 3)) [6] (gN 6) (yesT) (callE dTuple (consA (callE (fun ds => dL (dSortF ds)) (consA (vi 6) (nilA))) (nilA)))) (nilA)))))))
def d_Web___init__ : List D → R (List D) := denI 3 46 (seqS (slfS 0 46 0 (vi 1))
  (seqS (slfS 0 46 1 (callU (ar 2 d_checked_lines) [] (consA (vi 1) (consA (callU (ar 1 (d_frozen 6)) [] (consA (vi 2) (nilA))) (nilA)))))
  (slfS 0 46 2 (callU (ar 2 d_neighbour_rows) [] (consA (vi 1) (consA (slfE 0 46 1) (nilA)))))))
def d_Scene___init__ : List D → R (List D) := denI 5 39 (seqS (setS 3 (callU (ar 1 (d_frozen 6)) [] (consA (vi 2) (nilA))))
  (seqS (forS (callI rng1 (consA (callE dMax2 (consA (un (dFld fl_size) (vi 1)) (consA (callE dLen (consA (vi 3) (nilA))) (nilA)))) (nilA))) (gN 4)
  (ifS (orB (tb (bin dGe (vi 4) (un (dFld fl_size) (vi 1)))) (orB (tb (bin dGe (vi 4) (callE dLen (consA (vi 3) (nilA))))) (tb (bin dNotIn (bin dIdx (vi 3) (vi 4)) (tupE (consA (cc (.int 0)) (consA (cc (.int 1)) (consA (cc (.int 2)) (nilA)))))))))
  (raise1S 10 (vi 4))
  (nilS)))
  (seqS (slfS 0 39 0 (vi 1))
  (slfS 0 39 1 (vi 3)))))
def d_Web___eq__ : List D → R D := den 2 (retS (andE (un (dIs subC [.c 46]) (vi 1)) (andE (bin dEq (un (dFld fl_size) (vi 0)) (un (dFld fl_size) (vi 1))) (bin dEq (un (dFld fl_lines) (vi 0)) (un (dFld fl_lines) (vi 1))))))
def d__law_whole : List D → R D := den 1 (retS (andE (un (dIs subC [.b .int]) (vi 0)) (notE (un (dIs subC [.b .bool]) (vi 0)))))
def d__law_row : List D → R D := den 3 (retS (andE (un (dIs subC [.b .tuple]) (vi 0)) (andE (bin dEq (callE dLen (consA (vi 0) (nilA))) (vi 1)) (bin dEq (callE dLen (consA (compE (items (vi 0)) [2] (gN 2) (notB (tb (callU (ar 1 d__law_whole) [] (consA (vi 2) (nilA))))) (vi 2)) (nilA))) (cc (.int 0))))))
def d__law_is_scene : List D → R D := den 3 (seqS (ifS (orB (notB (tb (un (dIs subC [.c 39]) (vi 0)))) (notB (tb (op2R (eqT 46 d_Web___eq__) (un (dFld fl_web) (vi 0)) (vi 1)))))
  (retS (cc (.bl false)))
  (nilS))
  (retS (andE (callU (ar 2 d__law_row) [] (consA (un (dFld fl_picture) (vi 0)) (consA (callE dLen (consA (vi 2) (nilA))) (nilA)))) (bin dEq (callE (fun ds => dL (dListF ds)) (consA (un (dFld fl_picture) (vi 0)) (nilA))) (callE (fun ds => dL (dListF ds)) (consA (vi 2) (nilA)))))))
def d_all_ready : List D → R D := den 1 (retS (makeU 39 (arI 2 d_Scene___init__) [] (consA (vi 0) (consA (bin dMul (lstE (consA (cc (.int 0)) (nilA))) (un (dFld fl_size) (vi 0))) (nilA)))))
def d__law_fault : List D → R D := den 3 (seqS (forS (callI rng1 (consA (callE dMax2 (consA (vi 0) (consA (callE dLen (consA (vi 1) (nilA))) (nilA)))) (nilA))) (gN 2)
  (ifS (orB (tb (bin dGe (vi 2) (vi 0))) (orB (tb (bin dGe (vi 2) (callE dLen (consA (vi 1) (nilA))))) (tb (bin dNotIn (bin dIdx (vi 1) (vi 2)) (lstE (consA (cc (.int 0)) (consA (cc (.int 1)) (consA (cc (.int 2)) (nilA)))))))))
  (retS (vi 2))
  (nilS)))
  (retS (cc .non)))
def d__law_made : List D → R D := den 7 (seqS (setS 4 (callU (ar 2 d__law_fault) [] (consA (vi 1) (consA (vi 2) (nilA)))))
  (tryS subC xsL 10 6 (seqS (setS 5 (makeU 39 (arI 2 d_Scene___init__) [] (consA (vi 0) (consA (vi 3) (nilA)))))
  (retS (andE (bin dIsN (vi 4) (cc .non)) (callU (ar 3 d__law_is_scene) [] (consA (vi 5) (consA (vi 0) (consA (vi 2) (nilA))))))))
  (fun e => seqS (ifS (orB (tb (bin dIsN (vi 4) (cc .non))) (orB (notB (tb (callU (ar 1 d__law_whole) [] (consA (xfE xl_index e) (nilA))))) (orB (tb (bin dNe (xfE xl_index e) (vi 4))) (tb (xisE subC xsL [.c 7] e)))))
  (retS (cc (.bl false)))
  (nilS))
  (retS (andE (xisE subC xsL [.c 5] e) (xisE subC xsL [.b "ValueError"] e))))))
def d_mirror : List D → R D := den 2 (retS (makeU 39 (arI 2 d_Scene___init__) [] (consA (un (dFld fl_web) (vi 0)) (consA (compE (items (un (dFld fl_picture) (vi 0))) [1] (gN 1) (yesT) (bin dMod (bin dSub (cc (.int 3)) (vi 1)) (cc (.int 3)))) (nilA)))))
def d_turned : List D → R D := den 3 (retS (makeU 39 (arI 2 d_Scene___init__) [] (consA (un (dFld fl_web) (vi 0)) (consA (compE (items (un (dFld fl_picture) (vi 0))) [2] (gN 2) (yesT) (bin dMod (bin dAdd (vi 2) (vi 1)) (cc (.int 3)))) (nilA)))))
def d_picture_text : List D → R D := den 2 (retS (strmE dJoin (cc (.str "")) (compE (items (un (dFld fl_picture) (vi 0))) [1] (gN 1) (yesT) (bin dIdx (cc (.str ".*o")) (vi 1)))))
def d__law_texts : List D → R D := den 5 (seqS (setS 4 (lstE (consA (vi 0) (consA (bin dAdd (vi 0) (vi 1)) (consA (bin dAdd (bin dAdd (slE (bin dAdd (vi 0) (cc (.str "o"))) (partN) (partI (vi 2))) (vi 1)) (slE (vi 0) (partI (vi 2)) (partN))) (consA (slE (vi 0) (partN) (partI (vi 3))) (consA (bin dAdd (bin dAdd (slE (vi 0) (partN) (partI (vi 2))) (vi 1)) (slE (vi 0) (partI (bin dAdd (vi 2) (cc (.int 1)))) (partN))) (nilA))))))))
  (retS (bin dAdd (vi 4) (lstE (consA (slE (bin dAdd (bin dAdd (slE (vi 0) (partN) (partI (vi 2))) (vi 1)) (slE (vi 0) (partI (bin dAdd (vi 2) (cc (.int 1)))) (partN))) (partN) (partI (vi 3))) (consA (bin dAdd (bin dAdd (vi 1) (slE (vi 0) (partI (cc (.int 1))) (partI (vi 3)))) (vi 1)) (consA (cc (.str "")) (nilA))))))))
def d_scene_of_text : List D → R D := den 3 (retS (makeU 39 (arI 2 d_Scene___init__) [] (consA (vi 0) (consA (compE (sitems (vi 1)) [2] (gN 2) (yesT) (strmE dFind (cc (.str ".*o")) (vi 2))) (nilA)))))
def d__law_read : List D → R D := den 8 (seqS (setS 4 (compE (sitems (vi 2)) [3] (gN 3) (yesT) (strmE dFind (cc (.str ".*o")) (vi 3))))
  (seqS (setS 5 (callU (ar 2 d__law_fault) [] (consA (vi 1) (consA (vi 4) (nilA)))))
  (tryS subC xsL 10 7 (seqS (setS 6 (callU (ar 2 d_scene_of_text) [] (consA (vi 0) (consA (vi 2) (nilA)))))
  (retS (andE (bin dIsN (vi 5) (cc .non)) (andE (callU (ar 3 d__law_is_scene) [] (consA (vi 6) (consA (vi 0) (consA (vi 4) (nilA))))) (bin dEq (callU (ar 1 d_picture_text) [] (consA (vi 6) (nilA))) (vi 2))))))
  (fun e => retS (andE (bin dNotN (vi 5) (cc .non)) (andE (callU (ar 1 d__law_whole) [] (consA (xfE xl_index e) (nilA))) (bin dEq (xfE xl_index e) (vi 5))))))))
def d_Scene___eq__ : List D → R D := den 2 (retS (andE (un (dIs subC [.c 39]) (vi 1)) (andE (op2R (eqT 46 d_Web___eq__) (un (dFld fl_web) (vi 0)) (un (dFld fl_web) (vi 1))) (bin dEq (un (dFld fl_picture) (vi 0)) (un (dFld fl_picture) (vi 1))))))
def d__law_told : List D → R D := den 2 (retS (andE (bin dEq (bin dIsBl (vi 0) (cc (.bl true))) (vi 1)) (bin dNe (bin dIsBl (vi 0) (cc (.bl false))) (vi 1))))
def d_law : List D → R D := den 17 (seqS (setS 1 (callU (ar 3 d__law_scene) [] (consA (vi 0) (consA (cc (.int 0)) (consA (cc (.int 7)) (nilA))))))
  (seqS (setS 2 (callU (ar 2 d__law_digits) [] (consA (callU (ar 2 d__law_cell) [] (consA (vi 0) (consA (cc (.int 2)) (nilA)))) (consA (lstE (consA (cc (.int 8)) (consA (cc (.int 9)) (consA (cc (.int 9)) (consA (cc (.int 8)) (consA (cc (.int 19)) (consA (cc (.int 8)) (consA (cc (.int 3)) (consA (bin dPow (cc (.int 10)) (cc (.int 30))) (consA (cc (.int 8)) (consA (cc (.int 9)) (nilA)))))))))))) (nilA)))))
  (seqS (setS 3 (bin dMul (bin dIdx (vi 1) (cc (.int 0))) (callE dToInt (consA (bin dNe (bin dIdx (vi 2) (cc (.int 0))) (cc (.int 7))) (nilA)))))
  (seqS (setS 4 (slE (callE (fun ds => dL (dListF ds)) (consA (bin dIdx (vi 1) (cc (.int 2))) (nilA))) (partN) (partI (vi 3))))
  (seqS (setS 5 (slE (bin dIdx (vi 1) (cc (.int 1))) (partN) (partI (bin dMul (callE dLen (consA (bin dIdx (vi 1) (cc (.int 1))) (nilA))) (callE dToInt (consA (bin dGt (vi 3) (cc (.int 0))) (nilA)))))))
  (seqS (setS 6 (makeU 46 (arI 2 d_Web___init__) [] (consA (vi 3) (consA (vi 5) (nilA)))))
  (seqS (setF 7 (callF dListF (consA (vi 4) (nilA))))
  (seqS (setS 8 (lendE 7 (makeU 39 (arI 2 d_Scene___init__) [] (consA (vi 6) (consA (vi 7) (nilA))))))
  (seqS (ifS (tb (bin dNe (vv 7) (vi 4)))
  (retS (cc (.bl false)))
  (nilS))
  (seqS (appS 7 (fun st => ((cc (.int 1)) st).bind fun d => .ok (.im d)))
  (seqS (ifS (orB (notB (tb (callU (ar 3 d__law_is_scene) [] (consA (vi 8) (consA (vi 6) (consA (vi 4) (nilA))))))) (notB (tb (callU (ar 3 d__law_is_scene) [] (consA (callU (ar 1 d_all_ready) [] (consA (vi 6) (nilA))) (consA (vi 6) (consA (compE (items (vi 4)) [9] (gN 9) (yesT) (cc (.int 0))) (nilA))))))))
  (retS (cc (.bl false)))
  (nilS))
  (seqS (setF 10 (fun st => ((callE (fun ds => dL (dListF ds)) (consA (vi 4) (nilA))) st).bind fun x => ((lstE (consA (bin dIdx (vi 2) (cc (.int 6))) (nilA))) st).bind fun y => .of ((dCat x y).map imT)))
  (seqS (frzS 10 (setF 10 (slF (vi 10) (partN) (partI (bin dIdx (vi 2) (cc (.int 1)))))))
  (seqS (ifS (andB (tb (bin dGt (callE dLen (consA (vv 10) (nilA))) (cc (.int 0)))) (tb (bin dLt (bin dIdx (vi 2) (cc (.int 2))) (cc (.int 8)))))
  (setIS 10 (fun st => ((bin dSub (bin dIdx (vi 2) (cc (.int 2))) (cc (.int 2))) st).bind fun d => .ok (.im d)) (bin dMod (bin dIdx (vi 2) (cc (.int 3))) (callE dLen (consA (vv 10) (nilA)))))
  (nilS))
  (seqS (ifS (andB (tb (bin dGt (callE dLen (consA (vv 10) (nilA))) (cc (.int 0)))) (tb (bin dLt (bin dIdx (vi 2) (cc (.int 9))) (cc (.int 4)))))
  (setIS 10 (fun st => ((bin dIdx (lstE (consA (cc (.int 3)) (consA (bin dSub (cc (.int 0)) (cc (.int 1))) (consA (bin dPow (cc (.int 10)) (cc (.int 30))) (consA (cc (.int 4)) (nilA)))))) (bin dIdx (vi 2) (cc (.int 9)))) st).bind fun d => .ok (.im d)) (bin dMod (bin dIdx (vi 2) (cc (.int 8))) (callE dLen (consA (vv 10) (nilA)))))
  (nilS))
  (seqS (frzS 10 (ifS (orB (notB (tb (callU (ar 4 d__law_made) [] (consA (vi 6) (consA (vi 3) (consA (vi 10) (consA (callE (fun ds => dL (dListF ds)) (consA (vi 10) (nilA))) (nilA)))))))) (notB (tb (callU (ar 4 d__law_made) [] (consA (vi 6) (consA (vi 3) (consA (vi 10) (consA (callE dTuple (consA (vi 10) (nilA))) (nilA)))))))))
  (retS (cc (.bl false)))
  (nilS)))
  (seqS (ifS (notB (tb (callU (ar 3 d__law_is_scene) [] (consA (callU (ar 1 d_mirror) [] (consA (vi 8) (nilA))) (consA (vi 6) (consA (compE (items (vi 4)) [9] (gN 9) (yesT) (bin dIdx (lstE (consA (cc (.int 0)) (consA (cc (.int 2)) (consA (cc (.int 1)) (nilA))))) (vi 9))) (nilA)))))))
  (retS (cc (.bl false)))
  (nilS))
  (seqS (forS (items (lstE (consA (bin dSub (bin dIdx (vi 2) (cc (.int 4))) (cc (.int 9))) (consA (bin dIdx (vi 2) (cc (.int 7))) (consA (bin dSub (cc (.int 0)) (bin dIdx (vi 2) (cc (.int 7)))) (consA (bin dMul (cc (.int 3)) (bin dIdx (vi 2) (cc (.int 7)))) (nilA))))))) (gN 11)
  (ifS (notB (tb (callU (ar 3 d__law_is_scene) [] (consA (callU (ar 2 d_turned) [] (consA (vi 8) (consA (vi 11) (nilA)))) (consA (vi 6) (consA (compE (items (vi 4)) [9] (gN 9) (yesT) (bin dMod (callE dToInt (consA (bin dAdd (vi 9) (vi 11)) (nilA))) (cc (.int 3)))) (nilA)))))))
  (retS (cc (.bl false)))
  (nilS)))
  (seqS (setS 12 (strmE dJoin (cc (.str "")) (compE (items (vi 4)) [9] (gN 9) (yesT) (bin dIdx (cc (.str ".*o")) (vi 9)))))
  (seqS (setS 13 (bin dIdx (lstE (consA (cc (.str ".")) (consA (cc (.str "*")) (consA (cc (.str "o")) (consA (cc (.str "O")) (consA (cc (.str " ")) (consA (cc (.str "0")) (consA (cc (.str "x")) (consA (cc (.str "\n")) (nilA)))))))))) (bin dIdx (vi 2) (cc (.int 5)))))
  (seqS (ifS (tb (bin dNe (callU (ar 1 d_picture_text) [] (consA (vi 8) (nilA))) (vi 12)))
  (retS (cc (.bl false)))
  (nilS))
  (seqS (forS (items (callU (ar 4 d__law_texts) [] (consA (vi 12) (consA (vi 13) (consA (bin dIdx (vi 2) (cc (.int 8))) (consA (bin dIdx (vi 2) (cc (.int 1))) (nilA))))))) (gN 14)
  (ifS (notB (tb (callU (ar 3 d__law_read) [] (consA (vi 6) (consA (vi 3) (consA (vi 14) (nilA)))))))
  (retS (cc (.bl false)))
  (nilS)))
  (seqS (ifS (orB (tb (bin dNotBl (op2R (eqT 39 d_Scene___eq__) (vi 8) (makeU 39 (arI 2 d_Scene___init__) [] (consA (vi 6) (consA (callE dTuple (consA (vi 4) (nilA))) (nilA))))) (cc (.bl true)))) (tb (bin dNotBl (op2R (eqT 39 d_Scene___eq__) (vi 8) (vi 6)) (cc (.bl false)))))
  (retS (cc (.bl false)))
  (nilS))
  (seqS (setS 16 (makeU 39 (arI 2 d_Scene___init__) [] (consA (vi 6) (consA (compE (callI rng1 (consA (vi 3) (nilA))) [15] (gN 15) (yesT) (bin dMod (callE dToInt (consA (bin dAdd (bin dIdx (vi 4) (vi 15)) (callE dToInt (consA (bin dEq (vi 15) (bin dIdx (vi 2) (cc (.int 3)))) (nilA)))) (nilA))) (cc (.int 3)))) (nilA)))))
  (seqS (ifS (orB (notB (tb (callU (ar 2 d__law_told) [] (consA (op2R (eqT 39 d_Scene___eq__) (vi 8) (vi 16)) (consA (bin dGe (bin dIdx (vi 2) (cc (.int 3))) (vi 3)) (nilA)))))) (notB (tb (callU (ar 2 d__law_told) [] (consA (op2R (eqT 39 d_Scene___eq__) (vi 16) (vi 8)) (consA (bin dGe (bin dIdx (vi 2) (cc (.int 3))) (vi 3)) (nilA)))))))
  (retS (cc (.bl false)))
  (nilS))
  (seqS (ifS (notB (tb (callU (ar 2 d__law_told) [] (consA (op2R (eqT 39 d_Scene___eq__) (vi 8) (makeU 39 (arI 2 d_Scene___init__) [] (consA (makeU 46 (arI 2 d_Web___init__) [.tup []] (consA (vi 3) (nilA))) (consA (vi 4) (nilA))))) (consA (bin dEq (callE dLen (consA (vi 5) (nilA))) (cc (.int 0))) (nilA))))))
  (retS (cc (.bl false)))
  (nilS))
  (seqS (ifS (notB (tb (callU (ar 2 d__law_told) [] (consA (op2R (eqT 39 d_Scene___eq__) (makeU 39 (arI 2 d_Scene___init__) [] (consA (makeU 46 (arI 2 d_Web___init__) [] (consA (vi 3) (consA (slE (vi 5) (partI (cc (.int 1))) (partN)) (nilA)))) (consA (vi 4) (nilA)))) (vi 8)) (consA (bin dEq (callE dLen (consA (vi 5) (nilA))) (cc (.int 0))) (nilA))))))
  (retS (cc (.bl false)))
  (nilS))
  (retS (andE (bin dIsBl (op2R (eqT 39 d_Scene___eq__) (vi 8) (cc (.int 0))) (cc (.bl false))) (andE (bin dIsBl (op2R (eqT 39 d_Scene___eq__) (vi 8) (callE dTuple (consA (vi 4) (nilA)))) (cc (.bl false))) (callU (ar 3 d__law_is_scene) [] (consA (vi 8) (consA (vi 6) (consA (vi 4) (nilA)))))))))))))))))))))))))))))))))))
end FR
end
section
set_option Elab.async false
set_option linter.all false
set_option maxRecDepth 100000
namespace FR
open PySem L2 DI
/-- lines of a web of n places: each a < b < n, in rising order -/
def ltP (p q : Int × Int) : Prop := p.1 < q.1 ∨ (p.1 = q.1 ∧ p.2 < q.2)
structure Lines (n : Int) (ls : List (Int × Int)) : Prop where
  ok : ∀ p ∈ ls, 0 ≤ p.1 ∧ p.1 < p.2 ∧ p.2 < n
  up : ls.Pairwise ltP
/-- the neighbours, as they come along the lines -/
def nb1 (rows : List (List Int)) (p : Int × Int) : List (List Int) := apR (apR rows p.1 p.2) p.2 p.1
def nbr (n : Int) (ls : List (Int × Int)) : List (List Int) := ls.foldl nb1 (List.replicate n.toNat [])
def arnd (n : Int) (ls : List (Int × Int)) : List (List Int) := (nbr n ls).map srtI
theorem nbr_snoc {n : Int} {ls : List (Int × Int)} {p : Int × Int} : nbr n (ls ++ [p]) = nb1 (nbr n ls) p := by unfold nbr; rw [List.foldl_append]; rfl
theorem nb1_len {rows : List (List Int)} {p : Int × Int} : (nb1 rows p).length = rows.length := by unfold nb1; rw [apR_len, apR_len]
theorem nbr_len {n : Int} {ls : List (Int × Int)} : (nbr n ls).length = n.toNat := by
  unfold nbr
  have : ∀ (ls : List (Int × Int)) (rows : List (List Int)), (ls.foldl nb1 rows).length = rows.length := by
    intro ls
    induction ls with
    | nil => intro rows; rfl
    | cons p ls ih => intro rows; rw [List.foldl_cons, ih, nb1_len]
  rw [this, List.length_replicate]
theorem apR_bound {rows : List (List Int)} {j y : Int} {b : Nat} (h : ∀ r ∈ rows, r.length ≤ b) : ∀ r ∈ apR rows j y, r.length ≤ b + 1 := fun r hr => by
  unfold apR at hr
  rcases List.mem_or_eq_of_mem_set hr with m | e
  · have := h r m; omega
  · rw [e, List.length_append, List.length_singleton, List.getD_eq_getElem?_getD]
    cases q : rows[j.toNat]? with
    | none => simp
    | some x =>
      have := h x (List.mem_of_getElem? q)
      simp
      omega
theorem nbr_bound {n : Int} (ls : List (Int × Int)) : ∀ r ∈ nbr n ls, r.length ≤ 2 * ls.length := by
  have gen : ∀ (ls : List (Int × Int)) (rows : List (List Int)) (b : Nat), (∀ r ∈ rows, r.length ≤ b) → ∀ r ∈ ls.foldl nb1 rows, r.length ≤ b + 2 * ls.length := by
    intro ls
    induction ls with
    | nil => intro rows b h r hr; exact h r hr
    | cons p ls ih =>
      intro rows b h r hr
      have := ih (nb1 rows p) (b + 2) (fun r hr => by unfold nb1 at hr; exact apR_bound (apR_bound h) r hr) r hr
      simp only [List.length_cons]
      omega
  intro r hr
  have := gen ls _ 0 (fun r hr => by rw [List.eq_of_mem_replicate hr]; exact Nat.le_refl 0) r hr
  omega
def rowsT (rows : List (List Int)) : D := .tup (rows.map fun r => .tup (r.map .int))
theorem compTL_rep {n : Nat} {st : LS} : compTL (gN 2) yesT (lstF nilA) st (rangeD 0 n) = .ok (List.replicate n (tE D.int [])) := by
  generalize hC : compTL _ _ _ _ _ = o
  have := compT hC (fun _ => tE D.int []) fun x _ => ⟨_, rfl, rfl, by rw [tE_nil.symm]; simp -implicitDefEqProofs (disch := first | omega | (simp -implicitDefEqProofs; done) | (simp -implicitDefEqProofs; omega)) [-List.map_map, BT.sub, ev_denI, ev_stI, ev_slfS, ev_slfE, ev_st0n, ev_mod, ev_div, ev_mul, ev_pow, ev_line, ev_rng1, ev_rng2, ev_ar, ev_arI, rangeD_length]⟩
  rw [this]
  congr 1
  rw [List.map_const', List.length_range]
theorem tN_rep {n : Nat} : T.lst (List.replicate n (tE D.int [])) = tN (List.replicate n []) := by unfold tN; rw [List.map_replicate]
theorem rows_ok (n : Int) (ls : List (Int × Int)) (hn : 0 ≤ n) (hn2 : n ≤ 1000) (hl : Lines n ls) (hlen : ls.length ≤ 10000) : d_neighbour_rows [.int n, .tup (ls.map dP)] = .ok (rowsT (arnd n ls)) := by
  unfold d_neighbour_rows
  have h1 : n.toNat ≤ 16777216 := by omega
  simp -implicitDefEqProofs (disch := first | omega | (simp -implicitDefEqProofs; done) | (simp -implicitDefEqProofs; omega)) [-List.map_map, BT.sub, ev_denI, ev_stI, ev_slfS, ev_slfE, ev_st0n, ev_mod, ev_div, ev_mul, ev_pow, ev_line, ev_rng1, ev_rng2, ev_ar, ev_arI, rangeD_length, rangeD_length, h1, compTL_rep, tN_rep]
  generalize hL : forL _ _ _ _ = o
  obtain ⟨s', rfl, j, j2, rfl⟩ := loop hL (fun pr s => ∃ j j2, s = [some (.im (.int n)), some (.im (.tup (ls.map dP))), none, some (tN (nbr n pr)), j, j2, none]) ⟨_, _, rfl⟩ (by
    rintro pr p po s q ⟨j, j2, rfl⟩
    obtain ⟨a1, a2, a3⟩ := hl.ok p (by rw [q]; simp)
    have hb := nbr_bound (n := n) pr
    have hlq : pr.length ≤ ls.length := by rw [q]; simp
    simp -implicitDefEqProofs (disch := first | omega | (simp -implicitDefEqProofs; done) | (simp -implicitDefEqProofs; omega)) [-List.map_map, BT.sub, ev_denI, ev_stI, ev_slfS, ev_slfE, ev_st0n, ev_mod, ev_div, ev_mul, ev_pow, ev_line, ev_rng1, ev_rng2, ev_ar, ev_arI, rangeD_length, dP]
    rw [ev_appP rfl (j := p.1) (y := p.2) (by simp -implicitDefEqProofs (disch := first | omega | (simp -implicitDefEqProofs; done) | (simp -implicitDefEqProofs; omega)) [-List.map_map, BT.sub, ev_denI, ev_stI, ev_slfS, ev_slfE, ev_st0n, ev_mod, ev_div, ev_mul, ev_pow, ev_line, ev_rng1, ev_rng2, ev_ar, ev_arI, rangeD_length]) (by simp -implicitDefEqProofs (disch := first | omega | (simp -implicitDefEqProofs; done) | (simp -implicitDefEqProofs; omega)) [-List.map_map, BT.sub, ev_denI, ev_stI, ev_slfS, ev_slfE, ev_st0n, ev_mod, ev_div, ev_mul, ev_pow, ev_line, ev_rng1, ev_rng2, ev_ar, ev_arI, rangeD_length]) a1 (by rw [nbr_len]; omega) (fun r hr => by have := hb r hr; omega)]
    simp -implicitDefEqProofs (disch := first | omega | (simp -implicitDefEqProofs; done) | (simp -implicitDefEqProofs; omega)) [-List.map_map, BT.sub, ev_denI, ev_stI, ev_slfS, ev_slfE, ev_st0n, ev_mod, ev_div, ev_mul, ev_pow, ev_line, ev_rng1, ev_rng2, ev_ar, ev_arI, rangeD_length]
    rw [ev_appP rfl (j := p.2) (y := p.1) (by simp -implicitDefEqProofs (disch := first | omega | (simp -implicitDefEqProofs; done) | (simp -implicitDefEqProofs; omega)) [-List.map_map, BT.sub, ev_denI, ev_stI, ev_slfS, ev_slfE, ev_st0n, ev_mod, ev_div, ev_mul, ev_pow, ev_line, ev_rng1, ev_rng2, ev_ar, ev_arI, rangeD_length]) (by simp -implicitDefEqProofs (disch := first | omega | (simp -implicitDefEqProofs; done) | (simp -implicitDefEqProofs; omega)) [-List.map_map, BT.sub, ev_denI, ev_stI, ev_slfS, ev_slfE, ev_st0n, ev_mod, ev_div, ev_mul, ev_pow, ev_line, ev_rng1, ev_rng2, ev_ar, ev_arI, rangeD_length]) (by omega) (by rw [apR_len, nbr_len]; omega) (fun r hr => by have := apR_bound hb r hr; omega)]
    simp -implicitDefEqProofs (disch := first | omega | (simp -implicitDefEqProofs; done) | (simp -implicitDefEqProofs; omega)) [-List.map_map, BT.sub, ev_denI, ev_stI, ev_slfS, ev_slfE, ev_st0n, ev_mod, ev_div, ev_mul, ev_pow, ev_line, ev_rng1, ev_rng2, ev_ar, ev_arI, rangeD_length]
    rw [nbr_snoc]
    rfl)
  simp -implicitDefEqProofs (disch := first | omega | (simp -implicitDefEqProofs; done) | (simp -implicitDefEqProofs; omega)) [-List.map_map, BT.sub, ev_denI, ev_stI, ev_slfS, ev_slfE, ev_st0n, ev_mod, ev_div, ev_mul, ev_pow, ev_line, ev_rng1, ev_rng2, ev_ar, ev_arI, rangeD_length, nbr_len, h1]
  generalize hC : compL _ _ _ _ _ = oc
  have q := comp hC (fun r : List Int => D.tup (r.map .int)) srtI fun r _ => ⟨_, rfl, rfl, by simp -implicitDefEqProofs (disch := first | omega | (simp -implicitDefEqProofs; done) | (simp -implicitDefEqProofs; omega)) [-List.map_map, BT.sub, ev_denI, ev_stI, ev_slfS, ev_slfE, ev_st0n, ev_mod, ev_div, ev_mul, ev_pow, ev_line, ev_rng1, ev_rng2, ev_ar, ev_arI, rangeD_length, ev_sort]⟩
  rw [q]
  rfl
/-! frozen -/
theorem frozen_int (k : Nat) (i : Int) : d_frozen (k + 1) [.int i] = .ok (.int i) := by
  unfold d_frozen
  simp -implicitDefEqProofs (disch := first | omega | (simp -implicitDefEqProofs; done) | (simp -implicitDefEqProofs; omega)) [-List.map_map, BT.sub, ev_denI, ev_stI, ev_slfS, ev_slfE, ev_st0n, ev_mod, ev_div, ev_mul, ev_pow, ev_line, ev_rng1, ev_rng2, ev_ar, ev_arI, rangeD_length, ev_if]
theorem frozen_lst {α : Type} {enc enc2 : α → D} (k : Nat) (xs : List α) (h : ∀ x ∈ xs, d_frozen k [enc x] = .ok (enc2 x)) (hl : xs.length ≤ 10000) : d_frozen (k + 1) [.lst (xs.map enc)] = .ok (.tup (xs.map enc2)) := by
  unfold d_frozen
  have h1 : xs.length ≤ 16777216 := by omega
  simp -implicitDefEqProofs (disch := first | omega | (simp -implicitDefEqProofs; done) | (simp -implicitDefEqProofs; omega)) [-List.map_map, BT.sub, ev_denI, ev_stI, ev_slfS, ev_slfE, ev_st0n, ev_mod, ev_div, ev_mul, ev_pow, ev_line, ev_rng1, ev_rng2, ev_ar, ev_arI, rangeD_length, ev_if, h1]
  generalize hC : compL _ _ _ _ _ = oc
  have q := comp hC enc2 id fun x m => ⟨_, rfl, rfl, by simp -implicitDefEqProofs (disch := first | omega | (simp -implicitDefEqProofs; done) | (simp -implicitDefEqProofs; omega)) [-List.map_map, BT.sub, ev_denI, ev_stI, ev_slfS, ev_slfE, ev_st0n, ev_mod, ev_div, ev_mul, ev_pow, ev_line, ev_rng1, ev_rng2, ev_ar, ev_arI, rangeD_length, h x m]⟩
  rw [q, List.map_id]
  rfl
theorem frozen_tup {α : Type} {enc enc2 : α → D} (k : Nat) (xs : List α) (h : ∀ x ∈ xs, d_frozen k [enc x] = .ok (enc2 x)) (hl : xs.length ≤ 10000) : d_frozen (k + 1) [.tup (xs.map enc)] = .ok (.tup (xs.map enc2)) := by
  unfold d_frozen
  have h1 : xs.length ≤ 16777216 := by omega
  simp -implicitDefEqProofs (disch := first | omega | (simp -implicitDefEqProofs; done) | (simp -implicitDefEqProofs; omega)) [-List.map_map, BT.sub, ev_denI, ev_stI, ev_slfS, ev_slfE, ev_st0n, ev_mod, ev_div, ev_mul, ev_pow, ev_line, ev_rng1, ev_rng2, ev_ar, ev_arI, rangeD_length, ev_if, h1]
  generalize hC : compL _ _ _ _ _ = oc
  have q := comp hC enc2 id fun x m => ⟨_, rfl, rfl, by simp -implicitDefEqProofs (disch := first | omega | (simp -implicitDefEqProofs; done) | (simp -implicitDefEqProofs; omega)) [-List.map_map, BT.sub, ev_denI, ev_stI, ev_slfS, ev_slfE, ev_st0n, ev_mod, ev_div, ev_mul, ev_pow, ev_line, ev_rng1, ev_rng2, ev_ar, ev_arI, rangeD_length, h x m]⟩
  rw [q, List.map_id]
  rfl
theorem frozen_dP (k : Nat) (p : Int × Int) : d_frozen (k + 2) [dP p] = .ok (dP p) :=
  frozen_tup (enc := D.int) (enc2 := D.int) (k + 1) [p.1, p.2] (fun x _ => frozen_int k x) (by simp)
theorem frozen_ints (k : Nat) (xs : List Int) (hl : xs.length ≤ 10000) : d_frozen (k + 2) [.lst (xs.map .int)] = .ok (.tup (xs.map .int)) := frozen_lst (k + 1) xs (fun x _ => frozen_int k x) hl
theorem frozen_intsT (k : Nat) (xs : List Int) (hl : xs.length ≤ 10000) : d_frozen (k + 2) [.tup (xs.map .int)] = .ok (.tup (xs.map .int)) := frozen_tup (k + 1) xs (fun x _ => frozen_int k x) hl
theorem frozen_dPs (k : Nat) (ls : List (Int × Int)) (hl : ls.length ≤ 10000) : d_frozen (k + 3) [.lst (ls.map dP)] = .ok (.tup (ls.map dP)) := frozen_lst (k + 2) ls (fun p _ => frozen_dP k p) hl
/-! checked_lines -/
def kP (p : Int × Int) : List Int := [p.1, p.2]
theorem kP_inj {p q : Int × Int} (h : kP p = kP q) : p = q := by
  unfold kP at h
  injection h with h1 h2
  injection h2 with h2
  exact Prod.ext h1 h2
theorem lexle_lt {p q : Int × Int} (h : ltP p q) : lexle (kP p) (kP q) = true := by
  unfold kP lexle lexle lexle
  rcases h with h | ⟨h, g⟩
  · simp [h]
  · simp [h, g]
theorem Lines.keys {n : Int} {ls : List (Int × Int)} (h : Lines n ls) : (ls.map kP).Nodup ∧ (ls.map kP).Pairwise (fun a b => lexle a b = true) ∧ okT (ls.map kP) = true := by
  refine ⟨?_, ?_, ?_⟩
  · unfold List.Nodup
    rw [List.pairwise_map]
    refine h.up.imp fun {p q} hl e => ?_
    have e := kP_inj e
    subst e
    unfold ltP at hl
    omega
  · rw [List.pairwise_map]
    exact h.up.imp fun {p q} hl => lexle_lt hl
  · cases ls with
    | nil => rfl
    | cons p ls =>
      unfold okT
      rw [List.map_cons]
      simp only [Bool.and_eq_true, decide_eq_true_eq, List.all_eq_true]
      refine ⟨by simp [kP], fun k hk => ?_⟩
      rw [← List.map_cons (f := kP)] at hk
      obtain ⟨q, m, rfl⟩ := List.mem_map.mp hk
      have := h.ok q m
      exact ⟨rfl, fun x hx => by
        unfold kP at hx
        rcases List.mem_cons.mp hx with e | hx
        · rw [e]; omega
        · rw [List.mem_singleton.mp hx]; omega⟩
theorem checked_ok (n : Int) (ls : List (Int × Int)) (hl : Lines n ls) (hlen : ls.length < 64) : d_checked_lines [.int n, .tup (ls.map dP)] = .ok (.tup (ls.map dP)) := by
  unfold d_checked_lines
  simp -implicitDefEqProofs (disch := first | omega | (simp -implicitDefEqProofs; done) | (simp -implicitDefEqProofs; omega)) [-List.map_map, BT.sub, ev_denI, ev_stI, ev_slfS, ev_slfE, ev_st0n, ev_mod, ev_div, ev_mul, ev_pow, ev_line, ev_rng1, ev_rng2, ev_ar, ev_arI, rangeD_length]
  generalize hL : forL _ _ _ _ = o
  obtain ⟨s', rfl, j2, j3, j4, rfl⟩ := loopE hL (fun pr s => ∃ j2 j3 j4, s = [some (.im (.int n)), some (.im (.tup (ls.map dP))), j2, j3, j4]) ⟨_, _, _, rfl⟩ (by
    rintro pr p po s q ⟨j2, j3, j4, rfl⟩
    obtain ⟨a1, a2, a3⟩ := hl.ok p (by rw [q]; simp)
    have b1 : ¬ p.1 = p.2 := by omega
    have b2 : p.1 < n := by omega
    have b3 : 0 ≤ p.2 := by omega
    simp -implicitDefEqProofs (disch := first | omega | (simp -implicitDefEqProofs; done) | (simp -implicitDefEqProofs; omega)) [-List.map_map, BT.sub, ev_denI, ev_stI, ev_slfS, ev_slfE, ev_st0n, ev_mod, ev_div, ev_mul, ev_pow, ev_line, ev_rng1, ev_rng2, ev_ar, ev_arI, rangeD_length, dP, ev_if, a1, b1, b2, b3, a3])
  obtain ⟨k1, k2, k3⟩ := hl.keys
  have h1 : ls.length ≤ 16777216 := by omega
  simp -implicitDefEqProofs (disch := first | omega | (simp -implicitDefEqProofs; done) | (simp -implicitDefEqProofs; omega)) [-List.map_map, BT.sub, ev_denI, ev_stI, ev_slfS, ev_slfE, ev_st0n, ev_mod, ev_div, ev_mul, ev_pow, ev_line, ev_rng1, ev_rng2, ev_ar, ev_arI, rangeD_length]
  generalize hS : setE _ _ _ _ _ _ = oS
  rw [ev_setE (ks := ls.map kP) (by
    simp -implicitDefEqProofs (disch := first | omega | (simp -implicitDefEqProofs; done) | (simp -implicitDefEqProofs; omega)) [-List.map_map, BT.sub, ev_denI, ev_stI, ev_slfS, ev_slfE, ev_st0n, ev_mod, ev_div, ev_mul, ev_pow, ev_line, ev_rng1, ev_rng2, ev_ar, ev_arI, rangeD_length, h1]
    generalize hC : compL _ _ _ _ _ = oc
    rw [comp hC (fun k : List Int => D.tup (k.map .int)) kP fun p m => ⟨_, rfl, rfl, by
      obtain ⟨a1, a2, a3⟩ := hl.ok p m
      have m1 : min p.1 p.2 = p.1 := by omega
      have m2 : max p.1 p.2 = p.2 := by omega
      simp -implicitDefEqProofs (disch := first | omega | (simp -implicitDefEqProofs; done) | (simp -implicitDefEqProofs; omega)) [-List.map_map, BT.sub, ev_denI, ev_stI, ev_slfS, ev_slfE, ev_st0n, ev_mod, ev_div, ev_mul, ev_pow, ev_line, ev_rng1, ev_rng2, ev_ar, ev_arI, rangeD_length, m1, m2]
      rfl⟩]) (by rw [List.length_map]; exact hlen), onceK_nodup k1] at hS
  subst hS
  simp -implicitDefEqProofs (disch := first | omega | (simp -implicitDefEqProofs; done) | (simp -implicitDefEqProofs; omega)) [-List.map_map, BT.sub, ev_denI, ev_stI, ev_slfS, ev_slfE, ev_st0n, ev_mod, ev_div, ev_mul, ev_pow, ev_line, ev_rng1, ev_rng2, ev_ar, ev_arI, rangeD_length, ev_sortU k3, srtT_up' k2]
  rw [List.map_map]
  rfl
end FR
end
section
set_option Elab.async false
set_option linter.all false
set_option maxRecDepth 100000
namespace FR
open PySem L2 DI
def Pic (xs : List Int) : Prop := ∀ x ∈ xs, 0 ≤ x ∧ x ≤ 2
def webF (n : Int) (ls : List (Int × Int)) : List D := [.int n, .tup (ls.map dP), rowsT (arnd n ls)]
def webD (n : Int) (ls : List (Int × Int)) : D := .ins 46 (webF n ls)
theorem web_init (n : Int) (ls : List (Int × Int)) (hn : 0 ≤ n) (hn2 : n ≤ 1000) (hl : Lines n ls) (hlen : ls.length < 64) : d_Web___init__ [.int n, .lst (ls.map dP)] = .ok (webF n ls) := by
  unfold d_Web___init__
  have e1 := frozen_dPs 3 ls (by omega)
  have e2 := checked_ok n ls hl hlen
  have e3 := rows_ok n ls hn hn2 hl (by omega)
  simp -implicitDefEqProofs (disch := first | omega | (simp -implicitDefEqProofs; done) | (simp -implicitDefEqProofs; omega)) [-List.map_map, BT.sub, ev_denI, ev_stI, ev_slfS, ev_slfE, ev_st0n, ev_mod, ev_div, ev_mul, ev_pow, ev_line, ev_rng1, ev_rng2, ev_ar, ev_arI, rangeD_length, e1, e2, e3]
  rfl
@[simp] theorem fld_size {a : D} {ds : List D} : dFld fl_size (.ins 46 (a :: ds)) = some a := rfl
@[simp] theorem fld_lines {a b : D} {ds : List D} : dFld fl_lines (.ins 46 (a :: b :: ds)) = some b := rfl
@[simp] theorem fld_around {a b c : D} {ds : List D} : dFld fl_around (.ins 46 (a :: b :: c :: ds)) = some c := rfl
@[simp] theorem sub_web : subC 46 46 = true := by decide
end FR
end
section
set_option Elab.async false
set_option linter.all false
set_option maxRecDepth 100000
namespace FR
open PySem L2 DI
def scnD (w : D) (xs : List Int) : D := .ins 39 [w, .tup (xs.map .int)]
@[simp] theorem fld_web {a : D} {ds : List D} : dFld fl_web (.ins 39 (a :: ds)) = some a := rfl
@[simp] theorem fld_picture {a b : D} {ds : List D} : dFld fl_picture (.ins 39 (a :: b :: ds)) = some b := rfl
@[simp] theorem sub_scene : subC 39 39 = true := by decide
theorem scene_body (n : Int) (ls : List (Int × Int)) (xs : List Int) (q : D) (hq : d_frozen 6 [q] = .ok (.tup (xs.map .int))) (hn : 0 ≤ n) (hn2 : n ≤ 1000) (hx : xs.length = n.toNat) (hp : Pic xs) : d_Scene___init__ [webD n ls, q] = .ok [webD n ls, .tup (xs.map .int)] := by
  unfold d_Scene___init__ webD webF
  simp -implicitDefEqProofs (disch := first | omega | (simp -implicitDefEqProofs; done) | (simp -implicitDefEqProofs; omega)) [-List.map_map, BT.sub, ev_denI, ev_stI, ev_slfS, ev_slfE, ev_st0n, ev_mod, ev_div, ev_mul, ev_pow, ev_line, ev_rng1, ev_rng2, ev_ar, ev_arI, rangeD_length, hq]
  have e : max n xs.length = n := by omega
  simp -implicitDefEqProofs (disch := first | omega | (simp -implicitDefEqProofs; done) | (simp -implicitDefEqProofs; omega)) [-List.map_map, BT.sub, ev_denI, ev_stI, ev_slfS, ev_slfE, ev_st0n, ev_mod, ev_div, ev_mul, ev_pow, ev_line, ev_rng1, ev_rng2, ev_ar, ev_arI, rangeD_length, e]
  generalize hL : forL _ _ _ _ = o
  obtain ⟨s', rfl, j, rfl⟩ := loop hL (fun pr s => ∃ j, s = [some (.ins 39 []), some (.im (.ins 46 [.int n, .tup (ls.map dP), rowsT (arnd n ls)])), some (.im q), some (.im (.tup (xs.map .int))), j]) ⟨_, rfl⟩ (by
    rintro pr i po s hs ⟨j, rfl⟩
    obtain ⟨f1, f2, f3⟩ := range_split hs
    have c1 : ¬ n ≤ (i : Int) := by omega
    have c2 : ¬ (xs.length : Int) ≤ (i : Int) := by omega
    have c3 := hp (nI xs i) (nI_mem (by omega) (by omega))
    have c4 : nI xs (i : Int) ∈ ([0, 1, 2] : List Int) := by
      have : nI xs (i : Int) = 0 ∨ nI xs (i : Int) = 1 ∨ nI xs (i : Int) = 2 := by omega
      simpa using this
    have c5 : dNotIn (.int (nI xs i)) (.tup [.int 0, .int 1, .int 2]) = some (.bl false) := by
      have := ev_notInT (x := nI xs i) (xs := [0, 1, 2])
      rw [decide_eq_true c4] at this
      exact this
    simp -implicitDefEqProofs (disch := first | omega | (simp -implicitDefEqProofs; done) | (simp -implicitDefEqProofs; omega)) [-List.map_map, BT.sub, ev_denI, ev_stI, ev_slfS, ev_slfE, ev_st0n, ev_mod, ev_div, ev_mul, ev_pow, ev_line, ev_rng1, ev_rng2, ev_ar, ev_arI, rangeD_length, ev_if, c1, c2, ev_idxIT, c5])
  simp -implicitDefEqProofs (disch := first | omega | (simp -implicitDefEqProofs; done) | (simp -implicitDefEqProofs; omega)) [-List.map_map, BT.sub, ev_denI, ev_stI, ev_slfS, ev_slfE, ev_st0n, ev_mod, ev_div, ev_mul, ev_pow, ev_line, ev_rng1, ev_rng2, ev_ar, ev_arI, rangeD_length]
theorem scene_init (n : Int) (ls : List (Int × Int)) (xs : List Int) (hn : 0 ≤ n) (hn2 : n ≤ 1000) (hx : xs.length = n.toNat) (hp : Pic xs) : d_Scene___init__ [webD n ls, .tup (xs.map .int)] = .ok [webD n ls, .tup (xs.map .int)] :=
  scene_body n ls xs _ (frozen_intsT 4 xs (by omega)) hn hn2 hx hp
theorem scene_initL (n : Int) (ls : List (Int × Int)) (xs : List Int) (hn : 0 ≤ n) (hn2 : n ≤ 1000) (hx : xs.length = n.toNat) (hp : Pic xs) : d_Scene___init__ [webD n ls, .lst (xs.map .int)] = .ok [webD n ls, .tup (xs.map .int)] :=
  scene_body n ls xs _ (frozen_ints 4 xs (by omega)) hn hn2 hx hp
end FR
end
section
set_option Elab.async false
set_option linter.all false
set_option maxRecDepth 100000
namespace FR
open PySem L2 DI
theorem whole_ok (i : Int) : d__law_whole [.int i] = .ok (.bl true) := by
  unfold d__law_whole
  simp -implicitDefEqProofs (disch := first | omega | (simp -implicitDefEqProofs; done) | (simp -implicitDefEqProofs; omega)) [-List.map_map, BT.sub, ev_denI, ev_stI, ev_slfS, ev_slfE, ev_st0n, ev_mod, ev_div, ev_mul, ev_pow, ev_line, ev_rng1, ev_rng2, ev_ar, ev_arI, rangeD_length]
/-! one beat -/
end FR
end
section
set_option Elab.async false
set_option linter.all false
set_option maxRecDepth 100000
namespace FR
open PySem L2 DI
theorem row_ok (xs : List Int) (m : Int) (hl : xs.length ≤ 10000) : d__law_row [.tup (xs.map .int), .int m] = .ok (.bl (decide ((xs.length : Int) = m))) := by
  unfold d__law_row
  have h1 : xs.length ≤ 16777216 := by omega
  simp -implicitDefEqProofs (disch := first | omega | (simp -implicitDefEqProofs; done) | (simp -implicitDefEqProofs; omega)) [-List.map_map, BT.sub, ev_denI, ev_stI, ev_slfS, ev_slfE, ev_st0n, ev_mod, ev_div, ev_mul, ev_pow, ev_line, ev_rng1, ev_rng2, ev_ar, ev_arI, rangeD_length, h1]
  generalize hC : compL _ _ _ _ _ = oc
  have q := compP hC (fun _ => false) D.int id fun x m => ⟨_, rfl, by simp -implicitDefEqProofs (disch := first | omega | (simp -implicitDefEqProofs; done) | (simp -implicitDefEqProofs; omega)) [-List.map_map, BT.sub, ev_denI, ev_stI, ev_slfS, ev_slfE, ev_st0n, ev_mod, ev_div, ev_mul, ev_pow, ev_line, ev_rng1, ev_rng2, ev_ar, ev_arI, rangeD_length, whole_ok], fun z => nomatch z⟩
  have e : xs.filter (fun _ => false) = [] := by simp
  rw [e] at q
  subst q
  simp -implicitDefEqProofs (disch := first | omega | (simp -implicitDefEqProofs; done) | (simp -implicitDefEqProofs; omega)) [-List.map_map, BT.sub, ev_denI, ev_stI, ev_slfS, ev_slfE, ev_st0n, ev_mod, ev_div, ev_mul, ev_pow, ev_line, ev_rng1, ev_rng2, ev_ar, ev_arI, rangeD_length]
  by_cases c : (xs.length : Int) = m
  · simp [c]
  · simp [c]
end FR
end
section
set_option Elab.async false
set_option linter.all false
set_option maxRecDepth 100000
namespace FR
open PySem L2 DI
theorem mulb {a b A B : Int} (h1 : 0 ≤ a) (h2 : a ≤ A) (h3 : 0 ≤ b) (h4 : b ≤ B) : 0 ≤ a * b ∧ a * b ≤ A * B :=
  ⟨Int.mul_nonneg h1 h3, Int.mul_le_mul h2 h4 h3 (by omega)⟩
theorem cell_ok (ns : List Int) (k : Int) (hk : 0 ≤ k) (hk2 : k < 1000) : ∃ z, d__law_cell [.scr (ns.map D.int), .int k] = .ok (.int z) := by
  unfold d__law_cell
  simp -implicitDefEqProofs (disch := first | omega | (simp -implicitDefEqProofs; done) | (simp -implicitDefEqProofs; omega)) [-List.map_map, BT.sub, ev_denI, ev_stI, ev_slfS, ev_slfE, ev_st0n, ev_mod, ev_div, ev_mul, ev_pow, ev_line, ev_rng1, ev_rng2, ev_ar, ev_arI, rangeD_length, ev_if, ev_seq_ite, ev_end_ite]
  by_cases h : k < ns.length
  · rw [if_pos h]
    simp -implicitDefEqProofs (disch := first | omega | (simp -implicitDefEqProofs; done) | (simp -implicitDefEqProofs; omega)) [-List.map_map, BT.sub, ev_denI, ev_stI, ev_slfS, ev_slfE, ev_st0n, ev_mod, ev_div, ev_mul, ev_pow, ev_line, ev_rng1, ev_rng2, ev_ar, ev_arI, rangeD_length, ev_idxIS]
  · rw [if_neg h]
    generalize hL : forL _ _ _ _ = o
    obtain ⟨s', rfl, j, z, rfl, h0, h1⟩ := loop hL (fun _ s => ∃ j z, s = [some (.im (.scr (ns.map D.int))), some (.im (.int k)), some (.im (.int z)), j] ∧ 0 ≤ z ∧ z < 1000003)
      ⟨none, 17, rfl, by decide, by decide⟩ (by
        rintro pr x po s q ⟨j, z, rfl, h0, h1⟩
        simp -implicitDefEqProofs (disch := first | omega | (simp -implicitDefEqProofs; done) | (simp -implicitDefEqProofs; omega)) [-List.map_map, BT.sub, ev_denI, ev_stI, ev_slfS, ev_slfE, ev_st0n, ev_mod, ev_div, ev_mul, ev_pow, ev_line, ev_rng1, ev_rng2, ev_ar, ev_arI, rangeD_length]
        exact ⟨_, _, ⟨rfl, rfl⟩, by omega, by omega⟩)
    have := mulb (a := z + 7) (b := k + 3) (A := 1000010) (B := 1003) (by omega) (by omega) (by omega) (by omega)
    simp -implicitDefEqProofs (disch := first | omega | (simp -implicitDefEqProofs; done) | (simp -implicitDefEqProofs; omega)) [-List.map_map, BT.sub, ev_denI, ev_stI, ev_slfS, ev_slfE, ev_st0n, ev_mod, ev_div, ev_mul, ev_pow, ev_line, ev_rng1, ev_rng2, ev_ar, ev_arI, rangeD_length]
/-- each digit lies below its size -/
def Dg (ss ds : List Int) : Prop := ds.length = ss.length ∧ ∀ i : Nat, i < ss.length → 0 ≤ ds.getD i 0 ∧ ds.getD i 0 < ss.getD i 0
theorem Dg.gi {ss ds : List Int} (h : Dg ss ds) {i : Int} (h0 : 0 ≤ i) (h1 : i < ss.length) : 0 ≤ nI ds i ∧ nI ds i < nI ss i := h.2 i.toNat (by omega)
theorem getD_app {xs : List Int} {y : Int} {i : Nat} : (xs ++ [y]).getD i 0 = if i < xs.length then xs.getD i 0 else if i = xs.length then y else 0 := by
  rw [List.getD_eq_getElem?_getD, List.getD_eq_getElem?_getD]
  split
  · rw [List.getElem?_append_left (by assumption)]
  · rw [List.getElem?_append_right (by omega)]
    split
    · rename_i h; rw [h]; simp
    · rw [List.getElem?_eq_none (by simp; omega)]; rfl
theorem Dg.snoc {pr : List Int} {x y : Int} {ds : List Int} (h : Dg pr ds) (h0 : 0 ≤ y) (h1 : y < x) : Dg (pr ++ [x]) (ds ++ [y]) := by
  refine ⟨by simp [h.1], fun i hi => ?_⟩
  rw [getD_app, getD_app]
  simp only [List.length_append, List.length_singleton] at hi
  rw [h.1]
  split
  · exact h.2 i (by assumption)
  · rw [if_pos (by omega), if_pos (by omega)]; exact ⟨h0, h1⟩
/-- digits of a cell -/
theorem digits_ok (z : Int) (ss : List Int) (hs : ∀ s ∈ ss, 0 < s ∧ s < 1000000000000000000000000000000000000000000000000) (hl : ss.length < 10000) : ∃ ds : List Int, d__law_digits [.int z, .lst (ss.map D.int)] = .ok (.lst (ds.map D.int)) ∧ Dg ss ds := by
  unfold d__law_digits
  simp -implicitDefEqProofs (disch := first | omega | (simp -implicitDefEqProofs; done) | (simp -implicitDefEqProofs; omega)) [-List.map_map, BT.sub, ev_denI, ev_stI, ev_slfS, ev_slfE, ev_st0n, ev_mod, ev_div, ev_mul, ev_pow, ev_line, ev_rng1, ev_rng2, ev_ar, ev_arI, rangeD_length, ev_if, ev_seq_ite, ev_end_ite]
  rw [tE_nil (enc := D.int)]
  have plen : ∀ {pr : List Int} {x : Int} {po ds : List Int}, ss = pr ++ x :: po → Dg pr ds → ds.length < 16777216 := fun {pr x po ds} q hd => by
    have := congrArg List.length q
    simp at this
    have := hd.1
    omega
  split
  · generalize hL : forL _ _ _ _ = o
    obtain ⟨s', rfl, ds, y, j, rfl, hd⟩ := loop hL (fun pr s => ∃ (ds : List Int) (y : Int) (j : Option T), s = [some (.im (.int z)), some (.im (.lst (ss.map D.int))), some (tE D.int ds), some (.im (.int y)), j, none, none, none] ∧ Dg pr ds)
      ⟨[], _, _, rfl, rfl, fun i h => absurd h (by simp)⟩ (by
        rintro pr x po s q ⟨ds, y, j, rfl, hd⟩
        have hx := hs x (by rw [q]; simp)
        have hlen := plen q hd
        simp -implicitDefEqProofs (disch := first | omega | (simp -implicitDefEqProofs; done) | (simp -implicitDefEqProofs; omega)) [-List.map_map, BT.sub, ev_denI, ev_stI, ev_slfS, ev_slfE, ev_st0n, ev_mod, ev_div, ev_mul, ev_pow, ev_line, ev_rng1, ev_rng2, ev_ar, ev_arI, rangeD_length, hlen]
        exact ⟨_, rfl, hd.snoc (Int.emod_nonneg _ (by omega)) (Int.emod_lt_of_pos _ (by omega))⟩)
    refine ⟨ds, ?_, hd⟩
    simp -implicitDefEqProofs (disch := first | omega | (simp -implicitDefEqProofs; done) | (simp -implicitDefEqProofs; omega)) [-List.map_map, BT.sub, ev_denI, ev_stI, ev_slfS, ev_slfE, ev_st0n, ev_mod, ev_div, ev_mul, ev_pow, ev_line, ev_rng1, ev_rng2, ev_ar, ev_arI, rangeD_length]
  · generalize hL : forL _ _ _ _ = o
    obtain ⟨s', rfl, ds, y, j, j2, rfl, hd, h0, h1⟩ := loop hL (fun pr s => ∃ (ds : List Int) (y : Int) (j j2 : Option T), s = [some (.im (.int z)), some (.im (.lst (ss.map D.int))), some (tE D.int ds), some (.im (.int z)), none, some (.im (.int y)), j, j2] ∧ Dg (ss.take pr.length) ds ∧ 0 ≤ y ∧ y < 2147483647)
      ⟨[], _, _, _, rfl, ⟨rfl, fun i h => absurd h (by simp)⟩, by omega, by omega⟩ (by
        rintro pr i po s q ⟨ds, y, j, j2, rfl, hd, h0, h1⟩
        obtain ⟨e1, e2, e3⟩ := range_split q
        have hx := hs (ss[i]) (List.getElem_mem _)
        have tk : ss.take (pr.length + 1) = ss.take pr.length ++ [ss[i]] := by
          subst e1
          rw [List.take_append_getElem]
        have hlen : ds.length < 16777216 := by
          have := hd.1
          rw [List.length_take] at this
          omega
        have b := mulb (a := (y * 48271 + 974711 * (i : Int) + 12345) % 2147483647) (A := 2147483647) (b := (y * 48271 + 974711 * (i : Int) + 12345) % 2147483647 / 65537 + 3) (B := 2147483647) (by omega) (by omega) (by omega) (by omega)
        have gi := nI_nat e2
        simp -implicitDefEqProofs (disch := first | omega | (simp -implicitDefEqProofs; done) | (simp -implicitDefEqProofs; omega)) [-List.map_map, BT.sub, ev_denI, ev_stI, ev_slfS, ev_slfE, ev_st0n, ev_mod, ev_div, ev_mul, ev_pow, ev_line, ev_rng1, ev_rng2, ev_ar, ev_arI, rangeD_length, hlen, ev_idxI, gi]
        exact ⟨_, _, ⟨rfl, rfl⟩, by rw [tk]; exact hd.snoc (Int.emod_nonneg _ (by omega)) (Int.emod_lt_of_pos _ (by omega)), by omega, by omega⟩)
    refine ⟨ds, ?_, ?_⟩
    · simp -implicitDefEqProofs (disch := first | omega | (simp -implicitDefEqProofs; done) | (simp -implicitDefEqProofs; omega)) [-List.map_map, BT.sub, ev_denI, ev_stI, ev_slfS, ev_slfE, ev_st0n, ev_mod, ev_div, ev_mul, ev_pow, ev_line, ev_rng1, ev_rng2, ev_ar, ev_arI, rangeD_length]
    · rw [List.length_range, List.take_length] at hd
      exact hd
end FR
end
section
set_option Elab.async false
set_option linter.all false
set_option maxRecDepth 100000
namespace FR
open PySem L2 DI
theorem plain_ps (ps : List (Int × Int)) : D.plain 2 (.lst (ps.map dP)) = true := by
  unfold D.plain
  rw [List.all_eq_true]
  intro d hd
  obtain ⟨p, _, rfl⟩ := List.mem_map.mp hd
  rfl
def inF (ps : List (Int × Int)) (p : Int × Int) : Bool := (dInB (dP p) (.lst (ps.map dP))).getD false
theorem ev_inF (ps : List (Int × Int)) (a b : Int) : dIn (.tup [.int a, .int b]) (.lst (ps.map dP)) = some (.bl (inF ps (a, b))) := by
  obtain ⟨r, hr⟩ := inP (n := 1) (m := 2) (d := dP (a, b)) (e := .lst (ps.map dP)) rfl (plain_ps ps) (by omega) (by omega) ⟨_, .inl rfl⟩
  unfold inF
  show (dInB (dP (a, b)) _).map D.bl = _
  rw [hr]
  rfl
theorem Lines.snoc {n : Int} {ls : List (Int × Int)} {a b : Int} (h : Lines n ls) (h0 : 0 ≤ a) (h1 : a < b) (h2 : b < n) (hl : ∀ p ∈ ls, ltP p (a, b)) : Lines n (ls ++ [(a, b)]) := by
  refine ⟨fun p hp => ?_, ?_⟩
  · rcases List.mem_append.mp hp with m | m
    · exact h.ok p m
    · rw [List.mem_singleton.mp m]; exact ⟨h0, h1, h2⟩
  · rw [List.pairwise_append]
    exact ⟨h.up, List.pairwise_singleton _ _, fun p hp q hq => by rw [List.mem_singleton.mp hq]; exact hl p hp⟩
theorem web_ok (row : List Int) (most : Int) (hl : row.length = 20) (h0 : 0 ≤ nI row 0 ∧ nI row 0 < 12) (h2 : ∀ k : Int, 1 ≤ k → k ≤ 6 → 0 ≤ nI row (2 * k) ∧ nI row (2 * k) < 6) (hm : 1 ≤ most) (hm2 : most < 100) :
    ∃ (n : Int) (ls : List (Int × Int)), d__law_web [.lst (row.map D.int), .int most] = .ok (.lst [.int n, .lst (ls.map dP)]) ∧ 1 ≤ n ∧ n ≤ 7 ∧ n ≤ most ∧ Lines n ls ∧ ls.length ≤ 49 := by
  unfold d__law_web
  have L0 : ∀ i : Nat, i < 12 → 1 ≤ ([5, 4, 6, 3, 5, 7, 4, 6, 2, 5, 1, 6] : List Int).getD i 0 ∧ ([5, 4, 6, 3, 5, 7, 4, 6, 2, 5, 1, 6] : List Int).getD i 0 ≤ 7 := by decide
  have e0 : ∀ i : Int, 0 ≤ i → i < 20 → dIdx (.lst (row.map D.int)) (.int i) = some (.int (nI row i)) := fun i a b => ev_idxI a (by rw [hl]; exact b)
  have e1 : dIdx (.lst [.int 5, .int 4, .int 6, .int 3, .int 5, .int 7, .int 4, .int 6, .int 2, .int 5, .int 1, .int 6]) (.int (nI row 0)) = some (.int (nI [5, 4, 6, 3, 5, 7, 4, 6, 2, 5, 1, 6] (nI row 0))) :=
    ev_idxI (xs := [5, 4, 6, 3, 5, 7, 4, 6, 2, 5, 1, 6]) h0.1 (by show _ < (12 : Int); omega)
  have l0 : 1 ≤ nI [5, 4, 6, 3, 5, 7, 4, 6, 2, 5, 1, 6] (nI row 0) ∧ nI [5, 4, 6, 3, 5, 7, 4, 6, 2, 5, 1, 6] (nI row 0) ≤ 7 := L0 (nI row 0).toNat (by omega)
  generalize nI [5, 4, 6, 3, 5, 7, 4, 6, 2, 5, 1, 6] (nI row 0) = v at e1 l0
  simp -implicitDefEqProofs (disch := first | omega | (simp -implicitDefEqProofs; done) | (simp -implicitDefEqProofs; omega)) [-List.map_map, BT.sub, ev_denI, ev_stI, ev_slfS, ev_slfE, ev_st0n, ev_mod, ev_div, ev_mul, ev_pow, ev_line, ev_rng1, ev_rng2, ev_ar, ev_arI, rangeD_length, e0, e1]
  generalize hn : min most v = n
  have n1 : 1 ≤ n := by omega
  have n7 : n ≤ 7 := by omega
  have nm : n ≤ most := by omega
  clear e1 l0 L0
  rw [tE_nil (enc := dP)]
  generalize hL : forL _ _ _ _ = o
  obtain ⟨s', rfl, ps, j4, j5, rfl, hp⟩ := loop hL (fun pr s => ∃ (ps : List (Int × Int)) (j4 j5 : Option T), s = [some (.im (.lst (row.map D.int))), some (.im (.int most)), some (.im (.int n)), some (tE dP ps), j4, j5, none, none, none] ∧ ps.length ≤ pr.length)
    ⟨[], _, _, rfl, Nat.zero_le _⟩ (by
      rintro pr i po s q ⟨ps, j4, j5, rfl, hp⟩
      obtain ⟨e1, e2, e3⟩ := range_split q
      have hlen : ps.length < 16777216 := by omega
      have hk := h2 (1 + (i : Int)) (by omega) (by omega)
      have em : ∀ (k x : Int), 0 ≤ x → x < 6 → ∃ m, dIdx (.lst [.int (k - 1), .int (k - 1), .int (k - 1), .int 0, .int (k / 2), .int 0]) (.int x) = some (.int m) := fun k x a b => ⟨_, ev_idxI (xs := [k - 1, k - 1, k - 1, 0, k / 2, 0]) a (by show _ < (6 : Int); omega)⟩
      obtain ⟨m, em⟩ := em (1 + (i : Int)) _ hk.1 hk.2
      simp -implicitDefEqProofs (disch := first | omega | (simp -implicitDefEqProofs; done) | (simp -implicitDefEqProofs; omega)) [-List.map_map, BT.sub, ev_denI, ev_stI, ev_slfS, ev_slfE, ev_st0n, ev_mod, ev_div, ev_mul, ev_pow, ev_line, ev_rng1, ev_rng2, ev_ar, ev_arI, rangeD_length, hlen, e0, em, ev_if, ev_seq_ite]
      split <;> split <;> exact ⟨_, rfl, _, ⟨_, _, rfl⟩, by first | omega | (rw [List.length_append, List.length_singleton]; omega)⟩)
  rw [List.length_range] at hp
  have hlen : ps.length < 16777216 := by omega
  simp -implicitDefEqProofs (disch := first | omega | (simp -implicitDefEqProofs; done) | (simp -implicitDefEqProofs; omega)) [-List.map_map, BT.sub, ev_denI, ev_stI, ev_slfS, ev_slfE, ev_st0n, ev_mod, ev_div, ev_mul, ev_pow, ev_line, ev_rng1, ev_rng2, ev_ar, ev_arI, rangeD_length, hlen, e0]
  generalize hI : ifS _ _ _ _ = o
  obtain ⟨s', rfl, ps2, rfl, hp2⟩ : ∃ s', o = .nx s' ∧ ∃ ps2 : List (Int × Int), s' = [some (T.im (D.lst (List.map D.int row))), some (T.im (D.int most)), some (T.im (D.int n)), some (tE dP ps2), j4, j5, none, none, none] ∧ ps2.length ≤ 7 := by
    rw [← hI]
    simp -implicitDefEqProofs (disch := first | omega | (simp -implicitDefEqProofs; done) | (simp -implicitDefEqProofs; omega)) [-List.map_map, BT.sub, ev_denI, ev_stI, ev_slfS, ev_slfE, ev_st0n, ev_mod, ev_div, ev_mul, ev_pow, ev_line, ev_rng1, ev_rng2, ev_ar, ev_arI, rangeD_length, ev_if, hlen, e0]
    split
    · split
      · exact ⟨_, rfl, _, rfl, by rw [List.length_append, List.length_singleton]; omega⟩
      · exact ⟨_, rfl, _, rfl, by omega⟩
    · exact ⟨_, rfl, _, rfl, by omega⟩
  simp -implicitDefEqProofs (disch := first | omega | (simp -implicitDefEqProofs; done) | (simp -implicitDefEqProofs; omega)) [-List.map_map, BT.sub, ev_denI, ev_stI, ev_slfS, ev_slfE, ev_st0n, ev_mod, ev_div, ev_mul, ev_pow, ev_line, ev_rng1, ev_rng2, ev_ar, ev_arI, rangeD_length]
  generalize hL3 : forL _ _ _ _ = o
  obtain ⟨s', rfl, ps3, k4, k6, k7, rfl, hp3⟩ := loop hL3 (fun pr s => ∃ (ps : List (Int × Int)) (j4 j6 j7 : Option T), s = [some (.im (.lst (row.map D.int))), some (.im (.int most)), some (.im (.int n)), some (tE dP ps), j4, j5, j6, j7, none] ∧ ps.length ≤ 7 + pr.length)
    ⟨_, _, _, _, rfl, hp2⟩ (by
      rintro pr i po s q ⟨ps, j4, j6, j7, rfl, hp⟩
      obtain ⟨e1, e2, e3⟩ := range_split q
      have hlen : ps.length < 16777216 := by omega
      simp -implicitDefEqProofs (disch := first | omega | (simp -implicitDefEqProofs; done) | (simp -implicitDefEqProofs; omega)) [-List.map_map, BT.sub, ev_denI, ev_stI, ev_slfS, ev_slfE, ev_st0n, ev_mod, ev_div, ev_mul, ev_pow, ev_line, ev_rng1, ev_rng2, ev_ar, ev_arI, rangeD_length, hlen, e0, ev_if, ev_seq_ite]
      split
      · split <;> exact ⟨_, rfl, _, ⟨_, _, _, rfl⟩, by first | omega | (rw [List.length_append, List.length_singleton]; omega)⟩
      · exact ⟨_, rfl, _, ⟨_, _, _, rfl⟩, by omega⟩)
  rw [List.length_range] at hp3
  simp -implicitDefEqProofs (disch := first | omega | (simp -implicitDefEqProofs; done) | (simp -implicitDefEqProofs; omega)) [-List.map_map, BT.sub, ev_denI, ev_stI, ev_slfS, ev_slfE, ev_st0n, ev_mod, ev_div, ev_mul, ev_pow, ev_line, ev_rng1, ev_rng2, ev_ar, ev_arI, rangeD_length]
  rw [tE_nil (enc := dP)]
  generalize hL4 : forL _ _ _ _ = o
  obtain ⟨s', rfl, ls, kn, i6, i7, rfl, hk, hls, hlt, hlen⟩ := loop hL4 (fun pr s => ∃ (ls : List (Int × Int)) (kn : T) (j6 j7 : Option T), s = [some (.im (.lst (row.map D.int))), some (.im (.int most)), some (.im (.int n)), some kn, k4, j5, j6, j7, some (tE dP ls)] ∧ (kn = tE dP ps3 ∨ kn = .im (.lst (ps3.map dP))) ∧ Lines n ls ∧ (∀ p ∈ ls, p.1 < pr.length) ∧ ls.length ≤ 7 * pr.length)
    ⟨[], _, _, _, rfl, .inl rfl, ⟨fun _ m => (nomatch m), List.Pairwise.nil⟩, fun _ m => (nomatch m), Nat.zero_le _⟩ (by
      rintro pr a po s q ⟨ls, kn, j6, j7, rfl, hk, hls, hlt, hlen⟩
      obtain ⟨e1, e2, e3⟩ := range_split q
      simp -implicitDefEqProofs (disch := first | omega | (simp -implicitDefEqProofs; done) | (simp -implicitDefEqProofs; omega)) [-List.map_map, BT.sub, ev_denI, ev_stI, ev_slfS, ev_slfE, ev_st0n, ev_mod, ev_div, ev_mul, ev_pow, ev_line, ev_rng1, ev_rng2, ev_ar, ev_arI, rangeD_length]
      generalize hL5 : forL _ _ _ _ = o
      obtain ⟨s', rfl, ls2, kn2, j7', rfl, hk2, hls2, hlt2, hlen2⟩ := loop hL5 (fun pr2 s => ∃ (ls : List (Int × Int)) (kn : T) (j7 : Option T), s = [some (.im (.lst (row.map D.int))), some (.im (.int most)), some (.im (.int n)), some kn, k4, j5, some (.im (.int (a : Int))), j7, some (tE dP ls)] ∧ (kn = tE dP ps3 ∨ kn = .im (.lst (ps3.map dP))) ∧ Lines n ls ∧ (∀ p ∈ ls, p.1 < pr.length ∨ (p.1 = pr.length ∧ p.2 < pr.length + 1 + pr2.length)) ∧ ls.length ≤ 7 * pr.length + pr2.length)
        ⟨_, _, _, rfl, hk, hls, fun p m => .inl (hlt p m), hlen⟩ (by
          rintro pr2 b po2 s q2 ⟨ls, kn, j7, rfl, hk, hls, hlt, hlen⟩
          obtain ⟨f1, f2, f3⟩ := range_split q2
          have hlen' : ls.length < 16777216 := by omega
          have kD : kn.toD = .lst (ps3.map dP) := by
            rcases hk with rfl | rfl
            · exact ev_toDE
            · exact ev_toDim
          simp -implicitDefEqProofs (disch := first | omega | (simp -implicitDefEqProofs; done) | (simp -implicitDefEqProofs; omega)) [-List.map_map, BT.sub, ev_denI, ev_stI, ev_slfS, ev_slfE, ev_st0n, ev_mod, ev_div, ev_mul, ev_pow, ev_line, ev_rng1, ev_rng2, ev_ar, ev_arI, rangeD_length, kD, hlen', ev_if, ev_inF]
          split
          · refine ⟨_, rfl, _, _, ⟨_, rfl⟩, .inr rfl, hls.snoc (by omega) (by omega) (by omega) fun p m => ?_, fun x y m => ?_, by rw [List.length_append, List.length_singleton]; omega⟩
            · have := hlt p m
              unfold ltP
              simp only
              omega
            · rcases List.mem_append.mp m with m | m
              · have := hlt (x, y) m
                simp only at this
                omega
              · have := List.mem_singleton.mp m
                cases this
                omega
          · exact ⟨_, rfl, _, _, ⟨_, rfl⟩, .inr rfl, hls, fun x y m => by
              have := hlt (x, y) m
              simp only at this
              omega, by omega⟩)
      refine ⟨_, rfl, _, _, ⟨_, _, rfl⟩, hk2, hls2, fun x y m => ?_, ?_⟩
      · have := hlt2 (x, y) m
        simp only at this
        omega
      · rw [List.length_range] at hlen2
        omega)
  simp -implicitDefEqProofs (disch := first | omega | (simp -implicitDefEqProofs; done) | (simp -implicitDefEqProofs; omega)) [-List.map_map, BT.sub, ev_denI, ev_stI, ev_slfS, ev_slfE, ev_st0n, ev_mod, ev_div, ev_mul, ev_pow, ev_line, ev_rng1, ev_rng2, ev_ar, ev_arI, rangeD_length]
  exact ⟨n, ls, ⟨rfl, rfl⟩, n1, n7, nm, hls, by rw [List.length_range] at hlen; omega⟩
end FR
end
section
set_option Elab.async false
set_option linter.all false
set_option maxRecDepth 100000
namespace FR
open PySem L2 DI
theorem picture_ok (row : List Int) (n : Int) (hl : row.length = 9) (h : ∀ i : Int, 2 ≤ i → i < 9 → 0 ≤ nI row i ∧ nI row i ≤ 2) (h1 : 0 ≤ nI row 1) (hn : 0 ≤ n) (hn7 : n ≤ 7) :
    ∃ pic : List Int, d__law_picture [.lst (row.map D.int), .int n] = .ok (.tup (pic.map D.int)) ∧ pic.length = n.toNat ∧ Pic pic := by
  unfold d__law_picture
  have e0 : ∀ i : Int, 0 ≤ i → i < 9 → dIdx (.lst (row.map D.int)) (.int i) = some (.int (nI row i)) := fun i a b => ev_idxI a (by rw [hl]; exact b)
  have hlen : n.toNat ≤ 16777216 := by omega
  have mem : ∀ {i : Nat}, i ∈ List.range n.toNat → (i : Int) < 7 := fun m => by
    have := List.mem_range.mp m
    omega
  have fin : ∀ (ψ : Nat → Int), (∀ i ∈ List.range n.toNat, 0 ≤ ψ i ∧ ψ i ≤ 2) → ((List.range n.toNat).map ψ).length = n.toNat ∧ Pic ((List.range n.toNat).map ψ) := fun ψ hp => by
    refine ⟨by simp, fun x hx => ?_⟩
    obtain ⟨i, m, rfl⟩ := List.mem_map.mp hx
    exact hp i m
  simp -implicitDefEqProofs (disch := first | omega | (simp -implicitDefEqProofs; done) | (simp -implicitDefEqProofs; omega)) [-List.map_map, BT.sub, ev_denI, ev_stI, ev_slfS, ev_slfE, ev_st0n, ev_mod, ev_div, ev_mul, ev_pow, ev_line, ev_rng1, ev_rng2, ev_ar, ev_arI, rangeD_length, e0, rangeD_length, hlen, ev_if, ev_seq_ite, ev_end_ite]
  generalize hC1 : compL _ _ _ _ _ = o1
  generalize hC2 : compL _ _ _ _ _ = o2
  generalize hC3 : compL _ _ _ _ _ = o3
  generalize hC4 : compL _ _ _ _ _ = o4
  have q1 := comp hC1 D.int (fun i : Nat => ((i : Int) + nI row 1) % 3) fun i m => ⟨_, rfl, rfl, by
    have := mem m
    simp -implicitDefEqProofs (disch := first | omega | (simp -implicitDefEqProofs; done) | (simp -implicitDefEqProofs; omega)) [-List.map_map, BT.sub, ev_denI, ev_stI, ev_slfS, ev_slfE, ev_st0n, ev_mod, ev_div, ev_mul, ev_pow, ev_line, ev_rng1, ev_rng2, ev_ar, ev_arI, rangeD_length, e0]⟩
  have q2 := comp hC2 D.int (fun i : Nat => ((i : Int) + nI row 1) % 3 * (if (i : Int) = nI row 2 + 1 then 0 else 1)) fun i m => ⟨_, rfl, rfl, by
    have := mem m
    simp -implicitDefEqProofs (disch := first | omega | (simp -implicitDefEqProofs; done) | (simp -implicitDefEqProofs; omega)) [-List.map_map, BT.sub, ev_denI, ev_stI, ev_slfS, ev_slfE, ev_st0n, ev_mod, ev_div, ev_mul, ev_pow, ev_line, ev_rng1, ev_rng2, ev_ar, ev_arI, rangeD_length, e0]⟩
  have q3 := comp hC3 D.int (fun i : Nat => if (i : Int) = nI row 1 then 1 else 0) fun i m => ⟨_, rfl, rfl, by
    have := mem m
    simp -implicitDefEqProofs (disch := first | omega | (simp -implicitDefEqProofs; done) | (simp -implicitDefEqProofs; omega)) [-List.map_map, BT.sub, ev_denI, ev_stI, ev_slfS, ev_slfE, ev_st0n, ev_mod, ev_div, ev_mul, ev_pow, ev_line, ev_rng1, ev_rng2, ev_ar, ev_arI, rangeD_length, e0]⟩
  have q4 := comp hC4 D.int (fun i : Nat => nI row (2 + (i : Int))) fun i m => ⟨_, rfl, rfl, by
    have := mem m
    simp -implicitDefEqProofs (disch := first | omega | (simp -implicitDefEqProofs; done) | (simp -implicitDefEqProofs; omega)) [-List.map_map, BT.sub, ev_denI, ev_stI, ev_slfS, ev_slfE, ev_st0n, ev_mod, ev_div, ev_mul, ev_pow, ev_line, ev_rng1, ev_rng2, ev_ar, ev_arI, rangeD_length, e0]⟩
  clear hC1 hC2 hC3 hC4
  subst q1 q2 q3 q4
  simp -implicitDefEqProofs (disch := first | omega | (simp -implicitDefEqProofs; done) | (simp -implicitDefEqProofs; omega)) [-List.map_map, BT.sub, ev_denI, ev_stI, ev_slfS, ev_slfE, ev_st0n, ev_mod, ev_div, ev_mul, ev_pow, ev_line, ev_rng1, ev_rng2, ev_ar, ev_arI, rangeD_length]
  have r1 := fin (fun i : Nat => ((i : Int) + nI row 1) % 3) fun i m => by constructor <;> omega
  have r2 := fin (fun i : Nat => ((i : Int) + nI row 1) % 3 * (if (i : Int) = nI row 2 + 1 then 0 else 1)) fun i m => by
    split <;> constructor <;> omega
  have r3 := fin (fun i : Nat => if (i : Int) = nI row 1 then 1 else 0) fun i m => by split <;> constructor <;> omega
  have r4 := fin (fun i : Nat => nI row (2 + (i : Int))) fun i m => by
    have := mem m
    exact h _ (by omega) (by omega)
  repeat' split
  all_goals first | exact ⟨_, rfl, r1⟩ | exact ⟨_, rfl, r2⟩ | exact ⟨_, rfl, r3⟩ | exact ⟨_, rfl, r4⟩
end FR
end
section
set_option Elab.async false
set_option linter.all false
set_option maxRecDepth 100000
namespace FR
open PySem L2 DI
def sz20 : List Int := [12, 20, 6, 20, 6, 20, 6, 20, 6, 20, 6, 20, 6, 8, 8, 8, 8, 8, 8, 8]
def sz9 : List Int := [10, 3, 3, 3, 3, 3, 3, 3, 3]
theorem mk20 : dMul (.lst [.int 20, .int 6]) (.int 6) = some (.lst [.int 20, .int 6, .int 20, .int 6, .int 20, .int 6, .int 20, .int 6, .int 20, .int 6, .int 20, .int 6]) := rfl
theorem mk8 : dMul (.lst [.int 8, .int 8]) (.int 3) = some (.lst [.int 8, .int 8, .int 8, .int 8, .int 8, .int 8]) := rfl
theorem mk3 : dMul (.lst [.int 3]) (.int 7) = some (.lst [.int 3, .int 3, .int 3, .int 3, .int 3, .int 3, .int 3]) := rfl
theorem digits20 (z : Int) : ∃ ds : List Int, d__law_digits [.int z, .lst [.int 12, .int 20, .int 6, .int 20, .int 6, .int 20, .int 6, .int 20, .int 6, .int 20, .int 6, .int 20, .int 6, .int 8, .int 8, .int 8, .int 8, .int 8, .int 8, .int 8]] = .ok (.lst (ds.map D.int)) ∧ Dg sz20 ds :=
  digits_ok z sz20 (by decide) (by decide)
theorem digits9 (z : Int) : ∃ ds : List Int, d__law_digits [.int z, .lst [.int 10, .int 3, .int 3, .int 3, .int 3, .int 3, .int 3, .int 3, .int 3]] = .ok (.lst (ds.map D.int)) ∧ Dg sz9 ds :=
  digits_ok z sz9 (by decide) (by decide)
theorem scene_ok (ns : List Int) (k most : Int) (hk : 0 ≤ k) (hk2 : k < 900) (hm : 1 ≤ most) (hm2 : most < 100) :
    ∃ (n : Int) (ls : List (Int × Int)) (pic : List Int), d__law_scene [.scr (ns.map D.int), .int k, .int most] = .ok (.lst [.int n, .lst (ls.map dP), .tup (pic.map .int)]) ∧ 1 ≤ n ∧ n ≤ 7 ∧ n ≤ most ∧ Lines n ls ∧ ls.length ≤ 49 ∧ pic.length = n.toNat ∧ Pic pic := by
  unfold d__law_scene
  obtain ⟨z1, e1⟩ := cell_ok ns k hk (by omega)
  obtain ⟨z2, e2⟩ := cell_ok ns (k + 1) (by omega) (by omega)
  obtain ⟨ds1, f1, g1⟩ := digits20 z1
  obtain ⟨ds2, f2, g2⟩ := digits9 z2
  have b0 : 0 ≤ nI ds1 0 ∧ nI ds1 0 < 12 := g1.gi (by omega) (by decide)
  have b1 : ∀ k : Int, 1 ≤ k → k ≤ 6 → 0 ≤ nI ds1 (2 * k) ∧ nI ds1 (2 * k) < 6 := fun k h h2 => by
    have := g1.gi (i := 2 * k) (by omega) (by show _ < (20 : Int); omega)
    have e : nI sz20 (2 * k) = 6 := by
      have : k = 1 ∨ k = 2 ∨ k = 3 ∨ k = 4 ∨ k = 5 ∨ k = 6 := by omega
      rcases this with rfl | rfl | rfl | rfl | rfl | rfl <;> rfl
    rw [e] at this
    exact this
  obtain ⟨n, ls, h1, n1, n7, nm, hl, hlen⟩ := web_ok ds1 most g1.1 b0 b1 hm hm2
  have b2 : ∀ i : Int, 1 ≤ i → i < 9 → 0 ≤ nI ds2 i ∧ nI ds2 i ≤ 2 := fun i h h2 => by
    have := g2.gi (i := i) (by omega) (by show _ < (9 : Int); omega)
    have e : nI sz9 i = 3 := by
      have : i = 1 ∨ i = 2 ∨ i = 3 ∨ i = 4 ∨ i = 5 ∨ i = 6 ∨ i = 7 ∨ i = 8 := by omega
      rcases this with rfl | rfl | rfl | rfl | rfl | rfl | rfl | rfl <;> rfl
    rw [e] at this
    omega
  obtain ⟨pic, h2, p1, p2⟩ := picture_ok ds2 n g2.1 (fun i h h2 => b2 i (by omega) h2) (b2 1 (by omega) (by omega)).1 (by omega) n7
  refine ⟨n, ls, pic, ?_, n1, n7, nm, hl, hlen, p1, p2⟩
  simp -implicitDefEqProofs (disch := first | omega | (simp -implicitDefEqProofs; done) | (simp -implicitDefEqProofs; omega)) [-List.map_map, BT.sub, ev_denI, ev_stI, ev_slfS, ev_slfE, ev_st0n, ev_mod, ev_div, ev_mul, ev_pow, ev_line, ev_rng1, ev_rng2, ev_ar, ev_arI, rangeD_length, e1, e2, mk20, mk8, mk3, f1, f2, h1, h2]
end FR
end
section
set_option Elab.async false
set_option linter.all false
set_option maxRecDepth 100000
namespace FR
open PySem L2 DI
/-! == and in of data without truth values -/
def nb : Nat → D → Bool
  | _, .non => true
  | _, .int _ => true
  | _, .str x => PyData.strOk x
  | n + 1, .tup ds => ds.all (nb n)
  | n + 1, .lst ds => ds.all (nb n)
  | _, _ => false
@[simp] theorem nb_int {n : Nat} {i : Int} : nb n (.int i) = true := by cases n <;> rfl
@[simp] theorem nb_non {n : Nat} : nb n .non = true := by cases n <;> rfl
theorem nb_str {n : Nat} {x : Str} (h : PyData.strOk x = true) : nb n (.str x) = true := by cases n <;> exact h
@[simp] theorem nb_tup {n : Nat} {ds : List D} : nb (n + 1) (.tup ds) = ds.all (nb n) := rfl
@[simp] theorem nb_lst {n : Nat} {ds : List D} : nb (n + 1) (.lst ds) = ds.all (nb n) := rfl
theorem nbs_of {n : Nat} (ih : ∀ d, nb n d = true → ∃ p, d.py = some p ∧ p.canLay0 = true ∧ p.depth ≤ n + 1) : ∀ ds : List D, ds.all (nb n) = true → ∃ ps, D.pys ds = some ps ∧ PyData.canLayAll0 ps = true ∧ PyData.depthAll ps ≤ n + 1
  | [], _ => ⟨[], by unfold D.pys; rfl, by unfold PyData.canLayAll0; rfl, by unfold PyData.depthAll; omega⟩
  | d :: ds, h => by
    rw [List.all_cons, Bool.and_eq_true] at h
    obtain ⟨p, e1, c1, d1⟩ := ih d h.1
    obtain ⟨ps, e2, c2, d2⟩ := nbs_of ih ds h.2
    refine ⟨p :: ps, by unfold D.pys; rw [e1, e2], by unfold PyData.canLayAll0; rw [c1, c2]; rfl, by unfold PyData.depthAll; omega⟩
theorem nb_py : ∀ (n : Nat) (d : D), nb n d = true → ∃ p, d.py = some p ∧ p.canLay0 = true ∧ p.depth ≤ n + 1
  | n, .non, _ => ⟨.none, by unfold D.py; rfl, by unfold PyData.canLay0; rfl, by unfold PyData.depth; omega⟩
  | n, .int i, _ => ⟨.int i, by unfold D.py; rfl, by unfold PyData.canLay0; rfl, by unfold PyData.depth; omega⟩
  | n, .str x, h => ⟨.str x, by unfold D.py; rfl, by unfold PyData.canLay0; cases n <;> exact h, by unfold PyData.depth; omega⟩
  | n + 1, .tup ds, h => by
    obtain ⟨ps, e, c, dd⟩ := nbs_of (nb_py n) ds h
    exact ⟨.tuple ps, by unfold D.py; rw [e]; rfl, by unfold PyData.canLay0; exact c, by unfold PyData.depth; omega⟩
  | n + 1, .lst ds, h => by
    obtain ⟨ps, e, c, dd⟩ := nbs_of (nb_py n) ds h
    exact ⟨.list ps, by unfold D.py; rw [e]; rfl, by unfold PyData.canLay0; exact c, by unfold PyData.depth; omega⟩
  | 0, .tup _, h => by cases h
  | 0, .lst _, h => by cases h
  | n, .bl _, h => by cases n <;> cases h
  | n, .ins _ _, h => by cases n <;> cases h
  | n, .scr _, h => by cases n <;> cases h
  | n, .tset _, h => by cases n <;> cases h
  | n, .dct _ _ _, h => by cases n <;> cases h
  | n, .rng _ _, h => by cases n <;> cases h
  | n, .nd _ _, h => by cases n <;> cases h
theorem nb_sh {n : Nat} {d : D} (h : nb n d = true) (hn : n ≤ 60) : ∃ p, d.py = some p ∧ d.sh = some p := by
  obtain ⟨p, e, c, dd⟩ := nb_py n d h
  refine ⟨p, e, ?_⟩
  have : SeqAt.shaped p = true := by
    unfold SeqAt.shaped
    rw [c]
    simp
    omega
  unfold D.sh
  rw [e]
  show (if SeqAt.shaped p = true then some p else none) = _
  rw [if_pos this]
theorem py_tup {ds : List D} {p : PyData} (h : (D.tup ds).py = some p) : ∃ ps, D.pys ds = some ps ∧ p = .tuple ps := by
  unfold D.py at h
  cases q : D.pys ds with
  | none => rw [q] at h; cases h
  | some ps => rw [q] at h; cases h; exact ⟨ps, rfl, rfl⟩
theorem py_lst {ds : List D} {p : PyData} (h : (D.lst ds).py = some p) : ∃ ps, D.pys ds = some ps ∧ p = .list ps := by
  unfold D.py at h
  cases q : D.pys ds with
  | none => rw [q] at h; cases h
  | some ps => rw [q] at h; cases h; exact ⟨ps, rfl, rfl⟩
theorem pys_cons {d : D} {ds : List D} {ps : List PyData} (h : D.pys (d :: ds) = some ps) : ∃ p qs, d.py = some p ∧ D.pys ds = some qs ∧ ps = p :: qs := by
  unfold D.pys at h
  cases q1 : D.py d with
  | none => rw [q1] at h; cases h
  | some p =>
    cases q2 : D.pys ds with
    | none => rw [q1, q2] at h; cases h
    | some qs => rw [q1, q2] at h; cases h; exact ⟨p, qs, rfl, rfl, rfl⟩
theorem pys_nil {ps : List PyData} (h : D.pys [] = some ps) : ps = [] := by unfold D.pys at h; cases h; rfl
theorem eqvs_nb {n m : Nat} (ih : ∀ d e p q, nb n d = true → nb m e = true → d.py = some p → e.py = some q → (PyData.eqv p q = true ↔ d = e)) : ∀ (ds es : List D) (ps qs : List PyData), ds.all (nb n) = true → es.all (nb m) = true → D.pys ds = some ps → D.pys es = some qs → (PyData.eqvAll ps qs = true ↔ ds = es)
  | [], [], ps, qs, _, _, h1, h2 => by rw [pys_nil h1, pys_nil h2]; simp [PyData.eqvAll]
  | [], e :: es, ps, qs, _, _, h1, h2 => by
    obtain ⟨q, qs', _, _, rfl⟩ := pys_cons h2
    rw [pys_nil h1]; simp [PyData.eqvAll]
  | d :: ds, [], ps, qs, _, _, h1, h2 => by
    obtain ⟨q, qs', _, _, rfl⟩ := pys_cons h1
    rw [pys_nil h2]; simp [PyData.eqvAll]
  | d :: ds, e :: es, ps, qs, a1, a2, h1, h2 => by
    obtain ⟨p, ps', b1, b2, rfl⟩ := pys_cons h1
    obtain ⟨q, qs', c1, c2, rfl⟩ := pys_cons h2
    rw [List.all_cons, Bool.and_eq_true] at a1 a2
    have i1 := ih d e p q a1.1 a2.1 b1 c1
    have i2 := eqvs_nb ih ds es ps' qs' a1.2 a2.2 b2 c2
    simp only [PyData.eqvAll, Bool.and_eq_true, i1, i2, List.cons.injEq]
theorem eqv_nb : ∀ (n m : Nat) (d e : D) (p q : PyData), nb n d = true → nb m e = true → d.py = some p → e.py = some q → (PyData.eqv p q = true ↔ d = e) := by
  intro n
  induction n with
  | zero =>
    intro m d e p q h1 h2 e1 e2
    cases d <;> try (cases h1; done)
    all_goals
      unfold D.py at e1
      cases e1
      cases e <;> first
        | (cases m <;> cases h2; done)
        | (unfold D.py at e2; cases e2; simp [PyData.eqv]; done)
        | (obtain ⟨ps, _, rfl⟩ := py_tup e2; simp [PyData.eqv]; done)
        | (obtain ⟨ps, _, rfl⟩ := py_lst e2; simp [PyData.eqv]; done)
  | succ n ih =>
    intro m d e p q h1 h2 e1 e2
    cases d <;> try (cases h1; done)
    case tup ds =>
      obtain ⟨ps, b1, rfl⟩ := py_tup e1
      cases e <;> first
        | (cases m <;> cases h2; done)
        | (unfold D.py at e2; cases e2; simp [PyData.eqv]; done)
        | (obtain ⟨ps, _, rfl⟩ := py_lst e2; simp [PyData.eqv]; done)
        | skip
      rename_i es
      obtain ⟨qs, c1, rfl⟩ := py_tup e2
      cases m with
      | zero => cases h2
      | succ m =>
        have := eqvs_nb (n := n) (m := m) (fun d e p q => ih m d e p q) ds es ps qs h1 h2 b1 c1
        simp only [PyData.eqv, this, D.tup.injEq]
    case lst ds =>
      obtain ⟨ps, b1, rfl⟩ := py_lst e1
      cases e <;> first
        | (cases m <;> cases h2; done)
        | (unfold D.py at e2; cases e2; simp [PyData.eqv]; done)
        | (obtain ⟨ps, _, rfl⟩ := py_tup e2; simp [PyData.eqv]; done)
        | skip
      rename_i es
      obtain ⟨qs, c1, rfl⟩ := py_lst e2
      cases m with
      | zero => cases h2
      | succ m =>
        have := eqvs_nb (n := n) (m := m) (fun d e p q => ih m d e p q) ds es ps qs h1 h2 b1 c1
        simp only [PyData.eqv, this, D.lst.injEq]
    all_goals
      unfold D.py at e1
      cases e1
      cases e <;> first
        | (cases m <;> cases h2; done)
        | (unfold D.py at e2; cases e2; simp [PyData.eqv]; done)
        | (obtain ⟨ps, _, rfl⟩ := py_tup e2; simp [PyData.eqv]; done)
        | (obtain ⟨ps, _, rfl⟩ := py_lst e2; simp [PyData.eqv]; done)
open Classical in
theorem ev_eqN {d e : D} (n : Nat) (h1 : nb n d = true) (h2 : nb n e = true) (hn : n ≤ 60) : dEq d e = some (.bl (decide (d = e))) := by
  obtain ⟨p, a1, a2⟩ := nb_sh h1 hn
  obtain ⟨q, b1, b2⟩ := nb_sh h2 hn
  unfold dEq dEqB
  rw [a2, b2]
  show some (D.bl _) = _
  congr 2
  rw [Bool.eq_iff_iff, eqv_nb n n d e p q h1 h2 a1 b1]
  simp
end FR
end
section
set_option Elab.async false
set_option linter.all false
set_option maxRecDepth 100000
namespace FR
open PySem L2 DI
theorem dP_inj3 {p q : Int × Int} (h : dP p = dP q) : p = q := by
  unfold dP at h
  injection h with h
  injection h with h1 h
  injection h with h2 h
  injection h1 with h1
  injection h2 with h2
  exact Prod.ext h1 h2
theorem dPs_inj3 {ls ls' : List (Int × Int)} (h : ls.map dP = ls'.map dP) : ls = ls' := by
  induction ls generalizing ls' with
  | nil => cases ls' with
    | nil => rfl
    | cons y ys => simp at h
  | cons x xs ih => cases ls' with
    | nil => simp at h
    | cons y ys =>
      rw [List.map_cons, List.map_cons] at h
      injection h with h1 h2
      rw [dP_inj3 h1, ih h2]
theorem nb_dPs3 (ls : List (Int × Int)) : nb 2 (.tup (ls.map dP)) = true := by
  simp [nb, dP]
theorem web_eqG (n n' : Int) (ls ls' : List (Int × Int)) : d_Web___eq__ [webD n ls, webD n' ls'] = .ok (.bl (decide (n = n' ∧ ls = ls'))) := by
  unfold d_Web___eq__ webD webF
  have e : dEq (.tup (ls.map dP)) (.tup (ls'.map dP)) = some (.bl (decide (ls = ls'))) := by
    rw [ev_eqN 2 (nb_dPs3 ls) (nb_dPs3 ls') (by omega)]
    by_cases h : ls = ls'
    · subst h
      simp
    · have t : ¬ (D.tup (ls.map dP) = .tup (ls'.map dP)) := fun z => h (dPs_inj3 (by injection z))
      have t2 : ¬ (ls.map dP = ls'.map dP) := fun z => h (dPs_inj3 z)
      simp [h, t2]
  by_cases c : n = n'
  · simp -implicitDefEqProofs (disch := first | omega | (simp -implicitDefEqProofs; done) | (simp -implicitDefEqProofs; omega)) [-List.map_map, BT.sub, ev_denI, ev_stI, ev_slfS, ev_slfE, ev_st0n, ev_mod, ev_div, ev_mul, ev_pow, ev_line, ev_rng1, ev_rng2, ev_ar, ev_arI, rangeD_length, e, c]
  · simp -implicitDefEqProofs (disch := first | omega | (simp -implicitDefEqProofs; done) | (simp -implicitDefEqProofs; omega)) [-List.map_map, BT.sub, ev_denI, ev_stI, ev_slfS, ev_slfE, ev_st0n, ev_mod, ev_div, ev_mul, ev_pow, ev_line, ev_rng1, ev_rng2, ev_ar, ev_arI, rangeD_length, e, c]
theorem scene_is (n : Int) (ls : List (Int × Int)) (xs : List Int) (d : D) (hd : d = .tup (xs.map .int) ∨ d = .lst (xs.map .int)) (hl : xs.length ≤ 10000) : d__law_is_scene [scnD (webD n ls) xs, webD n ls, d] = .ok (.bl true) := by
  unfold d__law_is_scene scnD
  have e1 : eqT 46 d_Web___eq__ (webD n ls) (webD n ls) = .ok (.bl true) := by
    have := web_eqG n n ls ls
    rw [decide_eq_true (by simp)] at this
    exact this
  have e2 := row_ok xs xs.length hl
  rw [decide_eq_true rfl] at e2
  have e4 : dEq (.lst (xs.map .int)) (.lst (xs.map .int)) = some (.bl true) := by
    rw [ev_eqN 2 (by simp) (by simp) (by omega)]
    simp
  have x16 : xs.length ≤ 16777216 := by omega
  rcases hd with rfl | rfl
  · simp -implicitDefEqProofs (disch := first | omega | (simp -implicitDefEqProofs; done) | (simp -implicitDefEqProofs; omega)) [-List.map_map, BT.sub, ev_denI, ev_stI, ev_slfS, ev_slfE, ev_st0n, ev_mod, ev_div, ev_mul, ev_pow, ev_line, ev_rng1, ev_rng2, ev_ar, ev_arI, rangeD_length, e1, e2, e4, ev_if, x16]
  · simp -implicitDefEqProofs (disch := first | omega | (simp -implicitDefEqProofs; done) | (simp -implicitDefEqProofs; omega)) [-List.map_map, BT.sub, ev_denI, ev_stI, ev_slfS, ev_slfE, ev_st0n, ev_mod, ev_div, ev_mul, ev_pow, ev_line, ev_rng1, ev_rng2, ev_ar, ev_arI, rangeD_length, e1, e2, e4, ev_if, x16]
end FR
end
section
set_option Elab.async false
set_option linter.all false
set_option maxRecDepth 100000
namespace FR
open PySem L2 DI
/-! a suite of a try -/
theorem try_ex1 {sub : Nat → Nat → Bool} {xs : List Nat} {j i : Nat} {F : LS → Out} {G : Ex → LS → Out} {st st' : LS} {e : Ex} {d : D} (h : F st = .ex st' e) (hm : e.1 ∈ xs) (hs : sub e.1 j = true) (hi : i < st'.length) (hg : G e (st'.set i none) = .rt d) :
    tryS sub xs j i F G st = .rt d := by
  unfold tryS
  rw [h]
  show (if e.1 ∈ xs then (if sub e.1 j = true then (if i < st'.length then (G e (st'.set i none)).gone i else .bad) else .ex st' e) else .bad) = _
  rw [if_pos hm, if_pos hs, if_pos hi, hg]
  rfl
theorem xis_ev {sub : Nat → Nat → Bool} {xs : List Nat} {ts : List XT} {e : Ex} {st : LS} (h : e.1 ∈ xs) : xisE sub xs ts e st = .ok (.bl (ts.any (XT.sub sub e.1))) := if_pos h
end FR
end
section
set_option Elab.async false
set_option linter.all false
set_option maxRecDepth 100000
namespace FR
open PySem L2 DI
/-! a loop over enumerate that may raise -/
section
variable {α : Type} {enc : α → D} {g : D → LS → Option LS} {st : LS} {F : LS → Out} {xs : List α} {o : Out}
theorem loopX_go (P : List α → LS → Prop) (Q : Out → Prop) : ∀ {xs pre : List α} {st : LS}, P pre st →
    (∀ pr x po s, pre ++ xs = pr ++ x :: po → P pr s → (∃ s2, turn g F (enc x) s = .nx s2 ∧ P (pr ++ [x]) s2) ∨ ∃ s2 e, turn g F (enc x) s = .ex s2 e ∧ Q (.ex s2 e)) →
    (∃ s', forL g F (xs.map enc) st = .nx s' ∧ P (pre ++ xs) s') ∨ ∃ s2 e, forL g F (xs.map enc) st = .ex s2 e ∧ Q (.ex s2 e)
  | [], pre, st, h0, _ => .inl ⟨st, rfl, by rw [List.append_nil]; exact h0⟩
  | x :: xs, pre, st, h0, h => by
    rw [List.map_cons]
    rcases h pre x xs st rfl h0 with ⟨s2, a, b⟩ | ⟨s2, e, a, b⟩
    · obtain ⟨s1, a1, a2⟩ := turn_nx a
      have ih := loopX_go P Q (xs := xs) (pre := pre ++ [x]) b fun pr y po s q => h pr y po s (by rw [← q]; simp)
      simp only [forL, a1, a2]
      rw [List.append_assoc] at ih
      exact ih
    · refine .inr ⟨s2, e, ?_, b⟩
      unfold turn at a
      split at a
      · cases a
      · rename_i s1 q
        simp only [forL, q, a]
theorem loopX (hL : forL g F (xs.map enc) st = o) (P : List α → LS → Prop) (Q : Out → Prop) (h0 : P [] st)
    (h : ∀ pr x po s, xs = pr ++ x :: po → P pr s → (∃ s2, turn g F (enc x) s = .nx s2 ∧ P (pr ++ [x]) s2) ∨ ∃ s2 e, turn g F (enc x) s = .ex s2 e ∧ Q (.ex s2 e)) : (∃ s', o = .nx s' ∧ P xs s') ∨ ∃ s2 e, o = .ex s2 e ∧ Q (.ex s2 e) := by
  rw [← hL]
  have := loopX_go (enc := enc) (g := g) (F := F) P Q (xs := xs) (pre := []) h0 (by simpa using h)
  simpa using this
end
theorem ev_raise1 {c : Nat} {F : LS → R D} {st : LS} : raise1S c F st = (F st).out st fun d => .ex st (c, [d]) := rfl
end FR
end
section
set_option Elab.async false
set_option linter.all false
set_option maxRecDepth 100000
namespace FR
open PySem L2 DI
/-! texts of signs -/
def fnd (c : Nat) : Int := Txt.find ".*o" ⟨#[c]⟩
theorem fnd_0 : fnd 46 = 0 := by decide +kernel
theorem fnd_1 : fnd 42 = 1 := by decide +kernel
theorem fnd_2 : fnd 111 = 2 := by decide +kernel
theorem signs_eq : (".*o" : Str) = ⟨#[46, 42, 111]⟩ := by decide +kernel
theorem fnd_no {c : Nat} (h0 : c ≠ 46) (h1 : c ≠ 42) (h2 : c ≠ 111) : fnd c = -1 := by
  unfold fnd Txt.find
  rw [signs_eq]
  have : Builtin.Str.occurrences ⟨#[46, 42, 111]⟩ ⟨#[c]⟩ 0 (Str.length ⟨#[46, 42, 111]⟩) 1 = [] := by
    unfold Builtin.Str.occurrences Builtin.Str.subAt
    have a0 : ¬ 46 = c := fun e => h0 e.symm
    have a1 : ¬ 42 = c := fun e => h1 e.symm
    have a2 : ¬ 111 = c := fun e => h2 e.symm
    have r4 : List.range' 0 4 = [0, 1, 2, 3] := rfl
    simp [Str.length, a0, a1, a2, r4]
  rw [this]
def sgC (v : Int) : Nat := if v = 0 then 46 else if v = 1 then 42 else 111
theorem fnd_back {c : Nat} (h : 0 ≤ fnd c) : sgC (fnd c) = c ∧ fnd c ≤ 2 := by
  by_cases h0 : c = 46
  · subst h0
    rw [fnd_0]
    exact ⟨rfl, by omega⟩
  by_cases h1 : c = 42
  · subst h1
    rw [fnd_1]
    exact ⟨rfl, by omega⟩
  by_cases h2 : c = 111
  · subst h2
    rw [fnd_2]
    exact ⟨rfl, by omega⟩
  rw [fnd_no h0 h1 h2] at h
  omega
def txt (cs : List Nat) : Str := ⟨cs.toArray⟩
theorem join_sg' : ∀ cs : List Nat, Str.join "" (cs.map fun c => ⟨#[c]⟩) = txt cs
  | [] => rfl
  | [c] => rfl
  | c :: d :: cs => by
    have ih := join_sg' (d :: cs)
    rw [List.map_cons, List.map_cons]
    rw [List.map_cons] at ih
    show (⟨#[c]⟩ : Str) ++ "" ++ Str.join "" (_ :: _) = _
    rw [ih]
    have e : ("" : Str) = ⟨#[]⟩ := by decide +kernel
    rw [e]
    show (⟨#[c] ++ #[] ++ (d :: cs).toArray⟩ : Str) = ⟨(c :: d :: cs).toArray⟩
    simp
theorem join_sg (cs : List Nat) : Txt.join "" (cs.map fun c => ⟨#[c]⟩) = txt cs := (TL.join_eq _ _).trans (join_sg' cs)
theorem strs_map (zs : List Str) : strsOf (zs.map .str) = some zs := by
  induction zs with
  | nil => rfl
  | cons z zs ih =>
    rw [List.map_cons]
    show (strsOf (zs.map .str)).map (z :: ·) = _
    rw [ih]
    rfl
end FR
end
section
set_option Elab.async false
set_option linter.all false
set_option maxRecDepth 100000
namespace FR
open PySem L2 DI
/-! scenes of any states -/
theorem notInL3 {x : Int} {xs : List Int} : dNotIn (.int x) (.lst (xs.map .int)) = some (.bl (!decide (x ∈ xs))) := by
  have h := ev_inL (x := x) (xs := xs)
  unfold dIn at h
  unfold dNotIn
  cases q : dInB (.int x) (.lst (xs.map .int)) with
  | none => rw [q] at h; cases h
  | some b =>
    rw [q] at h
    injection h with h
    injection h with h
    rw [← h]
    rfl
def badAt (n : Int) (xs : List Int) (k : Nat) : Prop := n ≤ (k : Int) ∨ (xs.length : Int) ≤ k ∨ nI xs k ∉ ([0, 1, 2] : List Int)
def GoodS (n : Int) (xs : List Int) : Prop := xs.length = n.toNat ∧ Pic xs
def FaultS (n : Int) (xs : List Int) (k : Nat) : Prop := k < (max n (xs.length : Int)).toNat ∧ badAt n xs k ∧ ∀ j, j < k → ¬ badAt n xs j
theorem least_nat {P : Nat → Prop} (h : ∃ k, P k) : ∃ k, P k ∧ ∀ j, j < k → ¬ P j := by
  classical
  obtain ⟨k, hk⟩ := h
  induction k using Nat.strongRecOn with
  | _ k ih =>
    by_cases c : ∃ j, j < k ∧ P j
    · obtain ⟨j, hj, pj⟩ := c
      exact ih j hj pj
    · exact ⟨k, hk, fun j hj pj => c ⟨j, hj, pj⟩⟩
theorem good_or {n : Int} (n0 : 0 ≤ n) (xs : List Int) : GoodS n xs ∨ ∃ k, FaultS n xs k := by
  classical
  by_cases h : ∃ k, k < (max n (xs.length : Int)).toNat ∧ badAt n xs k
  · obtain ⟨k, ⟨h1, h2⟩, h3⟩ := least_nat h
    exact .inr ⟨k, h1, h2, fun j hj z => h3 j hj ⟨by omega, z⟩⟩
  · left
    have all : ∀ k, k < (max n (xs.length : Int)).toNat → ¬ badAt n xs k := fun k hk z => h ⟨k, hk, z⟩
    have e1 : xs.length = n.toNat := by
      apply Classical.byContradiction
      intro z
      by_cases c : (xs.length : Int) < n
      · exact all xs.length (by omega) (.inr (.inl (Int.le_refl _)))
      · exact all n.toNat (by omega) (.inl (by omega))
    refine ⟨e1, fun x hx => ?_⟩
    obtain ⟨i, hi, rfl⟩ := List.mem_iff_getElem.mp hx
    have := all i (by omega)
    unfold badAt at this
    rw [nI_nat hi] at this
    have m : xs[i] ∈ ([0, 1, 2] : List Int) := Classical.byContradiction fun z => this (.inr (.inr z))
    simp only [List.mem_cons, List.not_mem_nil, or_false] at m
    omega
theorem GoodS.no {n : Int} {xs : List Int} (h : GoodS n xs) {k : Nat} (hk : k < (max n (xs.length : Int)).toNat) (n0 : 0 ≤ n) : (k : Int) < n ∧ k < xs.length ∧ nI xs k ∈ ([0, 1, 2] : List Int) := by
  obtain ⟨h1, h2⟩ := h
  have kl : k < xs.length := by omega
  refine ⟨by omega, kl, ?_⟩
  have := h2 (nI xs k) (nI_mem (by omega) (by omega))
  have : nI xs k = 0 ∨ nI xs k = 1 ∨ nI xs k = 2 := by omega
  simpa using this
section
variable {n : Int} {ls : List (Int × Int)} {xs : List Int}
theorem fault_good (n0 : 0 ≤ n) (n2 : n ≤ 1000) (hl : xs.length ≤ 1000) (h : GoodS n xs) : d__law_fault [.int n, .lst (xs.map .int)] = .ok .non := by
  unfold d__law_fault
  have m16 : (max n (xs.length : Int)) ≤ 16777216 := by omega
  have lx : dLen [.lst (xs.map .int)] = some (.int (xs.length : Int)) := by rw [ev_lenL, List.length_map]
  have mx : dMax2 [.int n, .int (xs.length : Int)] = some (.int (max n (xs.length : Int))) := ev_max2
  generalize hM : max n (xs.length : Int) = M at *
  simp -implicitDefEqProofs (disch := first | omega | (simp -implicitDefEqProofs; done) | (simp -implicitDefEqProofs; omega)) [-List.map_map, BT.sub, ev_denI, ev_stI, ev_slfS, ev_slfE, ev_st0n, ev_mod, ev_div, ev_mul, ev_pow, ev_line, ev_rng1, ev_rng2, ev_ar, ev_arI, rangeD_length, lx, mx, m16]
  generalize hL : forL _ _ _ _ = o
  obtain ⟨s', rfl, j, rfl⟩ := loop (α := Nat) hL (fun pr s => ∃ j, s = [some (.im (.int n)), some (.im (.lst (xs.map .int))), j]) ⟨_, rfl⟩ (by
    rintro pr i po s hs ⟨j, rfl⟩
    obtain ⟨f1, f2, f3⟩ := range_split hs
    obtain ⟨g1, g2, g3⟩ := h.no (k := i) (by omega) n0
    have c1 : ¬ n ≤ (i : Int) := by omega
    have c2 : ¬ (xs.length : Int) ≤ (i : Int) := by omega
    have ix : dIdx (.lst (xs.map .int)) (.int (i : Int)) = some (.int (nI xs i)) := ev_idxI (by omega) (by omega)
    have c5 : dNotIn (.int (nI xs i)) (.lst [.int 0, .int 1, .int 2]) = some (.bl false) := by
      have := notInL3 (x := nI xs i) (xs := [0, 1, 2])
      rw [decide_eq_true g3] at this
      exact this
    simp -implicitDefEqProofs (disch := first | omega | (simp -implicitDefEqProofs; done) | (simp -implicitDefEqProofs; omega)) [-List.map_map, BT.sub, ev_denI, ev_stI, ev_slfS, ev_slfE, ev_st0n, ev_mod, ev_div, ev_mul, ev_pow, ev_line, ev_rng1, ev_rng2, ev_ar, ev_arI, rangeD_length, ev_if, lx, c1, c2, ix, c5])
  simp -implicitDefEqProofs (disch := first | omega | (simp -implicitDefEqProofs; done) | (simp -implicitDefEqProofs; omega)) [-List.map_map, BT.sub, ev_denI, ev_stI, ev_slfS, ev_slfE, ev_st0n, ev_mod, ev_div, ev_mul, ev_pow, ev_line, ev_rng1, ev_rng2, ev_ar, ev_arI, rangeD_length]
theorem bad_law (n0 : 0 ≤ n) {k : Nat} (h : badAt n xs k) : (n ≤ (k : Int)) ∨ (¬ n ≤ (k : Int) ∧ (xs.length : Int) ≤ k) ∨ (¬ n ≤ (k : Int) ∧ ¬ (xs.length : Int) ≤ k ∧ nI xs k ∉ ([0, 1, 2] : List Int)) := by
  rcases h with h | h | h
  · exact .inl h
  · by_cases c : n ≤ (k : Int)
    · exact .inl c
    · exact .inr (.inl ⟨c, h⟩)
  · by_cases c : n ≤ (k : Int)
    · exact .inl c
    · by_cases c2 : (xs.length : Int) ≤ k
      · exact .inr (.inl ⟨c, c2⟩)
      · exact .inr (.inr ⟨c, c2, h⟩)
theorem notbad {k : Nat} (h : ¬ badAt n xs k) : ¬ n ≤ (k : Int) ∧ ¬ (xs.length : Int) ≤ k ∧ nI xs k ∈ ([0, 1, 2] : List Int) :=
  ⟨fun z => h (.inl z), fun z => h (.inr (.inl z)), Classical.byContradiction fun z => h (.inr (.inr z))⟩
theorem fault_bad (n0 : 0 ≤ n) (n2 : n ≤ 1000) (hl : xs.length ≤ 1000) {k : Nat} (h : FaultS n xs k) : d__law_fault [.int n, .lst (xs.map .int)] = .ok (.int (k : Int)) := by
  unfold d__law_fault
  obtain ⟨k1, k2, k3⟩ := h
  have m16 : (max n (xs.length : Int)) ≤ 16777216 := by omega
  have lx : dLen [.lst (xs.map .int)] = some (.int (xs.length : Int)) := by rw [ev_lenL, List.length_map]
  have mx : dMax2 [.int n, .int (xs.length : Int)] = some (.int (max n (xs.length : Int))) := ev_max2
  generalize hM : max n (xs.length : Int) = M at *
  simp -implicitDefEqProofs (disch := first | omega | (simp -implicitDefEqProofs; done) | (simp -implicitDefEqProofs; omega)) [-List.map_map, BT.sub, ev_denI, ev_stI, ev_slfS, ev_slfE, ev_st0n, ev_mod, ev_div, ev_mul, ev_pow, ev_line, ev_rng1, ev_rng2, ev_ar, ev_arI, rangeD_length, lx, mx, m16]
  generalize hL : forL _ _ _ _ = o
  rcases loopR (α := Nat) hL (fun pr s => (∀ i ∈ pr, ¬ badAt n xs i) ∧ ∃ j, s = [some (.im (.int n)), some (.im (.lst (xs.map .int))), j]) (fun d => d = .int (k : Int)) ⟨fun _ m => (nomatch m), _, rfl⟩ (by
    rintro pr i po s hs ⟨hg, j, rfl⟩
    obtain ⟨f1, f2, f3⟩ := range_split hs
    by_cases b : badAt n xs i
    · have ik : i = k := by
        rcases Nat.lt_trichotomy i k with c | c | c
        · exact absurd b (k3 i c)
        · exact c
        · have : k ∈ pr := by rw [f3]; exact List.mem_range.mpr (by omega)
          exact absurd k2 (hg k this)
      refine .inr ⟨.int (k : Int), ?_, rfl⟩
      rw [← ik]
      rcases bad_law n0 b with c | ⟨c, c2⟩ | ⟨c, c2, c3⟩
      · simp -implicitDefEqProofs (disch := first | omega | (simp -implicitDefEqProofs; done) | (simp -implicitDefEqProofs; omega)) [-List.map_map, BT.sub, ev_denI, ev_stI, ev_slfS, ev_slfE, ev_st0n, ev_mod, ev_div, ev_mul, ev_pow, ev_line, ev_rng1, ev_rng2, ev_ar, ev_arI, rangeD_length, ev_if, lx, c]
      · simp -implicitDefEqProofs (disch := first | omega | (simp -implicitDefEqProofs; done) | (simp -implicitDefEqProofs; omega)) [-List.map_map, BT.sub, ev_denI, ev_stI, ev_slfS, ev_slfE, ev_st0n, ev_mod, ev_div, ev_mul, ev_pow, ev_line, ev_rng1, ev_rng2, ev_ar, ev_arI, rangeD_length, ev_if, lx, c, c2]
      · have ix : dIdx (.lst (xs.map .int)) (.int (i : Int)) = some (.int (nI xs i)) := ev_idxI (by omega) (by omega)
        have c5 : dNotIn (.int (nI xs i)) (.lst [.int 0, .int 1, .int 2]) = some (.bl true) := by
          have := notInL3 (x := nI xs i) (xs := [0, 1, 2])
          rw [decide_eq_false c3] at this
          exact this
        simp -implicitDefEqProofs (disch := first | omega | (simp -implicitDefEqProofs; done) | (simp -implicitDefEqProofs; omega)) [-List.map_map, BT.sub, ev_denI, ev_stI, ev_slfS, ev_slfE, ev_st0n, ev_mod, ev_div, ev_mul, ev_pow, ev_line, ev_rng1, ev_rng2, ev_ar, ev_arI, rangeD_length, ev_if, lx, c, c2, ix, c5]
    · obtain ⟨c, c2, c3⟩ := notbad b
      refine .inl ⟨[some (.im (.int n)), some (.im (.lst (xs.map .int))), some (.im (.int (i : Int)))], ?_, fun z m => (List.mem_append.mp m).elim (hg z) fun m => by rw [List.mem_singleton.mp m]; exact b, _, rfl⟩
      have ix : dIdx (.lst (xs.map .int)) (.int (i : Int)) = some (.int (nI xs i)) := ev_idxI (by omega) (by omega)
      have c5 : dNotIn (.int (nI xs i)) (.lst [.int 0, .int 1, .int 2]) = some (.bl false) := by
        have := notInL3 (x := nI xs i) (xs := [0, 1, 2])
        rw [decide_eq_true c3] at this
        exact this
      simp -implicitDefEqProofs (disch := first | omega | (simp -implicitDefEqProofs; done) | (simp -implicitDefEqProofs; omega)) [-List.map_map, BT.sub, ev_denI, ev_stI, ev_slfS, ev_slfE, ev_st0n, ev_mod, ev_div, ev_mul, ev_pow, ev_line, ev_rng1, ev_rng2, ev_ar, ev_arI, rangeD_length, ev_if, lx, c, c2, ix, c5]) with ⟨s', rfl, hg, j, rfl⟩ | ⟨d, rfl, rfl⟩
  · exact absurd k2 (hg k (List.mem_range.mpr k1))
  · rfl
theorem scene_bad (n0 : 0 ≤ n) (n2 : n ≤ 1000) (hl : xs.length ≤ 1000) (q : D) (hq : d_frozen 6 [q] = .ok (.tup (xs.map .int))) {k : Nat} (h : FaultS n xs k) : d_Scene___init__ [webD n ls, q] = .ex (10, [.int (k : Int)]) := by
  unfold d_Scene___init__ webD webF
  obtain ⟨k1, k2, k3⟩ := h
  have m16 : (max n (xs.length : Int)) ≤ 16777216 := by omega
  have lx : dLen [.tup (xs.map .int)] = some (.int (xs.length : Int)) := by simp
  have mx : dMax2 [.int n, .int (xs.length : Int)] = some (.int (max n (xs.length : Int))) := ev_max2
  generalize hM : max n (xs.length : Int) = M at *
  simp -implicitDefEqProofs (disch := first | omega | (simp -implicitDefEqProofs; done) | (simp -implicitDefEqProofs; omega)) [-List.map_map, BT.sub, ev_denI, ev_stI, ev_slfS, ev_slfE, ev_st0n, ev_mod, ev_div, ev_mul, ev_pow, ev_line, ev_rng1, ev_rng2, ev_ar, ev_arI, rangeD_length, hq, lx, mx, m16]
  generalize hL : forL _ _ _ _ = o
  rcases loopX (α := Nat) hL (fun pr s => (∀ i ∈ pr, ¬ badAt n xs i) ∧ ∃ j, s = [some (.ins 39 []), some (.im (.ins 46 [.int n, .tup (ls.map dP), rowsT (arnd n ls)])), some (.im q), some (.im (.tup (xs.map .int))), j]) (fun o => ∃ s2, o = .ex s2 (10, [.int (k : Int)])) ⟨fun _ m => (nomatch m), _, rfl⟩ (by
    rintro pr i po s hs ⟨hg, j, rfl⟩
    obtain ⟨f1, f2, f3⟩ := range_split hs
    by_cases b : badAt n xs i
    · have ik : i = k := by
        rcases Nat.lt_trichotomy i k with c | c | c
        · exact absurd b (k3 i c)
        · exact c
        · have : k ∈ pr := by rw [f3]; exact List.mem_range.mpr (by omega)
          exact absurd k2 (hg k this)
      refine .inr ⟨[some (.ins 39 []), some (.im (.ins 46 [.int n, .tup (ls.map dP), rowsT (arnd n ls)])), some (.im q), some (.im (.tup (xs.map .int))), some (.im (.int (i : Int)))], (10, [.int (k : Int)]), ?_, _, rfl⟩
      rw [← ik]
      rcases bad_law n0 b with c | ⟨c, c2⟩ | ⟨c, c2, c3⟩
      · simp -implicitDefEqProofs (disch := first | omega | (simp -implicitDefEqProofs; done) | (simp -implicitDefEqProofs; omega)) [-List.map_map, BT.sub, ev_denI, ev_stI, ev_slfS, ev_slfE, ev_st0n, ev_mod, ev_div, ev_mul, ev_pow, ev_line, ev_rng1, ev_rng2, ev_ar, ev_arI, rangeD_length, ev_if, lx, c, ev_raise1]
      · simp -implicitDefEqProofs (disch := first | omega | (simp -implicitDefEqProofs; done) | (simp -implicitDefEqProofs; omega)) [-List.map_map, BT.sub, ev_denI, ev_stI, ev_slfS, ev_slfE, ev_st0n, ev_mod, ev_div, ev_mul, ev_pow, ev_line, ev_rng1, ev_rng2, ev_ar, ev_arI, rangeD_length, ev_if, lx, c, c2, ev_raise1]
      · have ix : dIdx (.tup (xs.map .int)) (.int (i : Int)) = some (.int (nI xs i)) := ev_idxIT (by omega) (by omega)
        have c5 : dNotIn (.int (nI xs i)) (.tup [.int 0, .int 1, .int 2]) = some (.bl true) := by
          have := ev_notInT (x := nI xs i) (xs := [0, 1, 2])
          rw [decide_eq_false c3] at this
          exact this
        simp -implicitDefEqProofs (disch := first | omega | (simp -implicitDefEqProofs; done) | (simp -implicitDefEqProofs; omega)) [-List.map_map, BT.sub, ev_denI, ev_stI, ev_slfS, ev_slfE, ev_st0n, ev_mod, ev_div, ev_mul, ev_pow, ev_line, ev_rng1, ev_rng2, ev_ar, ev_arI, rangeD_length, ev_if, lx, c, c2, ix, c5, ev_raise1]
    · obtain ⟨c, c2, c3⟩ := notbad b
      refine .inl ⟨[some (.ins 39 []), some (.im (.ins 46 [.int n, .tup (ls.map dP), rowsT (arnd n ls)])), some (.im q), some (.im (.tup (xs.map .int))), some (.im (.int (i : Int)))], ?_, fun z m => (List.mem_append.mp m).elim (hg z) fun m => by rw [List.mem_singleton.mp m]; exact b, _, rfl⟩
      have ix : dIdx (.tup (xs.map .int)) (.int (i : Int)) = some (.int (nI xs i)) := ev_idxIT (by omega) (by omega)
      have c5 : dNotIn (.int (nI xs i)) (.tup [.int 0, .int 1, .int 2]) = some (.bl false) := by
        have := ev_notInT (x := nI xs i) (xs := [0, 1, 2])
        rw [decide_eq_true c3] at this
        exact this
      simp -implicitDefEqProofs (disch := first | omega | (simp -implicitDefEqProofs; done) | (simp -implicitDefEqProofs; omega)) [-List.map_map, BT.sub, ev_denI, ev_stI, ev_slfS, ev_slfE, ev_st0n, ev_mod, ev_div, ev_mul, ev_pow, ev_line, ev_rng1, ev_rng2, ev_ar, ev_arI, rangeD_length, ev_if, lx, c, c2, ix, c5]) with ⟨s', rfl, hg, j, rfl⟩ | ⟨s2, e, rfl, s3, he⟩
  · exact absurd k2 (hg k (List.mem_range.mpr k1))
  · injection he with _ he
    subst he
    rfl
end
end FR
end
section
set_option Elab.async false
set_option linter.all false
set_option maxRecDepth 100000
namespace FR
open PySem L2 DI
/-! k03: scenes made, texts read -/
theorem try_rt {sub : Nat → Nat → Bool} {xs : List Nat} {j i : Nat} {F : LS → Out} {G : Ex → LS → Out} {st : LS} {d : D} (h : F st = .rt d) : tryS sub xs j i F G st = .rt d := by
  unfold tryS
  rw [h]
section
variable {n : Int} {ls : List (Int × Int)} {xs : List Int}
theorem made_ok (n0 : 0 ≤ n) (n2 : n ≤ 1000) (hl : xs.length ≤ 1000) (q : D) (hq : d_frozen 6 [q] = .ok (.tup (xs.map .int))) : d__law_made [webD n ls, .int n, .lst (xs.map .int), q] = .ok (.bl true) := by
  unfold d__law_made
  rcases good_or n0 xs with h | ⟨k, h⟩
  · have fa := fault_good n0 n2 hl h
    have sc := scene_body n ls xs q hq n0 n2 h.1 h.2
    have wd : D.ins 39 [webD n ls, .tup (xs.map .int)] = scnD (webD n ls) xs := rfl
    have is := scene_is n ls xs (.lst (xs.map .int)) (.inr rfl) (by omega)
    have nn : dIsN .non .non = some (.bl true) := rfl
    generalize hT : tryS _ _ _ _ _ _ = T
    simp -implicitDefEqProofs (disch := first | omega | (simp -implicitDefEqProofs; done) | (simp -implicitDefEqProofs; omega)) [-List.map_map, BT.sub, ev_denI, ev_stI, ev_slfS, ev_slfE, ev_st0n, ev_mod, ev_div, ev_mul, ev_pow, ev_line, ev_rng1, ev_rng2, ev_ar, ev_arI, rangeD_length, fa]
    subst hT
    rw [try_rt (d := .bl true) (by simp -implicitDefEqProofs (disch := first | omega | (simp -implicitDefEqProofs; done) | (simp -implicitDefEqProofs; omega)) [-List.map_map, BT.sub, ev_denI, ev_stI, ev_slfS, ev_slfE, ev_st0n, ev_mod, ev_div, ev_mul, ev_pow, ev_line, ev_rng1, ev_rng2, ev_ar, ev_arI, rangeD_length, sc, wd, nn, is])]
    rfl
  · have fa := fault_bad n0 n2 hl h
    have sc := scene_bad (ls := ls) n0 n2 hl q hq h
    have xf : ∀ st : LS, xfE xl_index (10, [.int (k : Int)]) st = .ok (.int (k : Int)) := fun _ => rfl
    have m6 : (10 : Nat) ∈ xsL := by decide
    have s6 : subC 10 10 = true := by decide
    have any7 : [XT.c 7].any (XT.sub subC 10) = false := by decide
    have any5 : [XT.c 5].any (XT.sub subC 10) = true := by decide
    have anyV : [XT.b "ValueError"].any (XT.sub subC 10) = true := by decide
    have x1 : ∀ st, xisE subC xsL [.c 7] (10, [.int (k : Int)]) st = .ok (.bl false) := fun st => (xis_ev (e := (10, [.int (k : Int)])) m6).trans (by rw [any7])
    have x2 : ∀ st, xisE subC xsL [.c 5] (10, [.int (k : Int)]) st = .ok (.bl true) := fun st => (xis_ev (e := (10, [.int (k : Int)])) m6).trans (by rw [any5])
    have x3 : ∀ st, xisE subC xsL [.b "ValueError"] (10, [.int (k : Int)]) st = .ok (.bl true) := fun st => (xis_ev (e := (10, [.int (k : Int)])) m6).trans (by rw [anyV])
    have w := whole_ok (k : Int)
    have nn : dIsN (.int (k : Int)) .non = some (.bl false) := rfl
    generalize hT : tryS _ _ _ _ _ _ = T
    simp -implicitDefEqProofs (disch := first | omega | (simp -implicitDefEqProofs; done) | (simp -implicitDefEqProofs; omega)) [-List.map_map, BT.sub, ev_denI, ev_stI, ev_slfS, ev_slfE, ev_st0n, ev_mod, ev_div, ev_mul, ev_pow, ev_line, ev_rng1, ev_rng2, ev_ar, ev_arI, rangeD_length, fa]
    subst hT
    rw [try_ex1 (e := (10, [.int (k : Int)])) (d := .bl true) (by simp -implicitDefEqProofs (disch := first | omega | (simp -implicitDefEqProofs; done) | (simp -implicitDefEqProofs; omega)) [-List.map_map, BT.sub, ev_denI, ev_stI, ev_slfS, ev_slfE, ev_st0n, ev_mod, ev_div, ev_mul, ev_pow, ev_line, ev_rng1, ev_rng2, ev_ar, ev_arI, rangeD_length, sc]; rfl) m6 s6 (by simp) (by simp -implicitDefEqProofs (disch := first | omega | (simp -implicitDefEqProofs; done) | (simp -implicitDefEqProofs; omega)) [-List.map_map, BT.sub, ev_denI, ev_stI, ev_slfS, ev_slfE, ev_st0n, ev_mod, ev_div, ev_mul, ev_pow, ev_line, ev_rng1, ev_rng2, ev_ar, ev_arI, rangeD_length, ev_if, x1, x2, x3, xf, w, nn])]
    rfl
/-- the signs of a text as states -/
def stsT (z : Str) : List Int := z.cps.toList.map fnd
theorem comp_fnd (z : Str) {g : D → LS → Option LS} {st : LS} {i : Nat} (hg : g = gN i) {o : R (List D)} (hi : i < st.length) (hC : compL g yesT (strmE dFind (cc (.str ".*o")) (vi i)) st (z.cps.toList.map sgn) = o) : o = .ok ((stsT z).map .int) := by
  subst hg
  exact comp (enc := sgn) hC D.int fnd fun c _ => ⟨st.set i (some (.im (sgn c))), rfl, rfl, by
    have : vi i (st.set i (some (.im (sgn c)))) = .ok (sgn c) := by
      unfold vi
      rw [List.getElem?_set_self hi]
      rfl
    unfold strmE
    show ((vi i (st.set i (some (.im (sgn c))))).bind fun e => R.of (dFind (.str ".*o") e)) = _
    rw [this]
    rfl⟩
theorem ptext_ok (h : GoodS n xs) (hl : xs.length ≤ 1000) : d_picture_text [scnD (webD n ls) xs] = .ok (.str (txt (xs.map sgC))) := by
  unfold d_picture_text
  have fp : dFld fl_picture (scnD (webD n ls) xs) = some (.tup (xs.map .int)) := rfl
  have x16 : xs.length ≤ 16777216 := by omega
  have hr : ∀ (fo fa : LS → R D) (st : LS), strmE dJoin fo fa st = (fo st).bind fun d => if isStr d = true then (fa st).bind fun e => .of (dJoin d e) else .bad := fun _ _ _ => rfl
  have is : isStr (.str "") = true := rfl
  simp -implicitDefEqProofs (disch := first | omega | (simp -implicitDefEqProofs; done) | (simp -implicitDefEqProofs; omega)) [-List.map_map, BT.sub, ev_denI, ev_stI, ev_slfS, ev_slfE, ev_st0n, ev_mod, ev_div, ev_mul, ev_pow, ev_line, ev_rng1, ev_rng2, ev_ar, ev_arI, rangeD_length, hr, is, fp, x16]
  generalize hC : compL _ _ _ _ _ = oc
  have qz := comp hC D.str (fun v => (⟨#[sgC v]⟩ : Str)) fun v m => ⟨_, rfl, rfl, by
    have hv := h.2 v m
    have vv : v = 0 ∨ v = 1 ∨ v = 2 := by omega
    have i0 : dIdx (.str ".*o") (.int 0) = some (.str ⟨#[46]⟩) := by rw [signs_eq]; rfl
    have i1 : dIdx (.str ".*o") (.int 1) = some (.str ⟨#[42]⟩) := by rw [signs_eq]; rfl
    have i2 : dIdx (.str ".*o") (.int 2) = some (.str ⟨#[111]⟩) := by rw [signs_eq]; rfl
    rcases vv with rfl | rfl | rfl
    · simp -implicitDefEqProofs (disch := first | omega | (simp -implicitDefEqProofs; done) | (simp -implicitDefEqProofs; omega)) [-List.map_map, BT.sub, ev_denI, ev_stI, ev_slfS, ev_slfE, ev_st0n, ev_mod, ev_div, ev_mul, ev_pow, ev_line, ev_rng1, ev_rng2, ev_ar, ev_arI, rangeD_length, i0]
      rfl
    · simp -implicitDefEqProofs (disch := first | omega | (simp -implicitDefEqProofs; done) | (simp -implicitDefEqProofs; omega)) [-List.map_map, BT.sub, ev_denI, ev_stI, ev_slfS, ev_slfE, ev_st0n, ev_mod, ev_div, ev_mul, ev_pow, ev_line, ev_rng1, ev_rng2, ev_ar, ev_arI, rangeD_length, i1]
      rfl
    · simp -implicitDefEqProofs (disch := first | omega | (simp -implicitDefEqProofs; done) | (simp -implicitDefEqProofs; omega)) [-List.map_map, BT.sub, ev_denI, ev_stI, ev_slfS, ev_slfE, ev_st0n, ev_mod, ev_div, ev_mul, ev_pow, ev_line, ev_rng1, ev_rng2, ev_ar, ev_arI, rangeD_length, i2]
      rfl⟩
  subst qz
  have jn : dJoin (.str "") (.lst ((xs.map fun v => (⟨#[sgC v]⟩ : Str)).map .str)) = some (.str (txt (xs.map sgC))) := by
    show (match strsOf ((xs.map fun v => (⟨#[sgC v]⟩ : Str)).map .str) with
      | some ys => if (ys.map (fun y : Str => y.length)).sum + ys.length * Str.length "" ≤ 16777216 then some (D.str (Txt.join "" ys)) else none
      | none => none) = _
    rw [strs_map]
    have e0 : Str.length "" = 0 := by decide +kernel
    have es : ∀ l : List Int, ((l.map fun v => (⟨#[sgC v]⟩ : Str)).map (fun y : Str => y.length)).sum = l.length := by
      intro l
      induction l with
      | nil => rfl
      | cons v l ih =>
        rw [List.map_cons, List.map_cons, List.sum_cons, ih, List.length_cons]
        show 1 + l.length = _
        omega
    show (if ((xs.map fun v => (⟨#[sgC v]⟩ : Str)).map (fun y : Str => y.length)).sum + (xs.map fun v => (⟨#[sgC v]⟩ : Str)).length * Str.length "" ≤ 16777216 then some (D.str (Txt.join "" (xs.map fun v => (⟨#[sgC v]⟩ : Str)))) else none) = _
    rw [es, e0, if_pos (by omega)]
    have := join_sg (xs.map sgC)
    rw [List.map_map] at this
    exact congrArg (fun z => some (D.str z)) this
  simp -implicitDefEqProofs (disch := first | omega | (simp -implicitDefEqProofs; done) | (simp -implicitDefEqProofs; omega)) [-List.map_map, BT.sub, ev_denI, ev_stI, ev_slfS, ev_slfE, ev_st0n, ev_mod, ev_div, ev_mul, ev_pow, ev_line, ev_rng1, ev_rng2, ev_ar, ev_arI, rangeD_length, jn]
theorem back_txt {z : Str} (h : Pic (stsT z)) : txt ((stsT z).map sgC) = z := by
  unfold txt stsT
  rw [List.map_map]
  have : z.cps.toList.map (sgC ∘ fnd) = z.cps.toList := by
    conv => rhs; rw [← List.map_id z.cps.toList]
    refine List.map_congr_left fun c m => ?_
    have := h (fnd c) (List.mem_map.mpr ⟨c, m, rfl⟩)
    exact (fnd_back this.1).1
  rw [this]
theorem ok_txt (xs : List Int) : PyData.strOk (txt (xs.map sgC)) = true := by
  unfold PyData.strOk txt
  rw [Array.all_eq_true]
  intro i hi
  have : ∀ v : Int, sgC v < 1114112 := fun v => by
    unfold sgC
    split
    · omega
    · split <;> omega
  simp [this]
theorem eq_txt (xs : List Int) : dEq (.str (txt (xs.map sgC))) (.str (txt (xs.map sgC))) = some (.bl true) := by
  rw [ev_eqN 1 (nb_str (ok_txt xs)) (nb_str (ok_txt xs)) (by omega)]
  simp
theorem ne_txt (xs : List Int) : dNe (.str (txt (xs.map sgC))) (.str (txt (xs.map sgC))) = some (.bl false) := by
  have := eq_txt xs
  unfold dEq at this
  unfold dNe
  cases q : dEqB (.str (txt (xs.map sgC))) (.str (txt (xs.map sgC))) with
  | none => rw [q] at this; cases this
  | some b =>
    rw [q] at this
    injection this with this
    injection this with this
    rw [this]
    rfl
theorem read_ok (n0 : 0 ≤ n) (n2 : n ≤ 1000) (z : Str) (hz : z.length ≤ 1000) : d__law_read [webD n ls, .int n, .str z] = .ok (.bl true) := by
  unfold d__law_read
  have sl : (stsT z).length = z.length := by unfold stsT; rw [List.length_map, Array.length_toList]; rfl
  have hl : (stsT z).length ≤ 1000 := by omega
  have si : sitemsD (.str z) = some (z.cps.toList.map sgn) := rfl
  have sil : (z.cps.toList.map sgn).length ≤ 16777216 := by
    rw [List.length_map, Array.length_toList]
    have : z.cps.size = z.length := rfl
    omega
  have zs16 : z.cps.size ≤ 16777216 := by
    have : z.cps.size = z.length := rfl
    omega
  have sit : ∀ (f : LS → R D) (st : LS), sitems f st = (f st).bind fun d => .of (sitemsD d) := fun _ _ => rfl
  have hf : ∀ (fo fa : LS → R D) (st : LS), strmE dFind fo fa st = (fo st).bind fun d => if isStr d = true then (fa st).bind fun e => .of (dFind d e) else .bad := fun _ _ _ => rfl
  have sot : d_scene_of_text [webD n ls, .str z] = (d_Scene___init__ [webD n ls, .lst ((stsT z).map .int)]).bind fun fs => .ok (.ins 39 fs) := by
    unfold d_scene_of_text
    simp -implicitDefEqProofs (disch := first | omega | (simp -implicitDefEqProofs; done) | (simp -implicitDefEqProofs; omega)) [-List.map_map, BT.sub, ev_denI, ev_stI, ev_slfS, ev_slfE, ev_st0n, ev_mod, ev_div, ev_mul, ev_pow, ev_line, ev_rng1, ev_rng2, ev_ar, ev_arI, rangeD_length, sit, si, sil, zs16]
    generalize hC : compL _ _ _ _ _ = oc
    have qz := comp_fnd z rfl (by simp) hC
    subst qz
    simp -implicitDefEqProofs (disch := first | omega | (simp -implicitDefEqProofs; done) | (simp -implicitDefEqProofs; omega)) [-List.map_map, BT.sub, ev_denI, ev_stI, ev_slfS, ev_slfE, ev_st0n, ev_mod, ev_div, ev_mul, ev_pow, ev_line, ev_rng1, ev_rng2, ev_ar, ev_arI, rangeD_length]
    cases d_Scene___init__ [webD n ls, .lst ((stsT z).map .int)] <;> rfl
  generalize hG : seqS (setS 5 _) _ = G
  simp -implicitDefEqProofs (disch := first | omega | (simp -implicitDefEqProofs; done) | (simp -implicitDefEqProofs; omega)) [-List.map_map, BT.sub, ev_denI, ev_stI, ev_slfS, ev_slfE, ev_st0n, ev_mod, ev_div, ev_mul, ev_pow, ev_line, ev_rng1, ev_rng2, ev_ar, ev_arI, rangeD_length, sit, si, sil, zs16]
  generalize hC : compL _ _ _ _ _ = oc
  have qz := comp_fnd z rfl (by simp) hC
  subst qz
  clear hC
  simp -implicitDefEqProofs (disch := first | omega | (simp -implicitDefEqProofs; done) | (simp -implicitDefEqProofs; omega)) [-List.map_map, BT.sub, ev_denI, ev_stI, ev_slfS, ev_slfE, ev_st0n, ev_mod, ev_div, ev_mul, ev_pow, ev_line, ev_rng1, ev_rng2, ev_ar, ev_arI, rangeD_length]
  subst hG
  generalize hxs : stsT z = xs at *
  rcases good_or n0 xs with h | ⟨k, h⟩
  · have fa := fault_good n0 n2 hl h
    have sc := scene_initL n ls xs n0 n2 h.1 h.2
    rw [sc] at sot
    have sot : d_scene_of_text [webD n ls, .str z] = .ok (scnD (webD n ls) xs) := sot
    have is := scene_is n ls xs (.lst (xs.map .int)) (.inr rfl) (by omega)
    have pt := ptext_ok (ls := ls) h hl
    have bk : txt (xs.map sgC) = z := by
      have := back_txt (z := z) (by rw [hxs]; exact h.2)
      rw [hxs] at this
      exact this
    rw [bk] at pt
    have nn : dIsN .non .non = some (.bl true) := rfl
    have eq : dEq (.str z) (.str z) = some (.bl true) := by
      have := eq_txt xs
      rw [bk] at this
      exact this
    generalize hT : tryS _ _ _ _ _ _ = T
    simp -implicitDefEqProofs (disch := first | omega | (simp -implicitDefEqProofs; done) | (simp -implicitDefEqProofs; omega)) [-List.map_map, BT.sub, ev_denI, ev_stI, ev_slfS, ev_slfE, ev_st0n, ev_mod, ev_div, ev_mul, ev_pow, ev_line, ev_rng1, ev_rng2, ev_ar, ev_arI, rangeD_length, fa]
    subst hT
    rw [try_rt (d := .bl true) (by simp -implicitDefEqProofs (disch := first | omega | (simp -implicitDefEqProofs; done) | (simp -implicitDefEqProofs; omega)) [-List.map_map, BT.sub, ev_denI, ev_stI, ev_slfS, ev_slfE, ev_st0n, ev_mod, ev_div, ev_mul, ev_pow, ev_line, ev_rng1, ev_rng2, ev_ar, ev_arI, rangeD_length, sot, nn, is, pt, eq])]
    rfl
  · have fa := fault_bad n0 n2 hl h
    have sc := scene_bad (ls := ls) n0 n2 hl (.lst (xs.map .int)) (frozen_ints 4 xs (by omega)) h
    rw [sc] at sot
    have sot : d_scene_of_text [webD n ls, .str z] = .ex (10, [.int (k : Int)]) := sot
    have xf : ∀ st : LS, xfE xl_index (10, [.int (k : Int)]) st = .ok (.int (k : Int)) := fun _ => rfl
    have m6 : (10 : Nat) ∈ xsL := by decide
    have s6 : subC 10 10 = true := by decide
    have w := whole_ok (k : Int)
    have nn : dNotN (.int (k : Int)) .non = some (.bl true) := rfl
    generalize hT : tryS _ _ _ _ _ _ = T
    simp -implicitDefEqProofs (disch := first | omega | (simp -implicitDefEqProofs; done) | (simp -implicitDefEqProofs; omega)) [-List.map_map, BT.sub, ev_denI, ev_stI, ev_slfS, ev_slfE, ev_st0n, ev_mod, ev_div, ev_mul, ev_pow, ev_line, ev_rng1, ev_rng2, ev_ar, ev_arI, rangeD_length, fa]
    subst hT
    rw [try_ex1 (e := (10, [.int (k : Int)])) (d := .bl true) (by simp -implicitDefEqProofs (disch := first | omega | (simp -implicitDefEqProofs; done) | (simp -implicitDefEqProofs; omega)) [-List.map_map, BT.sub, ev_denI, ev_stI, ev_slfS, ev_slfE, ev_st0n, ev_mod, ev_div, ev_mul, ev_pow, ev_line, ev_rng1, ev_rng2, ev_ar, ev_arI, rangeD_length, sot]; rfl) m6 s6 (by simp) (by simp -implicitDefEqProofs (disch := first | omega | (simp -implicitDefEqProofs; done) | (simp -implicitDefEqProofs; omega)) [-List.map_map, BT.sub, ev_denI, ev_stI, ev_slfS, ev_slfE, ev_st0n, ev_mod, ev_div, ev_mul, ev_pow, ev_line, ev_rng1, ev_rng2, ev_ar, ev_arI, rangeD_length, ev_if, xf, w, nn])]
    rfl
end
end FR
end
section
set_option Elab.async false
set_option linter.all false
set_option maxRecDepth 100000
namespace FR
open PySem L2 DI
/-! k03: the texts asked -/
theorem len_app (x y : Str) : (x ++ y).length = x.length + y.length := by
  show (x.cps ++ y.cps).size = _
  rw [Array.size_append]
  rfl
theorem add_str {x y : Str} (h : x.length + y.length ≤ 10000) : dAdd (.str x) (.str y) = some (.str (x ++ y)) := by
  show (if x.length + y.length ≤ sizeLine then some (D.str (x ++ y)) else none) = _
  rw [if_pos (by show x.length + y.length ≤ 16777216; omega)]
theorem sl_str {x : Str} (lo hi : Option Int) (h : x.length ≤ 10000) : dSl (.str x) lo hi = some (.str (cutS x lo hi)) := by
  show (if x.length ≤ sizeLine then some (D.str (cutS x lo hi)) else none) = _
  rw [if_pos (by show x.length ≤ 16777216; omega)]
theorem texts_ok (t s : Str) (k c : Int) (ht : t.length ≤ 100) (hs : s.length ≤ 100) : ∃ ts : List Str, d__law_texts [.str t, .str s, .int k, .int c] = .ok (.lst (ts.map .str)) ∧ ts.length = 8 ∧ ∀ z ∈ ts, z.length ≤ 1000 := by
  unfold d__law_texts
  have lo : Str.length "o" = 1 := by decide +kernel
  have l0 : Str.length "" = 0 := by decide +kernel
  have a1 := add_str (x := t) (y := s) (by omega)
  have a2 := add_str (x := t) (y := "o") (by omega)
  have n1 := len_app t s
  have n2 := len_app t "o"
  have b1 := sl_str (x := t ++ "o") none (some k) (by omega)
  have m1 := cutS_length (t ++ "o") none (some k)
  have b2 := sl_str (x := t) (some k) none (by omega)
  have m2 := cutS_length t (some k) none
  have b3 := sl_str (x := t) none (some c) (by omega)
  have m3 := cutS_length t none (some c)
  have b4 := sl_str (x := t) none (some k) (by omega)
  have m4 := cutS_length t none (some k)
  have b5 := sl_str (x := t) (some (k + 1)) none (by omega)
  have m5 := cutS_length t (some (k + 1)) none
  have b6 := sl_str (x := t) (some 1) (some c) (by omega)
  have m6 := cutS_length t (some 1) (some c)
  generalize cutS t (some k) none = p2 at *
  generalize cutS t none (some c) = p3 at *
  generalize cutS t none (some k) = p4 at *
  generalize cutS t (some (k + 1)) none = p5 at *
  generalize cutS t (some 1) (some c) = p6 at *
  generalize cutS (t ++ "o") none (some k) = p1 at *
  generalize t ++ "o" = tO at *
  generalize t ++ s = tS at *
  have a3 := add_str (x := p1) (y := s) (by omega)
  have n3 := len_app p1 s
  generalize p1 ++ s = u1 at *
  have a4 := add_str (x := u1) (y := p2) (by omega)
  have n4 := len_app u1 p2
  generalize u1 ++ p2 = u2 at *
  have a5 := add_str (x := p4) (y := s) (by omega)
  have n5 := len_app p4 s
  generalize p4 ++ s = u3 at *
  have a6 := add_str (x := u3) (y := p5) (by omega)
  have n6 := len_app u3 p5
  generalize u3 ++ p5 = u4 at *
  have b7 := sl_str (x := u4) none (some c) (by omega)
  have m7 := cutS_length u4 none (some c)
  generalize cutS u4 none (some c) = p7 at *
  have a7 := add_str (x := s) (y := p6) (by omega)
  have n7 := len_app s p6
  generalize s ++ p6 = u5 at *
  have a8 := add_str (x := u5) (y := s) (by omega)
  have n8 := len_app u5 s
  generalize u5 ++ s = u6 at *
  refine ⟨[t, tS, u2, p3, u4, p7, u6, ""], ?_, rfl, ?_⟩
  · simp -implicitDefEqProofs (disch := first | omega | (simp -implicitDefEqProofs; done) | (simp -implicitDefEqProofs; omega)) [-List.map_map, BT.sub, ev_denI, ev_stI, ev_slfS, ev_slfE, ev_st0n, ev_mod, ev_div, ev_mul, ev_pow, ev_line, ev_rng1, ev_rng2, ev_ar, ev_arI, rangeD_length, a1, a2, b1, b2, b3, b4, b5, b6, b7, a3, a4, a5, a6, a7, a8]
  · intro z m
    simp only [List.mem_cons, List.not_mem_nil, or_false] at m
    rcases m with rfl | rfl | rfl | rfl | rfl | rfl | rfl | rfl <;> omega
end FR
end
section
set_option Elab.async false
set_option linter.all false
set_option maxRecDepth 100000
namespace FR
open PySem L2 DI
/-! xs[j] = v for ints -/
theorem ev_setIS {i : Nat} {f : LS → R T} {g : LS → R D} {st : LS} {xs : List Int} {j v : Int} (h1 : st[i]? = some (some (tE D.int xs))) (h2 : f st = .ok (.im (.int v))) (h3 : g st = .ok (.int j)) (h4 : 0 ≤ j) (h5 : j < xs.length) :
    setIS i f g st = .nx (st.set i (some (tE D.int (xs.set j.toNat v)))) := by
  have e1 : ownL st[i]? = some (xs.map (T.im ∘ D.int)) := by rw [h1]; rfl
  have e2 : placeD (xs.map (T.im ∘ D.int)).length (.int j) = some j.toNat := by
    show ixN (xs.map (T.im ∘ D.int)).length j = _
    unfold ixN
    rw [if_pos h4, if_pos (by rw [List.length_map]; exact h5)]
  unfold setIS
  rw [e1]
  show (f st).out st _ = _
  rw [h2]
  show (g st).out st _ = _
  rw [h3]
  show (match placeD (xs.map (T.im ∘ D.int)).length (.int j) with
    | some j => Out.nx (st.set i (some (.lst ((xs.map (T.im ∘ D.int)).set j (.im (.int v))))))
    | none => .bad) = _
  rw [e2]
  unfold tE
  rw [List.map_set]
  rfl
end FR
end
section
set_option Elab.async false
set_option linter.all false
set_option maxRecDepth 100000
namespace FR
open PySem L2 DI
/-! k03: parts of the main -/
theorem noLs_map {α : Type} {enc : α → D} (h : ∀ x, D.noL (enc x) = true) : ∀ xs : List α, D.noLs (xs.map enc) = true
  | [] => by unfold D.noLs; rfl
  | x :: xs => by
    rw [List.map_cons]
    unfold D.noLs
    rw [h, noLs_map h xs]
    rfl
theorem noL_int (i : Int) : D.noL (.int i) = true := by unfold D.noL; rfl
theorem noL_ints (xs : List Int) : D.noL (.tup (xs.map .int)) = true := by
  unfold D.noL
  exact noLs_map noL_int xs
theorem noL_dP (p : Int × Int) : D.noL (dP p) = true := by
  unfold dP
  simp [D.noL, D.noLs]
theorem noL_web (n : Int) (ls : List (Int × Int)) : D.noL (webD n ls) = true := by
  unfold webD webF rowsT
  have h1 : D.noLs (ls.map dP) = true := noLs_map noL_dP ls
  have h2 : D.noLs ((arnd n ls).map fun r => .tup (r.map .int)) = true := noLs_map (fun r => noL_ints r) _
  simp [D.noL, D.noLs, h1, h2]
theorem noL_scn (n : Int) (ls : List (Int × Int)) (xs : List Int) : D.noL (scnD (webD n ls) xs) = true := by
  unfold scnD
  have h1 := noL_web n ls
  have h2 := noL_ints xs
  simp [D.noL, D.noLs, h1] at h2 ⊢
  exact h2
theorem lend_ev {i : Nat} {f : LS → R D} {st : LS} {X : List Int} {d : D} (h1 : st[i]? = some (some (tE D.int X))) (h2 : f (st.set i (some (.im (.lst (X.map .int))))) = .ok d) (h3 : D.noL d = true) : lendE i f st = .ok d := by
  unfold lendE
  have : lentL st[i]? = some (X.map .int) := by
    rw [h1]
    show imms ((X.map (T.im ∘ D.int))) = _
    rw [← List.map_map]
    exact ev_imms
  rw [this]
  show (f (st.set i (some (.im (.lst (X.map .int)))))).noL = _
  rw [h2]
  show (if D.noL d = true then R.ok d else .bad) = _
  rw [if_pos h3]
section
variable {n n' : Int} {ls ls' : List (Int × Int)} {xs ys : List Int}
theorem tupI_eq (xs ys : List Int) : dEq (.tup (xs.map .int)) (.tup (ys.map .int)) = some (.bl (decide (xs = ys))) := by
  rw [ev_eqN 2 (by simp) (by simp) (by omega)]
  have inj : ∀ {a b : List Int}, a.map D.int = b.map D.int → a = b := by
    intro a
    induction a with
    | nil => intro b h; cases b with
      | nil => rfl
      | cons y ys => simp at h
    | cons x xs ih => intro b h; cases b with
      | nil => simp at h
      | cons y ys =>
        rw [List.map_cons, List.map_cons] at h
        injection h with h1 h2
        injection h1 with h1
        rw [h1, ih h2]
  by_cases h : xs = ys
  · subst h
    simp
  · have t : ¬ (xs.map D.int = ys.map D.int) := fun z => h (inj z)
    simp [h, t]
theorem scene_eqG : d_Scene___eq__ [scnD (webD n ls) xs, scnD (webD n' ls') ys] = .ok (.bl (decide ((n = n' ∧ ls = ls') ∧ xs = ys))) := by
  unfold d_Scene___eq__ scnD
  have e1 : eqT 46 d_Web___eq__ (webD n ls) (webD n' ls') = .ok (.bl (decide (n = n' ∧ ls = ls'))) := web_eqG n n' ls ls'
  have e2 := tupI_eq xs ys
  by_cases c : n = n' ∧ ls = ls'
  · rw [decide_eq_true c] at e1
    have t : decide ((n = n' ∧ ls = ls') ∧ xs = ys) = decide (xs = ys) := decide_eq_decide.mpr ⟨fun z => z.2, fun z => ⟨c, z⟩⟩
    rw [t]
    simp -implicitDefEqProofs (disch := first | omega | (simp -implicitDefEqProofs; done) | (simp -implicitDefEqProofs; omega)) [-List.map_map, BT.sub, ev_denI, ev_stI, ev_slfS, ev_slfE, ev_st0n, ev_mod, ev_div, ev_mul, ev_pow, ev_line, ev_rng1, ev_rng2, ev_ar, ev_arI, rangeD_length, e1, e2]
  · rw [decide_eq_false c] at e1
    have t : decide ((n = n' ∧ ls = ls') ∧ xs = ys) = false := decide_eq_false fun z => c z.1
    rw [t]
    simp -implicitDefEqProofs (disch := first | omega | (simp -implicitDefEqProofs; done) | (simp -implicitDefEqProofs; omega)) [-List.map_map, BT.sub, ev_denI, ev_stI, ev_slfS, ev_slfE, ev_st0n, ev_mod, ev_div, ev_mul, ev_pow, ev_line, ev_rng1, ev_rng2, ev_ar, ev_arI, rangeD_length, e1]
theorem eqS : eqT 39 d_Scene___eq__ (scnD (webD n ls) xs) (scnD (webD n' ls') ys) = .ok (.bl (decide ((n = n' ∧ ls = ls') ∧ xs = ys))) := scene_eqG
theorem eqW : eqT 39 d_Scene___eq__ (scnD (webD n ls) xs) (webD n' ls') = .ok (.bl false) := by
  show d_Scene___eq__ [scnD (webD n ls) xs, webD n' ls'] = _
  unfold d_Scene___eq__
  have : ∀ ds, dIs subC [.c 39] (.ins 46 ds) = some (.bl false) := fun _ => rfl
  unfold webD
  simp -implicitDefEqProofs (disch := first | omega | (simp -implicitDefEqProofs; done) | (simp -implicitDefEqProofs; omega)) [-List.map_map, BT.sub, ev_denI, ev_stI, ev_slfS, ev_slfE, ev_st0n, ev_mod, ev_div, ev_mul, ev_pow, ev_line, ev_rng1, ev_rng2, ev_ar, ev_arI, rangeD_length, this]
theorem eqI (i : Int) : eqT 39 d_Scene___eq__ (scnD (webD n ls) xs) (.int i) = .ok (.bl false) := by
  show d_Scene___eq__ [scnD (webD n ls) xs, .int i] = _
  unfold d_Scene___eq__
  simp -implicitDefEqProofs (disch := first | omega | (simp -implicitDefEqProofs; done) | (simp -implicitDefEqProofs; omega)) [-List.map_map, BT.sub, ev_denI, ev_stI, ev_slfS, ev_slfE, ev_st0n, ev_mod, ev_div, ev_mul, ev_pow, ev_line, ev_rng1, ev_rng2, ev_ar, ev_arI, rangeD_length]
theorem eqP3 (ds : List D) : eqT 39 d_Scene___eq__ (scnD (webD n ls) xs) (.tup ds) = .ok (.bl false) := by
  show d_Scene___eq__ [scnD (webD n ls) xs, .tup ds] = _
  unfold d_Scene___eq__
  simp -implicitDefEqProofs (disch := first | omega | (simp -implicitDefEqProofs; done) | (simp -implicitDefEqProofs; omega)) [-List.map_map, BT.sub, ev_denI, ev_stI, ev_slfS, ev_slfE, ev_st0n, ev_mod, ev_div, ev_mul, ev_pow, ev_line, ev_rng1, ev_rng2, ev_ar, ev_arI, rangeD_length]
theorem told3 (b c : Bool) (h : b = c) : d__law_told [.bl b, .bl c] = .ok (.bl true) := by
  subst h
  unfold d__law_told
  have e1 : dEq (.bl true) (.bl true) = some (.bl true) := ev_eqR (by rfl)
  have e2 : dEq (.bl false) (.bl false) = some (.bl true) := ev_eqR (by rfl)
  have e3 : dNe (.bl true) (.bl false) = some (.bl true) := by rfl
  have e4 : dNe (.bl false) (.bl true) = some (.bl true) := by rfl
  have i1 : dIsBl (.bl true) (.bl true) = some (.bl true) := rfl
  have i2 : dIsBl (.bl true) (.bl false) = some (.bl false) := rfl
  have i3 : dIsBl (.bl false) (.bl true) = some (.bl false) := rfl
  have i4 : dIsBl (.bl false) (.bl false) = some (.bl true) := rfl
  cases b
  · simp -implicitDefEqProofs (disch := first | omega | (simp -implicitDefEqProofs; done) | (simp -implicitDefEqProofs; omega)) [-List.map_map, BT.sub, ev_denI, ev_stI, ev_slfS, ev_slfE, ev_st0n, ev_mod, ev_div, ev_mul, ev_pow, ev_line, ev_rng1, ev_rng2, ev_ar, ev_arI, rangeD_length, e1, e2, e3, e4, i1, i2, i3, i4]
  · simp -implicitDefEqProofs (disch := first | omega | (simp -implicitDefEqProofs; done) | (simp -implicitDefEqProofs; omega)) [-List.map_map, BT.sub, ev_denI, ev_stI, ev_slfS, ev_slfE, ev_st0n, ev_mod, ev_div, ev_mul, ev_pow, ev_line, ev_rng1, ev_rng2, ev_ar, ev_arI, rangeD_length, e1, e2, e3, e4, i1, i2, i3, i4]
theorem all_ready_ok (n0 : 0 ≤ n) (n2 : n ≤ 900) : d_all_ready [webD n ls] = .ok (scnD (webD n ls) (List.replicate n.toNat 0)) := by
  unfold d_all_ready
  have fs : dFld fl_size (webD n ls) = some (.int n) := rfl
  have mu : dMul (.lst [.int 0]) (.int n) = some (.lst ((List.replicate n.toNat (0 : Int)).map .int)) := by
    rw [ev_repL (by omega) (by omega) (by simp)]
    congr 2
    induction n.toNat with
    | zero => rfl
    | succ k ih => rw [List.replicate_succ, List.flatten_cons, ih, List.replicate_succ]; rfl
  have sc := scene_initL n ls (List.replicate n.toNat 0) n0 (by omega) (by simp) (fun x hx => by
    have := (List.mem_replicate.mp hx).2
    omega)
  have wd : D.ins 39 [webD n ls, .tup ((List.replicate n.toNat (0 : Int)).map .int)] = scnD (webD n ls) (List.replicate n.toNat 0) := rfl
  generalize hR : List.replicate n.toNat (0 : Int) = R at *
  simp -implicitDefEqProofs (disch := first | omega | (simp -implicitDefEqProofs; done) | (simp -implicitDefEqProofs; omega)) [-List.map_map, BT.sub, ev_denI, ev_stI, ev_slfS, ev_slfE, ev_st0n, ev_mod, ev_div, ev_mul, ev_pow, ev_line, ev_rng1, ev_rng2, ev_ar, ev_arI, rangeD_length, fs, mu, sc, wd]
theorem mirror_ok (n0 : 0 ≤ n) (n2 : n ≤ 1000) (h : GoodS n xs) : d_mirror [scnD (webD n ls) xs] = .ok (scnD (webD n ls) (xs.map fun s => -s % 3)) := by
  unfold d_mirror
  have fw : dFld fl_web (scnD (webD n ls) xs) = some (webD n ls) := rfl
  have fp : dFld fl_picture (scnD (webD n ls) xs) = some (.tup (xs.map .int)) := rfl
  have h1 := h.1
  have x16 : xs.length ≤ 16777216 := by omega
  have sc := scene_initL n ls (xs.map fun s => -s % 3) n0 n2 (by rw [List.length_map]; exact h.1) (fun x hx => by
    obtain ⟨s, _, rfl⟩ := List.mem_map.mp hx
    omega)
  have wd : D.ins 39 [webD n ls, .tup ((xs.map fun s => -s % 3).map .int)] = scnD (webD n ls) (xs.map fun s => -s % 3) := rfl
  simp -implicitDefEqProofs (disch := first | omega | (simp -implicitDefEqProofs; done) | (simp -implicitDefEqProofs; omega)) [-List.map_map, BT.sub, ev_denI, ev_stI, ev_slfS, ev_slfE, ev_st0n, ev_mod, ev_div, ev_mul, ev_pow, ev_line, ev_rng1, ev_rng2, ev_ar, ev_arI, rangeD_length, fw, fp, x16]
  generalize hC : compL _ _ _ _ _ = oc
  have qz := comp hC D.int (fun s => -s % 3) fun s m => ⟨_, rfl, rfl, by
    have md : dMod (.int (3 - s)) (.int 3) = some (.int (-s % 3)) := by
      rw [ev_mod (by omega)]
      congr 2
      omega
    simp -implicitDefEqProofs (disch := first | omega | (simp -implicitDefEqProofs; done) | (simp -implicitDefEqProofs; omega)) [-List.map_map, BT.sub, ev_denI, ev_stI, ev_slfS, ev_slfE, ev_st0n, ev_mod, ev_div, ev_mul, ev_pow, ev_line, ev_rng1, ev_rng2, ev_ar, ev_arI, rangeD_length, md]⟩
  subst qz
  generalize (xs.map fun s => -s % 3) = Y at *
  simp -implicitDefEqProofs (disch := first | omega | (simp -implicitDefEqProofs; done) | (simp -implicitDefEqProofs; omega)) [-List.map_map, BT.sub, ev_denI, ev_stI, ev_slfS, ev_slfE, ev_st0n, ev_mod, ev_div, ev_mul, ev_pow, ev_line, ev_rng1, ev_rng2, ev_ar, ev_arI, rangeD_length, sc, wd]
theorem turned_ok (n0 : 0 ≤ n) (n2 : n ≤ 1000) (h : GoodS n xs) (t : Int) : d_turned [scnD (webD n ls) xs, .int t] = .ok (scnD (webD n ls) (xs.map fun s => (s + t) % 3)) := by
  unfold d_turned
  have fw : dFld fl_web (scnD (webD n ls) xs) = some (webD n ls) := rfl
  have fp : dFld fl_picture (scnD (webD n ls) xs) = some (.tup (xs.map .int)) := rfl
  have h1 := h.1
  have x16 : xs.length ≤ 16777216 := by omega
  have sc := scene_initL n ls (xs.map fun s => (s + t) % 3) n0 n2 (by rw [List.length_map]; exact h.1) (fun x hx => by
    obtain ⟨s, _, rfl⟩ := List.mem_map.mp hx
    omega)
  have wd : D.ins 39 [webD n ls, .tup ((xs.map fun s => (s + t) % 3).map .int)] = scnD (webD n ls) (xs.map fun s => (s + t) % 3) := rfl
  simp -implicitDefEqProofs (disch := first | omega | (simp -implicitDefEqProofs; done) | (simp -implicitDefEqProofs; omega)) [-List.map_map, BT.sub, ev_denI, ev_stI, ev_slfS, ev_slfE, ev_st0n, ev_mod, ev_div, ev_mul, ev_pow, ev_line, ev_rng1, ev_rng2, ev_ar, ev_arI, rangeD_length, fw, fp, x16]
  generalize hC : compL _ _ _ _ _ = oc
  have qz := comp hC D.int (fun s => (s + t) % 3) fun s m => ⟨_, rfl, rfl, by
    have md : dMod (.int (s + t)) (.int 3) = some (.int ((s + t) % 3)) := ev_mod (by omega)
    simp -implicitDefEqProofs (disch := first | omega | (simp -implicitDefEqProofs; done) | (simp -implicitDefEqProofs; omega)) [-List.map_map, BT.sub, ev_denI, ev_stI, ev_slfS, ev_slfE, ev_st0n, ev_mod, ev_div, ev_mul, ev_pow, ev_line, ev_rng1, ev_rng2, ev_ar, ev_arI, rangeD_length, md]⟩
  subst qz
  generalize (xs.map fun s => (s + t) % 3) = Y at *
  simp -implicitDefEqProofs (disch := first | omega | (simp -implicitDefEqProofs; done) | (simp -implicitDefEqProofs; omega)) [-List.map_map, BT.sub, ev_denI, ev_stI, ev_slfS, ev_slfE, ev_st0n, ev_mod, ev_div, ev_mul, ev_pow, ev_line, ev_rng1, ev_rng2, ev_ar, ev_arI, rangeD_length, sc, wd]
end
end FR
end
section
set_option Elab.async false
set_option linter.all false
set_option maxRecDepth 100000
namespace FR
open PySem L2 DI
theorem lines0 : Lines 0 [] := ⟨fun _ m => (nomatch m), List.Pairwise.nil⟩
end FR
end
section
set_option Elab.async false
set_option linter.all false
set_option maxRecDepth 100000
namespace FR
open PySem L2 DI
/-! slices -/
theorem cutL_map {α β : Type} (f : α → β) (xs : List α) (lo hi : Option Int) : cutL (xs.map f) lo hi = (cutL xs lo hi).map f := by
  unfold cutL
  rw [List.length_map, List.map_take, List.map_drop]
theorem cutL_len {α : Type} (xs : List α) (lo hi : Option Int) : (cutL xs lo hi).length ≤ xs.length := by
  unfold cutL
  rw [List.length_take, List.length_drop]
  omega
end FR
end
section
set_option Elab.async false
set_option linter.all false
set_option maxRecDepth 100000
namespace FR
open PySem L2 DI
/-! l.index(x) for ints -/
theorem ints_sh (xs : List Int) : (D.lst (xs.map .int)).sh = some (.list (xs.map .int)) := by
  obtain ⟨p, y, e2⟩ := sh_plain (n := 1) (d := .lst (xs.map .int)) (by unfold D.plain; exact ints_plain xs) (by omega)
  unfold D.py at y
  rw [pys_ints] at y
  cases y
  exact e2
end FR
end
section
set_option Elab.async false
set_option linter.all false
set_option maxRecDepth 100000
namespace FR
open PySem L2 DI
/-! k03: the last comparisons -/
def tailS : LS → Out := (seqS (ifS (orB (tb (DI.bin dNotBl (op2R (eqT 39 d_Scene___eq__) (vi 8) (makeU 39 (arI 2 d_Scene___init__) [] (consA (vi 6) (consA (callE dTuple (consA (vi 4) (nilA))) (nilA))))) (cc (.bl true)))) (tb (DI.bin dNotBl (op2R (eqT 39 d_Scene___eq__) (vi 8) (vi 6)) (cc (.bl false)))))
  (retS (cc (.bl false)))
  (nilS))
  (seqS (setS 16 (makeU 39 (arI 2 d_Scene___init__) [] (consA (vi 6) (consA (compE (callI rng1 (consA (vi 3) (nilA))) [15] (gN 15) (yesT) (DI.bin dMod (callE dToInt (consA (DI.bin dAdd (DI.bin dIdx (vi 4) (vi 15)) (callE dToInt (consA (DI.bin dEq (vi 15) (DI.bin dIdx (vi 2) (cc (.int 3)))) (nilA)))) (nilA))) (cc (.int 3)))) (nilA)))))
  (seqS (ifS (orB (notB (tb (callU (ar 2 d__law_told) [] (consA (op2R (eqT 39 d_Scene___eq__) (vi 8) (vi 16)) (consA (DI.bin dGe (DI.bin dIdx (vi 2) (cc (.int 3))) (vi 3)) (nilA)))))) (notB (tb (callU (ar 2 d__law_told) [] (consA (op2R (eqT 39 d_Scene___eq__) (vi 16) (vi 8)) (consA (DI.bin dGe (DI.bin dIdx (vi 2) (cc (.int 3))) (vi 3)) (nilA)))))))
  (retS (cc (.bl false)))
  (nilS))
  (seqS (ifS (notB (tb (callU (ar 2 d__law_told) [] (consA (op2R (eqT 39 d_Scene___eq__) (vi 8) (makeU 39 (arI 2 d_Scene___init__) [] (consA (makeU 46 (arI 2 d_Web___init__) [.tup []] (consA (vi 3) (nilA))) (consA (vi 4) (nilA))))) (consA (DI.bin dEq (callE dLen (consA (vi 5) (nilA))) (cc (.int 0))) (nilA))))))
  (retS (cc (.bl false)))
  (nilS))
  (seqS (ifS (notB (tb (callU (ar 2 d__law_told) [] (consA (op2R (eqT 39 d_Scene___eq__) (makeU 39 (arI 2 d_Scene___init__) [] (consA (makeU 46 (arI 2 d_Web___init__) [] (consA (vi 3) (consA (slE (vi 5) (partI (cc (.int 1))) (partN)) (nilA)))) (consA (vi 4) (nilA)))) (vi 8)) (consA (DI.bin dEq (callE dLen (consA (vi 5) (nilA))) (cc (.int 0))) (nilA))))))
  (retS (cc (.bl false)))
  (nilS))
  (retS (andE (DI.bin dIsBl (op2R (eqT 39 d_Scene___eq__) (vi 8) (cc (.int 0))) (cc (.bl false))) (andE (DI.bin dIsBl (op2R (eqT 39 d_Scene___eq__) (vi 8) (callE dTuple (consA (vi 4) (nilA)))) (cc (.bl false))) (callU (ar 3 d__law_is_scene) [] (consA (vi 8) (consA (vi 6) (consA (vi 4) (nilA)))))))))))))
theorem web_body_nil (n : Int) (hn : 0 ≤ n) (hn2 : n ≤ 900) : d_Web___init__ [.int n, .tup []] = .ok (webF n []) := by
  unfold d_Web___init__
  have e1 : d_frozen 6 [.tup []] = .ok (.tup []) := frozen_tup (enc := dP) (enc2 := dP) 5 [] (fun p m => nomatch m) (by simp)
  have e2 : d_checked_lines [.int n, .tup []] = .ok (.tup []) := checked_ok n [] ⟨fun _ m => (nomatch m), List.Pairwise.nil⟩ (by simp)
  have e3 : d_neighbour_rows [.int n, .tup []] = .ok (rowsT (arnd n [])) := rows_ok n [] hn (by omega) ⟨fun _ m => (nomatch m), List.Pairwise.nil⟩ (by simp)
  simp -implicitDefEqProofs (disch := first | omega | (simp -implicitDefEqProofs; done) | (simp -implicitDefEqProofs; omega)) [-List.map_map, BT.sub, ev_denI, ev_stI, ev_slfS, ev_slfE, ev_st0n, ev_mod, ev_div, ev_mul, ev_pow, ev_line, ev_rng1, ev_rng2, ev_ar, ev_arI, rangeD_length, e1, e2, e3]
  rfl
theorem tail_ok (N t3 : Int) (X : List Int) (LS : List (Int × Int)) (j0 j1 : Option DI.T) (row : List Int) (a7 j9 a10 a11 a12 a13 a14 : Option DI.T) (N0 : 0 ≤ N) (N7 : N ≤ 7) (hL : Lines N LS) (hLl : LS.length ≤ 49) (hX : GoodS N X) (h3 : 0 ≤ t3) (c3 : dIdx (.lst (row.map D.int)) (.int 3) = some (.int t3)) :
    (tailS [j0, j1, some (.im (.lst (row.map .int))), some (.im (.int N)), some (.im (.lst (X.map .int))), some (.im (.lst (LS.map dP))), some (.im (webD N LS)), a7, some (.im (scnD (webD N LS) X)), j9, a10, a11, a12, a13, a14, none, none]).end = .ok (.bl true) := by
  have hX1 := hX.1
  have X16 : X.length ≤ 16777216 := by omega
  have N16 : N ≤ 16777216 := by omega
  have wdW : ∀ L : List (Int × Int), D.ins 46 (webF N L) = webD N L := fun _ => rfl
  have scT := scene_init N LS X N0 (by omega) hX1 hX.2
  have scL := fun L : List (Int × Int) => scene_initL N L X N0 (by omega) hX1 hX.2
  have wd : ∀ (L : List (Int × Int)) (Y : List Int), D.ins 39 [webD N L, .tup (Y.map .int)] = scnD (webD N L) Y := fun _ _ => rfl
  have e1 := eqS (n := N) (n' := N) (ls := LS) (ls' := LS) (xs := X) (ys := X)
  rw [decide_eq_true ⟨⟨rfl, rfl⟩, rfl⟩] at e1
  have e2 := eqW (n := N) (n' := N) (ls := LS) (ls' := LS) (xs := X)
  have b1 : dNotBl (.bl true) (.bl true) = some (.bl false) := rfl
  have b2 : dNotBl (.bl false) (.bl false) = some (.bl false) := rfl
  have b3 : dIsBl (.bl false) (.bl false) = some (.bl true) := rfl
  have ei := eqI (n := N) (ls := LS) (xs := X) 0
  have ep := eqP3 (n := N) (ls := LS) (xs := X) (X.map .int)
  have is1 := scene_is N LS X (.lst (X.map .int)) (.inr rfl) (by omega)
  -- the other picture
  obtain ⟨Y, hY⟩ : ∃ Y, Y = (List.range N.toNat).map fun k : Nat => (nI X (k : Int) + if (k : Int) = t3 then 1 else 0) % 3 := ⟨_, rfl⟩
  have lY : Y.length = N.toNat := by rw [hY]; simp
  have pY : Pic Y := fun x hx => by
    rw [hY] at hx
    obtain ⟨k, _, rfl⟩ := List.mem_map.mp hx
    omega
  have scY := scene_initL N LS Y N0 (by omega) lY pY
  have XY : X = Y ↔ N ≤ t3 := by
    constructor
    · intro e
      apply Classical.byContradiction
      intro c
      have kl : t3.toNat < X.length := by omega
      have g : nI X t3 = nI Y t3 := by rw [← e]
      have g2 : nI Y t3 = (nI X t3 + 1) % 3 := by
        have := nI_nat (xs := Y) (i := t3.toNat) (by omega)
        rw [show ((t3.toNat : Nat) : Int) = t3 by omega] at this
        rw [this]
        simp only [hY, List.getElem_map, List.getElem_range]
        rw [show ((t3.toNat : Nat) : Int) = t3 by omega, if_pos rfl]
      have := hX.2 (nI X t3) (nI_mem (by omega) (by omega))
      omega
    · intro c
      rw [hY]
      refine List.ext_getElem (by simp [hX1]) fun k h1 h2 => ?_
      have kN : (k : Int) < N := by omega
      simp only [List.getElem_map, List.getElem_range]
      rw [if_neg (by omega), nI_nat h1]
      have := hX.2 X[k] (List.getElem_mem h1)
      omega
  have eXY := eqS (n := N) (n' := N) (ls := LS) (ls' := LS) (xs := X) (ys := Y)
  have eYX := eqS (n := N) (n' := N) (ls := LS) (ls' := LS) (xs := Y) (ys := X)
  have t1 := told3 (decide ((N = N ∧ LS = LS) ∧ X = Y)) (decide (N ≤ t3)) (decide_eq_decide.mpr ⟨fun z => XY.mp z.2, fun z => ⟨⟨rfl, rfl⟩, XY.mpr z⟩⟩)
  have t2 := told3 (decide ((N = N ∧ LS = LS) ∧ Y = X)) (decide (N ≤ t3)) (decide_eq_decide.mpr ⟨fun z => XY.mp z.2.symm, fun z => ⟨⟨rfl, rfl⟩, (XY.mpr z).symm⟩⟩)
  generalize decide ((N = N ∧ LS = LS) ∧ X = Y) = q1 at *
  generalize decide ((N = N ∧ LS = LS) ∧ Y = X) = q2 at *
  -- webs with fewer lines
  have w0 : d_Web___init__ [.int N, .tup []] = .ok (webF N []) := web_body_nil N N0 (by omega)
  have cut := cutL_map dP LS (some 1) none
  have s1 : dSl (.lst (LS.map dP)) (some 1) none = some (.lst ((LS.drop 1).map dP)) := by
    show some (D.lst (cutL (LS.map dP) (some 1) none)) = _
    rw [cut]
    have : cutL LS (some 1) none = LS.drop 1 := by
      cases LS with
      | nil => rfl
      | cons p l =>
        unfold cutL HT.sIx
        simp
    rw [this]
  have hL1 : Lines N (LS.drop 1) := ⟨fun p m => hL.ok p (List.mem_of_mem_drop m), hL.up.sublist (List.drop_sublist 1 LS)⟩
  have w1 := web_init N (LS.drop 1) N0 (by omega) hL1 (by rw [List.length_drop]; omega)
  have eA := eqS (n := N) (n' := N) (ls := LS) (ls' := []) (xs := X) (ys := X)
  have eB := eqS (n := N) (n' := N) (ls := LS.drop 1) (ls' := LS) (xs := X) (ys := X)
  have lL : dLen [.lst (LS.map dP)] = some (.int (LS.length : Int)) := by rw [ev_lenL, List.length_map]
  have t4 := told3 (decide ((N = N ∧ LS = []) ∧ X = X)) (decide (LS = [])) (decide_eq_decide.mpr ⟨fun z => z.1.2, fun z => ⟨⟨rfl, z⟩, rfl⟩⟩)
  have t5 := told3 (decide ((N = N ∧ LS.drop 1 = LS) ∧ X = X)) (decide (LS = [])) (decide_eq_decide.mpr ⟨fun z => by
    have := congrArg List.length z.1.2
    rw [List.length_drop] at this
    exact List.length_eq_zero_iff.mp (by omega), fun z => by
    subst z
    exact ⟨⟨rfl, rfl⟩, rfl⟩⟩)
  generalize decide ((N = N ∧ LS = []) ∧ X = X) = q3 at *
  generalize decide ((N = N ∧ LS.drop 1 = LS) ∧ X = X) = q4 at *
  generalize LS.drop 1 = LS1 at *
  have sc0 := scL []
  have sc1 := scL LS1
  have scX := scL LS
  clear scL
  unfold tailS
  generalize hG : seqS (ifS (notB (tb (callU (DI.ar 2 d__law_told) _ (consA (op2R (eqT 39 d_Scene___eq__) (vi 8) (makeU 39 _ _ _)) _)))) _ _) _ = G
  simp -implicitDefEqProofs (disch := first | omega | (simp -implicitDefEqProofs; done) | (simp -implicitDefEqProofs; omega)) [-List.map_map, BT.sub, ev_denI, ev_stI, ev_slfS, ev_slfE, ev_st0n, ev_mod, ev_div, ev_mul, ev_pow, ev_line, ev_rng1, ev_rng2, ev_ar, ev_arI, rangeD_length, ev_if, X16, scT, wd, e1, e2, b1, b2, N16]
  generalize hC : compL _ _ _ _ _ = oc
  have qz := comp (α := Nat) hC D.int (fun k : Nat => (nI X (k : Int) + if (k : Int) = t3 then 1 else 0) % 3) fun k hk => ⟨_, rfl, rfl, by
    have hk := List.mem_range.mp hk
    have ix : dIdx (.lst (X.map .int)) (.int (k : Int)) = some (.int (nI X (k : Int))) := ev_idxI (by omega) (by omega)
    have m1 : dMod (.int (nI X (k : Int) + 1)) (.int 3) = some (.int ((nI X (k : Int) + 1) % 3)) := ev_mod (by omega)
    have m0 : dMod (.int (nI X (k : Int) + 0)) (.int 3) = some (.int ((nI X (k : Int) + 0) % 3)) := ev_mod (by omega)
    have m00 : dMod (.int (nI X (k : Int))) (.int 3) = some (.int (nI X (k : Int) % 3)) := ev_mod (by omega)
    by_cases c : (k : Int) = t3
    · rw [c] at ix m1
      simp -implicitDefEqProofs (disch := first | omega | (simp -implicitDefEqProofs; done) | (simp -implicitDefEqProofs; omega)) [-List.map_map, BT.sub, ev_denI, ev_stI, ev_slfS, ev_slfE, ev_st0n, ev_mod, ev_div, ev_mul, ev_pow, ev_line, ev_rng1, ev_rng2, ev_ar, ev_arI, rangeD_length, ix, c3, c, m1]
    · simp -implicitDefEqProofs (disch := first | omega | (simp -implicitDefEqProofs; done) | (simp -implicitDefEqProofs; omega)) [-List.map_map, BT.sub, ev_denI, ev_stI, ev_slfS, ev_slfE, ev_st0n, ev_mod, ev_div, ev_mul, ev_pow, ev_line, ev_rng1, ev_rng2, ev_ar, ev_arI, rangeD_length, ix, c3, c, m0, m00]⟩
  rw [← hY] at qz
  subst qz
  clear hC
  simp -implicitDefEqProofs (disch := first | omega | (simp -implicitDefEqProofs; done) | (simp -implicitDefEqProofs; omega)) [-List.map_map, BT.sub, ev_denI, ev_stI, ev_slfS, ev_slfE, ev_st0n, ev_mod, ev_div, ev_mul, ev_pow, ev_line, ev_rng1, ev_rng2, ev_ar, ev_arI, rangeD_length, scY, wd, eXY, eYX, c3, t1, t2, ev_if]
  subst hG
  simp -implicitDefEqProofs (disch := first | omega | (simp -implicitDefEqProofs; done) | (simp -implicitDefEqProofs; omega)) [-List.map_map, BT.sub, ev_denI, ev_stI, ev_slfS, ev_slfE, ev_st0n, ev_mod, ev_div, ev_mul, ev_pow, ev_line, ev_rng1, ev_rng2, ev_ar, ev_arI, rangeD_length, ev_if, w0, wdW, sc0, wd, eA, lL, t4, s1, w1, sc1, eB, t5, ei, ep, b3, is1, X16]
end FR
end
section
set_option Elab.async false
set_option linter.all false
set_option maxRecDepth 100000
namespace FR
open PySem L2 DI
/-! main of k03 -/
def sz3 : List Int := [8, 9, 9, 8, 19, 8, 3, 1000000000000000000000000000000, 8, 9]
theorem join_ev {xs : List Int} (hl : xs.length ≤ 1000) : dJoin (.str "") (.lst ((xs.map fun v => (⟨#[sgC v]⟩ : Str)).map .str)) = some (.str (txt (xs.map sgC))) := by
  show (match strsOf ((xs.map fun v => (⟨#[sgC v]⟩ : Str)).map .str) with
    | some ys => if (ys.map (fun y : Str => y.length)).sum + ys.length * Str.length "" ≤ 16777216 then some (D.str (Txt.join "" ys)) else none
    | none => none) = _
  rw [strs_map]
  have e0 : Str.length "" = 0 := by decide +kernel
  have es : ∀ l : List Int, ((l.map fun v => (⟨#[sgC v]⟩ : Str)).map (fun y : Str => y.length)).sum = l.length := by
    intro l
    induction l with
    | nil => rfl
    | cons v l ih =>
      rw [List.map_cons, List.map_cons, List.sum_cons, ih, List.length_cons]
      show 1 + l.length = _
      omega
  show (if ((xs.map fun v => (⟨#[sgC v]⟩ : Str)).map (fun y : Str => y.length)).sum + (xs.map fun v => (⟨#[sgC v]⟩ : Str)).length * Str.length "" ≤ 16777216 then some (D.str (Txt.join "" (xs.map fun v => (⟨#[sgC v]⟩ : Str)))) else none) = _
  rw [es, e0, if_pos (by omega)]
  have := join_sg (xs.map sgC)
  rw [List.map_map] at this
  exact congrArg (fun z => some (D.str z)) this
set_option maxHeartbeats 16000000 in
theorem main : ∀ ns : List Int, ns.length ≤ 63 → (∀ z ∈ ns, Builtin.Int.intBits z ≤ 1048576) → d_law [.scr (ns.map D.int)] = .ok (.bl true) := by
  intro ns _ _
  unfold d_law
  obtain ⟨n, ls, pic, s1, n1, n7, _, hl, few, p1, p2⟩ := scene_ok ns 0 7 (by omega) (by omega) (by omega) (by omega)
  obtain ⟨z2, hz2⟩ := cell_ok ns 2 (by omega) (by omega)
  obtain ⟨row, hr, hd⟩ := digits_ok z2 sz3 (by decide) (by decide)
  have hr : d__law_digits [.int z2, .lst [.int 8, .int 9, .int 9, .int 8, .int 19, .int 8, .int 3, .int 1000000000000000000000000000000, .int 8, .int 9]] = .ok (.lst (row.map D.int)) := hr
  have lrow : row.length = 10 := hd.1
  have r0 : 0 ≤ nI row 0 ∧ nI row 0 < 8 := hd.gi (i := 0) (by omega) (by decide)
  have r1 : 0 ≤ nI row 1 ∧ nI row 1 < 9 := hd.gi (i := 1) (by omega) (by decide)
  have r2 : 0 ≤ nI row 2 ∧ nI row 2 < 9 := hd.gi (i := 2) (by omega) (by decide)
  have r3 : 0 ≤ nI row 3 ∧ nI row 3 < 8 := hd.gi (i := 3) (by omega) (by decide)
  have r4 : 0 ≤ nI row 4 ∧ nI row 4 < 19 := hd.gi (i := 4) (by omega) (by decide)
  have r5 : 0 ≤ nI row 5 ∧ nI row 5 < 8 := hd.gi (i := 5) (by omega) (by decide)
  have r6 : 0 ≤ nI row 6 ∧ nI row 6 < 3 := hd.gi (i := 6) (by omega) (by decide)
  have r7 : 0 ≤ nI row 7 ∧ nI row 7 < 1000000000000000000000000000000 := hd.gi (i := 7) (by omega) (by decide)
  have r8 : 0 ≤ nI row 8 ∧ nI row 8 < 8 := hd.gi (i := 8) (by omega) (by decide)
  have r9 : 0 ≤ nI row 9 ∧ nI row 9 < 9 := hd.gi (i := 9) (by omega) (by decide)
  have e0 : ∀ i : Int, 0 ≤ i → i < 10 → dIdx (.lst (row.map D.int)) (.int i) = some (.int (nI row i)) := fun i a b => ev_idxI a (by omega)
  have c0 := e0 0 (by omega) (by omega)
  have c1 := e0 1 (by omega) (by omega)
  have c2 := e0 2 (by omega) (by omega)
  have c3 := e0 3 (by omega) (by omega)
  have c4 := e0 4 (by omega) (by omega)
  have c5 := e0 5 (by omega) (by omega)
  have c6 := e0 6 (by omega) (by omega)
  have c7 := e0 7 (by omega) (by omega)
  have c8 := e0 8 (by omega) (by omega)
  have c9 := e0 9 (by omega) (by omega)
  generalize nI row 0 = t0 at *
  generalize nI row 1 = t1 at *
  generalize nI row 2 = t2 at *
  generalize nI row 3 = t3 at *
  generalize nI row 4 = t4 at *
  generalize nI row 5 = t5 at *
  generalize nI row 6 = t6 at *
  generalize nI row 7 = t7 at *
  generalize nI row 8 = t8 at *
  generalize nI row 9 = t9 at *
  have pw : dPow (.int 10) (.int 30) = some (.int 1000000000000000000000000000000) := by rfl
  have i0 : dIdx (.lst [.int n, .lst (ls.map dP), .tup (pic.map .int)]) (.int 0) = some (.int n) := rfl
  have i1 : dIdx (.lst [.int n, .lst (ls.map dP), .tup (pic.map .int)]) (.int 1) = some (.lst (ls.map dP)) := rfl
  have i2 : dIdx (.lst [.int n, .lst (ls.map dP), .tup (pic.map .int)]) (.int 2) = some (.tup (pic.map .int)) := rfl
  generalize D.lst [.int n, .lst (ls.map dP), .tup (pic.map .int)] = sd at *
  generalize hG : seqS (setS 6 _) _ = G
  have key : ∀ (N : Int) (X : List Int) (LS : List (Int × Int)), 0 ≤ N → N ≤ 7 → Lines N LS → LS.length ≤ 49 → GoodS N X → (G [some (.im (.scr (ns.map .int))), some (.im sd), some (.im (.lst (row.map .int))), some (.im (.int N)), some (.im (.lst (X.map .int))), some (.im (.lst (LS.map dP))), none, none, none, none, none, none, none, none, none, none, none]).end = .ok (.bl true) := by
    intro N X LS N0 N7 hL hLl hX
    subst hG
    have hX1 := hX.1
    have X16 : X.length ≤ 16777216 := by omega
    have X16b : X.length < 16777216 := by omega
    have web := web_init N LS N0 (by omega) hL (by omega)
    have wdW : D.ins 46 (webF N LS) = webD N LS := rfl
    have scX := scene_initL N LS X N0 (by omega) hX1 hX.2
    have wd : D.ins 39 [webD N LS, .tup (X.map .int)] = scnD (webD N LS) X := rfl
    have neL : ∀ Y : List Int, dNe (.lst (Y.map .int)) (.lst (Y.map .int)) = some (.bl false) := fun Y => ev_neR (by rw [ints_sh]; rfl)
    have neX := neL X
    have is1 := scene_is N LS X (.lst (X.map .int)) (.inr rfl) (by omega)
    have arD := all_ready_ok (ls := LS) N0 (by omega)
    have rz : X.map (fun _ => (0 : Int)) = List.replicate N.toNat 0 := by rw [List.map_const', hX1]
    have is2 := scene_is N LS (List.replicate N.toNat 0) (.lst ((List.replicate N.toNat (0 : Int)).map .int)) (.inr rfl) (by simp; omega)
    generalize hRR : List.replicate N.toNat (0 : Int) = RR at *
    have ldX : dListF [.lst (X.map .int)] = some (X.map .int) := rfl
    have ld : lendE 7 (makeU 39 (arI 2 d_Scene___init__) [] (consA (vi 6) (consA (vi 7) nilA))) [some (.im (.scr (ns.map .int))), some (.im sd), some (.im (.lst (row.map .int))), some (.im (.int N)), some (.im (.lst (X.map .int))), some (.im (.lst (LS.map dP))), some (.im (webD N LS)), some (tE D.int X), none, none, none, none, none, none, none, none, none] = .ok (scnD (webD N LS) X) := lend_ev rfl (by simp -implicitDefEqProofs (disch := first | omega | (simp -implicitDefEqProofs; done) | (simp -implicitDefEqProofs; omega)) [-List.map_map, BT.sub, ev_denI, ev_stI, ev_slfS, ev_slfE, ev_st0n, ev_mod, ev_div, ev_mul, ev_pow, ev_line, ev_rng1, ev_rng2, ev_ar, ev_arI, rangeD_length, scX, wd]) (noL_scn N LS X)
    generalize hG2 : seqS (frzS 10 (ifS _ _ _)) _ = G2
    have key2 : ∀ S : List Int, S.length ≤ 100 → (G2 [some (.im (.scr (ns.map .int))), some (.im sd), some (.im (.lst (row.map .int))), some (.im (.int N)), some (.im (.lst (X.map .int))), some (.im (.lst (LS.map dP))), some (.im (webD N LS)), some (tE D.int (X ++ [1])), some (.im (scnD (webD N LS) X)), none, some (tE D.int S), none, none, none, none, none, none]).end = .ok (.bl true) := by
      intro S hS
      subst hG2
      have ldS : dListF [.lst (S.map .int)] = some (S.map .int) := rfl
      have mkL := made_ok (ls := LS) N0 (by omega) (show S.length ≤ 1000 by omega) (.lst (S.map .int)) (frozen_ints 4 S (by omega))
      have mkT := made_ok (ls := LS) N0 (by omega) (show S.length ≤ 1000 by omega) (.tup (S.map .int)) (frozen_intsT 4 S (by omega))
      have S16 : S.length ≤ 16777216 := by omega
      have mi := mirror_ok (ls := LS) N0 (by omega) hX
      have tu := fun t => turned_ok (ls := LS) N0 (show N ≤ 1000 by omega) hX t
      have xv : ∀ s ∈ X, s = 0 ∨ s = 1 ∨ s = 2 := fun s m => by have := hX.2 s m; omega
      generalize hG3 : seqS (forS (items (lstE _)) _ _) _ = G3
      simp -implicitDefEqProofs (disch := first | omega | (simp -implicitDefEqProofs; done) | (simp -implicitDefEqProofs; omega)) [-List.map_map, BT.sub, ev_denI, ev_stI, ev_slfS, ev_slfE, ev_st0n, ev_mod, ev_div, ev_mul, ev_pow, ev_line, ev_rng1, ev_rng2, ev_ar, ev_arI, rangeD_length, ev_if, ldS, mkL, mkT, S16, mi, X16]
      generalize hC : compL _ _ _ _ _ = oc
      have qz := comp hC D.int (fun s => -s % 3) fun s m => ⟨_, rfl, rfl, by
        have j0 : dIdx (.lst [.int 0, .int 2, .int 1]) (.int 0) = some (.int 0) := rfl
        have j1 : dIdx (.lst [.int 0, .int 2, .int 1]) (.int 1) = some (.int 2) := rfl
        have j2 : dIdx (.lst [.int 0, .int 2, .int 1]) (.int 2) = some (.int 1) := rfl
        rcases xv s m with rfl | rfl | rfl
        · simp -implicitDefEqProofs (disch := first | omega | (simp -implicitDefEqProofs; done) | (simp -implicitDefEqProofs; omega)) [-List.map_map, BT.sub, ev_denI, ev_stI, ev_slfS, ev_slfE, ev_st0n, ev_mod, ev_div, ev_mul, ev_pow, ev_line, ev_rng1, ev_rng2, ev_ar, ev_arI, rangeD_length, j0]
        · simp -implicitDefEqProofs (disch := first | omega | (simp -implicitDefEqProofs; done) | (simp -implicitDefEqProofs; omega)) [-List.map_map, BT.sub, ev_denI, ev_stI, ev_slfS, ev_slfE, ev_st0n, ev_mod, ev_div, ev_mul, ev_pow, ev_line, ev_rng1, ev_rng2, ev_ar, ev_arI, rangeD_length, j1]
        · simp -implicitDefEqProofs (disch := first | omega | (simp -implicitDefEqProofs; done) | (simp -implicitDefEqProofs; omega)) [-List.map_map, BT.sub, ev_denI, ev_stI, ev_slfS, ev_slfE, ev_st0n, ev_mod, ev_div, ev_mul, ev_pow, ev_line, ev_rng1, ev_rng2, ev_ar, ev_arI, rangeD_length, j2]⟩
      have isM := scene_is N LS (X.map fun s => -s % 3) (.lst ((X.map fun s => -s % 3).map .int)) (.inr rfl) (by rw [List.length_map]; omega)
      generalize (X.map fun s => -s % 3) = XM at *
      subst qz
      clear hC
      simp -implicitDefEqProofs (disch := first | omega | (simp -implicitDefEqProofs; done) | (simp -implicitDefEqProofs; omega)) [-List.map_map, BT.sub, ev_denI, ev_stI, ev_slfS, ev_slfE, ev_st0n, ev_mod, ev_div, ev_mul, ev_pow, ev_line, ev_rng1, ev_rng2, ev_ar, ev_arI, rangeD_length, isM]
      subst hG3
      generalize hG4 : seqS (setS 12 _) _ = G4
      have m3 : dMul (.int 3) (.int t7) = some (.int (3 * t7)) := ev_mul (by omega) (by omega) (by omega) (by omega)
      simp -implicitDefEqProofs (disch := first | omega | (simp -implicitDefEqProofs; done) | (simp -implicitDefEqProofs; omega)) [-List.map_map, BT.sub, ev_denI, ev_stI, ev_slfS, ev_slfE, ev_st0n, ev_mod, ev_div, ev_mul, ev_pow, ev_line, ev_rng1, ev_rng2, ev_ar, ev_arI, rangeD_length, c4, c7, m3]
      generalize hLp : forL _ _ _ _ = o
      obtain ⟨s', rfl, j11, rfl⟩ := loop (enc := D.int) (xs := [t4 - 9, t7, -t7, 3 * t7]) hLp (fun pr s => ∃ j11, s = [some (.im (.scr (ns.map .int))), some (.im sd), some (.im (.lst (row.map .int))), some (.im (.int N)), some (.im (.lst (X.map .int))), some (.im (.lst (LS.map dP))), some (.im (webD N LS)), some (tE D.int (X ++ [1])), some (.im (scnD (webD N LS) X)), none, some (.im (.lst (S.map .int))), j11, none, none, none, none, none]) ⟨_, rfl⟩ (by
        rintro pr t po s q ⟨j11, rfl⟩
        have tt := tu t
        have isT := scene_is N LS (X.map fun s => (s + t) % 3) (.lst ((X.map fun s => (s + t) % 3).map .int)) (.inr rfl) (by rw [List.length_map]; omega)
        simp -implicitDefEqProofs (disch := first | omega | (simp -implicitDefEqProofs; done) | (simp -implicitDefEqProofs; omega)) [-List.map_map, BT.sub, ev_denI, ev_stI, ev_slfS, ev_slfE, ev_st0n, ev_mod, ev_div, ev_mul, ev_pow, ev_line, ev_rng1, ev_rng2, ev_ar, ev_arI, rangeD_length, ev_if, tt, X16]
        generalize hC : compL _ _ _ _ _ = oc
        have qz := comp hC D.int (fun s => (s + t) % 3) fun s m => ⟨_, rfl, rfl, by
          have md : dMod (.int (s + t)) (.int 3) = some (.int ((s + t) % 3)) := ev_mod (by omega)
          simp -implicitDefEqProofs (disch := first | omega | (simp -implicitDefEqProofs; done) | (simp -implicitDefEqProofs; omega)) [-List.map_map, BT.sub, ev_denI, ev_stI, ev_slfS, ev_slfE, ev_st0n, ev_mod, ev_div, ev_mul, ev_pow, ev_line, ev_rng1, ev_rng2, ev_ar, ev_arI, rangeD_length, md]⟩
        generalize (X.map fun s => (s + t) % 3) = XT at *
        subst qz
        simp -implicitDefEqProofs (disch := first | omega | (simp -implicitDefEqProofs; done) | (simp -implicitDefEqProofs; omega)) [-List.map_map, BT.sub, ev_denI, ev_stI, ev_slfS, ev_slfE, ev_st0n, ev_mod, ev_div, ev_mul, ev_pow, ev_line, ev_rng1, ev_rng2, ev_ar, ev_arI, rangeD_length, isT])
      subst hG4
      have hj : ∀ (fo fa : DI.LS → DI.R D) (st : DI.LS), strmE dJoin fo fa st = (fo st).bind fun d => if isStr d = true then (fa st).bind fun e => .of (dJoin d e) else .bad := fun _ _ _ => rfl
      have isq : isStr (.str "") = true := rfl
      have jn := join_ev (xs := X) (by omega)
      have pt := ptext_ok (ls := LS) hX (by omega)
      have nt := ne_txt X
      obtain ⟨sgn1, hs1, hs2⟩ : ∃ s : Str, dIdx (.lst [.str ".", .str "*", .str "o", .str "O", .str " ", .str "0", .str "x", .str "\n"]) (.int t5) = some (.str s) ∧ s.length ≤ 100 := by
        have : t5 = 0 ∨ t5 = 1 ∨ t5 = 2 ∨ t5 = 3 ∨ t5 = 4 ∨ t5 = 5 ∨ t5 = 6 ∨ t5 = 7 := by omega
        rcases this with rfl | rfl | rfl | rfl | rfl | rfl | rfl | rfl <;> exact ⟨_, rfl, by decide +kernel⟩
      have tl : (txt (X.map sgC)).length ≤ 100 := by
        show ((X.map sgC).toArray).size ≤ 100
        simp
        omega
      obtain ⟨ts, te, tsl, tsm⟩ := texts_ok (txt (X.map sgC)) sgn1 t8 t1 tl hs2
      have ts16 : ts.length ≤ 16777216 := by omega
      generalize hG5 : seqS (ifS (orB (tb (DI.bin dNotBl _ _)) _) _ _) _ = G5
      simp -implicitDefEqProofs (disch := first | omega | (simp -implicitDefEqProofs; done) | (simp -implicitDefEqProofs; omega)) [-List.map_map, BT.sub, ev_denI, ev_stI, ev_slfS, ev_slfE, ev_st0n, ev_mod, ev_div, ev_mul, ev_pow, ev_line, ev_rng1, ev_rng2, ev_ar, ev_arI, rangeD_length, hj, isq, X16]
      generalize hC : compL _ _ _ _ _ = oc
      have qz := comp hC D.str (fun v => (⟨#[sgC v]⟩ : Str)) fun v m => ⟨_, rfl, rfl, by
        have k0 : dIdx (.str ".*o") (.int 0) = some (.str ⟨#[46]⟩) := by rw [signs_eq]; rfl
        have k1 : dIdx (.str ".*o") (.int 1) = some (.str ⟨#[42]⟩) := by rw [signs_eq]; rfl
        have k2 : dIdx (.str ".*o") (.int 2) = some (.str ⟨#[111]⟩) := by rw [signs_eq]; rfl
        rcases xv v m with rfl | rfl | rfl
        · simp -implicitDefEqProofs (disch := first | omega | (simp -implicitDefEqProofs; done) | (simp -implicitDefEqProofs; omega)) [-List.map_map, BT.sub, ev_denI, ev_stI, ev_slfS, ev_slfE, ev_st0n, ev_mod, ev_div, ev_mul, ev_pow, ev_line, ev_rng1, ev_rng2, ev_ar, ev_arI, rangeD_length, k0]
          rfl
        · simp -implicitDefEqProofs (disch := first | omega | (simp -implicitDefEqProofs; done) | (simp -implicitDefEqProofs; omega)) [-List.map_map, BT.sub, ev_denI, ev_stI, ev_slfS, ev_slfE, ev_st0n, ev_mod, ev_div, ev_mul, ev_pow, ev_line, ev_rng1, ev_rng2, ev_ar, ev_arI, rangeD_length, k1]
          rfl
        · simp -implicitDefEqProofs (disch := first | omega | (simp -implicitDefEqProofs; done) | (simp -implicitDefEqProofs; omega)) [-List.map_map, BT.sub, ev_denI, ev_stI, ev_slfS, ev_slfE, ev_st0n, ev_mod, ev_div, ev_mul, ev_pow, ev_line, ev_rng1, ev_rng2, ev_ar, ev_arI, rangeD_length, k2]
          rfl⟩
      subst qz
      clear hC
      generalize (X.map fun v => (⟨#[sgC v]⟩ : Str)).map D.str = JL at *
      generalize txt (X.map sgC) = TX at *
      simp -implicitDefEqProofs (disch := first | omega | (simp -implicitDefEqProofs; done) | (simp -implicitDefEqProofs; omega)) [-List.map_map, BT.sub, ev_denI, ev_stI, ev_slfS, ev_slfE, ev_st0n, ev_mod, ev_div, ev_mul, ev_pow, ev_line, ev_rng1, ev_rng2, ev_ar, ev_arI, rangeD_length, jn, c5, hs1, ev_if, pt, nt, c8, c1, te, ts16]
      generalize hL2 : forL _ _ _ _ = o2
      obtain ⟨s', rfl, j14, rfl⟩ := loop hL2 (fun pr s => ∃ j14, s = [some (.im (.scr (ns.map .int))), some (.im sd), some (.im (.lst (row.map .int))), some (.im (.int N)), some (.im (.lst (X.map .int))), some (.im (.lst (LS.map dP))), some (.im (webD N LS)), some (tE D.int (X ++ [1])), some (.im (scnD (webD N LS) X)), none, some (.im (.lst (S.map .int))), j11, some (.im (.str TX)), some (.im (.str sgn1)), j14, none, none]) ⟨_, rfl⟩ (by
        rintro pr z po s q ⟨j14, rfl⟩
        have rd := read_ok (ls := LS) N0 (by omega) z (tsm z (by rw [q]; simp))
        refine ⟨_, ?_, some (.im (.str z)), rfl⟩
        simp -implicitDefEqProofs (disch := first | omega | (simp -implicitDefEqProofs; done) | (simp -implicitDefEqProofs; omega)) [-List.map_map, BT.sub, ev_denI, ev_stI, ev_slfS, ev_slfE, ev_st0n, ev_mod, ev_div, ev_mul, ev_pow, ev_line, ev_rng1, ev_rng2, ev_ar, ev_arI, rangeD_length, ev_if, rd])
      simp -implicitDefEqProofs (disch := first | omega | (simp -implicitDefEqProofs; done) | (simp -implicitDefEqProofs; omega)) [-List.map_map, BT.sub, ev_denI, ev_stI, ev_slfS, ev_slfE, ev_st0n, ev_mod, ev_div, ev_mul, ev_pow, ev_line, ev_rng1, ev_rng2, ev_ar, ev_arI, rangeD_length]
      subst hG5
      exact tail_ok N t3 X LS _ _ row _ _ _ _ _ _ _ N0 N7 hL hLl hX r3.1 c3
    generalize hG : seqS (setS 8 _) _ = G
    simp -implicitDefEqProofs (disch := first | omega | (simp -implicitDefEqProofs; done) | (simp -implicitDefEqProofs; omega)) [-List.map_map, BT.sub, ev_denI, ev_stI, ev_slfS, ev_slfE, ev_st0n, ev_mod, ev_div, ev_mul, ev_pow, ev_line, ev_rng1, ev_rng2, ev_ar, ev_arI, rangeD_length, web, wdW, ldX]
    rw [tE_imT]
    subst hG
    generalize hG : seqS (setF 10 _) _ = G
    simp -implicitDefEqProofs (disch := first | omega | (simp -implicitDefEqProofs; done) | (simp -implicitDefEqProofs; omega)) [-List.map_map, BT.sub, ev_denI, ev_stI, ev_slfS, ev_slfE, ev_st0n, ev_mod, ev_div, ev_mul, ev_pow, ev_line, ev_rng1, ev_rng2, ev_ar, ev_arI, rangeD_length, ld, neX, X16b, is1, arD, ev_if, X16]
    generalize hC : compL _ _ _ _ _ = oc
    have qz := comp hC D.int (fun _ => (0 : Int)) fun x m => ⟨_, rfl, rfl, by simp -implicitDefEqProofs (disch := first | omega | (simp -implicitDefEqProofs; done) | (simp -implicitDefEqProofs; omega)) [-List.map_map, BT.sub, ev_denI, ev_stI, ev_slfS, ev_slfE, ev_st0n, ev_mod, ev_div, ev_mul, ev_pow, ev_line, ev_rng1, ev_rng2, ev_ar, ev_arI, rangeD_length]⟩
    rw [rz] at qz
    subst qz
    clear hC
    simp -implicitDefEqProofs (disch := first | omega | (simp -implicitDefEqProofs; done) | (simp -implicitDefEqProofs; omega)) [-List.map_map, BT.sub, ev_denI, ev_stI, ev_slfS, ev_slfE, ev_st0n, ev_mod, ev_div, ev_mul, ev_pow, ev_line, ev_rng1, ev_rng2, ev_ar, ev_arI, rangeD_length, is2]
    subst hG
    have dc : dCat (.lst (X.map .int)) (.lst [.int t6]) = some ((X ++ [t6]).map .int) := by
      show (if (X.map D.int).length + [D.int t6].length ≤ sizeLine then some (X.map D.int ++ [D.int t6]) else none) = _
      rw [if_pos (by rw [List.length_map]; show X.length + 1 ≤ 16777216; omega), List.map_append]
      rfl
    generalize hR : seqS (ifS _ _ _) G2 = R
    have keyR : ∀ S : List Int, S.length ≤ 50 → (R [some (.im (.scr (ns.map .int))), some (.im sd), some (.im (.lst (row.map .int))), some (.im (.int N)), some (.im (.lst (X.map .int))), some (.im (.lst (LS.map dP))), some (.im (webD N LS)), some (tE D.int (X ++ [1])), some (.im (scnD (webD N LS) X)), none, some (tE D.int S), none, none, none, none, none, none]).end = .ok (.bl true) := by
      intro S hS
      subst hR
      have lS : dLen [.lst (S.map .int)] = some (.int (S.length : Int)) := by rw [ev_lenL, List.length_map]
      by_cases a : 0 < S.length
      · have ai : (0 : Int) < (S.length : Int) := by omega
        by_cases b : t9 < 4
        · obtain ⟨v, hv⟩ : ∃ v, dIdx (.lst [.int 3, .int (-1), .int 1000000000000000000000000000000, .int 4]) (.int t9) = some (.int v) := by
            have : t9 = 0 ∨ t9 = 1 ∨ t9 = 2 ∨ t9 = 3 := by omega
            rcases this with rfl | rfl | rfl | rfl <;> exact ⟨_, rfl⟩
          have md : dMod (.int t8) (.int (S.length : Int)) = some (.int (t8 % (S.length : Int))) := ev_mod ai
          have j0 := Int.emod_nonneg t8 (show (S.length : Int) ≠ 0 by omega)
          have j1 := Int.emod_lt_of_pos t8 ai
          have si : setIS 10 (fun st => ((DI.bin dIdx (lstE (consA (cc (.int 3)) (consA (DI.bin dSub (cc (.int 0)) (cc (.int 1))) (consA (DI.bin dPow (cc (.int 10)) (cc (.int 30))) (consA (cc (.int 4)) (nilA)))))) (DI.bin dIdx (vi 2) (cc (.int 9)))) st).bind fun d => .ok (.im d)) (DI.bin dMod (DI.bin dIdx (vi 2) (cc (.int 8))) (callE dLen (consA (vv 10) (nilA)))) [some (.im (.scr (ns.map .int))), some (.im sd), some (.im (.lst (row.map .int))), some (.im (.int N)), some (.im (.lst (X.map .int))), some (.im (.lst (LS.map dP))), some (.im (webD N LS)), some (tE D.int (X ++ [1])), some (.im (scnD (webD N LS) X)), none, some (tE D.int S), none, none, none, none, none, none] = .nx [some (.im (.scr (ns.map .int))), some (.im sd), some (.im (.lst (row.map .int))), some (.im (.int N)), some (.im (.lst (X.map .int))), some (.im (.lst (LS.map dP))), some (.im (webD N LS)), some (tE D.int (X ++ [1])), some (.im (scnD (webD N LS) X)), none, some (tE D.int (S.set (t8 % (S.length : Int)).toNat v)), none, none, none, none, none, none] :=
            ev_setIS rfl (by simp -implicitDefEqProofs (disch := first | omega | (simp -implicitDefEqProofs; done) | (simp -implicitDefEqProofs; omega)) [-List.map_map, BT.sub, ev_denI, ev_stI, ev_slfS, ev_slfE, ev_st0n, ev_mod, ev_div, ev_mul, ev_pow, ev_line, ev_rng1, ev_rng2, ev_ar, ev_arI, rangeD_length, pw, c9, hv]) (by simp -implicitDefEqProofs (disch := first | omega | (simp -implicitDefEqProofs; done) | (simp -implicitDefEqProofs; omega)) [-List.map_map, BT.sub, ev_denI, ev_stI, ev_slfS, ev_slfE, ev_st0n, ev_mod, ev_div, ev_mul, ev_pow, ev_line, ev_rng1, ev_rng2, ev_ar, ev_arI, rangeD_length, c8, lS, md]) j0 j1
          have k2 := key2 (S.set (t8 % (S.length : Int)).toNat v) (by rw [List.length_set]; omega)
          simp -implicitDefEqProofs (disch := first | omega | (simp -implicitDefEqProofs; done) | (simp -implicitDefEqProofs; omega)) [-List.map_map, BT.sub, ev_denI, ev_stI, ev_slfS, ev_slfE, ev_st0n, ev_mod, ev_div, ev_mul, ev_pow, ev_line, ev_rng1, ev_rng2, ev_ar, ev_arI, rangeD_length, ev_if, lS, a, ai, c9, b]
          exact (congrArg (fun o => (Out.seq o G2).end) si).trans k2
        · have k2 := key2 S (by omega)
          simp -implicitDefEqProofs (disch := first | omega | (simp -implicitDefEqProofs; done) | (simp -implicitDefEqProofs; omega)) [-List.map_map, BT.sub, ev_denI, ev_stI, ev_slfS, ev_slfE, ev_st0n, ev_mod, ev_div, ev_mul, ev_pow, ev_line, ev_rng1, ev_rng2, ev_ar, ev_arI, rangeD_length, ev_if, lS, a, ai, c9, b]
          exact k2
      · have ai : ¬ (0 : Int) < (S.length : Int) := by omega
        have k2 := key2 S (by omega)
        simp -implicitDefEqProofs (disch := first | omega | (simp -implicitDefEqProofs; done) | (simp -implicitDefEqProofs; omega)) [-List.map_map, BT.sub, ev_denI, ev_stI, ev_slfS, ev_slfE, ev_st0n, ev_mod, ev_div, ev_mul, ev_pow, ev_line, ev_rng1, ev_rng2, ev_ar, ev_arI, rangeD_length, ev_if, lS, a, ai]
        exact k2
    have cutl := cutL_len (X ++ [t6]) none (some t1)
    have cutm := cutL_map D.int (X ++ [t6]) none (some t1)
    generalize hS0 : cutL (X ++ [t6]) none (some t1) = S0 at *
    have S0l : S0.length ≤ 8 := by rw [List.length_append, List.length_singleton] at cutl; omega
    have sf : ∀ a7 : Option DI.T, slF (vi 10) partN (partI (DI.bin dIdx (vi 2) (cc (.int 1)))) [some (.im (.scr (ns.map .int))), some (.im sd), some (.im (.lst (row.map .int))), some (.im (.int N)), some (.im (.lst (X.map .int))), some (.im (.lst (LS.map dP))), some (.im (webD N LS)), a7, some (.im (scnD (webD N LS) X)), none, some (.im (.lst ((X ++ [t6]).map .int))), none, none, none, none, none, none] = .ok (tE D.int S0) := fun a7 => by
      unfold slF
      simp -implicitDefEqProofs (disch := first | omega | (simp -implicitDefEqProofs; done) | (simp -implicitDefEqProofs; omega)) [-List.map_map, BT.sub, ev_denI, ev_stI, ev_slfS, ev_slfE, ev_st0n, ev_mod, ev_div, ev_mul, ev_pow, ev_line, ev_rng1, ev_rng2, ev_ar, ev_arI, rangeD_length, c1]
      rw [List.map_append] at cutm
      rw [← tE_imT, ← cutm]
      rfl
    generalize hXX : X ++ [t6] = XX at *
    have td : (imT (XX.map D.int)).toD = D.lst (XX.map .int) := by
      rw [tE_imT]
      simp -implicitDefEqProofs (disch := first | omega | (simp -implicitDefEqProofs; done) | (simp -implicitDefEqProofs; omega)) [-List.map_map, BT.sub, ev_denI, ev_stI, ev_slfS, ev_slfE, ev_st0n, ev_mod, ev_div, ev_mul, ev_pow, ev_line, ev_rng1, ev_rng2, ev_ar, ev_arI, rangeD_length]
    generalize hG : seqS (ifS _ _ _) R = G
    simp -implicitDefEqProofs (disch := first | omega | (simp -implicitDefEqProofs; done) | (simp -implicitDefEqProofs; omega)) [-List.map_map, BT.sub, ev_denI, ev_stI, ev_slfS, ev_slfE, ev_st0n, ev_mod, ev_div, ev_mul, ev_pow, ev_line, ev_rng1, ev_rng2, ev_ar, ev_arI, rangeD_length, ldX, c6, dc, td, sf]
    subst hG
    have lS : dLen [.lst (S0.map .int)] = some (.int (S0.length : Int)) := by rw [ev_lenL, List.length_map]
    by_cases a : 0 < S0.length
    · have ai : (0 : Int) < (S0.length : Int) := by omega
      by_cases b : t2 < 8
      · have md : dMod (.int t3) (.int (S0.length : Int)) = some (.int (t3 % (S0.length : Int))) := ev_mod ai
        have j0 := Int.emod_nonneg t3 (show (S0.length : Int) ≠ 0 by omega)
        have j1 := Int.emod_lt_of_pos t3 ai
        have si : setIS 10 (fun st => ((DI.bin dSub (DI.bin dIdx (vi 2) (cc (.int 2))) (cc (.int 2))) st).bind fun d => .ok (.im d)) (DI.bin dMod (DI.bin dIdx (vi 2) (cc (.int 3))) (callE dLen (consA (vv 10) (nilA)))) [some (.im (.scr (ns.map .int))), some (.im sd), some (.im (.lst (row.map .int))), some (.im (.int N)), some (.im (.lst (X.map .int))), some (.im (.lst (LS.map dP))), some (.im (webD N LS)), some (tE D.int (X ++ [1])), some (.im (scnD (webD N LS) X)), none, some (tE D.int S0), none, none, none, none, none, none] = .nx [some (.im (.scr (ns.map .int))), some (.im sd), some (.im (.lst (row.map .int))), some (.im (.int N)), some (.im (.lst (X.map .int))), some (.im (.lst (LS.map dP))), some (.im (webD N LS)), some (tE D.int (X ++ [1])), some (.im (scnD (webD N LS) X)), none, some (tE D.int (S0.set (t3 % (S0.length : Int)).toNat (t2 - 2))), none, none, none, none, none, none] :=
          ev_setIS rfl (by simp -implicitDefEqProofs (disch := first | omega | (simp -implicitDefEqProofs; done) | (simp -implicitDefEqProofs; omega)) [-List.map_map, BT.sub, ev_denI, ev_stI, ev_slfS, ev_slfE, ev_st0n, ev_mod, ev_div, ev_mul, ev_pow, ev_line, ev_rng1, ev_rng2, ev_ar, ev_arI, rangeD_length, c2]) (by simp -implicitDefEqProofs (disch := first | omega | (simp -implicitDefEqProofs; done) | (simp -implicitDefEqProofs; omega)) [-List.map_map, BT.sub, ev_denI, ev_stI, ev_slfS, ev_slfE, ev_st0n, ev_mod, ev_div, ev_mul, ev_pow, ev_line, ev_rng1, ev_rng2, ev_ar, ev_arI, rangeD_length, c3, lS, md]) j0 j1
        have k2 := keyR (S0.set (t3 % (S0.length : Int)).toNat (t2 - 2)) (by rw [List.length_set]; omega)
        simp -implicitDefEqProofs (disch := first | omega | (simp -implicitDefEqProofs; done) | (simp -implicitDefEqProofs; omega)) [-List.map_map, BT.sub, ev_denI, ev_stI, ev_slfS, ev_slfE, ev_st0n, ev_mod, ev_div, ev_mul, ev_pow, ev_line, ev_rng1, ev_rng2, ev_ar, ev_arI, rangeD_length, ev_if, lS, a, ai, c2, b]
        exact (congrArg (fun o => (Out.seq o R).end) si).trans k2
      · have k2 := keyR S0 (by omega)
        simp -implicitDefEqProofs (disch := first | omega | (simp -implicitDefEqProofs; done) | (simp -implicitDefEqProofs; omega)) [-List.map_map, BT.sub, ev_denI, ev_stI, ev_slfS, ev_slfE, ev_st0n, ev_mod, ev_div, ev_mul, ev_pow, ev_line, ev_rng1, ev_rng2, ev_ar, ev_arI, rangeD_length, ev_if, lS, a, ai, c2, b]
        exact k2
    · have ai : ¬ (0 : Int) < (S0.length : Int) := by omega
      have k2 := keyR S0 (by omega)
      simp -implicitDefEqProofs (disch := first | omega | (simp -implicitDefEqProofs; done) | (simp -implicitDefEqProofs; omega)) [-List.map_map, BT.sub, ev_denI, ev_stI, ev_slfS, ev_slfE, ev_st0n, ev_mod, ev_div, ev_mul, ev_pow, ev_line, ev_rng1, ev_rng2, ev_ar, ev_arI, rangeD_length, ev_if, lS, a, ai]
      exact k2
  have ldp : dListF [.tup (pic.map .int)] = some (pic.map .int) := rfl
  have px : pic.length ≤ 16777216 := by omega
  have ll : dLen [.lst (ls.map dP)] = some (.int (ls.length : Int)) := by rw [ev_lenL, List.length_map]
  have m0 : dMul (.int n) (.int 0) = some (.int 0) := by rw [ev_mul (by omega) (by omega) (by omega) (by omega), Int.mul_zero]
  have m1 : dMul (.int n) (.int 1) = some (.int n) := by rw [ev_mul (by omega) (by omega) (by omega) (by omega), Int.mul_one]
  have l0 : dMul (.int (ls.length : Int)) (.int 0) = some (.int 0) := by rw [ev_mul (by omega) (by omega) (by omega) (by omega), Int.mul_zero]
  have l1 : dMul (.int (ls.length : Int)) (.int 1) = some (.int (ls.length : Int)) := by rw [ev_mul (by omega) (by omega) (by omega) (by omega), Int.mul_one]
  have sp0 : dSl (.lst (pic.map .int)) none (some 0) = some (.lst []) := by
    rw [ev_slL (by omega)]
    rfl
  have spn : dSl (.lst (pic.map .int)) none (some n) = some (.lst (pic.map .int)) := by
    rw [ev_slL (by omega), List.take_of_length_le (by rw [List.length_map]; omega)]
  have sl0 : dSl (.lst (ls.map dP)) none (some 0) = some (.lst []) := by
    rw [ev_slL (by omega)]
    rfl
  have sll : dSl (.lst (ls.map dP)) none (some (ls.length : Int)) = some (.lst (ls.map dP)) := by
    rw [ev_slL (by omega), List.take_of_length_le (by rw [List.length_map]; omega)]
  by_cases ct : t0 = 7
  · have k := key 0 [] [] (by omega) (by omega) lines0 (by simp) ⟨rfl, fun x hx => nomatch hx⟩
    simp -implicitDefEqProofs (disch := first | omega | (simp -implicitDefEqProofs; done) | (simp -implicitDefEqProofs; omega)) [-List.map_map, BT.sub, ev_denI, ev_stI, ev_slfS, ev_slfE, ev_st0n, ev_mod, ev_div, ev_mul, ev_pow, ev_line, ev_rng1, ev_rng2, ev_ar, ev_arI, rangeD_length, s1, hz2, hr, pw, i0, i1, i2, c0, ct, ldp, px, ll, m0, sp0, l0, sl0]
    exact k
  · have k := key n pic ls (by omega) (by omega) hl (by omega) ⟨p1, p2⟩
    have n0 : (0 : Int) < n := by omega
    simp -implicitDefEqProofs (disch := first | omega | (simp -implicitDefEqProofs; done) | (simp -implicitDefEqProofs; omega)) [-List.map_map, BT.sub, ev_denI, ev_stI, ev_slfS, ev_slfE, ev_st0n, ev_mod, ev_div, ev_mul, ev_pow, ev_line, ev_rng1, ev_rng2, ev_ar, ev_arI, rangeD_length, s1, hz2, hr, pw, i0, i1, i2, c0, ct, ldp, px, ll, m1, spn, l1, sll, n0]
    exact k
end FR
end
section
set_option Elab.async false
set_option linter.all false
set_option maxRecDepth 100000
set_option maxHeartbeats 2000000
namespace FR
open PySem PySem.Spec PyProof.Rows L2 DI
def top (i : Nat) : Stmt := PySem.Challenge.pw_firerest_k03_scenes.main.body.getD i (.Pass ⟨0, 0, 0, 0⟩)
abbrev s__law_web : Stmt := top 23
abbrev s__law_digits : Stmt := top 22
abbrev s__law_cell : Stmt := top 21
abbrev s__law_picture : Stmt := top 24
abbrev s__law_scene : Stmt := top 25
abbrev s_BadLine___init__ : Stmt := inClass (top 3) 0
abbrev s_checked_lines : Stmt := top 9
abbrev s_frozen : Stmt := top 6
abbrev s_neighbour_rows : Stmt := top 10
abbrev s_Web___init__ : Stmt := inClass (top 8) 0
abbrev s_BadPicture___init__ : Stmt := inClass (top 4) 0
abbrev s_Scene___init__ : Stmt := inClass (top 13) 0
abbrev s_Web___eq__ : Stmt := inClass (top 8) 6
abbrev s__law_whole : Stmt := top 20
abbrev s__law_row : Stmt := top 26
abbrev s__law_is_scene : Stmt := top 27
abbrev s_all_ready : Stmt := top 14
abbrev s__law_fault : Stmt := top 28
abbrev s__law_made : Stmt := top 29
abbrev s_mirror : Stmt := top 15
abbrev s_turned : Stmt := top 16
abbrev s_picture_text : Stmt := top 17
abbrev s__law_texts : Stmt := top 31
abbrev s_scene_of_text : Stmt := top 18
abbrev s__law_read : Stmt := top 30
abbrev s_Scene___eq__ : Stmt := inClass (top 13) 1
abbrev s__law_told : Stmt := top 32
abbrev s_law : Stmt := top 33
structure Txt (P : Program) (w : World) (K : PySem.W.Frag) (mg : Str → Option Value) (cm : CM) : Prop where
  hset : cm.setO = SetTO P w
  m_ValueError : mg "ValueError" = none
  m_bool : mg "bool" = none
  m_enumerate : mg "enumerate" = none
  m_int : mg "int" = none
  m_isinstance : mg "isinstance" = none
  m_len : mg "len" = none
  m_list : mg "list" = none
  m_max : mg "max" = none
  m_min : mg "min" = none
  m_range : mg "range" = none
  m_sorted : mg "sorted" = none
  m_tuple : mg "tuple" = none
  gs_SIGNS : ∃ t, mg "SIGNS" = some (.str ".*o" t)
  cls : ∀ c ∈ cm.cls, ClsOk K (cm.addr c)
  kb_bool : KitOk K cm subC (.b .bool)
  kb_int : KitOk K cm subC (.b .int)
  kb_list : KitOk K cm subC (.b .list)
  kb_tuple : KitOk K cm subC (.b .tuple)
  kc_Scene : KitOk K cm subC (.c 39)
  cg_Scene : mg "Scene" = some (.ref (cm.addr 39))
  kc_Web : KitOk K cm subC (.c 46)
  cg_Web : mg "Web" = some (.ref (cm.addr 46))
  f_around : ∀ p ∈ fl_around, p.1 ∈ cm.cls → FldOk K cm "around" p.1 p.2
  f_lines : ∀ p ∈ fl_lines, p.1 ∈ cm.cls → FldOk K cm "lines" p.1 p.2
  f_picture : ∀ p ∈ fl_picture, p.1 ∈ cm.cls → FldOk K cm "picture" p.1 p.2
  f_size : ∀ p ∈ fl_size, p.1 ∈ cm.cls → FldOk K cm "size" p.1 p.2
  f_web : ∀ p ∈ fl_web, p.1 ∈ cm.cls → FldOk K cm "web" p.1 p.2
  nm_Scene : cm.names 39 = (["web", "picture"] : List Str)
  in_Scene : 39 ∈ cm.cls
  nm_Web : cm.names 46 = (["size", "lines", "around"] : List Str)
  in_Web : 46 ∈ cm.cls
  xok_BadLine : XOk K (cm.addr 7)
  xnm_BadLine : cm.names 7 = (["index"] : List Str)
  xno_BadLine_index : PySem.W.findIn K (.ref (cm.addr 7)) "index" = some none
  xok_BadPicture : XOk K (cm.addr 10)
  xnm_BadPicture : cm.names 10 = (["index"] : List Str)
  xno_BadPicture_index : PySem.W.findIn K (.ref (cm.addr 10)) "index" = some none
  xl : ∀ c ∈ xsL, XOk K (cm.addr c)
  xcg_BadLine : mg "BadLine" = some (.ref (cm.addr 7))
  xcg_BadPicture : mg "BadPicture" = some (.ref (cm.addr 10))
  xcg_FirerestError : mg "FirerestError" = some (.ref (cm.addr 5))
  xk_BadLine : XKit K cm subC xsL (.c 7)
  xk_FirerestError : XKit K cm subC xsL (.c 5)
  xkb_ValueError : XKit K cm subC xsL (.b "ValueError")
  xh_BadPicture : ∀ t ∈ xsL, PySem.W.exmOne K (.ref (cm.addr t)) (.ref (cm.addr 10)) = some (subC t 10)
  xf_index : ∀ p ∈ xl_index, XFld K cm "index" p.1 p.2
section
variable {P : Program} {w : World} {K : PySem.W.Frag} {mg : Str → Option Value} {base : Heap} {cm : CM}
theorem sc__law_web : FnScope ["_law_row_here", "_law_most", "_law_size", "_law_known", "_law_k", "_law_mate", "_law_a", "_law_b", "_law_lines"] ["_law_row_here", "_law_most"] (defScope s__law_web) := ⟨rfl, rfl, rfl, by decide +kernel, rfl, by decide +kernel, by decide +kernel⟩
theorem ok__law_web {f__law_web : Addr} {fd : FuncData} (FD : FunD K "_law_web" "_law_web" (defArgs s__law_web) (defBody s__law_web) (defScope s__law_web) [] [] f__law_web fd) (T : Txt P w K mg cm)   : DefP P w K mg base cm 1 2 f__law_web d__law_web [] := by
  refine ⟨fd, ["_law_row_here", "_law_most"], [], fn_ok FD sc__law_web (fun cdv A outer s H E S0 F0 hr tk => ?_), fun S => .nil, ?_⟩
  ·
    exact (s_cons (s_set sc__law_web.nd rfl (by first | exact Or.inl rfl | exact Or.inr rfl) (e_callB (call_min2 rfl) d_min2 T.m_min b_min (va_cons (pv_ (e_var 1)) (va_cons (pv_ (e_ix (pv_ (e_lst (a_cons (e_int) (a_cons (e_int) (a_cons (e_int) (a_cons (e_int) (a_cons (e_int) (a_cons (e_int) (a_cons (e_int) (a_cons (e_int) (a_cons (e_int) (a_cons (e_int) (a_cons (e_int) (a_cons (e_int) (a_nil))))))))))))))) (pv_ (e_ix (pv_ (e_var 0)) (pv_ (e_int)))))) (va_nil)))))
  (s_cons (s_setF sc__law_web.nd rfl (by first | exact Or.inl rfl | exact Or.inr rfl) (f_lst (a_nil)))
  (s_cons (s_for (i_range2 T.m_range (a_cons (e_int) (a_cons (e_var 2) (a_nil)))) (g_name sc__law_web.nd rfl (by first | exact Or.inl rfl | exact Or.inr rfl))
  (s_cons (s_set sc__law_web.nd rfl (by first | exact Or.inl rfl | exact Or.inr rfl) (e_ix (pv_ (e_lst (a_cons (e_op op_sub d_sub (pv_ (e_var 4)) (pv_ (e_int))) (a_cons (e_op op_sub d_sub (pv_ (e_var 4)) (pv_ (e_int))) (a_cons (e_op op_sub d_sub (pv_ (e_var 4)) (pv_ (e_int))) (a_cons (e_int) (a_cons (e_op op_fdivW d_div (pv_ (e_var 4)) (pv_ (e_int))) (a_cons (e_int) (a_nil))))))))) (pv_ (e_ix (pv_ (e_var 0)) (pv_ (e_op or_mul d_mul (pv_ (e_int)) (pv_ (e_var 4))))))))
  (s_cons (s_if (t_cmp op_lt d_lt (pv_ (e_ix (pv_ (e_var 0)) (pv_ (e_int)))) (pv_ (e_int)) (by rfl))
  (s_one (s_set sc__law_web.nd rfl (by first | exact Or.inl rfl | exact Or.inr rfl) (e_op op_sub d_sub (pv_ (e_var 4)) (pv_ (e_int)))))
  (s_nil))
  (s_one (s_if (t_cmp op_lt d_lt (pv_ (e_ix (pv_ (e_var 0)) (pv_ (e_op op_sub d_sub (pv_ (e_op or_mul d_mul (pv_ (e_int)) (pv_ (e_var 4)))) (pv_ (e_int)))))) (pv_ (e_int)) (by rfl))
  (s_one (s_app (pe_bm PySem.F.plainAttrs_list PySem.F.slot_list_append PySem.F.type_list_append mt_append (pe_var rfl (by first | exact Or.inl rfl | exact Or.inr (Or.inl rfl) | exact Or.inr (Or.inr rfl))) (pa_cons (f_e (e_tup (a_cons (e_var 5) (a_cons (e_var 4) (a_nil))))) pa_nil))))
  (s_nil))))))
  (s_cons (s_if (t_w (w_and (t_cmp op_gt d_gt (pv_ (e_var 2)) (pv_ (e_int)) (by rfl)) (w_and1 (t_cmp op_lt d_lt (pv_ (e_ix (pv_ (e_var 0)) (pv_ (e_int)))) (pv_ (e_int)) (by rfl)))))
  (s_one (s_app (pe_bm PySem.F.plainAttrs_list PySem.F.slot_list_append PySem.F.type_list_append mt_append (pe_var rfl (by first | exact Or.inl rfl | exact Or.inr (Or.inl rfl) | exact Or.inr (Or.inr rfl))) (pa_cons (f_e (e_tup (a_cons (e_int) (a_cons (e_op op_sub d_sub (pv_ (e_var 2)) (pv_ (e_int))) (a_nil))))) pa_nil))))
  (s_nil))
  (s_cons (s_for (i_range1 T.m_range (a_cons (e_int) (a_nil))) (g_name sc__law_web.nd rfl (by first | exact Or.inl rfl | exact Or.inr rfl))
  (s_cons (s_set sc__law_web.nd rfl (by first | exact Or.inl rfl | exact Or.inr rfl) (e_op op_mod d_mod (pv_ (e_ix (pv_ (e_var 0)) (pv_ (e_op or_add d_add (pv_ (e_int)) (pv_ (e_op or_mul d_mul (pv_ (e_int)) (pv_ (e_var 4)))))))) (pv_ (e_var 2))))
  (s_cons (s_set sc__law_web.nd rfl (by first | exact Or.inl rfl | exact Or.inr rfl) (e_op op_mod d_mod (pv_ (e_ix (pv_ (e_var 0)) (pv_ (e_op or_add d_add (pv_ (e_int)) (pv_ (e_op or_mul d_mul (pv_ (e_int)) (pv_ (e_var 4)))))))) (pv_ (e_var 2))))
  (s_one (s_if (t_w (w_and (t_cmp op_lt d_lt (pv_ (e_var 6)) (pv_ (e_var 7)) (by rfl)) (w_and1 (t_cmp op_gt d_gt (pv_ (e_ix (pv_ (e_var 0)) (pv_ (e_op or_add d_add (pv_ (e_int)) (pv_ (e_op or_mul d_mul (pv_ (e_int)) (pv_ (e_var 4)))))))) (pv_ (e_int)) (by rfl)))))
  (s_one (s_app (pe_bm PySem.F.plainAttrs_list PySem.F.slot_list_append PySem.F.type_list_append mt_append (pe_var rfl (by first | exact Or.inl rfl | exact Or.inr (Or.inl rfl) | exact Or.inr (Or.inr rfl))) (pa_cons (f_e (e_tup (a_cons (e_var 6) (a_cons (e_var 7) (a_nil))))) pa_nil))))
  (s_nil))))))
  (s_cons (s_setF sc__law_web.nd rfl (by first | exact Or.inl rfl | exact Or.inr rfl) (f_lst (a_nil)))
  (s_cons (s_for (i_range1 T.m_range (a_cons (e_var 2) (a_nil))) (g_name sc__law_web.nd rfl (by first | exact Or.inl rfl | exact Or.inr rfl))
  (s_one (s_for (i_range2 T.m_range (a_cons (e_op or_add d_add (pv_ (e_var 6)) (pv_ (e_int))) (a_cons (e_var 2) (a_nil)))) (g_name sc__law_web.nd rfl (by first | exact Or.inl rfl | exact Or.inr rfl))
  (s_one (s_frz 3 (s_if (t_cmp (or_in hr) d_in (pv_ (e_tup (a_cons (e_var 6) (a_cons (e_var 7) (a_nil))))) (pv_ (e_var 3)) (by rfl))
  (s_one (s_app (pe_bm PySem.F.plainAttrs_list PySem.F.slot_list_append PySem.F.type_list_append mt_append (pe_var rfl (by first | exact Or.inl rfl | exact Or.inr (Or.inl rfl) | exact Or.inr (Or.inr rfl))) (pa_cons (f_e (e_tup (a_cons (e_var 6) (a_cons (e_var 7) (a_nil))))) pa_nil))))
  (s_nil)))))))
  (s_one (s_frz 8 (s_ret (e_lst (a_cons (e_var 2) (a_cons (e_var 8) (a_nil))))))))))))))
  · exact fun j hj => ⟨[], by cases j <;> first | exact .nil | (exact absurd hj (by simp)), FD.bindsN fun _ _ _ _ _ _ us hl => match us, hl with | [_, _], _ => rfl⟩
theorem sc__law_digits : FnScope ["_law_cell_here", "_law_sizes", "_law_row_here", "_law_rest", "_law_size", "_law_seed", "_law_k", "_law_twice"] ["_law_cell_here", "_law_sizes"] (defScope s__law_digits) := ⟨rfl, rfl, rfl, by decide +kernel, rfl, by decide +kernel, by decide +kernel⟩
theorem ok__law_digits {f__law_digits : Addr} {fd : FuncData} (FD : FunD K "_law_digits" "_law_digits" (defArgs s__law_digits) (defBody s__law_digits) (defScope s__law_digits) [] [] f__law_digits fd) (T : Txt P w K mg cm)   : DefP P w K mg base cm 1 2 f__law_digits d__law_digits [] := by
  refine ⟨fd, ["_law_cell_here", "_law_sizes"], [], fn_ok FD sc__law_digits (fun cdv A outer s H E S0 F0 hr tk => ?_), fun S => .nil, ?_⟩
  ·
    exact (s_cons (s_setF sc__law_digits.nd rfl (by first | exact Or.inl rfl | exact Or.inr rfl) (f_lst (a_nil)))
  (s_cons (s_set sc__law_digits.nd rfl (by first | exact Or.inl rfl | exact Or.inr rfl) (e_callT call_int1 d_toInt T.m_int b_int (va_cons (pv_ (e_var 0)) (va_nil))))
  (s_cons (s_if (t_cmp op_ge d_ge (pv_ (e_var 3)) (pv_ (e_op op_pow d_pow (pv_ (e_int)) (pv_ (e_int)))) (by rfl))
  (s_cons (s_set sc__law_digits.nd rfl (by first | exact Or.inl rfl | exact Or.inr rfl) (e_op op_sub d_sub (pv_ (e_var 3)) (pv_ (e_op op_pow d_pow (pv_ (e_int)) (pv_ (e_int))))))
  (s_cons (s_for (i_e (e_var 1)) (g_name sc__law_digits.nd rfl (by first | exact Or.inl rfl | exact Or.inr rfl))
  (s_cons (s_app (pe_bm PySem.F.plainAttrs_list PySem.F.slot_list_append PySem.F.type_list_append mt_append (pe_var rfl (by first | exact Or.inl rfl | exact Or.inr (Or.inl rfl) | exact Or.inr (Or.inr rfl))) (pa_cons (f_e (e_op op_mod d_mod (pv_ (e_callT call_int1 d_toInt T.m_int b_int (va_cons (pv_ (e_var 3)) (va_nil)))) (pv_ (e_var 4)))) pa_nil)))
  (s_one (s_set sc__law_digits.nd rfl (by first | exact Or.inl rfl | exact Or.inr rfl) (e_op op_fdivW d_div (pv_ (e_callT call_int1 d_toInt T.m_int b_int (va_cons (pv_ (e_var 3)) (va_nil)))) (pv_ (e_var 4)))))))
  (s_one (s_frz 2 (s_ret (e_var 2))))))
  (s_nil))
  (s_cons (s_set sc__law_digits.nd rfl (by first | exact Or.inl rfl | exact Or.inr rfl) (e_op op_mod d_mod (pv_ (e_callT call_int1 d_toInt T.m_int b_int (va_cons (pv_ (e_var 3)) (va_nil)))) (pv_ (e_int))))
  (s_cons (s_for (i_range1 T.m_range (a_cons (e_callB c_len d_len T.m_len b_len (va_cons (pv_ (e_var 1)) (va_nil))) (a_nil))) (g_name sc__law_digits.nd rfl (by first | exact Or.inl rfl | exact Or.inr rfl))
  (s_cons (s_set sc__law_digits.nd rfl (by first | exact Or.inl rfl | exact Or.inr rfl) (e_op op_mod d_mod (pv_ (e_callT call_int1 d_toInt T.m_int b_int (va_cons (pv_ (e_op or_add d_add (pv_ (e_op or_add d_add (pv_ (e_op or_mul d_mul (pv_ (e_var 5)) (pv_ (e_int)))) (pv_ (e_op or_mul d_mul (pv_ (e_int)) (pv_ (e_var 6)))))) (pv_ (e_int)))) (va_nil)))) (pv_ (e_int))))
  (s_cons (s_set sc__law_digits.nd rfl (by first | exact Or.inl rfl | exact Or.inr rfl) (e_op op_mod d_mod (pv_ (e_callT call_int1 d_toInt T.m_int b_int (va_cons (pv_ (e_op or_mul d_mul (pv_ (e_var 5)) (pv_ (e_op or_add d_add (pv_ (e_op op_fdivW d_div (pv_ (e_var 5)) (pv_ (e_int)))) (pv_ (e_int)))))) (va_nil)))) (pv_ (e_int))))
  (s_one (s_app (pe_bm PySem.F.plainAttrs_list PySem.F.slot_list_append PySem.F.type_list_append mt_append (pe_var rfl (by first | exact Or.inl rfl | exact Or.inr (Or.inl rfl) | exact Or.inr (Or.inr rfl))) (pa_cons (f_e (e_op op_mod d_mod (pv_ (e_op op_fdivW d_div (pv_ (e_var 7)) (pv_ (e_int)))) (pv_ (e_ix (pv_ (e_var 1)) (pv_ (e_var 6)))))) pa_nil)))))))
  (s_one (s_frz 2 (s_ret (e_var 2)))))))))
  · exact fun j hj => ⟨[], by cases j <;> first | exact .nil | (exact absurd hj (by simp)), FD.bindsN fun _ _ _ _ _ _ us hl => match us, hl with | [_, _], _ => rfl⟩
theorem sc__law_cell : FnScope ["_law_script", "_law_k", "_law_seed", "_law_cell_here"] ["_law_script", "_law_k"] (defScope s__law_cell) := ⟨rfl, rfl, rfl, by decide +kernel, rfl, by decide +kernel, by decide +kernel⟩
theorem ok__law_cell {f__law_cell : Addr} {fd : FuncData} (FD : FunD K "_law_cell" "_law_cell" (defArgs s__law_cell) (defBody s__law_cell) (defScope s__law_cell) [] [] f__law_cell fd) (T : Txt P w K mg cm)   : DefP P w K mg base cm 1 2 f__law_cell d__law_cell [] := by
  refine ⟨fd, ["_law_script", "_law_k"], [], fn_ok FD sc__law_cell (fun cdv A outer s H E S0 F0 hr tk => ?_), fun S => .nil, ?_⟩
  ·
    exact (s_cons (s_if (t_cmp op_lt d_lt (pv_ (e_var 1)) (pv_ (e_callB c_len d_len T.m_len b_len (va_cons (pv_ (e_var 0)) (va_nil)))) (by rfl))
  (s_one (s_ret (e_ix (pv_ (e_var 0)) (pv_ (e_var 1)))))
  (s_nil))
  (s_cons (s_set sc__law_cell.nd rfl (by first | exact Or.inl rfl | exact Or.inr rfl) (e_int))
  (s_cons (s_for (i_e (e_var 0)) (g_name sc__law_cell.nd rfl (by first | exact Or.inl rfl | exact Or.inr rfl))
  (s_one (s_set sc__law_cell.nd rfl (by first | exact Or.inl rfl | exact Or.inr rfl) (e_op op_mod d_mod (pv_ (e_callT call_int1 d_toInt T.m_int b_int (va_cons (pv_ (e_op or_add d_add (pv_ (e_op or_mul d_mul (pv_ (e_var 2)) (pv_ (e_int)))) (pv_ (e_op op_mod d_mod (pv_ (e_callT call_int1 d_toInt T.m_int b_int (va_cons (pv_ (e_var 3)) (va_nil)))) (pv_ (e_int)))))) (va_nil)))) (pv_ (e_int))))))
  (s_one (s_ret (e_op op_mod d_mod (pv_ (e_callT call_int1 d_toInt T.m_int b_int (va_cons (pv_ (e_op or_mul d_mul (pv_ (e_op or_mul d_mul (pv_ (e_op or_add d_add (pv_ (e_var 2)) (pv_ (e_int)))) (pv_ (e_op or_add d_add (pv_ (e_var 1)) (pv_ (e_int)))))) (pv_ (e_int)))) (va_nil)))) (pv_ (e_int))))))))
  · exact fun j hj => ⟨[], by cases j <;> first | exact .nil | (exact absurd hj (by simp)), FD.bindsN fun _ _ _ _ _ _ us hl => match us, hl with | [_, _], _ => rfl⟩
theorem sc__law_picture : FnScope ["_law_row_here", "_law_size", "_law_k"] ["_law_row_here", "_law_size"] (defScope s__law_picture) := ⟨rfl, rfl, rfl, by decide +kernel, rfl, by decide +kernel, by decide +kernel⟩
theorem ok__law_picture {f__law_picture : Addr} {fd : FuncData} (FD : FunD K "_law_picture" "_law_picture" (defArgs s__law_picture) (defBody s__law_picture) (defScope s__law_picture) [] [] f__law_picture fd) (T : Txt P w K mg cm)   : DefP P w K mg base cm 1 2 f__law_picture d__law_picture [] := by
  refine ⟨fd, ["_law_row_here", "_law_size"], [], fn_ok FD sc__law_picture (fun cdv A outer s H E S0 F0 hr tk => ?_), fun S => .nil, ?_⟩
  ·
    exact (s_cons (s_if (t_w (w_and (t_cmp op_ge d_ge (pv_ (e_ix (pv_ (e_var 0)) (pv_ (e_int)))) (pv_ (e_int)) (by rfl)) (w_and1 (t_cmp op_le d_le (pv_ (e_ix (pv_ (e_var 0)) (pv_ (e_int)))) (pv_ (e_int)) (by rfl)))))
  (s_one (s_ret (e_callT call_tuple_of d_tuple T.m_tuple b_tuple (va_cons (pv_ (e_lc (own := [("_law_k", 2)]) (i_v (i_range1 T.m_range (a_cons (e_var 1) (a_nil)))) (blkOk_by (by kernel_rfl)) (fun _ _ _ _ _ => g_name sc__law_picture.nd rfl (by first | exact Or.inl rfl | exact Or.inr rfl)) (fun _ _ _ _ _ => ts_nil) (fun _ _ _ _ _ => e_op op_mod d_mod (pv_ (e_callT call_int1 d_toInt T.m_int b_int (va_cons (pv_ (e_op or_add d_add (pv_ (e_var 2)) (pv_ (e_ix (pv_ (e_var 0)) (pv_ (e_int)))))) (va_nil)))) (pv_ (e_int))) sc__law_picture.nd)) (va_nil)))))
  (s_nil))
  (s_cons (s_if (t_cmp (or_eq hr) d_eq (pv_ (e_ix (pv_ (e_var 0)) (pv_ (e_int)))) (pv_ (e_int)) (by rfl))
  (s_one (s_ret (e_callT call_tuple_of d_tuple T.m_tuple b_tuple (va_cons (pv_ (e_lc (own := [("_law_k", 2)]) (i_v (i_range1 T.m_range (a_cons (e_var 1) (a_nil)))) (blkOk_by (by kernel_rfl)) (fun _ _ _ _ _ => g_name sc__law_picture.nd rfl (by first | exact Or.inl rfl | exact Or.inr rfl)) (fun _ _ _ _ _ => ts_nil) (fun _ _ _ _ _ => e_op or_mul d_mul (pv_ (e_op op_mod d_mod (pv_ (e_callT call_int1 d_toInt T.m_int b_int (va_cons (pv_ (e_op or_add d_add (pv_ (e_var 2)) (pv_ (e_ix (pv_ (e_var 0)) (pv_ (e_int)))))) (va_nil)))) (pv_ (e_int)))) (pv_ (e_callT call_int1 d_toInt T.m_int b_int (va_cons (pv_ (e_cmp (or_ne hr) d_ne (pv_ (e_var 2)) (pv_ (e_op or_add d_add (pv_ (e_ix (pv_ (e_var 0)) (pv_ (e_int)))) (pv_ (e_int)))) (by rfl))) (va_nil))))) sc__law_picture.nd)) (va_nil)))))
  (s_nil))
  (s_cons (s_if (t_cmp (or_eq hr) d_eq (pv_ (e_ix (pv_ (e_var 0)) (pv_ (e_int)))) (pv_ (e_int)) (by rfl))
  (s_one (s_ret (e_callT call_tuple_of d_tuple T.m_tuple b_tuple (va_cons (pv_ (e_lc (own := [("_law_k", 2)]) (i_v (i_range1 T.m_range (a_cons (e_var 1) (a_nil)))) (blkOk_by (by kernel_rfl)) (fun _ _ _ _ _ => g_name sc__law_picture.nd rfl (by first | exact Or.inl rfl | exact Or.inr rfl)) (fun _ _ _ _ _ => ts_nil) (fun _ _ _ _ _ => e_callT call_int1 d_toInt T.m_int b_int (va_cons (pv_ (e_cmp (or_eq hr) d_eq (pv_ (e_var 2)) (pv_ (e_ix (pv_ (e_var 0)) (pv_ (e_int)))) (by rfl))) (va_nil))) sc__law_picture.nd)) (va_nil)))))
  (s_nil))
  (s_one (s_ret (e_callT call_tuple_of d_tuple T.m_tuple b_tuple (va_cons (pv_ (e_lc (own := [("_law_k", 2)]) (i_v (i_range1 T.m_range (a_cons (e_var 1) (a_nil)))) (blkOk_by (by kernel_rfl)) (fun _ _ _ _ _ => g_name sc__law_picture.nd rfl (by first | exact Or.inl rfl | exact Or.inr rfl)) (fun _ _ _ _ _ => ts_nil) (fun _ _ _ _ _ => e_ix (pv_ (e_var 0)) (pv_ (e_op or_add d_add (pv_ (e_int)) (pv_ (e_var 2))))) sc__law_picture.nd)) (va_nil))))))))
  · exact fun j hj => ⟨[], by cases j <;> first | exact .nil | (exact absurd hj (by simp)), FD.bindsN fun _ _ _ _ _ _ us hl => match us, hl with | [_, _], _ => rfl⟩
theorem sc__law_scene : FnScope ["_law_script", "_law_at", "_law_most", "_law_web_here", "_law_picture_here"] ["_law_script", "_law_at", "_law_most"] (defScope s__law_scene) := ⟨rfl, rfl, rfl, by decide +kernel, rfl, by decide +kernel, by decide +kernel⟩
theorem ok__law_scene {f__law_cell : Addr} {f__law_digits : Addr} {f__law_picture : Addr} {f__law_scene : Addr} {f__law_web : Addr} {fd : FuncData} (FD : FunD K "_law_scene" "_law_scene" (defArgs s__law_scene) (defBody s__law_scene) (defScope s__law_scene) [] [] f__law_scene fd) (T : Txt P w K mg cm)  (G__law_web : DefP P w K mg base cm 1 2 f__law_web d__law_web []) (A__law_web : At K mg "_law_web" f__law_web) (G__law_digits : DefP P w K mg base cm 1 2 f__law_digits d__law_digits []) (A__law_digits : At K mg "_law_digits" f__law_digits) (G__law_cell : DefP P w K mg base cm 1 2 f__law_cell d__law_cell []) (A__law_cell : At K mg "_law_cell" f__law_cell) (G__law_picture : DefP P w K mg base cm 1 2 f__law_picture d__law_picture []) (A__law_picture : At K mg "_law_picture" f__law_picture) : DefP P w K mg base cm 2 3 f__law_scene d__law_scene [] := by
  refine ⟨fd, ["_law_script", "_law_at", "_law_most"], [], fn_ok FD sc__law_scene (fun cdv A outer s H E S0 F0 hr tk => ?_), fun S => .nil, ?_⟩
  ·
    exact (s_cons (s_set sc__law_scene.nd rfl (by first | exact Or.inl rfl | exact Or.inr rfl) (e_callP 0 G__law_web A__law_web tk (hr.mono (by decide)) (by decide) (a_cons (e_callP 0 G__law_digits A__law_digits tk (hr.mono (by decide)) (by decide) (a_cons (e_callP 0 G__law_cell A__law_cell tk (hr.mono (by decide)) (by decide) (a_cons (e_var 0) (a_cons (e_var 1) (a_nil)))) (a_cons (e_op or_add d_add (pv_ (e_op or_add d_add (pv_ (e_op or_add d_add (pv_ (e_lst (a_cons (e_int) (a_nil)))) (pv_ (e_op or_mul d_mul (pv_ (e_lst (a_cons (e_int) (a_cons (e_int) (a_nil))))) (pv_ (e_int)))))) (pv_ (e_lst (a_cons (e_int) (a_nil)))))) (pv_ (e_op or_mul d_mul (pv_ (e_lst (a_cons (e_int) (a_cons (e_int) (a_nil))))) (pv_ (e_int))))) (a_nil)))) (a_cons (e_var 2) (a_nil)))))
  (s_cons (s_set sc__law_scene.nd rfl (by first | exact Or.inl rfl | exact Or.inr rfl) (e_callP 0 G__law_picture A__law_picture tk (hr.mono (by decide)) (by decide) (a_cons (e_callP 0 G__law_digits A__law_digits tk (hr.mono (by decide)) (by decide) (a_cons (e_callP 0 G__law_cell A__law_cell tk (hr.mono (by decide)) (by decide) (a_cons (e_var 0) (a_cons (e_op or_add d_add (pv_ (e_var 1)) (pv_ (e_int))) (a_nil)))) (a_cons (e_op or_add d_add (pv_ (e_lst (a_cons (e_int) (a_cons (e_int) (a_nil))))) (pv_ (e_op or_mul d_mul (pv_ (e_lst (a_cons (e_int) (a_nil)))) (pv_ (e_int))))) (a_nil)))) (a_cons (e_ix (pv_ (e_var 3)) (pv_ (e_int))) (a_nil)))))
  (s_one (s_ret (e_lst (a_cons (e_ix (pv_ (e_var 3)) (pv_ (e_int))) (a_cons (e_ix (pv_ (e_var 3)) (pv_ (e_int))) (a_cons (e_var 4) (a_nil)))))))))
  · exact fun j hj => ⟨[], by cases j <;> first | exact .nil | (exact absurd hj (by simp)), FD.bindsN fun _ _ _ _ _ _ us hl => match us, hl with | [_, _, _], _ => rfl⟩
theorem sc_BadLine___init__ : FnScope ["self", "index"] ["self", "index"] (defScope s_BadLine___init__) := ⟨rfl, rfl, rfl, by decide +kernel, rfl, by decide +kernel, by decide +kernel⟩
theorem okx_BadLine___init__ {f_BadLine___init__ : Addr} {fd : FuncData} (FD : FunD K "__init__" "BadLine.__init__" (defArgs s_BadLine___init__) (defBody s_BadLine___init__) (defScope s_BadLine___init__) [] [] f_BadLine___init__ fd) : XP1 P w K mg base 1 f_BadLine___init__ "index" := ⟨fd, ["self", "index"], rfl, xinit1 FD sc_BadLine___init__ (fun cdv A outer s H E => pss_one (ps_ost (pe_var rfl (Or.inl rfl)) (pe_var rfl (Or.inl rfl)))), FD.bindsN fun _ _ _ _ _ _ us hl => match us, hl with | [_, _], _ => rfl⟩
theorem sc_checked_lines : FnScope ["size", "pairs", "index", "a", "b"] ["size", "pairs"] (defScope s_checked_lines) := ⟨rfl, rfl, rfl, by decide +kernel, rfl, by decide +kernel, by decide +kernel⟩
theorem ok_checked_lines {f_BadLine___init__ : Addr} {f_checked_lines : Addr} {fd : FuncData} (FD : FunD K "checked_lines" "checked_lines" (defArgs s_checked_lines) (defBody s_checked_lines) (defScope s_checked_lines) [] [] f_checked_lines fd) (T : Txt P w K mg cm)  (GX_BadLine : XP1 P w K mg base 1 f_BadLine___init__ "index") (XA_BadLine : XAt K mg cm "BadLine" 7 f_BadLine___init__) : DefP P w K mg base cm 3 2 f_checked_lines d_checked_lines [] := by
  refine ⟨fd, ["size", "pairs"], [], fn_ok FD sc_checked_lines (fun cdv A outer s H E S0 F0 hr tk => ?_), fun S => .nil, ?_⟩
  ·
    exact (s_cons (s_for (i_enum T.m_enumerate (a_cons (e_var 1) (a_nil))) (g_tup rfl (gs_cons (g_name sc_checked_lines.nd rfl (by first | exact Or.inl rfl | exact Or.inr rfl)) (gs_cons (g_tup rfl (gs_cons (g_name sc_checked_lines.nd rfl (by first | exact Or.inl rfl | exact Or.inr rfl)) (gs_cons (g_name sc_checked_lines.nd rfl (by first | exact Or.inl rfl | exact Or.inr rfl)) (gs_nil)))) (gs_nil))))
  (s_one (s_if (t_w (w_or (t_cmp (or_eq hr) d_eq (pv_ (e_var 3)) (pv_ (e_var 4)) (by rfl)) (w_or (t_not (t_chain op_le d_le op_lt d_lt (pv_ (e_int)) (pv_ (e_var 3)) (pv_ (e_var 0)))) (w_or1 (t_not (t_chain op_le d_le op_lt d_lt (pv_ (e_int)) (pv_ (e_var 4)) (pv_ (e_var 0))))))))
  (s_one (s_raise1 GX_BadLine XA_BadLine T.xnm_BadLine T.xno_BadLine_index tk (hr.mono (by decide)) (e_var 2)))
  (s_nil))))
  (s_one (s_ret (e_callT call_tuple_of d_tuple T.m_tuple b_tuple (va_cons (pv_ (e_callB (cr_sortedT rfl) (opN_of (d_sortU T.hset)) T.m_sorted b_sorted (va_cons (pv_ (e_sc T.hset hr (own := [("a", 3), ("b", 4)]) (i_view (pv_ (e_var 1))) (blkOk_by (by kernel_rfl)) (fun _ _ _ _ _ => g_tup rfl (gs_cons (g_name sc_checked_lines.nd rfl (by first | exact Or.inl rfl | exact Or.inr rfl)) (gs_cons (g_name sc_checked_lines.nd rfl (by first | exact Or.inl rfl | exact Or.inr rfl)) (gs_nil)))) (fun _ _ _ _ _ => ts_nil) (fun _ _ _ _ _ => e_tup (a_cons (e_callB (call_min2 rfl) d_min2 T.m_min b_min (va_cons (pv_ (e_var 3)) (va_cons (pv_ (e_var 4)) (va_nil)))) (a_cons (e_callB (call_max2 rfl) d_max2 T.m_max b_max (va_cons (pv_ (e_var 3)) (va_cons (pv_ (e_var 4)) (va_nil)))) (a_nil)))) sc_checked_lines.nd)) (va_nil)))) (va_nil))))))
  · exact fun j hj => ⟨[], by cases j <;> first | exact .nil | (exact absurd hj (by simp)), FD.bindsN fun _ _ _ _ _ _ us hl => match us, hl with | [_, _], _ => rfl⟩
theorem sc_frozen : FnScope ["value", "item"] ["value"] (defScope s_frozen) := ⟨rfl, rfl, rfl, by decide +kernel, rfl, by decide +kernel, by decide +kernel⟩
theorem ok_frozen {f_frozen : Addr} {fd : FuncData} (FD : FunD K "frozen" "frozen" (defArgs s_frozen) (defBody s_frozen) (defScope s_frozen) [] [] f_frozen fd) (T : Txt P w K mg cm)   (A_self : At K mg "frozen" f_frozen) : ∀ k : Nat, DefP P w K mg base cm (1 + k) 1 f_frozen (d_frozen k) []
  | 0 => ⟨fd, ["value"], [], (fn_ok FD sc_frozen (F := neverS) fun cdv A outer s H E S0 F0 hr tk => ss_never), fun S => .nil, fun j hj => ⟨[], by cases j <;> first | exact .nil | (exact absurd hj (by simp)), FD.bindsN fun _ _ _ _ _ _ us hl => match us, hl with | [_], _ => rfl⟩⟩
  | k + 1 => by
    have G_self := ok_frozen FD T  A_self k
    refine ⟨fd, ["value"], [], fn_ok FD sc_frozen (fun cdv A outer s H E S0 F0 hr tk => ?_), fun S => .nil, fun j hj => ⟨[], by cases j <;> first | exact .nil | (exact absurd hj (by simp)), FD.bindsN fun _ _ _ _ _ _ us hl => match us, hl with | [_], _ => rfl⟩⟩
    exact (s_cons (s_if (t_val (e_isiT T.cls (List.forall_mem_cons.mpr ⟨T.kb_list, List.forall_mem_cons.mpr ⟨T.kb_tuple, List.forall_mem_nil _⟩⟩) (by decide) T.m_isinstance (pv_ (e_var 0)) (pa_cons (pe_bltn rfl T.m_list b_list rfl) (pa_cons (pe_bltn rfl T.m_tuple b_tuple rfl) (pa_nil)))))
  (s_one (s_ret (e_callT call_tuple_of d_tuple T.m_tuple b_tuple (va_cons (pv_ (e_lc (own := [("item", 1)]) (i_view (pv_ (e_var 0))) (blkOk_by (by kernel_rfl)) (fun _ _ _ _ _ => g_name sc_frozen.nd rfl (by first | exact Or.inl rfl | exact Or.inr rfl)) (fun _ _ _ _ _ => ts_nil) (fun _ _ _ _ _ => e_callP 0 G_self A_self takesF hr (Nat.zero_le _) (a_cons (e_var 1) (a_nil))) sc_frozen.nd)) (va_nil)))))
  (s_nil))
  (s_one (s_ret (e_var 0))))
theorem sc_neighbour_rows : FnScope ["size", "lines", "place", "rows", "a", "b", "row"] ["size", "lines"] (defScope s_neighbour_rows) := ⟨rfl, rfl, rfl, by decide +kernel, rfl, by decide +kernel, by decide +kernel⟩
theorem ok_neighbour_rows {f_neighbour_rows : Addr} {fd : FuncData} (FD : FunD K "neighbour_rows" "neighbour_rows" (defArgs s_neighbour_rows) (defBody s_neighbour_rows) (defScope s_neighbour_rows) [] [] f_neighbour_rows fd) (T : Txt P w K mg cm)   : DefP P w K mg base cm 1 2 f_neighbour_rows d_neighbour_rows [] := by
  refine ⟨fd, ["size", "lines"], [], fn_ok FD sc_neighbour_rows (fun cdv A outer s H E S0 F0 hr tk => ?_), fun S => .nil, ?_⟩
  ·
    exact (s_cons (s_setLcT sc_neighbour_rows.nd rfl rfl rfl (own := [("place", 2)]) (i_v (i_range1 T.m_range (a_cons (e_var 0) (a_nil)))) (blkOk_by (by kernel_rfl)) (fun _ _ _ _ _ => g_name sc_neighbour_rows.nd rfl (by first | exact Or.inl rfl | exact Or.inr rfl)) (fun _ _ _ _ _ => ts_nil) (fun _ _ _ _ _ => f_lst (a_nil)))
  (s_cons (s_for (i_e (e_var 1)) (g_tup rfl (gs_cons (g_name sc_neighbour_rows.nd rfl (by first | exact Or.inl rfl | exact Or.inr rfl)) (gs_cons (g_name sc_neighbour_rows.nd rfl (by first | exact Or.inl rfl | exact Or.inr rfl)) (gs_nil))))
  (s_cons (s_appP (pe_bm PySem.F.plainAttrs_list PySem.F.slot_list_append PySem.F.type_list_append mt_append (pe_ix ix_seq (pe_var rfl (by first | exact Or.inl rfl | exact Or.inr (Or.inl rfl) | exact Or.inr (Or.inr rfl))) (pv_ (e_var 4)) (fun _ _ => rfl)) (pa_cons (f_e (e_var 5)) pa_nil)))
  (s_one (s_appP (pe_bm PySem.F.plainAttrs_list PySem.F.slot_list_append PySem.F.type_list_append mt_append (pe_ix ix_seq (pe_var rfl (by first | exact Or.inl rfl | exact Or.inr (Or.inl rfl) | exact Or.inr (Or.inr rfl))) (pv_ (e_var 5)) (fun _ _ => rfl)) (pa_cons (f_e (e_var 4)) pa_nil))))))
  (s_one (s_frz 3 (s_ret (e_callT call_tuple_of d_tuple T.m_tuple b_tuple (va_cons (pv_ (e_lc (own := [("row", 6)]) (i_view (pv_ (e_var 3))) (blkOk_by (by kernel_rfl)) (fun _ _ _ _ _ => g_name sc_neighbour_rows.nd rfl (by first | exact Or.inl rfl | exact Or.inr rfl)) (fun _ _ _ _ _ => ts_nil) (fun _ _ _ _ _ => e_callT call_tuple_of d_tuple T.m_tuple b_tuple (va_cons (pv_ (e_callB cr_sortedI (opN_of d_sortF) T.m_sorted b_sorted (va_cons (pv_ (e_var 6)) (va_nil)))) (va_nil))) sc_neighbour_rows.nd)) (va_nil))))))))
  · exact fun j hj => ⟨[], by cases j <;> first | exact .nil | (exact absurd hj (by simp)), FD.bindsN fun _ _ _ _ _ _ us hl => match us, hl with | [_, _], _ => rfl⟩
theorem sc_Web___init__ : FnScope ["self", "size", "lines"] ["self", "size", "lines"] (defScope s_Web___init__) := ⟨rfl, rfl, rfl, by decide +kernel, rfl, by decide +kernel, by decide +kernel⟩
theorem ok_Web___init__ {f_Web___init__ : Addr} {f_checked_lines : Addr} {f_frozen : Addr} {f_neighbour_rows : Addr} {t0_Web___init__ : Addr} {fd : FuncData} (FD : FunD K "__init__" "Web.__init__" (defArgs s_Web___init__) (defBody s_Web___init__) (defScope s_Web___init__) [.ref t0_Web___init__] [] f_Web___init__ fd) (T : Txt P w K mg cm) (e0_Web___init__ : ∃ o m, K.lookup t0_Web___init__ = some o ∧ o.cls = .type "tuple" ∧ o.data = .seq #[] m) (G_checked_lines : DefP P w K mg base cm 3 2 f_checked_lines d_checked_lines []) (A_checked_lines : At K mg "checked_lines" f_checked_lines) (G_frozen : DefP P w K mg base cm 7 1 f_frozen (d_frozen 6) []) (A_frozen : At K mg "frozen" f_frozen) (G_neighbour_rows : DefP P w K mg base cm 1 2 f_neighbour_rows d_neighbour_rows []) (A_neighbour_rows : At K mg "neighbour_rows" f_neighbour_rows) : IniP P w K mg base cm 8 2 46 f_Web___init__ d_Web___init__ [.tup []] := by
  refine ⟨fd, ["self", "size", "lines"], [.ref t0_Web___init__], init_ok T.in_Web FD sc_Web___init__ rfl (fun cdv A outer s H E S0 F0 x hr tk => ?_), fun S => .cons (match e0_Web___init__ with | ⟨_, _, a, b, c⟩ => rep_t0 a b c S) .nil, ?_⟩
  ·
    exact (s_cons (s_slf (T.f_size (46, 0) (by decide) T.in_Web) (by rw [T.nm_Web]; decide) (pe_var rfl (Or.inl rfl)) (e_var 1))
  (s_cons (s_slf (T.f_lines (46, 1) (by decide) T.in_Web) (by rw [T.nm_Web]; decide) (pe_var rfl (Or.inl rfl)) (e_callP 0 G_checked_lines A_checked_lines tk (hr.mono (by decide)) (by decide) (a_cons (e_var 1) (a_cons (e_callP 0 G_frozen A_frozen tk (hr.mono (by decide)) (by decide) (a_cons (e_var 2) (a_nil))) (a_nil)))))
  (s_one (s_slf (T.f_around (46, 2) (by decide) T.in_Web) (by rw [T.nm_Web]; decide) (pe_var rfl (Or.inl rfl)) (e_callP 0 G_neighbour_rows A_neighbour_rows tk (hr.mono (by decide)) (by decide) (a_cons (e_var 1) (a_cons (e_slf (T.f_lines (46, 1) (by decide) T.in_Web) (pe_var rfl (Or.inl rfl))) (a_nil))))))))
  · exact fun j hj => match j, hj with
    | 0, _ => FD.binds1 2 0 (by simp) rfl fun _ _ _ _ _ _ _ us its hl hi => match us, its, hl, hi with | [_, _], [_], _, _ => ⟨_, rfl, rfl⟩
    | 1, _ => FD.binds1 3 1 (by simp) rfl fun _ _ _ _ _ _ _ us its hl hi => match us, its, hl, hi with | [_, _, _], [_], _, _ => ⟨_, rfl, rfl⟩
    | _ + 2, hj => absurd hj (by simp)
theorem sc_BadPicture___init__ : FnScope ["self", "index"] ["self", "index"] (defScope s_BadPicture___init__) := ⟨rfl, rfl, rfl, by decide +kernel, rfl, by decide +kernel, by decide +kernel⟩
theorem okx_BadPicture___init__ {f_BadPicture___init__ : Addr} {fd : FuncData} (FD : FunD K "__init__" "BadPicture.__init__" (defArgs s_BadPicture___init__) (defBody s_BadPicture___init__) (defScope s_BadPicture___init__) [] [] f_BadPicture___init__ fd) : XP1 P w K mg base 1 f_BadPicture___init__ "index" := ⟨fd, ["self", "index"], rfl, xinit1 FD sc_BadPicture___init__ (fun cdv A outer s H E => pss_one (ps_ost (pe_var rfl (Or.inl rfl)) (pe_var rfl (Or.inl rfl)))), FD.bindsN fun _ _ _ _ _ _ us hl => match us, hl with | [_, _], _ => rfl⟩
theorem sc_Scene___init__ : FnScope ["self", "web", "picture", "states", "index"] ["self", "web", "picture"] (defScope s_Scene___init__) := ⟨rfl, rfl, rfl, by decide +kernel, rfl, by decide +kernel, by decide +kernel⟩
theorem ok_Scene___init__ {f_BadPicture___init__ : Addr} {f_Scene___init__ : Addr} {f_frozen : Addr} {fd : FuncData} (FD : FunD K "__init__" "Scene.__init__" (defArgs s_Scene___init__) (defBody s_Scene___init__) (defScope s_Scene___init__) [] [] f_Scene___init__ fd) (T : Txt P w K mg cm)  (G_frozen : DefP P w K mg base cm 7 1 f_frozen (d_frozen 6) []) (A_frozen : At K mg "frozen" f_frozen) (GX_BadPicture : XP1 P w K mg base 1 f_BadPicture___init__ "index") (XA_BadPicture : XAt K mg cm "BadPicture" 10 f_BadPicture___init__) : IniP P w K mg base cm 8 2 39 f_Scene___init__ d_Scene___init__ [] := by
  refine ⟨fd, ["self", "web", "picture"], [], init_ok T.in_Scene FD sc_Scene___init__ rfl (fun cdv A outer s H E S0 F0 x hr tk => ?_), fun S => .nil, ?_⟩
  ·
    exact (s_cons (s_set sc_Scene___init__.nd rfl (by first | exact Or.inl rfl | exact Or.inr rfl) (e_callP 0 G_frozen A_frozen tk (hr.mono (by decide)) (by decide) (a_cons (e_var 2) (a_nil))))
  (s_cons (s_for (i_range1 T.m_range (a_cons (e_callB (call_max2 rfl) d_max2 T.m_max b_max (va_cons (pv_ (e_fld T.f_size (e_var 1))) (va_cons (pv_ (e_callB c_len d_len T.m_len b_len (va_cons (pv_ (e_var 3)) (va_nil)))) (va_nil)))) (a_nil))) (g_name sc_Scene___init__.nd rfl (by first | exact Or.inl rfl | exact Or.inr rfl))
  (s_one (s_if (t_w (w_or (t_cmp op_ge d_ge (pv_ (e_var 4)) (pv_ (e_fld T.f_size (e_var 1))) (by rfl)) (w_or (t_cmp op_ge d_ge (pv_ (e_var 4)) (pv_ (e_callB c_len d_len T.m_len b_len (va_cons (pv_ (e_var 3)) (va_nil)))) (by rfl)) (w_or1 (t_cmp (or_notIn hr) d_notIn (pv_ (e_ix (pv_ (e_var 3)) (pv_ (e_var 4)))) (pv_ (e_tup (a_cons (e_int) (a_cons (e_int) (a_cons (e_int) (a_nil)))))) (by rfl))))))
  (s_one (s_raise1 GX_BadPicture XA_BadPicture T.xnm_BadPicture T.xno_BadPicture_index tk (hr.mono (by decide)) (e_var 4)))
  (s_nil))))
  (s_cons (s_slf (T.f_web (39, 0) (by decide) T.in_Scene) (by rw [T.nm_Scene]; decide) (pe_var rfl (Or.inl rfl)) (e_var 1))
  (s_one (s_slf (T.f_picture (39, 1) (by decide) T.in_Scene) (by rw [T.nm_Scene]; decide) (pe_var rfl (Or.inl rfl)) (e_var 3))))))
  · exact fun j hj => ⟨[], by cases j <;> first | exact .nil | (exact absurd hj (by simp)), FD.bindsN fun _ _ _ _ _ _ us hl => match us, hl with | [_, _, _], _ => rfl⟩
theorem sc_Web___eq__ : FnScope ["self", "other"] ["self", "other"] (defScope s_Web___eq__) := ⟨rfl, rfl, rfl, by decide +kernel, rfl, by decide +kernel, by decide +kernel⟩
theorem ok_Web___eq__ {f_Web___eq__ : Addr} {fd : FuncData} (FD : FunD K "__eq__" "Web.__eq__" (defArgs s_Web___eq__) (defBody s_Web___eq__) (defScope s_Web___eq__) [] [] f_Web___eq__ fd) (T : Txt P w K mg cm)   : DefP P w K mg base cm 1 2 f_Web___eq__ d_Web___eq__ [] := by
  refine ⟨fd, ["self", "other"], [], fn_ok FD sc_Web___eq__ (fun cdv A outer s H E S0 F0 hr tk => ?_), fun S => .nil, ?_⟩
  ·
    exact (s_one (s_ret (e_and (e_isi T.cls T.kc_Web T.m_isinstance (pv_ (e_var 1)) (pe_glob rfl T.cg_Web rfl)) (e_and (e_cmp (or_eq hr) d_eq (pv_ (e_fld T.f_size (e_var 0))) (pv_ (e_fld T.f_size (e_var 1))) (by rfl)) (e_one (e_cmp (or_eq hr) d_eq (pv_ (e_fld T.f_lines (e_var 0))) (pv_ (e_fld T.f_lines (e_var 1))) (by rfl)))))))
  · exact fun j hj => ⟨[], by cases j <;> first | exact .nil | (exact absurd hj (by simp)), FD.bindsN fun _ _ _ _ _ _ us hl => match us, hl with | [_, _], _ => rfl⟩
theorem sc__law_whole : FnScope ["_law_value"] ["_law_value"] (defScope s__law_whole) := ⟨rfl, rfl, rfl, by decide +kernel, rfl, by decide +kernel, by decide +kernel⟩
theorem warm__law_whole {f__law_whole : Addr} {fd : FuncData} (FD : FunD K "_law_whole" "_law_whole" (defArgs s__law_whole) (defBody s__law_whole) (defScope s__law_whole) [] [] f__law_whole fd) (T : Txt P w K mg cm)   : WarmP P w K mg base cm 1 f__law_whole d__law_whole := warm_ok FD sc__law_whole (FD.bindsN fun _ _ _ _ _ _ us hl => match us, hl with | [_], _ => rfl) (fun cdv A outer s H E p W c => s_one (s_ret (e_and (e_isi T.cls T.kb_int T.m_isinstance (pv_ (e_var 0)) (pe_bltn rfl T.m_int b_int rfl)) (e_one (e_not (e_isi T.cls T.kb_bool T.m_isinstance (pv_ (e_var 0)) (pe_bltn rfl T.m_bool b_bool rfl)))))))
theorem ok__law_whole {f__law_whole : Addr} {fd : FuncData} (FD : FunD K "_law_whole" "_law_whole" (defArgs s__law_whole) (defBody s__law_whole) (defScope s__law_whole) [] [] f__law_whole fd) (T : Txt P w K mg cm)   : DefP P w K mg base cm 1 1 f__law_whole d__law_whole [] := by
  refine ⟨fd, ["_law_value"], [], fn_ok FD sc__law_whole (fun cdv A outer s H E S0 F0 hr tk => ?_), fun S => .nil, ?_⟩
  ·
    exact (s_one (s_ret (e_and (e_isi T.cls T.kb_int T.m_isinstance (pv_ (e_var 0)) (pe_bltn rfl T.m_int b_int rfl)) (e_one (e_not (e_isi T.cls T.kb_bool T.m_isinstance (pv_ (e_var 0)) (pe_bltn rfl T.m_bool b_bool rfl)))))))
  · exact fun j hj => ⟨[], by cases j <;> first | exact .nil | (exact absurd hj (by simp)), FD.bindsN fun _ _ _ _ _ _ us hl => match us, hl with | [_], _ => rfl⟩
theorem sc__law_row : FnScope ["_law_value", "_law_many", "_law_x"] ["_law_value", "_law_many"] (defScope s__law_row) := ⟨rfl, rfl, rfl, by decide +kernel, rfl, by decide +kernel, by decide +kernel⟩
theorem ok__law_row {f__law_row : Addr} {f__law_whole : Addr} {fd : FuncData} (FD : FunD K "_law_row" "_law_row" (defArgs s__law_row) (defBody s__law_row) (defScope s__law_row) [] [] f__law_row fd) (T : Txt P w K mg cm)  (G__law_whole : DefP P w K mg base cm 1 1 f__law_whole d__law_whole []) (A__law_whole : At K mg "_law_whole" f__law_whole) : DefP P w K mg base cm 2 2 f__law_row d__law_row [] := by
  refine ⟨fd, ["_law_value", "_law_many"], [], fn_ok FD sc__law_row (fun cdv A outer s H E S0 F0 hr tk => ?_), fun S => .nil, ?_⟩
  ·
    exact (s_one (s_ret (e_and (e_isi T.cls T.kb_tuple T.m_isinstance (pv_ (e_var 0)) (pe_bltn rfl T.m_tuple b_tuple rfl)) (e_and (e_cmp (or_eq hr) d_eq (pv_ (e_callB c_len d_len T.m_len b_len (va_cons (pv_ (e_var 0)) (va_nil)))) (pv_ (e_var 1)) (by rfl)) (e_one (e_cmp (or_eq hr) d_eq (pv_ (e_callB c_len d_len T.m_len b_len (va_cons (pv_ (e_lc (own := [("_law_x", 2)]) (i_view (pv_ (e_var 0))) (blkOk_by (by kernel_rfl)) (fun _ _ _ _ _ => g_name sc__law_row.nd rfl (by first | exact Or.inl rfl | exact Or.inr rfl)) (fun _ _ _ _ _ => ts_one (t_not (t_val (e_callP 0 G__law_whole A__law_whole takesF (hr.mono (by decide)) (by decide) (a_cons (e_var 2) (a_nil)))))) (fun _ _ _ _ _ => e_var 2) sc__law_row.nd)) (va_nil)))) (pv_ (e_int)) (by rfl)))))))
  · exact fun j hj => ⟨[], by cases j <;> first | exact .nil | (exact absurd hj (by simp)), FD.bindsN fun _ _ _ _ _ _ us hl => match us, hl with | [_, _], _ => rfl⟩
theorem sc__law_is_scene : FnScope ["_law_scene_here", "_law_web_here", "_law_picture_here"] ["_law_scene_here", "_law_web_here", "_law_picture_here"] (defScope s__law_is_scene) := ⟨rfl, rfl, rfl, by decide +kernel, rfl, by decide +kernel, by decide +kernel⟩
theorem ok__law_is_scene {f_Web___eq__ : Addr} {f__law_is_scene : Addr} {f__law_row : Addr} {fd : FuncData} (FD : FunD K "_law_is_scene" "_law_is_scene" (defArgs s__law_is_scene) (defBody s__law_is_scene) (defScope s__law_is_scene) [] [] f__law_is_scene fd) (T : Txt P w K mg cm)  (G_Web___eq__ : DefP P w K mg base cm 1 2 f_Web___eq__ d_Web___eq__ []) (Q_Web : EqP K cm 46 f_Web___eq__) (G__law_row : DefP P w K mg base cm 2 2 f__law_row d__law_row []) (A__law_row : At K mg "_law_row" f__law_row) : DefP P w K mg base cm 3 3 f__law_is_scene d__law_is_scene [] := by
  refine ⟨fd, ["_law_scene_here", "_law_web_here", "_law_picture_here"], [], fn_ok FD sc__law_is_scene (fun cdv A outer s H E S0 F0 hr tk => ?_), fun S => .nil, ?_⟩
  ·
    exact (s_cons (s_if (t_w (w_or (t_not (t_val (e_isi T.cls T.kc_Scene T.m_isinstance (pv_ (e_var 0)) (pe_glob rfl T.cg_Scene rfl)))) (w_or1 (t_not (t_eqP T.cls G_Web___eq__ Q_Web tk (hr.mono (by decide)) (e_fld T.f_web (e_var 0)) (e_var 1))))))
  (s_one (s_ret (e_bl)))
  (s_nil))
  (s_one (s_ret (e_and (e_callP 0 G__law_row A__law_row tk (hr.mono (by decide)) (by decide) (a_cons (e_fld T.f_picture (e_var 0)) (a_cons (e_callB c_len d_len T.m_len b_len (va_cons (pv_ (e_var 2)) (va_nil))) (a_nil)))) (e_one (e_cmp (or_eq hr) d_eq (pv_ (e_callT call_list_of (opN_of d_listF) T.m_list b_list (va_cons (pv_ (e_fld T.f_picture (e_var 0))) (va_nil)))) (pv_ (e_callT call_list_of (opN_of d_listF) T.m_list b_list (va_cons (pv_ (e_var 2)) (va_nil)))) (by rfl)))))))
  · exact fun j hj => ⟨[], by cases j <;> first | exact .nil | (exact absurd hj (by simp)), FD.bindsN fun _ _ _ _ _ _ us hl => match us, hl with | [_, _, _], _ => rfl⟩
theorem sc_all_ready : FnScope ["web"] ["web"] (defScope s_all_ready) := ⟨rfl, rfl, rfl, by decide +kernel, rfl, by decide +kernel, by decide +kernel⟩
theorem ok_all_ready {f_Scene___init__ : Addr} {f_all_ready : Addr} {fd : FuncData} (FD : FunD K "all_ready" "all_ready" (defArgs s_all_ready) (defBody s_all_ready) (defScope s_all_ready) [] [] f_all_ready fd) (T : Txt P w K mg cm)  (G_Scene___init__ : IniP P w K mg base cm 8 2 39 f_Scene___init__ d_Scene___init__ []) (C_Scene : ClsAt K mg cm "Scene" 39 f_Scene___init__) : DefP P w K mg base cm 10 1 f_all_ready d_all_ready [] := by
  refine ⟨fd, ["web"], [], fn_ok FD sc_all_ready (fun cdv A outer s H E S0 F0 hr tk => ?_), fun S => .nil, ?_⟩
  ·
    exact (s_one (s_ret (e_makeP 0 G_Scene___init__ C_Scene tk (hr.mono (by decide)) (by decide) (a_cons (e_var 0) (a_cons (e_op or_mul d_mul (pv_ (e_lst (a_cons (e_int) (a_nil)))) (pv_ (e_fld T.f_size (e_var 0)))) (a_nil))))))
  · exact fun j hj => ⟨[], by cases j <;> first | exact .nil | (exact absurd hj (by simp)), FD.bindsN fun _ _ _ _ _ _ us hl => match us, hl with | [_], _ => rfl⟩
theorem sc__law_fault : FnScope ["_law_size", "_law_states", "_law_k"] ["_law_size", "_law_states"] (defScope s__law_fault) := ⟨rfl, rfl, rfl, by decide +kernel, rfl, by decide +kernel, by decide +kernel⟩
theorem ok__law_fault {f__law_fault : Addr} {fd : FuncData} (FD : FunD K "_law_fault" "_law_fault" (defArgs s__law_fault) (defBody s__law_fault) (defScope s__law_fault) [] [] f__law_fault fd) (T : Txt P w K mg cm)   : DefP P w K mg base cm 1 2 f__law_fault d__law_fault [] := by
  refine ⟨fd, ["_law_size", "_law_states"], [], fn_ok FD sc__law_fault (fun cdv A outer s H E S0 F0 hr tk => ?_), fun S => .nil, ?_⟩
  ·
    exact (s_cons (s_for (i_range1 T.m_range (a_cons (e_callB (call_max2 rfl) d_max2 T.m_max b_max (va_cons (pv_ (e_var 0)) (va_cons (pv_ (e_callB c_len d_len T.m_len b_len (va_cons (pv_ (e_var 1)) (va_nil)))) (va_nil)))) (a_nil))) (g_name sc__law_fault.nd rfl (by first | exact Or.inl rfl | exact Or.inr rfl))
  (s_one (s_if (t_w (w_or (t_cmp op_ge d_ge (pv_ (e_var 2)) (pv_ (e_var 0)) (by rfl)) (w_or (t_cmp op_ge d_ge (pv_ (e_var 2)) (pv_ (e_callB c_len d_len T.m_len b_len (va_cons (pv_ (e_var 1)) (va_nil)))) (by rfl)) (w_or1 (t_cmp (or_notIn hr) d_notIn (pv_ (e_ix (pv_ (e_var 1)) (pv_ (e_var 2)))) (pv_ (e_lst (a_cons (e_int) (a_cons (e_int) (a_cons (e_int) (a_nil)))))) (by rfl))))))
  (s_one (s_ret (e_var 2)))
  (s_nil))))
  (s_one (s_ret (e_non))))
  · exact fun j hj => ⟨[], by cases j <;> first | exact .nil | (exact absurd hj (by simp)), FD.bindsN fun _ _ _ _ _ _ us hl => match us, hl with | [_, _], _ => rfl⟩
theorem sc__law_made : FnScope ["_law_web_here", "_law_size", "_law_states", "_law_handed", "_law_due", "_law_scene_here", "e"] ["_law_web_here", "_law_size", "_law_states", "_law_handed"] (defScope s__law_made) := ⟨rfl, rfl, rfl, by decide +kernel, rfl, by decide +kernel, by decide +kernel⟩
theorem ok__law_made {f_Scene___init__ : Addr} {f__law_fault : Addr} {f__law_is_scene : Addr} {f__law_made : Addr} {f__law_whole : Addr} {fd : FuncData} (FD : FunD K "_law_made" "_law_made" (defArgs s__law_made) (defBody s__law_made) (defScope s__law_made) [] [] f__law_made fd) (T : Txt P w K mg cm)  (G__law_fault : DefP P w K mg base cm 1 2 f__law_fault d__law_fault []) (A__law_fault : At K mg "_law_fault" f__law_fault) (G_Scene___init__ : IniP P w K mg base cm 8 2 39 f_Scene___init__ d_Scene___init__ []) (C_Scene : ClsAt K mg cm "Scene" 39 f_Scene___init__) (G__law_is_scene : DefP P w K mg base cm 3 3 f__law_is_scene d__law_is_scene []) (A__law_is_scene : At K mg "_law_is_scene" f__law_is_scene) (G__law_whole : DefP P w K mg base cm 1 1 f__law_whole d__law_whole []) (A__law_whole : At K mg "_law_whole" f__law_whole) (GW__law_whole : WarmP P w K mg base cm 1 f__law_whole d__law_whole) : DefP P w K mg base cm 10 4 f__law_made d__law_made [] := by
  refine ⟨fd, ["_law_web_here", "_law_size", "_law_states", "_law_handed"], [], fn_ok FD sc__law_made (fun cdv A outer s H E S0 F0 hr tk => ?_), fun S => .nil, ?_⟩
  ·
    exact (s_cons (s_set sc__law_made.nd rfl (by first | exact Or.inl rfl | exact Or.inr rfl) (e_callP 0 G__law_fault A__law_fault tk (hr.mono (by decide)) (by decide) (a_cons (e_var 1) (a_cons (e_var 2) (a_nil)))))
  (s_one (s_try rfl rfl sc__law_made.nd rfl rfl ⟨rfl, by decide, .inl T.xcg_BadPicture⟩ tk rfl T.xh_BadPicture (fun W' pn xe tk hp => s_cons (s_set sc__law_made.nd rfl (by first | exact Or.inl rfl | exact Or.inr rfl) (e_makeP 0 G_Scene___init__ C_Scene tk (hr.mono (by decide)) (by decide) (a_cons (e_var 0) (a_cons (e_var 3) (a_nil)))))
  (s_one (s_ret (e_and (e_cmp op_isN d_isN (pv_ (e_var 4)) (pv_ (e_non)) (by rfl)) (e_one (e_callP 0 G__law_is_scene A__law_is_scene tk (hr.mono (by decide)) (by decide) (a_cons (e_var 5) (a_cons (e_var 0) (a_cons (e_var 2) (a_nil))))))))))
  (fun a oe cls d pn e S0 c' hz hd hx => s_cons (s_if (t_w (w_or (t_cmp op_isN d_isN (pv_ (e_var 4)) (pv_ (e_non)) (by rfl)) (w_or (t_not (t_val (e_warm GW__law_whole A__law_whole (hr.mono (by decide) : Room 2 _) (a_cons (e_xf T.xf_index hz hd hx) (a_nil))))) (w_or (t_cmp (or_neX hr) d_ne (pv_ (e_xf T.xf_index hz hd hx)) (pv_ (e_var 4)) (by rfl)) (w_or1 (t_val (e_xis T.xl T.xk_BadLine T.m_isinstance hz hd hx (pe_glob rfl T.xcg_BadLine rfl))))))))
  (s_one (s_ret (e_bl)))
  (s_nil))
  (s_one (s_ret (e_and (e_xis T.xl T.xk_FirerestError T.m_isinstance hz hd hx (pe_glob rfl T.xcg_FirerestError rfl)) (e_one (e_xis T.xl T.xkb_ValueError T.m_isinstance hz hd hx (pe_bltn rfl T.m_ValueError PyProof.Rows.Boot.«ValueError» rfl))))))))))
  · exact fun j hj => ⟨[], by cases j <;> first | exact .nil | (exact absurd hj (by simp)), FD.bindsN fun _ _ _ _ _ _ us hl => match us, hl with | [_, _, _, _], _ => rfl⟩
theorem sc_mirror : FnScope ["scene", "state"] ["scene"] (defScope s_mirror) := ⟨rfl, rfl, rfl, by decide +kernel, rfl, by decide +kernel, by decide +kernel⟩
theorem ok_mirror {f_Scene___init__ : Addr} {f_mirror : Addr} {fd : FuncData} (FD : FunD K "mirror" "mirror" (defArgs s_mirror) (defBody s_mirror) (defScope s_mirror) [] [] f_mirror fd) (T : Txt P w K mg cm)  (G_Scene___init__ : IniP P w K mg base cm 8 2 39 f_Scene___init__ d_Scene___init__ []) (C_Scene : ClsAt K mg cm "Scene" 39 f_Scene___init__) : DefP P w K mg base cm 10 1 f_mirror d_mirror [] := by
  refine ⟨fd, ["scene"], [], fn_ok FD sc_mirror (fun cdv A outer s H E S0 F0 hr tk => ?_), fun S => .nil, ?_⟩
  ·
    exact (s_one (s_ret (e_makeP 0 G_Scene___init__ C_Scene tk (hr.mono (by decide)) (by decide) (a_cons (e_fld T.f_web (e_var 0)) (a_cons (e_lc (own := [("state", 1)]) (i_view (pv_ (e_fld T.f_picture (e_var 0)))) (blkOk_by (by kernel_rfl)) (fun _ _ _ _ _ => g_name sc_mirror.nd rfl (by first | exact Or.inl rfl | exact Or.inr rfl)) (fun _ _ _ _ _ => ts_nil) (fun _ _ _ _ _ => e_op op_mod d_mod (pv_ (e_op op_sub d_sub (pv_ (e_int)) (pv_ (e_var 1)))) (pv_ (e_int))) sc_mirror.nd) (a_nil))))))
  · exact fun j hj => ⟨[], by cases j <;> first | exact .nil | (exact absurd hj (by simp)), FD.bindsN fun _ _ _ _ _ _ us hl => match us, hl with | [_], _ => rfl⟩
theorem sc_turned : FnScope ["scene", "times", "state"] ["scene", "times"] (defScope s_turned) := ⟨rfl, rfl, rfl, by decide +kernel, rfl, by decide +kernel, by decide +kernel⟩
theorem ok_turned {f_Scene___init__ : Addr} {f_turned : Addr} {fd : FuncData} (FD : FunD K "turned" "turned" (defArgs s_turned) (defBody s_turned) (defScope s_turned) [] [] f_turned fd) (T : Txt P w K mg cm)  (G_Scene___init__ : IniP P w K mg base cm 8 2 39 f_Scene___init__ d_Scene___init__ []) (C_Scene : ClsAt K mg cm "Scene" 39 f_Scene___init__) : DefP P w K mg base cm 10 2 f_turned d_turned [] := by
  refine ⟨fd, ["scene", "times"], [], fn_ok FD sc_turned (fun cdv A outer s H E S0 F0 hr tk => ?_), fun S => .nil, ?_⟩
  ·
    exact (s_one (s_ret (e_makeP 0 G_Scene___init__ C_Scene tk (hr.mono (by decide)) (by decide) (a_cons (e_fld T.f_web (e_var 0)) (a_cons (e_lc (own := [("state", 2)]) (i_view (pv_ (e_fld T.f_picture (e_var 0)))) (blkOk_by (by kernel_rfl)) (fun _ _ _ _ _ => g_name sc_turned.nd rfl (by first | exact Or.inl rfl | exact Or.inr rfl)) (fun _ _ _ _ _ => ts_nil) (fun _ _ _ _ _ => e_op op_mod d_mod (pv_ (e_op or_add d_add (pv_ (e_var 2)) (pv_ (e_var 1)))) (pv_ (e_int))) sc_turned.nd) (a_nil))))))
  · exact fun j hj => ⟨[], by cases j <;> first | exact .nil | (exact absurd hj (by simp)), FD.bindsN fun _ _ _ _ _ _ us hl => match us, hl with | [_, _], _ => rfl⟩
theorem sc_picture_text : FnScope ["scene", "state"] ["scene"] (defScope s_picture_text) := ⟨rfl, rfl, rfl, by decide +kernel, rfl, by decide +kernel, by decide +kernel⟩
theorem ok_picture_text {f_picture_text : Addr} {fd : FuncData} (FD : FunD K "picture_text" "picture_text" (defArgs s_picture_text) (defBody s_picture_text) (defScope s_picture_text) [] [] f_picture_text fd) (T : Txt P w K mg cm)   : DefP P w K mg base cm 1 1 f_picture_text d_picture_text [] := by
  refine ⟨fd, ["scene"], [], fn_ok FD sc_picture_text (fun cdv A outer s H E S0 F0 hr tk => ?_), fun S => .nil, ?_⟩
  ·
    exact (s_one (s_ret (e_join (e_str) (e_lc (own := [("state", 1)]) (i_view (pv_ (e_fld T.f_picture (e_var 0)))) (blkOk_by (by kernel_rfl)) (fun _ _ _ _ _ => g_name sc_picture_text.nd rfl (by first | exact Or.inl rfl | exact Or.inr rfl)) (fun _ _ _ _ _ => ts_nil) (fun _ _ _ _ _ => e_ix (pv_ (e_gstr T.gs_SIGNS)) (pv_ (e_var 1))) sc_picture_text.nd))))
  · exact fun j hj => ⟨[], by cases j <;> first | exact .nil | (exact absurd hj (by simp)), FD.bindsN fun _ _ _ _ _ _ us hl => match us, hl with | [_], _ => rfl⟩
theorem sc__law_texts : FnScope ["_law_text", "_law_sign", "_law_at", "_law_cut", "_law_texts_here"] ["_law_text", "_law_sign", "_law_at", "_law_cut"] (defScope s__law_texts) := ⟨rfl, rfl, rfl, by decide +kernel, rfl, by decide +kernel, by decide +kernel⟩
theorem ok__law_texts {f__law_texts : Addr} {fd : FuncData} (FD : FunD K "_law_texts" "_law_texts" (defArgs s__law_texts) (defBody s__law_texts) (defScope s__law_texts) [] [] f__law_texts fd) (T : Txt P w K mg cm)   : DefP P w K mg base cm 1 4 f__law_texts d__law_texts [] := by
  refine ⟨fd, ["_law_text", "_law_sign", "_law_at", "_law_cut"], [], fn_ok FD sc__law_texts (fun cdv A outer s H E S0 F0 hr tk => ?_), fun S => .nil, ?_⟩
  ·
    exact (s_cons (s_set sc__law_texts.nd rfl (by first | exact Or.inl rfl | exact Or.inr rfl) (e_lst (a_cons (e_var 0) (a_cons (e_op or_add d_add (pv_ (e_var 0)) (pv_ (e_var 1))) (a_cons (e_op or_add d_add (pv_ (e_op or_add d_add (pv_ (e_sl (pv_ (e_op or_add d_add (pv_ (e_var 0)) (pv_ (e_str)))) (o_none) (o_some (pv_ (e_var 2))))) (pv_ (e_var 1)))) (pv_ (e_sl (pv_ (e_var 0)) (o_some (pv_ (e_var 2))) (o_none)))) (a_cons (e_sl (pv_ (e_var 0)) (o_none) (o_some (pv_ (e_var 3)))) (a_cons (e_op or_add d_add (pv_ (e_op or_add d_add (pv_ (e_sl (pv_ (e_var 0)) (o_none) (o_some (pv_ (e_var 2))))) (pv_ (e_var 1)))) (pv_ (e_sl (pv_ (e_var 0)) (o_some (pv_ (e_op or_add d_add (pv_ (e_var 2)) (pv_ (e_int))))) (o_none)))) (a_nil))))))))
  (s_one (s_ret (e_op or_add d_add (pv_ (e_var 4)) (pv_ (e_lst (a_cons (e_sl (pv_ (e_op or_add d_add (pv_ (e_op or_add d_add (pv_ (e_sl (pv_ (e_var 0)) (o_none) (o_some (pv_ (e_var 2))))) (pv_ (e_var 1)))) (pv_ (e_sl (pv_ (e_var 0)) (o_some (pv_ (e_op or_add d_add (pv_ (e_var 2)) (pv_ (e_int))))) (o_none))))) (o_none) (o_some (pv_ (e_var 3)))) (a_cons (e_op or_add d_add (pv_ (e_op or_add d_add (pv_ (e_var 1)) (pv_ (e_sl (pv_ (e_var 0)) (o_some (pv_ (e_int))) (o_some (pv_ (e_var 3))))))) (pv_ (e_var 1))) (a_cons (e_str) (a_nil))))))))))
  · exact fun j hj => ⟨[], by cases j <;> first | exact .nil | (exact absurd hj (by simp)), FD.bindsN fun _ _ _ _ _ _ us hl => match us, hl with | [_, _, _, _], _ => rfl⟩
theorem sc_scene_of_text : FnScope ["web", "text", "sign"] ["web", "text"] (defScope s_scene_of_text) := ⟨rfl, rfl, rfl, by decide +kernel, rfl, by decide +kernel, by decide +kernel⟩
theorem ok_scene_of_text {f_Scene___init__ : Addr} {f_scene_of_text : Addr} {fd : FuncData} (FD : FunD K "scene_of_text" "scene_of_text" (defArgs s_scene_of_text) (defBody s_scene_of_text) (defScope s_scene_of_text) [] [] f_scene_of_text fd) (T : Txt P w K mg cm)  (G_Scene___init__ : IniP P w K mg base cm 8 2 39 f_Scene___init__ d_Scene___init__ []) (C_Scene : ClsAt K mg cm "Scene" 39 f_Scene___init__) : DefP P w K mg base cm 10 2 f_scene_of_text d_scene_of_text [] := by
  refine ⟨fd, ["web", "text"], [], fn_ok FD sc_scene_of_text (fun cdv A outer s H E S0 F0 hr tk => ?_), fun S => .nil, ?_⟩
  ·
    exact (s_one (s_ret (e_makeP 0 G_Scene___init__ C_Scene tk (hr.mono (by decide)) (by decide) (a_cons (e_var 0) (a_cons (e_lc (own := [("sign", 2)]) (i_v (i_str (e_var 1))) (blkOk_by (by kernel_rfl)) (fun _ _ _ _ _ => g_name sc_scene_of_text.nd rfl (by first | exact Or.inl rfl | exact Or.inr rfl)) (fun _ _ _ _ _ => ts_nil) (fun _ _ _ _ _ => e_find (e_gstr T.gs_SIGNS) (e_var 2)) sc_scene_of_text.nd) (a_nil))))))
  · exact fun j hj => ⟨[], by cases j <;> first | exact .nil | (exact absurd hj (by simp)), FD.bindsN fun _ _ _ _ _ _ us hl => match us, hl with | [_, _], _ => rfl⟩
theorem sc__law_read : FnScope ["_law_web_here", "_law_size", "_law_text", "_law_sign", "_law_states", "_law_due", "_law_scene_here", "e"] ["_law_web_here", "_law_size", "_law_text"] (defScope s__law_read) := ⟨rfl, rfl, rfl, by decide +kernel, rfl, by decide +kernel, by decide +kernel⟩
theorem ok__law_read {f__law_fault : Addr} {f__law_is_scene : Addr} {f__law_read : Addr} {f__law_whole : Addr} {f_picture_text : Addr} {f_scene_of_text : Addr} {fd : FuncData} (FD : FunD K "_law_read" "_law_read" (defArgs s__law_read) (defBody s__law_read) (defScope s__law_read) [] [] f__law_read fd) (T : Txt P w K mg cm)  (G__law_fault : DefP P w K mg base cm 1 2 f__law_fault d__law_fault []) (A__law_fault : At K mg "_law_fault" f__law_fault) (G_scene_of_text : DefP P w K mg base cm 10 2 f_scene_of_text d_scene_of_text []) (A_scene_of_text : At K mg "scene_of_text" f_scene_of_text) (G__law_is_scene : DefP P w K mg base cm 3 3 f__law_is_scene d__law_is_scene []) (A__law_is_scene : At K mg "_law_is_scene" f__law_is_scene) (G_picture_text : DefP P w K mg base cm 1 1 f_picture_text d_picture_text []) (A_picture_text : At K mg "picture_text" f_picture_text) (G__law_whole : DefP P w K mg base cm 1 1 f__law_whole d__law_whole []) (A__law_whole : At K mg "_law_whole" f__law_whole) (GW__law_whole : WarmP P w K mg base cm 1 f__law_whole d__law_whole) : DefP P w K mg base cm 11 3 f__law_read d__law_read [] := by
  refine ⟨fd, ["_law_web_here", "_law_size", "_law_text"], [], fn_ok FD sc__law_read (fun cdv A outer s H E S0 F0 hr tk => ?_), fun S => .nil, ?_⟩
  ·
    exact (s_cons (s_setLc sc__law_read.nd rfl rfl rfl (own := [("_law_sign", 3)]) (i_v (i_str (e_var 2))) (blkOk_by (by kernel_rfl)) (fun _ _ _ _ _ => g_name sc__law_read.nd rfl (by first | exact Or.inl rfl | exact Or.inr rfl)) (fun _ _ _ _ _ => ts_nil) (fun _ _ _ _ _ => e_find (e_str) (e_var 3)))
  (s_cons (s_set sc__law_read.nd rfl (by first | exact Or.inl rfl | exact Or.inr rfl) (e_callP 0 G__law_fault A__law_fault tk (hr.mono (by decide)) (by decide) (a_cons (e_var 1) (a_cons (e_var 4) (a_nil)))))
  (s_one (s_try rfl rfl sc__law_read.nd rfl rfl ⟨rfl, by decide, .inl T.xcg_BadPicture⟩ tk rfl T.xh_BadPicture (fun W' pn xe tk hp => s_cons (s_set sc__law_read.nd rfl (by first | exact Or.inl rfl | exact Or.inr rfl) (e_callP 0 G_scene_of_text A_scene_of_text tk (hr.mono (by decide)) (by decide) (a_cons (e_var 0) (a_cons (e_var 2) (a_nil)))))
  (s_one (s_ret (e_and (e_cmp op_isN d_isN (pv_ (e_var 5)) (pv_ (e_non)) (by rfl)) (e_and (e_callP 0 G__law_is_scene A__law_is_scene tk (hr.mono (by decide)) (by decide) (a_cons (e_var 6) (a_cons (e_var 0) (a_cons (e_var 4) (a_nil))))) (e_one (e_cmp (or_eq hr) d_eq (pv_ (e_callP 0 G_picture_text A_picture_text tk (hr.mono (by decide)) (by decide) (a_cons (e_var 6) (a_nil)))) (pv_ (e_var 2)) (by rfl))))))))
  (fun a oe cls d pn e S0 c' hz hd hx => s_one (s_ret (e_and (e_cmp op_notN d_notN (pv_ (e_var 5)) (pv_ (e_non)) (by rfl)) (e_and (e_warm GW__law_whole A__law_whole (hr.mono (by decide) : Room 2 _) (a_cons (e_xf T.xf_index hz hd hx) (a_nil))) (e_one (e_cmp (or_eqX hr) d_eq (pv_ (e_xf T.xf_index hz hd hx)) (pv_ (e_var 5)) (by rfl)))))))))))
  · exact fun j hj => ⟨[], by cases j <;> first | exact .nil | (exact absurd hj (by simp)), FD.bindsN fun _ _ _ _ _ _ us hl => match us, hl with | [_, _, _], _ => rfl⟩
theorem sc_Scene___eq__ : FnScope ["self", "other"] ["self", "other"] (defScope s_Scene___eq__) := ⟨rfl, rfl, rfl, by decide +kernel, rfl, by decide +kernel, by decide +kernel⟩
theorem ok_Scene___eq__ {f_Scene___eq__ : Addr} {f_Web___eq__ : Addr} {fd : FuncData} (FD : FunD K "__eq__" "Scene.__eq__" (defArgs s_Scene___eq__) (defBody s_Scene___eq__) (defScope s_Scene___eq__) [] [] f_Scene___eq__ fd) (T : Txt P w K mg cm)  (G_Web___eq__ : DefP P w K mg base cm 1 2 f_Web___eq__ d_Web___eq__ []) (Q_Web : EqP K cm 46 f_Web___eq__) : DefP P w K mg base cm 2 2 f_Scene___eq__ d_Scene___eq__ [] := by
  refine ⟨fd, ["self", "other"], [], fn_ok FD sc_Scene___eq__ (fun cdv A outer s H E S0 F0 hr tk => ?_), fun S => .nil, ?_⟩
  ·
    exact (s_one (s_ret (e_and (e_isi T.cls T.kc_Scene T.m_isinstance (pv_ (e_var 1)) (pe_glob rfl T.cg_Scene rfl)) (e_and (e_eqP T.cls G_Web___eq__ Q_Web tk (hr.mono (by decide)) (e_fld T.f_web (e_var 0)) (e_fld T.f_web (e_var 1))) (e_one (e_cmp (or_eq hr) d_eq (pv_ (e_fld T.f_picture (e_var 0))) (pv_ (e_fld T.f_picture (e_var 1))) (by rfl)))))))
  · exact fun j hj => ⟨[], by cases j <;> first | exact .nil | (exact absurd hj (by simp)), FD.bindsN fun _ _ _ _ _ _ us hl => match us, hl with | [_, _], _ => rfl⟩
theorem sc__law_told : FnScope ["_law_value", "_law_due"] ["_law_value", "_law_due"] (defScope s__law_told) := ⟨rfl, rfl, rfl, by decide +kernel, rfl, by decide +kernel, by decide +kernel⟩
theorem ok__law_told {f__law_told : Addr} {fd : FuncData} (FD : FunD K "_law_told" "_law_told" (defArgs s__law_told) (defBody s__law_told) (defScope s__law_told) [] [] f__law_told fd) (T : Txt P w K mg cm)   : DefP P w K mg base cm 1 2 f__law_told d__law_told [] := by
  refine ⟨fd, ["_law_value", "_law_due"], [], fn_ok FD sc__law_told (fun cdv A outer s H E S0 F0 hr tk => ?_), fun S => .nil, ?_⟩
  ·
    exact (s_one (s_ret (e_and (e_cmp (or_eq hr) d_eq (pv_ (e_cmp op_isBl d_isBl (pv_ (e_var 0)) (pv_ (e_bl)) (by rfl))) (pv_ (e_var 1)) (by rfl)) (e_one (e_cmp (or_ne hr) d_ne (pv_ (e_cmp op_isBl d_isBl (pv_ (e_var 0)) (pv_ (e_bl)) (by rfl))) (pv_ (e_var 1)) (by rfl))))))
  · exact fun j hj => ⟨[], by cases j <;> first | exact .nil | (exact absurd hj (by simp)), FD.bindsN fun _ _ _ _ _ _ us hl => match us, hl with | [_, _], _ => rfl⟩
theorem sc_law : FnScope ["_law_script", "_law_drawn", "_law_row_here", "_law_size", "_law_states", "_law_lines", "_law_web_here", "_law_handed", "_law_scene_here", "_law_state", "_law_spoilt", "_law_times", "_law_text", "_law_sign", "_law_given", "_law_k", "_law_other"] ["_law_script"] (defScope s_law) := ⟨rfl, rfl, rfl, by decide +kernel, rfl, by decide +kernel, by decide +kernel⟩
theorem ok_law {f_Scene___eq__ : Addr} {f_Scene___init__ : Addr} {f_Web___init__ : Addr} {f__law_cell : Addr} {f__law_digits : Addr} {f__law_is_scene : Addr} {f__law_made : Addr} {f__law_read : Addr} {f__law_scene : Addr} {f__law_texts : Addr} {f__law_told : Addr} {f_all_ready : Addr} {f_law : Addr} {f_mirror : Addr} {f_picture_text : Addr} {f_turned : Addr} {fd : FuncData} (FD : FunD K "law" "law" (defArgs s_law) (defBody s_law) (defScope s_law) [] [] f_law fd) (T : Txt P w K mg cm)  (G__law_scene : DefP P w K mg base cm 2 3 f__law_scene d__law_scene []) (A__law_scene : At K mg "_law_scene" f__law_scene) (G__law_digits : DefP P w K mg base cm 1 2 f__law_digits d__law_digits []) (A__law_digits : At K mg "_law_digits" f__law_digits) (G__law_cell : DefP P w K mg base cm 1 2 f__law_cell d__law_cell []) (A__law_cell : At K mg "_law_cell" f__law_cell) (G_Web___init__ : IniP P w K mg base cm 8 2 46 f_Web___init__ d_Web___init__ [.tup []]) (C_Web : ClsAt K mg cm "Web" 46 f_Web___init__) (G_Scene___init__ : IniP P w K mg base cm 8 2 39 f_Scene___init__ d_Scene___init__ []) (C_Scene : ClsAt K mg cm "Scene" 39 f_Scene___init__) (G__law_is_scene : DefP P w K mg base cm 3 3 f__law_is_scene d__law_is_scene []) (A__law_is_scene : At K mg "_law_is_scene" f__law_is_scene) (G_all_ready : DefP P w K mg base cm 10 1 f_all_ready d_all_ready []) (A_all_ready : At K mg "all_ready" f_all_ready) (G__law_made : DefP P w K mg base cm 10 4 f__law_made d__law_made []) (A__law_made : At K mg "_law_made" f__law_made) (G_mirror : DefP P w K mg base cm 10 1 f_mirror d_mirror []) (A_mirror : At K mg "mirror" f_mirror) (G_turned : DefP P w K mg base cm 10 2 f_turned d_turned []) (A_turned : At K mg "turned" f_turned) (G_picture_text : DefP P w K mg base cm 1 1 f_picture_text d_picture_text []) (A_picture_text : At K mg "picture_text" f_picture_text) (G__law_texts : DefP P w K mg base cm 1 4 f__law_texts d__law_texts []) (A__law_texts : At K mg "_law_texts" f__law_texts) (G__law_read : DefP P w K mg base cm 11 3 f__law_read d__law_read []) (A__law_read : At K mg "_law_read" f__law_read) (G_Scene___eq__ : DefP P w K mg base cm 2 2 f_Scene___eq__ d_Scene___eq__ []) (Q_Scene : EqP K cm 39 f_Scene___eq__) (G__law_told : DefP P w K mg base cm 1 2 f__law_told d__law_told []) (A__law_told : At K mg "_law_told" f__law_told) : FnOk P w K mg base (L2.CX P w) 12 f_law fd ["_law_script"] (spD K cm 1 d_law) := by
  refine fn_ok FD sc_law (fun cdv A outer s H E S0 F0 hr tk => ?_)
  exact (s_cons (s_set sc_law.nd rfl (by first | exact Or.inl rfl | exact Or.inr rfl) (e_callP 0 G__law_scene A__law_scene tk (hr.mono (by decide)) (by decide) (a_cons (e_var 0) (a_cons (e_int) (a_cons (e_int) (a_nil))))))
  (s_cons (s_set sc_law.nd rfl (by first | exact Or.inl rfl | exact Or.inr rfl) (e_callP 0 G__law_digits A__law_digits tk (hr.mono (by decide)) (by decide) (a_cons (e_callP 0 G__law_cell A__law_cell tk (hr.mono (by decide)) (by decide) (a_cons (e_var 0) (a_cons (e_int) (a_nil)))) (a_cons (e_lst (a_cons (e_int) (a_cons (e_int) (a_cons (e_int) (a_cons (e_int) (a_cons (e_int) (a_cons (e_int) (a_cons (e_int) (a_cons (e_op op_pow d_pow (pv_ (e_int)) (pv_ (e_int))) (a_cons (e_int) (a_cons (e_int) (a_nil)))))))))))) (a_nil)))))
  (s_cons (s_set sc_law.nd rfl (by first | exact Or.inl rfl | exact Or.inr rfl) (e_op or_mul d_mul (pv_ (e_ix (pv_ (e_var 1)) (pv_ (e_int)))) (pv_ (e_callT call_int1 d_toInt T.m_int b_int (va_cons (pv_ (e_cmp (or_ne hr) d_ne (pv_ (e_ix (pv_ (e_var 2)) (pv_ (e_int)))) (pv_ (e_int)) (by rfl))) (va_nil))))))
  (s_cons (s_set sc_law.nd rfl (by first | exact Or.inl rfl | exact Or.inr rfl) (e_sl (pv_ (e_callT call_list_of (opN_of d_listF) T.m_list b_list (va_cons (pv_ (e_ix (pv_ (e_var 1)) (pv_ (e_int)))) (va_nil)))) (o_none) (o_some (pv_ (e_var 3)))))
  (s_cons (s_set sc_law.nd rfl (by first | exact Or.inl rfl | exact Or.inr rfl) (e_sl (pv_ (e_ix (pv_ (e_var 1)) (pv_ (e_int)))) (o_none) (o_some (pv_ (e_op or_mul d_mul (pv_ (e_callB c_len d_len T.m_len b_len (va_cons (pv_ (e_ix (pv_ (e_var 1)) (pv_ (e_int)))) (va_nil)))) (pv_ (e_callT call_int1 d_toInt T.m_int b_int (va_cons (pv_ (e_cmp op_gt d_gt (pv_ (e_var 3)) (pv_ (e_int)) (by rfl))) (va_nil)))))))))
  (s_cons (s_set sc_law.nd rfl (by first | exact Or.inl rfl | exact Or.inr rfl) (e_makeF G_Web___init__ C_Web tk (hr.mono (by decide)) (a_cons (e_var 3) (a_cons (e_var 5) (a_nil)))))
  (s_cons (s_setF sc_law.nd rfl (by first | exact Or.inl rfl | exact Or.inr rfl) (f_callT call_list_of d_listF T.m_list b_list (va_cons (pv_ (e_var 4)) (va_nil))))
  (s_cons (s_set sc_law.nd rfl (by first | exact Or.inl rfl | exact Or.inr rfl) (e_lend 7 (e_makeP 0 G_Scene___init__ C_Scene tk (hr.mono (by decide)) (by decide) (a_cons (e_var 6) (a_cons (e_var 7) (a_nil))))))
  (s_cons (s_if (t_cmp (or_ne hr) d_ne (v_var 7) (pv_ (e_var 4)) (by rfl))
  (s_one (s_ret (e_bl)))
  (s_nil))
  (s_cons (s_app (pe_bm PySem.F.plainAttrs_list PySem.F.slot_list_append PySem.F.type_list_append mt_append (pe_var rfl (by first | exact Or.inl rfl | exact Or.inr (Or.inl rfl) | exact Or.inr (Or.inr rfl))) (pa_cons (f_e (e_int)) pa_nil)))
  (s_cons (s_if (t_w (w_or (t_not (t_val (e_callP 0 G__law_is_scene A__law_is_scene tk (hr.mono (by decide)) (by decide) (a_cons (e_var 8) (a_cons (e_var 6) (a_cons (e_var 4) (a_nil))))))) (w_or1 (t_not (t_val (e_callP 0 G__law_is_scene A__law_is_scene tk (hr.mono (by decide)) (by decide) (a_cons (e_callP 0 G_all_ready A_all_ready tk (hr.mono (by decide)) (by decide) (a_cons (e_var 6) (a_nil))) (a_cons (e_var 6) (a_cons (e_lc (own := [("_law_state", 9)]) (i_view (pv_ (e_var 4))) (blkOk_by (by kernel_rfl)) (fun _ _ _ _ _ => g_name sc_law.nd rfl (by first | exact Or.inl rfl | exact Or.inr rfl)) (fun _ _ _ _ _ => ts_nil) (fun _ _ _ _ _ => e_int) sc_law.nd) (a_nil))))))))))
  (s_one (s_ret (e_bl)))
  (s_nil))
  (s_cons (s_setF sc_law.nd rfl (by first | exact Or.inl rfl | exact Or.inr rfl) (f_op or_add d_cat (pv_ (e_callT call_list_of (opN_of d_listF) T.m_list b_list (va_cons (pv_ (e_var 4)) (va_nil)))) (pv_ (e_lst (a_cons (e_ix (pv_ (e_var 2)) (pv_ (e_int))) (a_nil))))))
  (s_cons (s_frz 10 (s_setF sc_law.nd rfl (by first | exact Or.inl rfl | exact Or.inr rfl) (f_sl (pv_ (e_var 10)) (o_none) (o_some (pv_ (e_ix (pv_ (e_var 2)) (pv_ (e_int))))))))
  (s_cons (s_if (t_w (w_and (t_cmp op_gt d_gt (pv_ (e_callB c_len d_len T.m_len b_len (va_cons (v_var 10) (va_nil)))) (pv_ (e_int)) (by rfl)) (w_and1 (t_cmp op_lt d_lt (pv_ (e_ix (pv_ (e_var 2)) (pv_ (e_int)))) (pv_ (e_int)) (by rfl)))))
  (s_one (s_setI (f_e (e_op op_sub d_sub (pv_ (e_ix (pv_ (e_var 2)) (pv_ (e_int)))) (pv_ (e_int)))) (pg_sub (pe_var rfl (by first | exact Or.inl rfl | exact Or.inr (Or.inl rfl) | exact Or.inr (Or.inr rfl))) (pv_ (e_op op_mod d_mod (pv_ (e_ix (pv_ (e_var 2)) (pv_ (e_int)))) (pv_ (e_callB c_len d_len T.m_len b_len (va_cons (v_var 10) (va_nil)))))) set_list)))
  (s_nil))
  (s_cons (s_if (t_w (w_and (t_cmp op_gt d_gt (pv_ (e_callB c_len d_len T.m_len b_len (va_cons (v_var 10) (va_nil)))) (pv_ (e_int)) (by rfl)) (w_and1 (t_cmp op_lt d_lt (pv_ (e_ix (pv_ (e_var 2)) (pv_ (e_int)))) (pv_ (e_int)) (by rfl)))))
  (s_one (s_setI (f_e (e_ix (pv_ (e_lst (a_cons (e_int) (a_cons (e_op op_sub d_sub (pv_ (e_int)) (pv_ (e_int))) (a_cons (e_op op_pow d_pow (pv_ (e_int)) (pv_ (e_int))) (a_cons (e_int) (a_nil))))))) (pv_ (e_ix (pv_ (e_var 2)) (pv_ (e_int)))))) (pg_sub (pe_var rfl (by first | exact Or.inl rfl | exact Or.inr (Or.inl rfl) | exact Or.inr (Or.inr rfl))) (pv_ (e_op op_mod d_mod (pv_ (e_ix (pv_ (e_var 2)) (pv_ (e_int)))) (pv_ (e_callB c_len d_len T.m_len b_len (va_cons (v_var 10) (va_nil)))))) set_list)))
  (s_nil))
  (s_cons (s_frz 10 (s_if (t_w (w_or (t_not (t_val (e_callP 0 G__law_made A__law_made tk (hr.mono (by decide)) (by decide) (a_cons (e_var 6) (a_cons (e_var 3) (a_cons (e_var 10) (a_cons (e_callT call_list_of (opN_of d_listF) T.m_list b_list (va_cons (pv_ (e_var 10)) (va_nil))) (a_nil)))))))) (w_or1 (t_not (t_val (e_callP 0 G__law_made A__law_made tk (hr.mono (by decide)) (by decide) (a_cons (e_var 6) (a_cons (e_var 3) (a_cons (e_var 10) (a_cons (e_callT call_tuple_of d_tuple T.m_tuple b_tuple (va_cons (pv_ (e_var 10)) (va_nil))) (a_nil)))))))))))
  (s_one (s_ret (e_bl)))
  (s_nil)))
  (s_cons (s_if (t_not (t_val (e_callP 0 G__law_is_scene A__law_is_scene tk (hr.mono (by decide)) (by decide) (a_cons (e_callP 0 G_mirror A_mirror tk (hr.mono (by decide)) (by decide) (a_cons (e_var 8) (a_nil))) (a_cons (e_var 6) (a_cons (e_lc (own := [("_law_state", 9)]) (i_view (pv_ (e_var 4))) (blkOk_by (by kernel_rfl)) (fun _ _ _ _ _ => g_name sc_law.nd rfl (by first | exact Or.inl rfl | exact Or.inr rfl)) (fun _ _ _ _ _ => ts_nil) (fun _ _ _ _ _ => e_ix (pv_ (e_lst (a_cons (e_int) (a_cons (e_int) (a_cons (e_int) (a_nil)))))) (pv_ (e_var 9))) sc_law.nd) (a_nil)))))))
  (s_one (s_ret (e_bl)))
  (s_nil))
  (s_cons (s_for (i_e (e_lst (a_cons (e_op op_sub d_sub (pv_ (e_ix (pv_ (e_var 2)) (pv_ (e_int)))) (pv_ (e_int))) (a_cons (e_ix (pv_ (e_var 2)) (pv_ (e_int))) (a_cons (e_op op_sub d_sub (pv_ (e_int)) (pv_ (e_ix (pv_ (e_var 2)) (pv_ (e_int))))) (a_cons (e_op or_mul d_mul (pv_ (e_int)) (pv_ (e_ix (pv_ (e_var 2)) (pv_ (e_int))))) (a_nil))))))) (g_name sc_law.nd rfl (by first | exact Or.inl rfl | exact Or.inr rfl))
  (s_one (s_if (t_not (t_val (e_callP 0 G__law_is_scene A__law_is_scene tk (hr.mono (by decide)) (by decide) (a_cons (e_callP 0 G_turned A_turned tk (hr.mono (by decide)) (by decide) (a_cons (e_var 8) (a_cons (e_var 11) (a_nil)))) (a_cons (e_var 6) (a_cons (e_lc (own := [("_law_state", 9)]) (i_view (pv_ (e_var 4))) (blkOk_by (by kernel_rfl)) (fun _ _ _ _ _ => g_name sc_law.nd rfl (by first | exact Or.inl rfl | exact Or.inr rfl)) (fun _ _ _ _ _ => ts_nil) (fun _ _ _ _ _ => e_op op_mod d_mod (pv_ (e_callT call_int1 d_toInt T.m_int b_int (va_cons (pv_ (e_op or_add d_add (pv_ (e_var 9)) (pv_ (e_var 11)))) (va_nil)))) (pv_ (e_int))) sc_law.nd) (a_nil)))))))
  (s_one (s_ret (e_bl)))
  (s_nil))))
  (s_cons (s_set sc_law.nd rfl (by first | exact Or.inl rfl | exact Or.inr rfl) (e_join (e_str) (e_lc (own := [("_law_state", 9)]) (i_view (pv_ (e_var 4))) (blkOk_by (by kernel_rfl)) (fun _ _ _ _ _ => g_name sc_law.nd rfl (by first | exact Or.inl rfl | exact Or.inr rfl)) (fun _ _ _ _ _ => ts_nil) (fun _ _ _ _ _ => e_ix (pv_ (e_str)) (pv_ (e_var 9))) sc_law.nd)))
  (s_cons (s_set sc_law.nd rfl (by first | exact Or.inl rfl | exact Or.inr rfl) (e_ix (pv_ (e_lst (a_cons (e_str) (a_cons (e_str) (a_cons (e_str) (a_cons (e_str) (a_cons (e_str) (a_cons (e_str) (a_cons (e_str) (a_cons (e_str) (a_nil))))))))))) (pv_ (e_ix (pv_ (e_var 2)) (pv_ (e_int))))))
  (s_cons (s_if (t_cmp (or_ne hr) d_ne (pv_ (e_callP 0 G_picture_text A_picture_text tk (hr.mono (by decide)) (by decide) (a_cons (e_var 8) (a_nil)))) (pv_ (e_var 12)) (by rfl))
  (s_one (s_ret (e_bl)))
  (s_nil))
  (s_cons (s_for (i_e (e_callP 0 G__law_texts A__law_texts tk (hr.mono (by decide)) (by decide) (a_cons (e_var 12) (a_cons (e_var 13) (a_cons (e_ix (pv_ (e_var 2)) (pv_ (e_int))) (a_cons (e_ix (pv_ (e_var 2)) (pv_ (e_int))) (a_nil))))))) (g_name sc_law.nd rfl (by first | exact Or.inl rfl | exact Or.inr rfl))
  (s_one (s_if (t_not (t_val (e_callP 0 G__law_read A__law_read tk (hr.mono (by decide)) (by decide) (a_cons (e_var 6) (a_cons (e_var 3) (a_cons (e_var 14) (a_nil)))))))
  (s_one (s_ret (e_bl)))
  (s_nil))))
  (s_cons (s_if (t_w (w_or (t_cmp op_notBl d_notBl (pv_ (e_eqP T.cls G_Scene___eq__ Q_Scene tk (hr.mono (by decide)) (e_var 8) (e_makeP 0 G_Scene___init__ C_Scene tk (hr.mono (by decide)) (by decide) (a_cons (e_var 6) (a_cons (e_callT call_tuple_of d_tuple T.m_tuple b_tuple (va_cons (pv_ (e_var 4)) (va_nil))) (a_nil)))))) (pv_ (e_bl)) (by rfl)) (w_or1 (t_cmp op_notBl d_notBl (pv_ (e_eqP T.cls G_Scene___eq__ Q_Scene tk (hr.mono (by decide)) (e_var 8) (e_var 6))) (pv_ (e_bl)) (by rfl)))))
  (s_one (s_ret (e_bl)))
  (s_nil))
  (s_cons (s_set sc_law.nd rfl (by first | exact Or.inl rfl | exact Or.inr rfl) (e_makeP 0 G_Scene___init__ C_Scene tk (hr.mono (by decide)) (by decide) (a_cons (e_var 6) (a_cons (e_lc (own := [("_law_k", 15)]) (i_v (i_range1 T.m_range (a_cons (e_var 3) (a_nil)))) (blkOk_by (by kernel_rfl)) (fun _ _ _ _ _ => g_name sc_law.nd rfl (by first | exact Or.inl rfl | exact Or.inr rfl)) (fun _ _ _ _ _ => ts_nil) (fun _ _ _ _ _ => e_op op_mod d_mod (pv_ (e_callT call_int1 d_toInt T.m_int b_int (va_cons (pv_ (e_op or_add d_add (pv_ (e_ix (pv_ (e_var 4)) (pv_ (e_var 15)))) (pv_ (e_callT call_int1 d_toInt T.m_int b_int (va_cons (pv_ (e_cmp (or_eq hr) d_eq (pv_ (e_var 15)) (pv_ (e_ix (pv_ (e_var 2)) (pv_ (e_int)))) (by rfl))) (va_nil)))))) (va_nil)))) (pv_ (e_int))) sc_law.nd) (a_nil)))))
  (s_cons (s_if (t_w (w_or (t_not (t_val (e_callP 0 G__law_told A__law_told tk (hr.mono (by decide)) (by decide) (a_cons (e_eqP T.cls G_Scene___eq__ Q_Scene tk (hr.mono (by decide)) (e_var 8) (e_var 16)) (a_cons (e_cmp op_ge d_ge (pv_ (e_ix (pv_ (e_var 2)) (pv_ (e_int)))) (pv_ (e_var 3)) (by rfl)) (a_nil)))))) (w_or1 (t_not (t_val (e_callP 0 G__law_told A__law_told tk (hr.mono (by decide)) (by decide) (a_cons (e_eqP T.cls G_Scene___eq__ Q_Scene tk (hr.mono (by decide)) (e_var 16) (e_var 8)) (a_cons (e_cmp op_ge d_ge (pv_ (e_ix (pv_ (e_var 2)) (pv_ (e_int)))) (pv_ (e_var 3)) (by rfl)) (a_nil)))))))))
  (s_one (s_ret (e_bl)))
  (s_nil))
  (s_cons (s_if (t_not (t_val (e_callP 0 G__law_told A__law_told tk (hr.mono (by decide)) (by decide) (a_cons (e_eqP T.cls G_Scene___eq__ Q_Scene tk (hr.mono (by decide)) (e_var 8) (e_makeP 0 G_Scene___init__ C_Scene tk (hr.mono (by decide)) (by decide) (a_cons (e_makeP 0 G_Web___init__ C_Web tk (hr.mono (by decide)) (by decide) (a_cons (e_var 3) (a_nil))) (a_cons (e_var 4) (a_nil))))) (a_cons (e_cmp (or_eq hr) d_eq (pv_ (e_callB c_len d_len T.m_len b_len (va_cons (pv_ (e_var 5)) (va_nil)))) (pv_ (e_int)) (by rfl)) (a_nil))))))
  (s_one (s_ret (e_bl)))
  (s_nil))
  (s_cons (s_if (t_not (t_val (e_callP 0 G__law_told A__law_told tk (hr.mono (by decide)) (by decide) (a_cons (e_eqP T.cls G_Scene___eq__ Q_Scene tk (hr.mono (by decide)) (e_makeP 0 G_Scene___init__ C_Scene tk (hr.mono (by decide)) (by decide) (a_cons (e_makeF G_Web___init__ C_Web tk (hr.mono (by decide)) (a_cons (e_var 3) (a_cons (e_sl (pv_ (e_var 5)) (o_some (pv_ (e_int))) (o_none)) (a_nil)))) (a_cons (e_var 4) (a_nil)))) (e_var 8)) (a_cons (e_cmp (or_eq hr) d_eq (pv_ (e_callB c_len d_len T.m_len b_len (va_cons (pv_ (e_var 5)) (va_nil)))) (pv_ (e_int)) (by rfl)) (a_nil))))))
  (s_one (s_ret (e_bl)))
  (s_nil))
  (s_one (s_ret (e_and (e_cmp op_isBl d_isBl (pv_ (e_eqP T.cls G_Scene___eq__ Q_Scene tk (hr.mono (by decide)) (e_var 8) (e_int))) (pv_ (e_bl)) (by rfl)) (e_and (e_cmp op_isBl d_isBl (pv_ (e_eqP T.cls G_Scene___eq__ Q_Scene tk (hr.mono (by decide)) (e_var 8) (e_callT call_tuple_of d_tuple T.m_tuple b_tuple (va_cons (pv_ (e_var 4)) (va_nil))))) (pv_ (e_bl)) (by rfl)) (e_one (e_callP 0 G__law_is_scene A__law_is_scene tk (hr.mono (by decide)) (by decide) (a_cons (e_var 8) (a_cons (e_var 6) (a_cons (e_var 4) (a_nil)))))))))))))))))))))))))))))))))))))
end
end FR
end
section
set_option Elab.async false
set_option linter.all false
set_option maxRecDepth 100000
set_option maxHeartbeats 2000000
namespace FR
open PySem PySem.Spec PyProof.Rows L2 DI
set_option maxHeartbeats 4000000 in
theorem all_mk {l : PySem.W.OpenLaw} {w : World} {K : PySem.W.Frag} {h : Heap} {mg : Str → Option Value} {fa C_FirerestError C_BadLine C_BadPicture C_Scene C_Web f__law_web f__law_digits f__law_cell f__law_picture f__law_scene f_BadLine___init__ f_checked_lines f_frozen f_neighbour_rows f_Web___init__ T_Web___init__ t0_Web___init__ f_BadPicture___init__ f_Scene___init__ f_Web___eq__ f__law_whole f__law_row f__law_is_scene f_all_ready f__law_fault f__law_made f_mirror f_turned f_picture_text f__law_texts f_scene_of_text f__law_read f_Scene___eq__ f__law_told f_law : Addr} (X : K.In h) (G : h.Ns mainGlobals mg) (hfa : mg "law" = some (.ref fa))
    {od__law_web an__law_web od__law_digits an__law_digits od__law_cell an__law_cell od__law_picture an__law_picture od__law_scene an__law_scene od_BadLine___init__ an_BadLine___init__ od_checked_lines an_checked_lines od_frozen an_frozen od_neighbour_rows an_neighbour_rows od_Web___init__ an_Web___init__ oD_Web___init__ o0_Web___init__ od_BadPicture___init__ an_BadPicture___init__ od_Scene___init__ an_Scene___init__ od_Web___eq__ an_Web___eq__ od__law_whole an__law_whole od__law_row an__law_row od__law_is_scene an__law_is_scene od_all_ready an_all_ready od__law_fault an__law_fault od__law_made an__law_made od_mirror an_mirror od_turned an_turned od_picture_text an_picture_text od__law_texts an__law_texts od_scene_of_text an_scene_of_text od__law_read an__law_read od_Scene___eq__ an_Scene___eq__ od__law_told an__law_told od_law an_law xd_BadLine xd_BadPicture : Option Addr} {sl__law_web sl__law_digits sl__law_cell sl__law_picture sl__law_scene sl_BadLine___init__ sl_checked_lines sl_frozen sl_neighbour_rows sl_Web___init__ sT_Web___init__ s0_Web___init__ sl_BadPicture___init__ sl_Scene___init__ sl_Web___eq__ sl__law_whole sl__law_row sl__law_is_scene sl_all_ready sl__law_fault sl__law_made sl_mirror sl_turned sl_picture_text sl__law_texts sl_scene_of_text sl__law_read sl_Scene___eq__ sl__law_told sl_law xsl_BadLine xsl_BadPicture : Array (Option Value)} {oc__law_web kV__law_web dc__law_web pm__law_web cd__law_web ct__law_web oc__law_digits kV__law_digits dc__law_digits pm__law_digits cd__law_digits ct__law_digits oc__law_cell kV__law_cell dc__law_cell pm__law_cell cd__law_cell ct__law_cell oc__law_picture kV__law_picture dc__law_picture pm__law_picture cd__law_picture ct__law_picture oc__law_scene kV__law_scene dc__law_scene pm__law_scene cd__law_scene ct__law_scene oc_BadLine___init__ kV_BadLine___init__ dc_BadLine___init__ pm_BadLine___init__ cd_BadLine___init__ ct_BadLine___init__ oc_checked_lines kV_checked_lines dc_checked_lines pm_checked_lines cd_checked_lines ct_checked_lines oc_frozen kV_frozen dc_frozen pm_frozen cd_frozen ct_frozen oc_neighbour_rows kV_neighbour_rows dc_neighbour_rows pm_neighbour_rows cd_neighbour_rows ct_neighbour_rows oc_Web___init__ kV_Web___init__ dc_Web___init__ pm_Web___init__ cd_Web___init__ ct_Web___init__ oT_Web___init__ oc_BadPicture___init__ kV_BadPicture___init__ dc_BadPicture___init__ pm_BadPicture___init__ cd_BadPicture___init__ ct_BadPicture___init__ oc_Scene___init__ kV_Scene___init__ dc_Scene___init__ pm_Scene___init__ cd_Scene___init__ ct_Scene___init__ oc_Web___eq__ kV_Web___eq__ dc_Web___eq__ pm_Web___eq__ cd_Web___eq__ ct_Web___eq__ oc__law_whole kV__law_whole dc__law_whole pm__law_whole cd__law_whole ct__law_whole oc__law_row kV__law_row dc__law_row pm__law_row cd__law_row ct__law_row oc__law_is_scene kV__law_is_scene dc__law_is_scene pm__law_is_scene cd__law_is_scene ct__law_is_scene oc_all_ready kV_all_ready dc_all_ready pm_all_ready cd_all_ready ct_all_ready oc__law_fault kV__law_fault dc__law_fault pm__law_fault cd__law_fault ct__law_fault oc__law_made kV__law_made dc__law_made pm__law_made cd__law_made ct__law_made oc_mirror kV_mirror dc_mirror pm_mirror cd_mirror ct_mirror oc_turned kV_turned dc_turned pm_turned cd_turned ct_turned oc_picture_text kV_picture_text dc_picture_text pm_picture_text cd_picture_text ct_picture_text oc__law_texts kV__law_texts dc__law_texts pm__law_texts cd__law_texts ct__law_texts oc_scene_of_text kV_scene_of_text dc_scene_of_text pm_scene_of_text cd_scene_of_text ct_scene_of_text oc__law_read kV__law_read dc__law_read pm__law_read cd__law_read ct__law_read oc_Scene___eq__ kV_Scene___eq__ dc_Scene___eq__ pm_Scene___eq__ cd_Scene___eq__ ct_Scene___eq__ oc__law_told kV__law_told dc__law_told pm__law_told cd__law_told ct__law_told oc_law kV_law dc_law pm_law cd_law ct_law : Value} {nT_Web___init__ n0_Web___init__ gt_SIGNS : Nat} {xcd_BadLine xcd_BadPicture : ClassData}
    (aC_FirerestError : PySem.W.nsIn K mainGlobals "FirerestError" = some (some (.ref C_FirerestError)))
    (aC_BadLine : PySem.W.nsIn K mainGlobals "BadLine" = some (some (.ref C_BadLine)))
    (aC_BadPicture : PySem.W.nsIn K mainGlobals "BadPicture" = some (some (.ref C_BadPicture)))
    (aC_Scene : PySem.W.nsIn K mainGlobals "Scene" = some (some (.ref C_Scene)))
    (aC_Web : PySem.W.nsIn K mainGlobals "Web" = some (some (.ref C_Web)))
    (a__law_web : PySem.W.nsIn K mainGlobals "_law_web" = some (some (.ref f__law_web)))
    (l__law_web : K.lookup f__law_web = some ⟨oc__law_web, od__law_web, .func (PySem.W.fnOf "_law_web" "_law_web" (defArgs s__law_web) (defBody s__law_web) (defScope s__law_web) .none kV__law_web dc__law_web pm__law_web an__law_web cd__law_web ct__law_web), sl__law_web⟩)
    (c__law_web : PySem.W.codeIn K cd__law_web "_law_web" = true)
    (k__law_web : PySem.W.keepIn K (.ref f__law_web) = true)
    (a__law_digits : PySem.W.nsIn K mainGlobals "_law_digits" = some (some (.ref f__law_digits)))
    (l__law_digits : K.lookup f__law_digits = some ⟨oc__law_digits, od__law_digits, .func (PySem.W.fnOf "_law_digits" "_law_digits" (defArgs s__law_digits) (defBody s__law_digits) (defScope s__law_digits) .none kV__law_digits dc__law_digits pm__law_digits an__law_digits cd__law_digits ct__law_digits), sl__law_digits⟩)
    (c__law_digits : PySem.W.codeIn K cd__law_digits "_law_digits" = true)
    (k__law_digits : PySem.W.keepIn K (.ref f__law_digits) = true)
    (a__law_cell : PySem.W.nsIn K mainGlobals "_law_cell" = some (some (.ref f__law_cell)))
    (l__law_cell : K.lookup f__law_cell = some ⟨oc__law_cell, od__law_cell, .func (PySem.W.fnOf "_law_cell" "_law_cell" (defArgs s__law_cell) (defBody s__law_cell) (defScope s__law_cell) .none kV__law_cell dc__law_cell pm__law_cell an__law_cell cd__law_cell ct__law_cell), sl__law_cell⟩)
    (c__law_cell : PySem.W.codeIn K cd__law_cell "_law_cell" = true)
    (k__law_cell : PySem.W.keepIn K (.ref f__law_cell) = true)
    (a__law_picture : PySem.W.nsIn K mainGlobals "_law_picture" = some (some (.ref f__law_picture)))
    (l__law_picture : K.lookup f__law_picture = some ⟨oc__law_picture, od__law_picture, .func (PySem.W.fnOf "_law_picture" "_law_picture" (defArgs s__law_picture) (defBody s__law_picture) (defScope s__law_picture) .none kV__law_picture dc__law_picture pm__law_picture an__law_picture cd__law_picture ct__law_picture), sl__law_picture⟩)
    (c__law_picture : PySem.W.codeIn K cd__law_picture "_law_picture" = true)
    (k__law_picture : PySem.W.keepIn K (.ref f__law_picture) = true)
    (a__law_scene : PySem.W.nsIn K mainGlobals "_law_scene" = some (some (.ref f__law_scene)))
    (l__law_scene : K.lookup f__law_scene = some ⟨oc__law_scene, od__law_scene, .func (PySem.W.fnOf "_law_scene" "_law_scene" (defArgs s__law_scene) (defBody s__law_scene) (defScope s__law_scene) .none kV__law_scene dc__law_scene pm__law_scene an__law_scene cd__law_scene ct__law_scene), sl__law_scene⟩)
    (c__law_scene : PySem.W.codeIn K cd__law_scene "_law_scene" = true)
    (k__law_scene : PySem.W.keepIn K (.ref f__law_scene) = true)
    (a_BadLine___init__ : PySem.W.findIn K (.ref C_BadLine) "__init__" = some (some (.ref f_BadLine___init__)))
    (i_BadLine___init__ : PySem.W.isFn K (.ref f_BadLine___init__) = true)
    (xt_BadLine___init__ : PySem.W.typeIn K (.ref f_BadLine___init__) = some (.type "function"))
    (l_BadLine___init__ : K.lookup f_BadLine___init__ = some ⟨oc_BadLine___init__, od_BadLine___init__, .func (PySem.W.fnOf "__init__" "BadLine.__init__" (defArgs s_BadLine___init__) (defBody s_BadLine___init__) (defScope s_BadLine___init__) .none kV_BadLine___init__ dc_BadLine___init__ pm_BadLine___init__ an_BadLine___init__ cd_BadLine___init__ ct_BadLine___init__), sl_BadLine___init__⟩)
    (c_BadLine___init__ : PySem.W.codeIn K cd_BadLine___init__ "BadLine.__init__" = true)
    (k_BadLine___init__ : PySem.W.keepIn K (.ref f_BadLine___init__) = true)
    (a_checked_lines : PySem.W.nsIn K mainGlobals "checked_lines" = some (some (.ref f_checked_lines)))
    (l_checked_lines : K.lookup f_checked_lines = some ⟨oc_checked_lines, od_checked_lines, .func (PySem.W.fnOf "checked_lines" "checked_lines" (defArgs s_checked_lines) (defBody s_checked_lines) (defScope s_checked_lines) .none kV_checked_lines dc_checked_lines pm_checked_lines an_checked_lines cd_checked_lines ct_checked_lines), sl_checked_lines⟩)
    (c_checked_lines : PySem.W.codeIn K cd_checked_lines "checked_lines" = true)
    (k_checked_lines : PySem.W.keepIn K (.ref f_checked_lines) = true)
    (a_frozen : PySem.W.nsIn K mainGlobals "frozen" = some (some (.ref f_frozen)))
    (l_frozen : K.lookup f_frozen = some ⟨oc_frozen, od_frozen, .func (PySem.W.fnOf "frozen" "frozen" (defArgs s_frozen) (defBody s_frozen) (defScope s_frozen) .none kV_frozen dc_frozen pm_frozen an_frozen cd_frozen ct_frozen), sl_frozen⟩)
    (c_frozen : PySem.W.codeIn K cd_frozen "frozen" = true)
    (k_frozen : PySem.W.keepIn K (.ref f_frozen) = true)
    (a_neighbour_rows : PySem.W.nsIn K mainGlobals "neighbour_rows" = some (some (.ref f_neighbour_rows)))
    (l_neighbour_rows : K.lookup f_neighbour_rows = some ⟨oc_neighbour_rows, od_neighbour_rows, .func (PySem.W.fnOf "neighbour_rows" "neighbour_rows" (defArgs s_neighbour_rows) (defBody s_neighbour_rows) (defScope s_neighbour_rows) .none kV_neighbour_rows dc_neighbour_rows pm_neighbour_rows an_neighbour_rows cd_neighbour_rows ct_neighbour_rows), sl_neighbour_rows⟩)
    (c_neighbour_rows : PySem.W.codeIn K cd_neighbour_rows "neighbour_rows" = true)
    (k_neighbour_rows : PySem.W.keepIn K (.ref f_neighbour_rows) = true)
    (a_Web___init__ : PySem.W.findIn K (.ref C_Web) "__init__" = some (some (.ref f_Web___init__)))
    (i_Web___init__ : PySem.W.isFn K (.ref f_Web___init__) = true)
    (l_Web___init__ : K.lookup f_Web___init__ = some ⟨oc_Web___init__, od_Web___init__, .func (PySem.W.fnOf "__init__" "Web.__init__" (defArgs s_Web___init__) (defBody s_Web___init__) (defScope s_Web___init__) (.ref T_Web___init__) kV_Web___init__ dc_Web___init__ pm_Web___init__ an_Web___init__ cd_Web___init__ ct_Web___init__), sl_Web___init__⟩)
    (c_Web___init__ : PySem.W.codeIn K cd_Web___init__ "Web.__init__" = true)
    (k_Web___init__ : PySem.W.keepIn K (.ref f_Web___init__) = true)
    (lT_Web___init__ : K.lookup T_Web___init__ = some ⟨oT_Web___init__, oD_Web___init__, .seq #[.ref t0_Web___init__] nT_Web___init__, sT_Web___init__⟩)
    (e0_Web___init__ : K.lookup t0_Web___init__ = some ⟨.type "tuple", o0_Web___init__, .seq #[] n0_Web___init__, s0_Web___init__⟩)
    (a_BadPicture___init__ : PySem.W.findIn K (.ref C_BadPicture) "__init__" = some (some (.ref f_BadPicture___init__)))
    (i_BadPicture___init__ : PySem.W.isFn K (.ref f_BadPicture___init__) = true)
    (xt_BadPicture___init__ : PySem.W.typeIn K (.ref f_BadPicture___init__) = some (.type "function"))
    (l_BadPicture___init__ : K.lookup f_BadPicture___init__ = some ⟨oc_BadPicture___init__, od_BadPicture___init__, .func (PySem.W.fnOf "__init__" "BadPicture.__init__" (defArgs s_BadPicture___init__) (defBody s_BadPicture___init__) (defScope s_BadPicture___init__) .none kV_BadPicture___init__ dc_BadPicture___init__ pm_BadPicture___init__ an_BadPicture___init__ cd_BadPicture___init__ ct_BadPicture___init__), sl_BadPicture___init__⟩)
    (c_BadPicture___init__ : PySem.W.codeIn K cd_BadPicture___init__ "BadPicture.__init__" = true)
    (k_BadPicture___init__ : PySem.W.keepIn K (.ref f_BadPicture___init__) = true)
    (a_Scene___init__ : PySem.W.findIn K (.ref C_Scene) "__init__" = some (some (.ref f_Scene___init__)))
    (i_Scene___init__ : PySem.W.isFn K (.ref f_Scene___init__) = true)
    (l_Scene___init__ : K.lookup f_Scene___init__ = some ⟨oc_Scene___init__, od_Scene___init__, .func (PySem.W.fnOf "__init__" "Scene.__init__" (defArgs s_Scene___init__) (defBody s_Scene___init__) (defScope s_Scene___init__) .none kV_Scene___init__ dc_Scene___init__ pm_Scene___init__ an_Scene___init__ cd_Scene___init__ ct_Scene___init__), sl_Scene___init__⟩)
    (c_Scene___init__ : PySem.W.codeIn K cd_Scene___init__ "Scene.__init__" = true)
    (k_Scene___init__ : PySem.W.keepIn K (.ref f_Scene___init__) = true)
    (a_Web___eq__ : PySem.W.findIn K (.ref C_Web) "__eq__" = some (some (.ref f_Web___eq__)))
    (i_Web___eq__ : PySem.W.isFn K (.ref f_Web___eq__) = true)
    (l_Web___eq__ : K.lookup f_Web___eq__ = some ⟨oc_Web___eq__, od_Web___eq__, .func (PySem.W.fnOf "__eq__" "Web.__eq__" (defArgs s_Web___eq__) (defBody s_Web___eq__) (defScope s_Web___eq__) .none kV_Web___eq__ dc_Web___eq__ pm_Web___eq__ an_Web___eq__ cd_Web___eq__ ct_Web___eq__), sl_Web___eq__⟩)
    (c_Web___eq__ : PySem.W.codeIn K cd_Web___eq__ "Web.__eq__" = true)
    (k_Web___eq__ : PySem.W.keepIn K (.ref f_Web___eq__) = true)
    (a__law_whole : PySem.W.nsIn K mainGlobals "_law_whole" = some (some (.ref f__law_whole)))
    (l__law_whole : K.lookup f__law_whole = some ⟨oc__law_whole, od__law_whole, .func (PySem.W.fnOf "_law_whole" "_law_whole" (defArgs s__law_whole) (defBody s__law_whole) (defScope s__law_whole) .none kV__law_whole dc__law_whole pm__law_whole an__law_whole cd__law_whole ct__law_whole), sl__law_whole⟩)
    (c__law_whole : PySem.W.codeIn K cd__law_whole "_law_whole" = true)
    (k__law_whole : PySem.W.keepIn K (.ref f__law_whole) = true)
    (a__law_row : PySem.W.nsIn K mainGlobals "_law_row" = some (some (.ref f__law_row)))
    (l__law_row : K.lookup f__law_row = some ⟨oc__law_row, od__law_row, .func (PySem.W.fnOf "_law_row" "_law_row" (defArgs s__law_row) (defBody s__law_row) (defScope s__law_row) .none kV__law_row dc__law_row pm__law_row an__law_row cd__law_row ct__law_row), sl__law_row⟩)
    (c__law_row : PySem.W.codeIn K cd__law_row "_law_row" = true)
    (k__law_row : PySem.W.keepIn K (.ref f__law_row) = true)
    (a__law_is_scene : PySem.W.nsIn K mainGlobals "_law_is_scene" = some (some (.ref f__law_is_scene)))
    (l__law_is_scene : K.lookup f__law_is_scene = some ⟨oc__law_is_scene, od__law_is_scene, .func (PySem.W.fnOf "_law_is_scene" "_law_is_scene" (defArgs s__law_is_scene) (defBody s__law_is_scene) (defScope s__law_is_scene) .none kV__law_is_scene dc__law_is_scene pm__law_is_scene an__law_is_scene cd__law_is_scene ct__law_is_scene), sl__law_is_scene⟩)
    (c__law_is_scene : PySem.W.codeIn K cd__law_is_scene "_law_is_scene" = true)
    (k__law_is_scene : PySem.W.keepIn K (.ref f__law_is_scene) = true)
    (a_all_ready : PySem.W.nsIn K mainGlobals "all_ready" = some (some (.ref f_all_ready)))
    (l_all_ready : K.lookup f_all_ready = some ⟨oc_all_ready, od_all_ready, .func (PySem.W.fnOf "all_ready" "all_ready" (defArgs s_all_ready) (defBody s_all_ready) (defScope s_all_ready) .none kV_all_ready dc_all_ready pm_all_ready an_all_ready cd_all_ready ct_all_ready), sl_all_ready⟩)
    (c_all_ready : PySem.W.codeIn K cd_all_ready "all_ready" = true)
    (k_all_ready : PySem.W.keepIn K (.ref f_all_ready) = true)
    (a__law_fault : PySem.W.nsIn K mainGlobals "_law_fault" = some (some (.ref f__law_fault)))
    (l__law_fault : K.lookup f__law_fault = some ⟨oc__law_fault, od__law_fault, .func (PySem.W.fnOf "_law_fault" "_law_fault" (defArgs s__law_fault) (defBody s__law_fault) (defScope s__law_fault) .none kV__law_fault dc__law_fault pm__law_fault an__law_fault cd__law_fault ct__law_fault), sl__law_fault⟩)
    (c__law_fault : PySem.W.codeIn K cd__law_fault "_law_fault" = true)
    (k__law_fault : PySem.W.keepIn K (.ref f__law_fault) = true)
    (a__law_made : PySem.W.nsIn K mainGlobals "_law_made" = some (some (.ref f__law_made)))
    (l__law_made : K.lookup f__law_made = some ⟨oc__law_made, od__law_made, .func (PySem.W.fnOf "_law_made" "_law_made" (defArgs s__law_made) (defBody s__law_made) (defScope s__law_made) .none kV__law_made dc__law_made pm__law_made an__law_made cd__law_made ct__law_made), sl__law_made⟩)
    (c__law_made : PySem.W.codeIn K cd__law_made "_law_made" = true)
    (k__law_made : PySem.W.keepIn K (.ref f__law_made) = true)
    (a_mirror : PySem.W.nsIn K mainGlobals "mirror" = some (some (.ref f_mirror)))
    (l_mirror : K.lookup f_mirror = some ⟨oc_mirror, od_mirror, .func (PySem.W.fnOf "mirror" "mirror" (defArgs s_mirror) (defBody s_mirror) (defScope s_mirror) .none kV_mirror dc_mirror pm_mirror an_mirror cd_mirror ct_mirror), sl_mirror⟩)
    (c_mirror : PySem.W.codeIn K cd_mirror "mirror" = true)
    (k_mirror : PySem.W.keepIn K (.ref f_mirror) = true)
    (a_turned : PySem.W.nsIn K mainGlobals "turned" = some (some (.ref f_turned)))
    (l_turned : K.lookup f_turned = some ⟨oc_turned, od_turned, .func (PySem.W.fnOf "turned" "turned" (defArgs s_turned) (defBody s_turned) (defScope s_turned) .none kV_turned dc_turned pm_turned an_turned cd_turned ct_turned), sl_turned⟩)
    (c_turned : PySem.W.codeIn K cd_turned "turned" = true)
    (k_turned : PySem.W.keepIn K (.ref f_turned) = true)
    (a_picture_text : PySem.W.nsIn K mainGlobals "picture_text" = some (some (.ref f_picture_text)))
    (l_picture_text : K.lookup f_picture_text = some ⟨oc_picture_text, od_picture_text, .func (PySem.W.fnOf "picture_text" "picture_text" (defArgs s_picture_text) (defBody s_picture_text) (defScope s_picture_text) .none kV_picture_text dc_picture_text pm_picture_text an_picture_text cd_picture_text ct_picture_text), sl_picture_text⟩)
    (c_picture_text : PySem.W.codeIn K cd_picture_text "picture_text" = true)
    (k_picture_text : PySem.W.keepIn K (.ref f_picture_text) = true)
    (a__law_texts : PySem.W.nsIn K mainGlobals "_law_texts" = some (some (.ref f__law_texts)))
    (l__law_texts : K.lookup f__law_texts = some ⟨oc__law_texts, od__law_texts, .func (PySem.W.fnOf "_law_texts" "_law_texts" (defArgs s__law_texts) (defBody s__law_texts) (defScope s__law_texts) .none kV__law_texts dc__law_texts pm__law_texts an__law_texts cd__law_texts ct__law_texts), sl__law_texts⟩)
    (c__law_texts : PySem.W.codeIn K cd__law_texts "_law_texts" = true)
    (k__law_texts : PySem.W.keepIn K (.ref f__law_texts) = true)
    (a_scene_of_text : PySem.W.nsIn K mainGlobals "scene_of_text" = some (some (.ref f_scene_of_text)))
    (l_scene_of_text : K.lookup f_scene_of_text = some ⟨oc_scene_of_text, od_scene_of_text, .func (PySem.W.fnOf "scene_of_text" "scene_of_text" (defArgs s_scene_of_text) (defBody s_scene_of_text) (defScope s_scene_of_text) .none kV_scene_of_text dc_scene_of_text pm_scene_of_text an_scene_of_text cd_scene_of_text ct_scene_of_text), sl_scene_of_text⟩)
    (c_scene_of_text : PySem.W.codeIn K cd_scene_of_text "scene_of_text" = true)
    (k_scene_of_text : PySem.W.keepIn K (.ref f_scene_of_text) = true)
    (a__law_read : PySem.W.nsIn K mainGlobals "_law_read" = some (some (.ref f__law_read)))
    (l__law_read : K.lookup f__law_read = some ⟨oc__law_read, od__law_read, .func (PySem.W.fnOf "_law_read" "_law_read" (defArgs s__law_read) (defBody s__law_read) (defScope s__law_read) .none kV__law_read dc__law_read pm__law_read an__law_read cd__law_read ct__law_read), sl__law_read⟩)
    (c__law_read : PySem.W.codeIn K cd__law_read "_law_read" = true)
    (k__law_read : PySem.W.keepIn K (.ref f__law_read) = true)
    (a_Scene___eq__ : PySem.W.findIn K (.ref C_Scene) "__eq__" = some (some (.ref f_Scene___eq__)))
    (i_Scene___eq__ : PySem.W.isFn K (.ref f_Scene___eq__) = true)
    (l_Scene___eq__ : K.lookup f_Scene___eq__ = some ⟨oc_Scene___eq__, od_Scene___eq__, .func (PySem.W.fnOf "__eq__" "Scene.__eq__" (defArgs s_Scene___eq__) (defBody s_Scene___eq__) (defScope s_Scene___eq__) .none kV_Scene___eq__ dc_Scene___eq__ pm_Scene___eq__ an_Scene___eq__ cd_Scene___eq__ ct_Scene___eq__), sl_Scene___eq__⟩)
    (c_Scene___eq__ : PySem.W.codeIn K cd_Scene___eq__ "Scene.__eq__" = true)
    (k_Scene___eq__ : PySem.W.keepIn K (.ref f_Scene___eq__) = true)
    (a__law_told : PySem.W.nsIn K mainGlobals "_law_told" = some (some (.ref f__law_told)))
    (l__law_told : K.lookup f__law_told = some ⟨oc__law_told, od__law_told, .func (PySem.W.fnOf "_law_told" "_law_told" (defArgs s__law_told) (defBody s__law_told) (defScope s__law_told) .none kV__law_told dc__law_told pm__law_told an__law_told cd__law_told ct__law_told), sl__law_told⟩)
    (c__law_told : PySem.W.codeIn K cd__law_told "_law_told" = true)
    (k__law_told : PySem.W.keepIn K (.ref f__law_told) = true)
    (a_law : PySem.W.nsIn K mainGlobals "law" = some (some (.ref f_law)))
    (l_law : K.lookup f_law = some ⟨oc_law, od_law, .func (PySem.W.fnOf "law" "law" (defArgs s_law) (defBody s_law) (defScope s_law) .none kV_law dc_law pm_law an_law cd_law ct_law), sl_law⟩)
    (c_law : PySem.W.codeIn K cd_law "law" = true)
    (k_law : PySem.W.keepIn K (.ref f_law) = true)
    (pg_Scene : PySem.W.plainGet K C_Scene Str.empty = true)
    (hd_Scene : PySem.W.hasDictIn K C_Scene = true)
    (po_Scene : PySem.W.plainOver K C_Scene = true)
    (sa_Scene : PySem.W.findIn K (.ref C_Scene) "__setattr__" = some (some (.builtin "object.__setattr__")))
    (ca_Scene : PySem.W.findIn K (.ref C_Scene) "__class__" = some (some (.builtin "object.__class__")))
    (cm_Scene : PySem.W.mroIn K C_Scene (.type "object") = some true)
    (mk_Scene : PySem.W.makesIn K C_Scene = true)
    (kc_Scene : PySem.W.keepIn K (.ref C_Scene) = true)
    (na_Scene_picture : PySem.W.findIn K (.ref C_Scene) "picture" = some none)
    (na_Scene_web : PySem.W.findIn K (.ref C_Scene) "web" = some none)
    (kb_Scene_bool : PySem.W.kitOne K (.ref C_Scene) (.type "bool") = some false)
    (kb_Scene_int : PySem.W.kitOne K (.ref C_Scene) (.type "int") = some false)
    (kb_Scene_list : PySem.W.kitOne K (.ref C_Scene) (.type "list") = some false)
    (kb_Scene_tuple : PySem.W.kitOne K (.ref C_Scene) (.type "tuple") = some false)
    (ki_Scene_Scene : PySem.W.kitOne K (.ref C_Scene) (.ref C_Scene) = some true)
    (ki_Scene_Web : PySem.W.kitOne K (.ref C_Scene) (.ref C_Web) = some false)
    (pg_Web : PySem.W.plainGet K C_Web Str.empty = true)
    (hd_Web : PySem.W.hasDictIn K C_Web = true)
    (po_Web : PySem.W.plainOver K C_Web = true)
    (sa_Web : PySem.W.findIn K (.ref C_Web) "__setattr__" = some (some (.builtin "object.__setattr__")))
    (ca_Web : PySem.W.findIn K (.ref C_Web) "__class__" = some (some (.builtin "object.__class__")))
    (cm_Web : PySem.W.mroIn K C_Web (.type "object") = some true)
    (mk_Web : PySem.W.makesIn K C_Web = true)
    (kc_Web : PySem.W.keepIn K (.ref C_Web) = true)
    (na_Web_around : PySem.W.findIn K (.ref C_Web) "around" = some none)
    (na_Web_lines : PySem.W.findIn K (.ref C_Web) "lines" = some none)
    (na_Web_size : PySem.W.findIn K (.ref C_Web) "size" = some none)
    (kb_Web_bool : PySem.W.kitOne K (.ref C_Web) (.type "bool") = some false)
    (kb_Web_int : PySem.W.kitOne K (.ref C_Web) (.type "int") = some false)
    (kb_Web_list : PySem.W.kitOne K (.ref C_Web) (.type "list") = some false)
    (kb_Web_tuple : PySem.W.kitOne K (.ref C_Web) (.type "tuple") = some false)
    (ki_Web_Scene : PySem.W.kitOne K (.ref C_Web) (.ref C_Scene) = some false)
    (ki_Web_Web : PySem.W.kitOne K (.ref C_Web) (.ref C_Web) = some true)
    (xex_FirerestError : PySem.W.subIn K (.ref C_FirerestError) (.type "BaseException") = some true)
    (xty_FirerestError : PySem.W.typeIn K (.ref C_FirerestError) = some (.type "type"))
    (xhd_FirerestError : PySem.W.hasDictIn K C_FirerestError = true)
    (xex_BadLine : PySem.W.subIn K (.ref C_BadLine) (.type "BaseException") = some true)
    (xty_BadLine : PySem.W.typeIn K (.ref C_BadLine) = some (.type "type"))
    (xhd_BadLine : PySem.W.hasDictIn K C_BadLine = true)
    (xex_BadPicture : PySem.W.subIn K (.ref C_BadPicture) (.type "BaseException") = some true)
    (xty_BadPicture : PySem.W.typeIn K (.ref C_BadPicture) = some (.type "type"))
    (xhd_BadPicture : PySem.W.hasDictIn K C_BadPicture = true)
    (xlk_BadLine : K.lookup C_BadLine = some ⟨.type "type", xd_BadLine, .cls xcd_BadLine, xsl_BadLine⟩)
    (ox_BadLine : oexO C_BadLine xcd_BadLine xsl_BadLine = true)
    (xsa_BadLine : PySem.W.findIn K (.ref C_BadLine) "__setattr__" = some (some (.builtin "object.__setattr__")))
    (xkp_BadLine : PySem.W.keepIn K (.ref C_BadLine) = true)
    (xga_BadLine : PySem.W.findIn K (.ref C_BadLine) "__getattribute__" = some (some (.builtin "BaseException.__getattribute__")))
    (xgg_BadLine : PySem.W.findIn K (.ref C_BadLine) "__getattr__" = some none)
    (xca_BadLine : PySem.W.findIn K (.ref C_BadLine) "__class__" = some (some (.builtin "object.__class__")))
    (xmo_BadLine : PySem.W.mroIn K C_BadLine (.type "object") = some true)
    (xna_BadLine_index : PySem.W.findIn K (.ref C_BadLine) "index" = some none)
    (xs_BadLine_BadPicture : PySem.W.subIn K (.ref C_BadLine) (.ref C_BadPicture) = some false)
    (ki_BadLine_BadLine : PySem.W.kitOne K (.ref C_BadLine) (.ref C_BadLine) = some true)
    (ki_BadLine_FirerestError : PySem.W.kitOne K (.ref C_BadLine) (.ref C_FirerestError) = some true)
    (kb_BadLine_ValueError : PySem.W.kitOne K (.ref C_BadLine) (.type "ValueError") = some true)
    (xlk_BadPicture : K.lookup C_BadPicture = some ⟨.type "type", xd_BadPicture, .cls xcd_BadPicture, xsl_BadPicture⟩)
    (ox_BadPicture : oexO C_BadPicture xcd_BadPicture xsl_BadPicture = true)
    (xsa_BadPicture : PySem.W.findIn K (.ref C_BadPicture) "__setattr__" = some (some (.builtin "object.__setattr__")))
    (xkp_BadPicture : PySem.W.keepIn K (.ref C_BadPicture) = true)
    (xga_BadPicture : PySem.W.findIn K (.ref C_BadPicture) "__getattribute__" = some (some (.builtin "BaseException.__getattribute__")))
    (xgg_BadPicture : PySem.W.findIn K (.ref C_BadPicture) "__getattr__" = some none)
    (xca_BadPicture : PySem.W.findIn K (.ref C_BadPicture) "__class__" = some (some (.builtin "object.__class__")))
    (xmo_BadPicture : PySem.W.mroIn K C_BadPicture (.type "object") = some true)
    (xna_BadPicture_index : PySem.W.findIn K (.ref C_BadPicture) "index" = some none)
    (xs_BadPicture_BadPicture : PySem.W.subIn K (.ref C_BadPicture) (.ref C_BadPicture) = some true)
    (ki_BadPicture_BadLine : PySem.W.kitOne K (.ref C_BadPicture) (.ref C_BadLine) = some false)
    (ki_BadPicture_FirerestError : PySem.W.kitOne K (.ref C_BadPicture) (.ref C_FirerestError) = some true)
    (kb_BadPicture_ValueError : PySem.W.kitOne K (.ref C_BadPicture) (.type "ValueError") = some true)
    (cn : PySem.W.specialIn K (.builtin "object.__class__") "__get__" = some (some (.builtin "getset_descriptor.__get__")))
    (ctk : PySem.W.takesIn K (.builtin "object.__class__") = some true)
    (kt_Scene_NoneType : PySem.W.kitOne K (.type "NoneType") (.ref C_Scene) = some false)
    (kt_Scene_bool : PySem.W.kitOne K (.type "bool") (.ref C_Scene) = some false)
    (kt_Scene_int : PySem.W.kitOne K (.type "int") (.ref C_Scene) = some false)
    (kt_Scene_str : PySem.W.kitOne K (.type "str") (.ref C_Scene) = some false)
    (kt_Scene_tuple : PySem.W.kitOne K (.type "tuple") (.ref C_Scene) = some false)
    (kt_Scene_list : PySem.W.kitOne K (.type "list") (.ref C_Scene) = some false)
    (kt_Web_NoneType : PySem.W.kitOne K (.type "NoneType") (.ref C_Web) = some false)
    (kt_Web_bool : PySem.W.kitOne K (.type "bool") (.ref C_Web) = some false)
    (kt_Web_int : PySem.W.kitOne K (.type "int") (.ref C_Web) = some false)
    (kt_Web_str : PySem.W.kitOne K (.type "str") (.ref C_Web) = some false)
    (kt_Web_tuple : PySem.W.kitOne K (.type "tuple") (.ref C_Web) = some false)
    (kt_Web_list : PySem.W.kitOne K (.type "list") (.ref C_Web) = some false)
    (nt_Scene_NoneType : PySem.W.notFirst K C_Scene (.type "NoneType") = true)
    (nt_Scene_bool : PySem.W.notFirst K C_Scene (.type "bool") = true)
    (nt_Scene_int : PySem.W.notFirst K C_Scene (.type "int") = true)
    (nt_Scene_str : PySem.W.notFirst K C_Scene (.type "str") = true)
    (nt_Scene_tuple : PySem.W.notFirst K C_Scene (.type "tuple") = true)
    (nt_Scene_list : PySem.W.notFirst K C_Scene (.type "list") = true)
    (nc_Scene_Scene : PySem.W.notFirst K C_Scene (.ref C_Scene) = true)
    (nc_Scene_Web : PySem.W.notFirst K C_Scene (.ref C_Web) = true)
    (nt_Web_NoneType : PySem.W.notFirst K C_Web (.type "NoneType") = true)
    (nt_Web_bool : PySem.W.notFirst K C_Web (.type "bool") = true)
    (nt_Web_int : PySem.W.notFirst K C_Web (.type "int") = true)
    (nt_Web_str : PySem.W.notFirst K C_Web (.type "str") = true)
    (nt_Web_tuple : PySem.W.notFirst K C_Web (.type "tuple") = true)
    (nt_Web_list : PySem.W.notFirst K C_Web (.type "list") = true)
    (nc_Web_Scene : PySem.W.notFirst K C_Web (.ref C_Scene) = true)
    (nc_Web_Web : PySem.W.notFirst K C_Web (.ref C_Web) = true)
    (zs_SIGNS : PySem.W.nsIn K mainGlobals "SIGNS" = some (some (.str ".*o" gt_SIGNS)))
    (z_ValueError : PySem.W.nsIn K mainGlobals "ValueError" = some none)
    (z_bool : PySem.W.nsIn K mainGlobals "bool" = some none)
    (z_enumerate : PySem.W.nsIn K mainGlobals "enumerate" = some none)
    (z_int : PySem.W.nsIn K mainGlobals "int" = some none)
    (z_isinstance : PySem.W.nsIn K mainGlobals "isinstance" = some none)
    (z_len : PySem.W.nsIn K mainGlobals "len" = some none)
    (z_list : PySem.W.nsIn K mainGlobals "list" = some none)
    (z_max : PySem.W.nsIn K mainGlobals "max" = some none)
    (z_min : PySem.W.nsIn K mainGlobals "min" = some none)
    (z_range : PySem.W.nsIn K mainGlobals "range" = some none)
    (z_sorted : PySem.W.nsIn K mainGlobals "sorted" = some none)
    (z_tuple : PySem.W.nsIn K mainGlobals "tuple" = some none)
    (main : ∀ ns : List Int, ns.length ≤ 63 → (∀ z ∈ ns, Builtin.Int.intBits z ≤ 1048576) → d_law [.scr (ns.map D.int)] = .ok (.bl true)) :
    ∃ fd : FuncData, (∀ (s : Shared) (v : Value), BindsTo s fd ⟨[v], []⟩ [("_law_script", v)]) ∧ ∀ base : Heap, K.In base → base.Ns mainGlobals mg → FnOk l.prog w K mg base (L2.CX l.prog w) 12 fa fd ["_law_script"] (spLaw K) := by
  have e2 : f_law = fa := by
    have e := hfa.symm.trans (PySem.W.mg_of X G a_law)
    cases e
    rfl
  subst e2
  let cm : CM := mkCMx l.prog w [(39, C_Scene, ["web", "picture"]), (46, C_Web, ["size", "lines", "around"])] [(5, C_FirerestError, []), (7, C_BadLine, ["index"]), (10, C_BadPicture, ["index"])]
  have xo_BadLine : XOk K C_BadLine := ⟨oexC_of xlk_BadLine ox_BadLine xsa_BadLine xex_BadLine xty_BadLine xkp_BadLine, ⟨xga_BadLine, xgg_BadLine, xex_BadLine, xhd_BadLine⟩, xca_BadLine, cn, ctk, xmo_BadLine⟩
  have xo_BadPicture : XOk K C_BadPicture := ⟨oexC_of xlk_BadPicture ox_BadPicture xsa_BadPicture xex_BadPicture xty_BadPicture xkp_BadPicture, ⟨xga_BadPicture, xgg_BadPicture, xex_BadPicture, xhd_BadPicture⟩, xca_BadPicture, cn, ctk, xmo_BadPicture⟩
  have cl_Scene : Cls K C_Scene := ⟨pg_Scene, hd_Scene, po_Scene, sa_Scene⟩
  have co_Scene : ClsOk K C_Scene := ⟨cl_Scene, ca_Scene, cn, ctk, cm_Scene⟩
  have cl_Web : Cls K C_Web := ⟨pg_Web, hd_Web, po_Web, sa_Web⟩
  have co_Web : ClsOk K C_Web := ⟨cl_Web, ca_Web, cn, ctk, cm_Web⟩
  have T : Txt l.prog w K mg cm := ⟨rfl,
    PySem.W.mg_none_of X G z_ValueError,
    PySem.W.mg_none_of X G z_bool,
    PySem.W.mg_none_of X G z_enumerate,
    PySem.W.mg_none_of X G z_int,
    PySem.W.mg_none_of X G z_isinstance,
    PySem.W.mg_none_of X G z_len,
    PySem.W.mg_none_of X G z_list,
    PySem.W.mg_none_of X G z_max,
    PySem.W.mg_none_of X G z_min,
    PySem.W.mg_none_of X G z_range,
    PySem.W.mg_none_of X G z_sorted,
    PySem.W.mg_none_of X G z_tuple,
    ⟨_, PySem.W.mg_of X G zs_SIGNS⟩,
    fa_cons (co_Scene) (fa_cons (co_Web) (fa_nil)),
    fa_cons (kb_Scene_bool) (fa_cons (kb_Web_bool) (fa_nil)),
    fa_cons (kb_Scene_int) (fa_cons (kb_Web_int) (fa_nil)),
    fa_cons (kb_Scene_list) (fa_cons (kb_Web_list) (fa_nil)),
    fa_cons (kb_Scene_tuple) (fa_cons (kb_Web_tuple) (fa_nil)),
    ⟨fun b => match b with | .non => kt_Scene_NoneType | .bool => kt_Scene_bool | .int => kt_Scene_int | .str => kt_Scene_str | .tuple => kt_Scene_tuple | .list => kt_Scene_list, fa_cons (ki_Scene_Scene) (fa_cons (ki_Web_Scene) (fa_nil))⟩,
    PySem.W.mg_of X G aC_Scene,
    ⟨fun b => match b with | .non => kt_Web_NoneType | .bool => kt_Web_bool | .int => kt_Web_int | .str => kt_Web_str | .tuple => kt_Web_tuple | .list => kt_Web_list, fa_cons (ki_Scene_Web) (fa_cons (ki_Web_Web) (fa_nil))⟩,
    PySem.W.mg_of X G aC_Web,
    fp_cons (fun _ => ⟨cl_Web, na_Web_around, rfl, show (["size", "lines", "around"] : List Str).Nodup from by decide +kernel⟩) (fp_nil),
    fp_cons (fun m => absurd m (show ¬ (32 ∈ ([39, 46] : List Nat)) from by decide)) (fp_cons (fun m => absurd m (show ¬ (35 ∈ ([39, 46] : List Nat)) from by decide)) (fp_cons (fun m => absurd m (show ¬ (45 ∈ ([39, 46] : List Nat)) from by decide)) (fp_cons (fun _ => ⟨cl_Web, na_Web_lines, rfl, show (["size", "lines", "around"] : List Str).Nodup from by decide +kernel⟩) (fp_nil)))),
    fp_cons (fun _ => ⟨cl_Scene, na_Scene_picture, rfl, show (["web", "picture"] : List Str).Nodup from by decide +kernel⟩) (fp_nil),
    fp_cons (fun m => absurd m (show ¬ (42 ∈ ([39, 46] : List Nat)) from by decide)) (fp_cons (fun _ => ⟨cl_Web, na_Web_size, rfl, show (["size", "lines", "around"] : List Str).Nodup from by decide +kernel⟩) (fp_nil)),
    fp_cons (fun _ => ⟨cl_Scene, na_Scene_web, rfl, show (["web", "picture"] : List Str).Nodup from by decide +kernel⟩) (fp_nil),
    rfl,
    show 39 ∈ ([39, 46] : List Nat) from by decide,
    rfl,
    show 46 ∈ ([39, 46] : List Nat) from by decide,
    xo_BadLine,
    rfl,
    xna_BadLine_index,
    xo_BadPicture,
    rfl,
    xna_BadPicture_index,
    fa_cons (xo_BadLine) (fa_cons (xo_BadPicture) (fa_nil)),
    PySem.W.mg_of X G aC_BadLine,
    PySem.W.mg_of X G aC_BadPicture,
    PySem.W.mg_of X G aC_FirerestError,
    fa_cons (ki_BadLine_BadLine) (fa_cons (ki_BadPicture_BadLine) (fa_nil)),
    fa_cons (ki_BadLine_FirerestError) (fa_cons (ki_BadPicture_FirerestError) (fa_nil)),
    fa_cons (kb_BadLine_ValueError) (fa_cons (kb_BadPicture_ValueError) (fa_nil)),
    fa_cons (PySem.W.exm_ref xex_BadPicture xhd_BadPicture xty_BadPicture xs_BadLine_BadPicture) (fa_cons (PySem.W.exm_ref xex_BadPicture xhd_BadPicture xty_BadPicture xs_BadPicture_BadPicture) (fa_nil)),
    fp_cons (⟨⟨xga_BadLine, xgg_BadLine, xex_BadLine, xhd_BadLine⟩, xna_BadLine_index, rfl, show (["index"] : List Str).Nodup from by decide +kernel⟩) (fp_cons (⟨⟨xga_BadPicture, xgg_BadPicture, xex_BadPicture, xhd_BadPicture⟩, xna_BadPicture_index, rfl, show (["index"] : List Str).Nodup from by decide +kernel⟩) (fp_nil))⟩
  have FD__law_web : FunD K "_law_web" "_law_web" (defArgs s__law_web) (defBody s__law_web) (defScope s__law_web) [] [] f__law_web _ := ⟨⟨_, _, _, _, _, _, _, _, _, _, rfl, l__law_web, c__law_web, .inl ⟨rfl, rfl⟩, .inl rfl⟩, k__law_web⟩
  have FD__law_digits : FunD K "_law_digits" "_law_digits" (defArgs s__law_digits) (defBody s__law_digits) (defScope s__law_digits) [] [] f__law_digits _ := ⟨⟨_, _, _, _, _, _, _, _, _, _, rfl, l__law_digits, c__law_digits, .inl ⟨rfl, rfl⟩, .inl rfl⟩, k__law_digits⟩
  have FD__law_cell : FunD K "_law_cell" "_law_cell" (defArgs s__law_cell) (defBody s__law_cell) (defScope s__law_cell) [] [] f__law_cell _ := ⟨⟨_, _, _, _, _, _, _, _, _, _, rfl, l__law_cell, c__law_cell, .inl ⟨rfl, rfl⟩, .inl rfl⟩, k__law_cell⟩
  have FD__law_picture : FunD K "_law_picture" "_law_picture" (defArgs s__law_picture) (defBody s__law_picture) (defScope s__law_picture) [] [] f__law_picture _ := ⟨⟨_, _, _, _, _, _, _, _, _, _, rfl, l__law_picture, c__law_picture, .inl ⟨rfl, rfl⟩, .inl rfl⟩, k__law_picture⟩
  have FD__law_scene : FunD K "_law_scene" "_law_scene" (defArgs s__law_scene) (defBody s__law_scene) (defScope s__law_scene) [] [] f__law_scene _ := ⟨⟨_, _, _, _, _, _, _, _, _, _, rfl, l__law_scene, c__law_scene, .inl ⟨rfl, rfl⟩, .inl rfl⟩, k__law_scene⟩
  have FD_BadLine___init__ : FunD K "__init__" "BadLine.__init__" (defArgs s_BadLine___init__) (defBody s_BadLine___init__) (defScope s_BadLine___init__) [] [] f_BadLine___init__ _ := ⟨⟨_, _, _, _, _, _, _, _, _, _, rfl, l_BadLine___init__, c_BadLine___init__, .inl ⟨rfl, rfl⟩, .inl rfl⟩, k_BadLine___init__⟩
  have FD_checked_lines : FunD K "checked_lines" "checked_lines" (defArgs s_checked_lines) (defBody s_checked_lines) (defScope s_checked_lines) [] [] f_checked_lines _ := ⟨⟨_, _, _, _, _, _, _, _, _, _, rfl, l_checked_lines, c_checked_lines, .inl ⟨rfl, rfl⟩, .inl rfl⟩, k_checked_lines⟩
  have FD_frozen : FunD K "frozen" "frozen" (defArgs s_frozen) (defBody s_frozen) (defScope s_frozen) [] [] f_frozen _ := ⟨⟨_, _, _, _, _, _, _, _, _, _, rfl, l_frozen, c_frozen, .inl ⟨rfl, rfl⟩, .inl rfl⟩, k_frozen⟩
  have FD_neighbour_rows : FunD K "neighbour_rows" "neighbour_rows" (defArgs s_neighbour_rows) (defBody s_neighbour_rows) (defScope s_neighbour_rows) [] [] f_neighbour_rows _ := ⟨⟨_, _, _, _, _, _, _, _, _, _, rfl, l_neighbour_rows, c_neighbour_rows, .inl ⟨rfl, rfl⟩, .inl rfl⟩, k_neighbour_rows⟩
  have FD_Web___init__ : FunD K "__init__" "Web.__init__" (defArgs s_Web___init__) (defBody s_Web___init__) (defScope s_Web___init__) [.ref t0_Web___init__] [] f_Web___init__ _ := ⟨⟨_, _, _, _, _, _, _, _, _, _, rfl, l_Web___init__, c_Web___init__, .inr ⟨by simp, T_Web___init__, _, [.ref t0_Web___init__], nT_Web___init__, rfl, lT_Web___init__, rfl, .cons rfl (.nil)⟩, .inl rfl⟩, k_Web___init__⟩
  have FD_BadPicture___init__ : FunD K "__init__" "BadPicture.__init__" (defArgs s_BadPicture___init__) (defBody s_BadPicture___init__) (defScope s_BadPicture___init__) [] [] f_BadPicture___init__ _ := ⟨⟨_, _, _, _, _, _, _, _, _, _, rfl, l_BadPicture___init__, c_BadPicture___init__, .inl ⟨rfl, rfl⟩, .inl rfl⟩, k_BadPicture___init__⟩
  have FD_Scene___init__ : FunD K "__init__" "Scene.__init__" (defArgs s_Scene___init__) (defBody s_Scene___init__) (defScope s_Scene___init__) [] [] f_Scene___init__ _ := ⟨⟨_, _, _, _, _, _, _, _, _, _, rfl, l_Scene___init__, c_Scene___init__, .inl ⟨rfl, rfl⟩, .inl rfl⟩, k_Scene___init__⟩
  have FD_Web___eq__ : FunD K "__eq__" "Web.__eq__" (defArgs s_Web___eq__) (defBody s_Web___eq__) (defScope s_Web___eq__) [] [] f_Web___eq__ _ := ⟨⟨_, _, _, _, _, _, _, _, _, _, rfl, l_Web___eq__, c_Web___eq__, .inl ⟨rfl, rfl⟩, .inl rfl⟩, k_Web___eq__⟩
  have FD__law_whole : FunD K "_law_whole" "_law_whole" (defArgs s__law_whole) (defBody s__law_whole) (defScope s__law_whole) [] [] f__law_whole _ := ⟨⟨_, _, _, _, _, _, _, _, _, _, rfl, l__law_whole, c__law_whole, .inl ⟨rfl, rfl⟩, .inl rfl⟩, k__law_whole⟩
  have FD__law_row : FunD K "_law_row" "_law_row" (defArgs s__law_row) (defBody s__law_row) (defScope s__law_row) [] [] f__law_row _ := ⟨⟨_, _, _, _, _, _, _, _, _, _, rfl, l__law_row, c__law_row, .inl ⟨rfl, rfl⟩, .inl rfl⟩, k__law_row⟩
  have FD__law_is_scene : FunD K "_law_is_scene" "_law_is_scene" (defArgs s__law_is_scene) (defBody s__law_is_scene) (defScope s__law_is_scene) [] [] f__law_is_scene _ := ⟨⟨_, _, _, _, _, _, _, _, _, _, rfl, l__law_is_scene, c__law_is_scene, .inl ⟨rfl, rfl⟩, .inl rfl⟩, k__law_is_scene⟩
  have FD_all_ready : FunD K "all_ready" "all_ready" (defArgs s_all_ready) (defBody s_all_ready) (defScope s_all_ready) [] [] f_all_ready _ := ⟨⟨_, _, _, _, _, _, _, _, _, _, rfl, l_all_ready, c_all_ready, .inl ⟨rfl, rfl⟩, .inl rfl⟩, k_all_ready⟩
  have FD__law_fault : FunD K "_law_fault" "_law_fault" (defArgs s__law_fault) (defBody s__law_fault) (defScope s__law_fault) [] [] f__law_fault _ := ⟨⟨_, _, _, _, _, _, _, _, _, _, rfl, l__law_fault, c__law_fault, .inl ⟨rfl, rfl⟩, .inl rfl⟩, k__law_fault⟩
  have FD__law_made : FunD K "_law_made" "_law_made" (defArgs s__law_made) (defBody s__law_made) (defScope s__law_made) [] [] f__law_made _ := ⟨⟨_, _, _, _, _, _, _, _, _, _, rfl, l__law_made, c__law_made, .inl ⟨rfl, rfl⟩, .inl rfl⟩, k__law_made⟩
  have FD_mirror : FunD K "mirror" "mirror" (defArgs s_mirror) (defBody s_mirror) (defScope s_mirror) [] [] f_mirror _ := ⟨⟨_, _, _, _, _, _, _, _, _, _, rfl, l_mirror, c_mirror, .inl ⟨rfl, rfl⟩, .inl rfl⟩, k_mirror⟩
  have FD_turned : FunD K "turned" "turned" (defArgs s_turned) (defBody s_turned) (defScope s_turned) [] [] f_turned _ := ⟨⟨_, _, _, _, _, _, _, _, _, _, rfl, l_turned, c_turned, .inl ⟨rfl, rfl⟩, .inl rfl⟩, k_turned⟩
  have FD_picture_text : FunD K "picture_text" "picture_text" (defArgs s_picture_text) (defBody s_picture_text) (defScope s_picture_text) [] [] f_picture_text _ := ⟨⟨_, _, _, _, _, _, _, _, _, _, rfl, l_picture_text, c_picture_text, .inl ⟨rfl, rfl⟩, .inl rfl⟩, k_picture_text⟩
  have FD__law_texts : FunD K "_law_texts" "_law_texts" (defArgs s__law_texts) (defBody s__law_texts) (defScope s__law_texts) [] [] f__law_texts _ := ⟨⟨_, _, _, _, _, _, _, _, _, _, rfl, l__law_texts, c__law_texts, .inl ⟨rfl, rfl⟩, .inl rfl⟩, k__law_texts⟩
  have FD_scene_of_text : FunD K "scene_of_text" "scene_of_text" (defArgs s_scene_of_text) (defBody s_scene_of_text) (defScope s_scene_of_text) [] [] f_scene_of_text _ := ⟨⟨_, _, _, _, _, _, _, _, _, _, rfl, l_scene_of_text, c_scene_of_text, .inl ⟨rfl, rfl⟩, .inl rfl⟩, k_scene_of_text⟩
  have FD__law_read : FunD K "_law_read" "_law_read" (defArgs s__law_read) (defBody s__law_read) (defScope s__law_read) [] [] f__law_read _ := ⟨⟨_, _, _, _, _, _, _, _, _, _, rfl, l__law_read, c__law_read, .inl ⟨rfl, rfl⟩, .inl rfl⟩, k__law_read⟩
  have FD_Scene___eq__ : FunD K "__eq__" "Scene.__eq__" (defArgs s_Scene___eq__) (defBody s_Scene___eq__) (defScope s_Scene___eq__) [] [] f_Scene___eq__ _ := ⟨⟨_, _, _, _, _, _, _, _, _, _, rfl, l_Scene___eq__, c_Scene___eq__, .inl ⟨rfl, rfl⟩, .inl rfl⟩, k_Scene___eq__⟩
  have FD__law_told : FunD K "_law_told" "_law_told" (defArgs s__law_told) (defBody s__law_told) (defScope s__law_told) [] [] f__law_told _ := ⟨⟨_, _, _, _, _, _, _, _, _, _, rfl, l__law_told, c__law_told, .inl ⟨rfl, rfl⟩, .inl rfl⟩, k__law_told⟩
  have FD_law : FunD K "law" "law" (defArgs s_law) (defBody s_law) (defScope s_law) [] [] f_law _ := ⟨⟨_, _, _, _, _, _, _, _, _, _, rfl, l_law, c_law, .inl ⟨rfl, rfl⟩, .inl rfl⟩, k_law⟩
  refine ⟨_, fun s v => FD_law.bindsA (ps := ["_law_script"]) (fun _ _ _ _ _ _ us hl => match us, hl with | [_], _ => rfl) s [v] rfl, fun base _ _ => ?_⟩
  have A__law_web : At K mg "_law_web" f__law_web := ⟨PySem.W.mg_of X G a__law_web, k__law_web⟩
  have G__law_web := ok__law_web (base := base) FD__law_web T  
  have A__law_digits : At K mg "_law_digits" f__law_digits := ⟨PySem.W.mg_of X G a__law_digits, k__law_digits⟩
  have G__law_digits := ok__law_digits (base := base) FD__law_digits T  
  have A__law_cell : At K mg "_law_cell" f__law_cell := ⟨PySem.W.mg_of X G a__law_cell, k__law_cell⟩
  have G__law_cell := ok__law_cell (base := base) FD__law_cell T  
  have A__law_picture : At K mg "_law_picture" f__law_picture := ⟨PySem.W.mg_of X G a__law_picture, k__law_picture⟩
  have G__law_picture := ok__law_picture (base := base) FD__law_picture T  
  have A__law_scene : At K mg "_law_scene" f__law_scene := ⟨PySem.W.mg_of X G a__law_scene, k__law_scene⟩
  have G__law_scene := ok__law_scene (base := base) FD__law_scene T  G__law_web A__law_web G__law_digits A__law_digits G__law_cell A__law_cell G__law_picture A__law_picture
  have XA_BadLine : XAt K mg cm "BadLine" 7 f_BadLine___init__ := ⟨PySem.W.mg_of X G aC_BadLine, xo_BadLine, a_BadLine___init__, xt_BadLine___init__⟩
  have GX_BadLine := okx_BadLine___init__ (P := l.prog) (w := w) (mg := mg) (base := base) FD_BadLine___init__
  have A_checked_lines : At K mg "checked_lines" f_checked_lines := ⟨PySem.W.mg_of X G a_checked_lines, k_checked_lines⟩
  have G_checked_lines := ok_checked_lines (base := base) FD_checked_lines T  GX_BadLine XA_BadLine
  have A_frozen : At K mg "frozen" f_frozen := ⟨PySem.W.mg_of X G a_frozen, k_frozen⟩
  have G_frozen := ok_frozen (base := base) FD_frozen T   A_frozen 6
  have A_neighbour_rows : At K mg "neighbour_rows" f_neighbour_rows := ⟨PySem.W.mg_of X G a_neighbour_rows, k_neighbour_rows⟩
  have G_neighbour_rows := ok_neighbour_rows (base := base) FD_neighbour_rows T  
  have C_Web : ClsAt K mg cm "Web" 46 f_Web___init__ := ⟨PySem.W.mg_of X G aC_Web, ⟨mk_Web, a_Web___init__, i_Web___init__, kc_Web⟩, T.in_Web⟩
  have G_Web___init__ := ok_Web___init__ (base := base) FD_Web___init__ T ⟨_, _, e0_Web___init__, rfl, rfl⟩ G_checked_lines A_checked_lines G_frozen A_frozen G_neighbour_rows A_neighbour_rows
  have XA_BadPicture : XAt K mg cm "BadPicture" 10 f_BadPicture___init__ := ⟨PySem.W.mg_of X G aC_BadPicture, xo_BadPicture, a_BadPicture___init__, xt_BadPicture___init__⟩
  have GX_BadPicture := okx_BadPicture___init__ (P := l.prog) (w := w) (mg := mg) (base := base) FD_BadPicture___init__
  have C_Scene : ClsAt K mg cm "Scene" 39 f_Scene___init__ := ⟨PySem.W.mg_of X G aC_Scene, ⟨mk_Scene, a_Scene___init__, i_Scene___init__, kc_Scene⟩, T.in_Scene⟩
  have G_Scene___init__ := ok_Scene___init__ (base := base) FD_Scene___init__ T  G_frozen A_frozen GX_BadPicture XA_BadPicture
  have Q_Web : EqP K cm 46 f_Web___eq__ := ⟨⟨fun b => match b with | .non => nt_Web_NoneType | .bool => nt_Web_bool | .int => nt_Web_int | .str => nt_Web_str | .tuple => nt_Web_tuple | .list => nt_Web_list, fa_cons (nc_Web_Scene) (fa_cons (nc_Web_Web) (fa_nil))⟩, a_Web___eq__, i_Web___eq__⟩
  have G_Web___eq__ := ok_Web___eq__ (base := base) FD_Web___eq__ T  
  have A__law_whole : At K mg "_law_whole" f__law_whole := ⟨PySem.W.mg_of X G a__law_whole, k__law_whole⟩
  have GW__law_whole := warm__law_whole (base := base) FD__law_whole T  
  have G__law_whole := ok__law_whole (base := base) FD__law_whole T  
  have A__law_row : At K mg "_law_row" f__law_row := ⟨PySem.W.mg_of X G a__law_row, k__law_row⟩
  have G__law_row := ok__law_row (base := base) FD__law_row T  G__law_whole A__law_whole
  have A__law_is_scene : At K mg "_law_is_scene" f__law_is_scene := ⟨PySem.W.mg_of X G a__law_is_scene, k__law_is_scene⟩
  have G__law_is_scene := ok__law_is_scene (base := base) FD__law_is_scene T  G_Web___eq__ Q_Web G__law_row A__law_row
  have A_all_ready : At K mg "all_ready" f_all_ready := ⟨PySem.W.mg_of X G a_all_ready, k_all_ready⟩
  have G_all_ready := ok_all_ready (base := base) FD_all_ready T  G_Scene___init__ C_Scene
  have A__law_fault : At K mg "_law_fault" f__law_fault := ⟨PySem.W.mg_of X G a__law_fault, k__law_fault⟩
  have G__law_fault := ok__law_fault (base := base) FD__law_fault T  
  have A__law_made : At K mg "_law_made" f__law_made := ⟨PySem.W.mg_of X G a__law_made, k__law_made⟩
  have G__law_made := ok__law_made (base := base) FD__law_made T  G__law_fault A__law_fault G_Scene___init__ C_Scene G__law_is_scene A__law_is_scene G__law_whole A__law_whole GW__law_whole
  have A_mirror : At K mg "mirror" f_mirror := ⟨PySem.W.mg_of X G a_mirror, k_mirror⟩
  have G_mirror := ok_mirror (base := base) FD_mirror T  G_Scene___init__ C_Scene
  have A_turned : At K mg "turned" f_turned := ⟨PySem.W.mg_of X G a_turned, k_turned⟩
  have G_turned := ok_turned (base := base) FD_turned T  G_Scene___init__ C_Scene
  have A_picture_text : At K mg "picture_text" f_picture_text := ⟨PySem.W.mg_of X G a_picture_text, k_picture_text⟩
  have G_picture_text := ok_picture_text (base := base) FD_picture_text T  
  have A__law_texts : At K mg "_law_texts" f__law_texts := ⟨PySem.W.mg_of X G a__law_texts, k__law_texts⟩
  have G__law_texts := ok__law_texts (base := base) FD__law_texts T  
  have A_scene_of_text : At K mg "scene_of_text" f_scene_of_text := ⟨PySem.W.mg_of X G a_scene_of_text, k_scene_of_text⟩
  have G_scene_of_text := ok_scene_of_text (base := base) FD_scene_of_text T  G_Scene___init__ C_Scene
  have A__law_read : At K mg "_law_read" f__law_read := ⟨PySem.W.mg_of X G a__law_read, k__law_read⟩
  have G__law_read := ok__law_read (base := base) FD__law_read T  G__law_fault A__law_fault G_scene_of_text A_scene_of_text G__law_is_scene A__law_is_scene G_picture_text A_picture_text G__law_whole A__law_whole GW__law_whole
  have Q_Scene : EqP K cm 39 f_Scene___eq__ := ⟨⟨fun b => match b with | .non => nt_Scene_NoneType | .bool => nt_Scene_bool | .int => nt_Scene_int | .str => nt_Scene_str | .tuple => nt_Scene_tuple | .list => nt_Scene_list, fa_cons (nc_Scene_Scene) (fa_cons (nc_Scene_Web) (fa_nil))⟩, a_Scene___eq__, i_Scene___eq__⟩
  have G_Scene___eq__ := ok_Scene___eq__ (base := base) FD_Scene___eq__ T  G_Web___eq__ Q_Web
  have A__law_told : At K mg "_law_told" f__law_told := ⟨PySem.W.mg_of X G a__law_told, k__law_told⟩
  have G__law_told := ok__law_told (base := base) FD__law_told T  
  have A_law : At K mg "law" f_law := ⟨PySem.W.mg_of X G a_law, k_law⟩
  exact (ok_law (base := base) FD_law T G__law_scene A__law_scene G__law_digits A__law_digits G__law_cell A__law_cell G_Web___init__ C_Web G_Scene___init__ C_Scene G__law_is_scene A__law_is_scene G_all_ready A_all_ready G__law_made A__law_made G_mirror A_mirror G_turned A_turned G_picture_text A_picture_text G__law_texts A__law_texts G__law_read A__law_read G_Scene___eq__ Q_Scene G__law_told A__law_told).imp (law_sp main)
end FR
end
section
set_option Elab.async false
set_option linter.all false
set_option maxRecDepth 100000
set_option maxHeartbeats 2000000
open PySem PySem.W PyProof.Rows in
set_option maxRecDepth 100000 in
set_option maxHeartbeats 0 in
theorem PySem.Challenge.cw_firerest_k03_scenes_holds : PySem.Challenge.rw_firerest_k03_scenes.Holds := by
  w_on; o_law; k_head; (case hw => w_witness2)
  k_fill
  refine DI.walk (k := 12) (l := PySem.Challenge.rw_firerest_k03_scenes) rfl rfl ⟨rfl, by decide, by decide⟩ (fun w h Y => PySem.W.kIn_of Y) ?F
  case F =>
    intro w mg fa h KX G hmg
    refine' FR.all_mk KX G hmg ?aC_FirerestError ?aC_BadLine ?aC_BadPicture ?aC_Scene ?aC_Web ?a__law_web ?l__law_web ?c__law_web ?k__law_web ?a__law_digits ?l__law_digits ?c__law_digits ?k__law_digits ?a__law_cell ?l__law_cell ?c__law_cell ?k__law_cell ?a__law_picture ?l__law_picture ?c__law_picture ?k__law_picture ?a__law_scene ?l__law_scene ?c__law_scene ?k__law_scene ?a_BadLine___init__ ?i_BadLine___init__ ?xt_BadLine___init__ ?l_BadLine___init__ ?c_BadLine___init__ ?k_BadLine___init__ ?a_checked_lines ?l_checked_lines ?c_checked_lines ?k_checked_lines ?a_frozen ?l_frozen ?c_frozen ?k_frozen ?a_neighbour_rows ?l_neighbour_rows ?c_neighbour_rows ?k_neighbour_rows ?a_Web___init__ ?i_Web___init__ ?l_Web___init__ ?c_Web___init__ ?k_Web___init__ ?lT_Web___init__ ?e0_Web___init__ ?a_BadPicture___init__ ?i_BadPicture___init__ ?xt_BadPicture___init__ ?l_BadPicture___init__ ?c_BadPicture___init__ ?k_BadPicture___init__ ?a_Scene___init__ ?i_Scene___init__ ?l_Scene___init__ ?c_Scene___init__ ?k_Scene___init__ ?a_Web___eq__ ?i_Web___eq__ ?l_Web___eq__ ?c_Web___eq__ ?k_Web___eq__ ?a__law_whole ?l__law_whole ?c__law_whole ?k__law_whole ?a__law_row ?l__law_row ?c__law_row ?k__law_row ?a__law_is_scene ?l__law_is_scene ?c__law_is_scene ?k__law_is_scene ?a_all_ready ?l_all_ready ?c_all_ready ?k_all_ready ?a__law_fault ?l__law_fault ?c__law_fault ?k__law_fault ?a__law_made ?l__law_made ?c__law_made ?k__law_made ?a_mirror ?l_mirror ?c_mirror ?k_mirror ?a_turned ?l_turned ?c_turned ?k_turned ?a_picture_text ?l_picture_text ?c_picture_text ?k_picture_text ?a__law_texts ?l__law_texts ?c__law_texts ?k__law_texts ?a_scene_of_text ?l_scene_of_text ?c_scene_of_text ?k_scene_of_text ?a__law_read ?l__law_read ?c__law_read ?k__law_read ?a_Scene___eq__ ?i_Scene___eq__ ?l_Scene___eq__ ?c_Scene___eq__ ?k_Scene___eq__ ?a__law_told ?l__law_told ?c__law_told ?k__law_told ?a_law ?l_law ?c_law ?k_law ?pg_Scene ?hd_Scene ?po_Scene ?sa_Scene ?ca_Scene ?cm_Scene ?mk_Scene ?kc_Scene ?na_Scene_picture ?na_Scene_web ?kb_Scene_bool ?kb_Scene_int ?kb_Scene_list ?kb_Scene_tuple ?ki_Scene_Scene ?ki_Scene_Web ?pg_Web ?hd_Web ?po_Web ?sa_Web ?ca_Web ?cm_Web ?mk_Web ?kc_Web ?na_Web_around ?na_Web_lines ?na_Web_size ?kb_Web_bool ?kb_Web_int ?kb_Web_list ?kb_Web_tuple ?ki_Web_Scene ?ki_Web_Web ?xex_FirerestError ?xty_FirerestError ?xhd_FirerestError ?xex_BadLine ?xty_BadLine ?xhd_BadLine ?xex_BadPicture ?xty_BadPicture ?xhd_BadPicture ?xlk_BadLine ?ox_BadLine ?xsa_BadLine ?xkp_BadLine ?xga_BadLine ?xgg_BadLine ?xca_BadLine ?xmo_BadLine ?xna_BadLine_index ?xs_BadLine_BadPicture ?ki_BadLine_BadLine ?ki_BadLine_FirerestError ?kb_BadLine_ValueError ?xlk_BadPicture ?ox_BadPicture ?xsa_BadPicture ?xkp_BadPicture ?xga_BadPicture ?xgg_BadPicture ?xca_BadPicture ?xmo_BadPicture ?xna_BadPicture_index ?xs_BadPicture_BadPicture ?ki_BadPicture_BadLine ?ki_BadPicture_FirerestError ?kb_BadPicture_ValueError ?cn ?ctk ?kt_Scene_NoneType ?kt_Scene_bool ?kt_Scene_int ?kt_Scene_str ?kt_Scene_tuple ?kt_Scene_list ?kt_Web_NoneType ?kt_Web_bool ?kt_Web_int ?kt_Web_str ?kt_Web_tuple ?kt_Web_list ?nt_Scene_NoneType ?nt_Scene_bool ?nt_Scene_int ?nt_Scene_str ?nt_Scene_tuple ?nt_Scene_list ?nc_Scene_Scene ?nc_Scene_Web ?nt_Web_NoneType ?nt_Web_bool ?nt_Web_int ?nt_Web_str ?nt_Web_tuple ?nt_Web_list ?nc_Web_Scene ?nc_Web_Web ?zs_SIGNS ?z_ValueError ?z_bool ?z_enumerate ?z_int ?z_isinstance ?z_len ?z_list ?z_max ?z_min ?z_range ?z_sorted ?z_tuple FR.main
    (case aC_FirerestError => k_is)
    (case aC_BadLine => k_is)
    (case aC_BadPicture => k_is)
    (case aC_Scene => k_is)
    (case aC_Web => k_is)
    (case a__law_web => k_is)
    (case l__law_web => k_is)
    (case c__law_web => k_is)
    (case k__law_web => k_is)
    (case a__law_digits => k_is)
    (case l__law_digits => k_is)
    (case c__law_digits => k_is)
    (case k__law_digits => k_is)
    (case a__law_cell => k_is)
    (case l__law_cell => k_is)
    (case c__law_cell => k_is)
    (case k__law_cell => k_is)
    (case a__law_picture => k_is)
    (case l__law_picture => k_is)
    (case c__law_picture => k_is)
    (case k__law_picture => k_is)
    (case a__law_scene => k_is)
    (case l__law_scene => k_is)
    (case c__law_scene => k_is)
    (case k__law_scene => k_is)
    (case a_BadLine___init__ => k_is)
    (case i_BadLine___init__ => k_is)
    (case xt_BadLine___init__ => k_is)
    (case l_BadLine___init__ => k_is)
    (case c_BadLine___init__ => k_is)
    (case k_BadLine___init__ => k_is)
    (case a_checked_lines => k_is)
    (case l_checked_lines => k_is)
    (case c_checked_lines => k_is)
    (case k_checked_lines => k_is)
    (case a_frozen => k_is)
    (case l_frozen => k_is)
    (case c_frozen => k_is)
    (case k_frozen => k_is)
    (case a_neighbour_rows => k_is)
    (case l_neighbour_rows => k_is)
    (case c_neighbour_rows => k_is)
    (case k_neighbour_rows => k_is)
    (case a_Web___init__ => k_is)
    (case i_Web___init__ => k_is)
    (case l_Web___init__ => k_is)
    (case c_Web___init__ => k_is)
    (case k_Web___init__ => k_is)
    (case lT_Web___init__ => k_is)
    (case e0_Web___init__ => k_is)
    (case a_BadPicture___init__ => k_is)
    (case i_BadPicture___init__ => k_is)
    (case xt_BadPicture___init__ => k_is)
    (case l_BadPicture___init__ => k_is)
    (case c_BadPicture___init__ => k_is)
    (case k_BadPicture___init__ => k_is)
    (case a_Scene___init__ => k_is)
    (case i_Scene___init__ => k_is)
    (case l_Scene___init__ => k_is)
    (case c_Scene___init__ => k_is)
    (case k_Scene___init__ => k_is)
    (case a_Web___eq__ => k_is)
    (case i_Web___eq__ => k_is)
    (case l_Web___eq__ => k_is)
    (case c_Web___eq__ => k_is)
    (case k_Web___eq__ => k_is)
    (case a__law_whole => k_is)
    (case l__law_whole => k_is)
    (case c__law_whole => k_is)
    (case k__law_whole => k_is)
    (case a__law_row => k_is)
    (case l__law_row => k_is)
    (case c__law_row => k_is)
    (case k__law_row => k_is)
    (case a__law_is_scene => k_is)
    (case l__law_is_scene => k_is)
    (case c__law_is_scene => k_is)
    (case k__law_is_scene => k_is)
    (case a_all_ready => k_is)
    (case l_all_ready => k_is)
    (case c_all_ready => k_is)
    (case k_all_ready => k_is)
    (case a__law_fault => k_is)
    (case l__law_fault => k_is)
    (case c__law_fault => k_is)
    (case k__law_fault => k_is)
    (case a__law_made => k_is)
    (case l__law_made => k_is)
    (case c__law_made => k_is)
    (case k__law_made => k_is)
    (case a_mirror => k_is)
    (case l_mirror => k_is)
    (case c_mirror => k_is)
    (case k_mirror => k_is)
    (case a_turned => k_is)
    (case l_turned => k_is)
    (case c_turned => k_is)
    (case k_turned => k_is)
    (case a_picture_text => k_is)
    (case l_picture_text => k_is)
    (case c_picture_text => k_is)
    (case k_picture_text => k_is)
    (case a__law_texts => k_is)
    (case l__law_texts => k_is)
    (case c__law_texts => k_is)
    (case k__law_texts => k_is)
    (case a_scene_of_text => k_is)
    (case l_scene_of_text => k_is)
    (case c_scene_of_text => k_is)
    (case k_scene_of_text => k_is)
    (case a__law_read => k_is)
    (case l__law_read => k_is)
    (case c__law_read => k_is)
    (case k__law_read => k_is)
    (case a_Scene___eq__ => k_is)
    (case i_Scene___eq__ => k_is)
    (case l_Scene___eq__ => k_is)
    (case c_Scene___eq__ => k_is)
    (case k_Scene___eq__ => k_is)
    (case a__law_told => k_is)
    (case l__law_told => k_is)
    (case c__law_told => k_is)
    (case k__law_told => k_is)
    (case a_law => k_is)
    (case l_law => k_is)
    (case c_law => k_is)
    (case k_law => k_is)
    (case pg_Scene => k_is)
    (case hd_Scene => k_is)
    (case po_Scene => k_is)
    (case sa_Scene => k_is)
    (case ca_Scene => k_is)
    (case cm_Scene => k_is)
    (case mk_Scene => k_is)
    (case kc_Scene => k_is)
    (case na_Scene_picture => k_is)
    (case na_Scene_web => k_is)
    (case kb_Scene_bool => kit_is)
    (case kb_Scene_int => kit_is)
    (case kb_Scene_list => kit_is)
    (case kb_Scene_tuple => kit_is)
    (case ki_Scene_Scene => kit_is)
    (case ki_Scene_Web => kit_is)
    (case pg_Web => k_is)
    (case hd_Web => k_is)
    (case po_Web => k_is)
    (case sa_Web => k_is)
    (case ca_Web => k_is)
    (case cm_Web => k_is)
    (case mk_Web => k_is)
    (case kc_Web => k_is)
    (case na_Web_around => k_is)
    (case na_Web_lines => k_is)
    (case na_Web_size => k_is)
    (case kb_Web_bool => kit_is)
    (case kb_Web_int => kit_is)
    (case kb_Web_list => kit_is)
    (case kb_Web_tuple => kit_is)
    (case ki_Web_Scene => kit_is)
    (case ki_Web_Web => kit_is)
    (case xex_FirerestError => k_is)
    (case xty_FirerestError => k_is)
    (case xhd_FirerestError => k_is)
    (case xex_BadLine => k_is)
    (case xty_BadLine => k_is)
    (case xhd_BadLine => k_is)
    (case xex_BadPicture => k_is)
    (case xty_BadPicture => k_is)
    (case xhd_BadPicture => k_is)
    (case xlk_BadLine => k_is)
    (case ox_BadLine => decide +kernel)
    (case xsa_BadLine => k_is)
    (case xkp_BadLine => k_is)
    (case xga_BadLine => k_is)
    (case xgg_BadLine => k_is)
    (case xca_BadLine => k_is)
    (case xmo_BadLine => k_is)
    (case xna_BadLine_index => k_is)
    (case xs_BadLine_BadPicture => k_is)
    (case ki_BadLine_BadLine => kit_is)
    (case ki_BadLine_FirerestError => kit_is)
    (case kb_BadLine_ValueError => kit_is)
    (case xlk_BadPicture => k_is)
    (case ox_BadPicture => decide +kernel)
    (case xsa_BadPicture => k_is)
    (case xkp_BadPicture => k_is)
    (case xga_BadPicture => k_is)
    (case xgg_BadPicture => k_is)
    (case xca_BadPicture => k_is)
    (case xmo_BadPicture => k_is)
    (case xna_BadPicture_index => k_is)
    (case xs_BadPicture_BadPicture => k_is)
    (case ki_BadPicture_BadLine => kit_is)
    (case ki_BadPicture_FirerestError => kit_is)
    (case kb_BadPicture_ValueError => kit_is)
    (case cn => k_is)
    (case ctk => k_is)
    (case kt_Scene_NoneType => kit_is)
    (case kt_Scene_bool => kit_is)
    (case kt_Scene_int => kit_is)
    (case kt_Scene_str => kit_is)
    (case kt_Scene_tuple => kit_is)
    (case kt_Scene_list => kit_is)
    (case kt_Web_NoneType => kit_is)
    (case kt_Web_bool => kit_is)
    (case kt_Web_int => kit_is)
    (case kt_Web_str => kit_is)
    (case kt_Web_tuple => kit_is)
    (case kt_Web_list => kit_is)
    (case nt_Scene_NoneType => k_is)
    (case nt_Scene_bool => k_is)
    (case nt_Scene_int => k_is)
    (case nt_Scene_str => k_is)
    (case nt_Scene_tuple => k_is)
    (case nt_Scene_list => k_is)
    (case nc_Scene_Scene => k_is)
    (case nc_Scene_Web => k_is)
    (case nt_Web_NoneType => k_is)
    (case nt_Web_bool => k_is)
    (case nt_Web_int => k_is)
    (case nt_Web_str => k_is)
    (case nt_Web_tuple => k_is)
    (case nt_Web_list => k_is)
    (case nc_Web_Scene => k_is)
    (case nc_Web_Web => k_is)
    (case zs_SIGNS => k_is)
    (case z_ValueError => k_is)
    (case z_bool => k_is)
    (case z_enumerate => k_is)
    (case z_int => k_is)
    (case z_isinstance => k_is)
    (case z_len => k_is)
    (case z_list => k_is)
    (case z_max => k_is)
    (case z_min => k_is)
    (case z_range => k_is)
    (case z_sorted => k_is)
    (case z_tuple => k_is)
end
