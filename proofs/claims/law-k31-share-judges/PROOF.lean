import PyProof.Rows.All
import HandS.ForMost
import HandS.Exc
import HandS.ExcOwn
import HandS.TryOnly
import HandS.CallSlots
import HandS.IsInst
import HandS.SortInts
import HandS.WordsExc
import KE.KDictKeyed
import KE.KeyNested
import HandS.Wide
import HandS.TupAny
import HandS.Deep
import HandS.Defaults
import HandS.SetBool
import HandS.TupSets
import HandS.SlotsOwn
import HandS.Iter
import KE.GoesEnum
import HandS.EndBits
import HandS.ExcInit
import HandS.ExcField
import HandS.ExcIs
import KE.KExcIs
import HandS.HotCalls
import PyProof.WalkInts
import HandS.Style
import HandS.SetKeys
import HandS.DictComp
import KE.KDictDisplayH
import KE.GoesMore
import HandS.Gcd
import HandS.WideBits
import HandS.IterVal
import HandS.SetFor
import HandS.Strs
import PySem.Challenge.RW_firerest_k31_share_judges
section
set_option Elab.async false
set_option linter.all false
set_option maxRecDepth 100000
set_option maxHeartbeats 2000000
/-! DI: data, and what represents them. -/
namespace DI
open PySem PySem.Spec PyProof.Rows L2
/-- the slots of a frame -/
abbrev Sg := L2.St
/-- data: what a Python value is worth, without addresses -/
inductive D where
  | non
  | bl (b : Bool)
  | int (i : Int)
  | str (x : Str)
  | tup (xs : List D)
  | lst (xs : List D)
  | ins (c : Nat) (ds : List D)
  /-- a list that nobody may change: the script -/
  | scr (xs : List D)
  /-- a set of tuples of numbers, in the order in which they came -/
  | tset (xs : List (List Int))
  /-- a dict with keys that are numbers and texts; l: it is locked -/
  | dct (l : Bool) (ks : List Key) (ds : List D)
  /-- a range object -/
  | rng (lo hi : Int)
  /-- a dict whose keys are nested tuples -/
  | nd (ks : List NestedKey) (ds : List D)
/-- a value under construction: nodes that one slot alone holds, over data -/
inductive T where
  | im (d : D)
  | lst (ts : List T)
  | ins (c : Nat) (ds : List D)
  | dct (ks : List Key) (ts : List T)
  | nd (ks : List NestedKey) (ds : List D)
/-! what a datum is as a key -/
mutual
def kN0 : D → Option NestedKey
  | .non => some .none
  | .bl b => some (.num (if b = true then 1 else 0))
  | .int i => some (.num i)
  | .str x => some (.text x)
  | .tup ds => (kNs ds).map .tup
  | .lst _ => none
  | .ins _ _ => none
  | .scr _ => none
  | .tset _ => none
  | .dct _ _ _ => none
  | .rng _ _ => none
  | .nd _ _ => none
def kNs : List D → Option (List NestedKey)
  | [] => some []
  | d :: ds => match kN0 d, kNs ds with
    | some k, some ks => some (k :: ks)
    | _, _ => none
end
def kN (d : D) : Option NestedKey := match d with
  | .tup ds => (kN0 (.tup ds)).bind fun k => if k.depth ≤ 8 then some k else none
  | _ => none
/-- an error: the class's tag, its fields -/
abbrev Ex := Nat × List D
/-- the classes by their tags: where they stand, what their fields are called, in the order in which __init__ sets them -/
structure CM where
  addr : Nat → Addr
  names : Nat → List Str
  setO : Addr → List (Addr × List Int) → HO
  nd : Addr → List (NestedKey × Addr × V) → HO
  /-- the classes that may stand in data -/
  cls : List Nat
/-- a computation's end: nothing is promised, a value, an error -/
inductive R (α : Type) where
  | bad
  | ok (a : α)
  | ex (e : Ex)
def R.bind {α β : Type} (r : R α) (f : α → R β) : R β := match r with
  | .bad => .bad
  | .ok a => f a
  | .ex e => .ex e
instance : Monad R where
  pure := R.ok
  bind := R.bind
def R.of {α : Type} : Option α → R α
  | none => .bad
  | some a => .ok a
def R.Res {α : Type} (r : R α) (P : α → Prop) (E : Ex → Prop) : Prop := match r with
  | .bad => False
  | .ok a => P a
  | .ex e => E e
theorem R.Res.mono {α : Type} {r : R α} {P P' : α → Prop} {E E' : Ex → Prop} (h : r.Res P E) (hp : ∀ a, P a → P' a) (he : ∀ e, E e → E' e) : r.Res P' E' := by
  cases r with
  | bad => exact h
  | ok a => exact hp a h
  | ex e => exact he e h
theorem R.Res.bind {α β : Type} {r : R α} {f : α → R β} {P : β → Prop} {E : Ex → Prop} : (r.bind f).Res P E ↔ r.Res (fun a => (f a).Res P E) E := by
  cases r <;> exact Iff.rfl
theorem R.Res.of {α : Type} {o : Option α} {P : α → Prop} {E : Ex → Prop} (h : (R.of o).Res P E) : ∃ a, o = some a ∧ P a := by
  cases o with
  | none => exact h.elim
  | some a => exact ⟨a, rfl, h⟩
/-! ### heaps -/
structure Xt (S S' H H' : Hp) : Prop where
  ss : Same S S'
  sh : Same S' H'
  hh : Same H H'
  fr : ∀ a o, S' a = some o → S a = none → H a = none
theorem Xt.refl {S H : Hp} (h : Same S H) : Xt S S H H := ⟨Same.refl S, h, Same.refl H, fun a o e n => by rw [n] at e; cases e⟩
theorem Xt.trans {S S1 S2 H H1 H2 : Hp} (a : Xt S S1 H H1) (b : Xt S1 S2 H1 H2) : Xt S S2 H H2 :=
  ⟨a.ss.trans b.ss, b.sh, a.hh.trans b.hh, fun c o e n => by
    cases q : S1 c with
    | none => exact a.hh.free (b.fr c o e q)
    | some u => exact a.fr c u q n⟩
theorem same_upd {H : Hp} {p : Addr} {o : HO} (h : H p = none) : Same H (upd H p o) := fun b u e => by
  rw [upd_ne (ne_of_none e h)]; exact e
theorem same_upd2 {S H : Hp} {p : Addr} {o : HO} (h : Same S H) (n : S p = none) : Same S (upd H p o) := fun b u e => by
  rw [upd_ne (ne_of_none e n)]; exact h b u e
theorem upd_mono {S H : Hp} {p : Addr} {o : HO} (h : Same S H) : Same (upd S p o) (upd H p o) := fun b u e => by
  by_cases q : b = p
  · subst q; rw [upd_same] at e ⊢; exact e
  · rw [upd_ne q] at e ⊢; exact h b u e
/-- a new object, frozen at once -/
theorem Xt.new {S H : Hp} {p : Addr} {o : HO} (h : Same S H) (n : H p = none) : Xt S (upd S p o) H (upd H p o) :=
  ⟨same_upd (h.free n), upd_mono h, same_upd n, fun a u e z => by
    by_cases q : a = p
    · subst q; exact n
    · rw [upd_ne q, z] at e; cases e⟩
/-- a new object, not frozen -/
theorem Xt.own {S H : Hp} {p : Addr} {o : HO} (h : Same S H) (n : H p = none) : Xt S S H (upd H p o) :=
  ⟨Same.refl S, same_upd2 h (h.free n), same_upd n, fun a u e z => by rw [z] at e; cases e⟩
theorem same_sqL {K : PySem.W.Frag} {H H' : Hp} {a : Addr} {xs : List V} (e : Same H H') (h : SqL K H a xs) : SqL K H' a xs := e.seq h
theorem same_sqT {K : PySem.W.Frag} {H H' : Hp} {a : Addr} {xs : List V} (e : Same H H') (h : SqT K H a xs) : SqT K H' a xs := by
  rcases h with (h | ⟨o, h⟩) | h
  · exact .inl (.inl (e _ _ h))
  · exact .inl (.inr ⟨o, e _ _ h⟩)
  · exact .inr h
/-- a dict stands at a -/
def DkAt (l : Bool) (H : Hp) (a : Addr) (kvs : List (Key × V)) : Prop := if l = true then ∃ o, H a = some (.frz o (.dK kvs)) else H a = some (.dK kvs)
theorem same_dk {l : Bool} {H H' : Hp} {a : Addr} {kvs : List (Key × V)} (e : Same H H') (h : DkAt l H a kvs) : DkAt l H' a kvs := by
  unfold DkAt at h ⊢
  split at h
  · rename_i q
    rw [if_pos q]
    obtain ⟨o, h⟩ := h
    exact ⟨o, e _ _ h⟩
  · rename_i q
    rw [if_neg q]
    exact e _ _ h
/-! ### what represents data -/
section
variable (K : PySem.W.Frag) (cm : CM)
mutual
inductive Rep (S : Hp) : V → D → Prop
  | non : Rep S .non .non
  | bl (b : Bool) : Rep S (.bl b) (.bl b)
  | int (i : Int) : Rep S (.int i) (.int i)
  | str (x : Str) : Rep S (.str x) (.str x)
  | tup {a : Addr} {xs : List V} {ds : List D} : SqT K S a xs → RepL S xs ds → Rep S (.ref a) (.tup ds)
  | lst {a : Addr} {xs : List V} {ds : List D} : S a = some (.lst xs) → RepL S xs ds → Rep S (.ref a) (.lst ds)
  | scr {a : Addr} {xs : List V} {ds : List D} : SqL K S a xs → RepL S xs ds → Rep S (.ref a) (.scr ds)
  | tset {a : Addr} {L : List (Addr × List Int)} {xs : List (List Int)} : S a = some (cm.setO a L) → (∀ p ∈ L, SqT K S p.1 (p.2.map V.int)) → (L.map (·.2)).Perm xs → Rep S (.ref a) (.tset xs)
  | ins {a dx : Addr} {c : Nat} {vs : List V} {ds : List D} : c ∈ cm.cls → S a = some (.ins (cm.addr c) dx ((cm.names c).zip vs)) → RepL S vs ds → Rep S (.ref a) (.ins c ds)
  | dct {a : Addr} {l : Bool} {ks : List Key} {vs : List V} {ds : List D} : DkAt l S a (ks.zip vs) → ks.length = vs.length → ks.Nodup → RepL S vs ds → Rep S (.ref a) (.dct l ks ds)
  | rng {a : Addr} {lo hi : Int} : S a = some (.rng lo hi) → Rep S (.ref a) (.rng lo hi)
  | nd {a : Addr} {bs : List Addr} {kds : List D} {ks : List NestedKey} {vs : List V} {ds : List D} : S a = some (cm.nd a (ks.zip (bs.zip vs))) → RepL S (bs.map V.ref) kds → kds.map kN = ks.map some → ks.length = vs.length → RepL S vs ds → Rep S (.ref a) (.nd ks ds)
inductive RepL (S : Hp) : List V → List D → Prop
  | nil : RepL S [] []
  | cons {v : V} {vs : List V} {d : D} {ds : List D} : Rep S v d → RepL S vs ds → RepL S (v :: vs) (d :: ds)
end
end
section
variable {K : PySem.W.Frag} {cm : CM} {S S' H H' : Hp}
mutual
theorem Rep.mono (e : Same S S') : ∀ {v : V} {d : D}, Rep K cm S v d → Rep K cm S' v d
  | _, _, .non => .non
  | _, _, .bl b => .bl b
  | _, _, .int i => .int i
  | _, _, .str x => .str x
  | _, _, .tup h hs => .tup (same_sqT e h) (RepL.mono e hs)
  | _, _, .lst h hs => .lst (e _ _ h) (RepL.mono e hs)
  | _, _, .scr h hs => .scr (same_sqL e h) (RepL.mono e hs)
  | _, _, .tset h hs pm => .tset (e _ _ h) (fun p m => same_sqT e (hs p m)) pm
  | _, _, .ins m h hs => .ins m (e _ _ h) (RepL.mono e hs)
  | _, _, .dct h hl hn hs => .dct (same_dk e h) hl hn (RepL.mono e hs)
  | _, _, .rng h => .rng (e _ _ h)
  | _, _, .nd h hk he hl hs => .nd (e _ _ h) (RepL.mono e hk) he hl (RepL.mono e hs)
theorem RepL.mono (e : Same S S') : ∀ {vs : List V} {ds : List D}, RepL K cm S vs ds → RepL K cm S' vs ds
  | _, _, .nil => .nil
  | _, _, .cons h hs => .cons (Rep.mono e h) (RepL.mono e hs)
end
theorem RepL.length : ∀ {vs : List V} {ds : List D}, RepL K cm S vs ds → vs.length = ds.length
  | _, _, .nil => rfl
  | _, _, .cons _ hs => by rw [List.length_cons, List.length_cons, RepL.length hs]
theorem RepL.get : ∀ {vs : List V} {ds : List D} {i : Nat} {d : D}, RepL K cm S vs ds → ds[i]? = some d → ∃ v, vs[i]? = some v ∧ Rep K cm S v d
  | _, _, _, _, .nil, e => by simp at e
  | _, _, 0, _, .cons h _, e => by simp at e; subst e; exact ⟨_, rfl, h⟩
  | _, _, i + 1, d, .cons _ hs, e => by
    obtain ⟨v, a, b⟩ := RepL.get (i := i) hs (by simpa using e)
    exact ⟨v, by simpa using a, b⟩
theorem RepL.append : ∀ {vs ws : List V} {ds es : List D}, RepL K cm S vs ds → RepL K cm S ws es → RepL K cm S (vs ++ ws) (ds ++ es)
  | _, _, _, _, .nil, h => h
  | _, _, _, _, .cons h hs, g => .cons h (RepL.append hs g)
theorem RepL.take : ∀ {vs : List V} {ds : List D} (n : Nat), RepL K cm S vs ds → RepL K cm S (vs.take n) (ds.take n)
  | _, _, 0, _ => by rw [List.take_zero, List.take_zero]; exact .nil
  | _, _, _ + 1, .nil => by rw [List.take_nil, List.take_nil]; exact .nil
  | _, _, n + 1, .cons h hs => by rw [List.take_succ_cons, List.take_succ_cons]; exact .cons h (RepL.take n hs)
theorem RepL.drop : ∀ {vs : List V} {ds : List D} (n : Nat), RepL K cm S vs ds → RepL K cm S (vs.drop n) (ds.drop n)
  | _, _, 0, h => h
  | _, _, _ + 1, .nil => by rw [List.drop_nil, List.drop_nil]; exact .nil
  | _, _, n + 1, .cons h hs => by rw [List.drop_succ_cons, List.drop_succ_cons]; exact RepL.drop n hs
theorem RepL.ints : ∀ (ns : List Int), RepL K cm S (ns.map V.int) (ns.map D.int)
  | [] => .nil
  | n :: ns => .cons (.int n) (RepL.ints ns)
theorem RepL.rep {v : V} {d : D} (h : Rep K cm S v d) : ∀ n : Nat, RepL K cm S (List.replicate n v) (List.replicate n d)
  | 0 => .nil
  | n + 1 => by rw [List.replicate_succ, List.replicate_succ]; exact .cons h (RepL.rep h n)
theorem zip_lookup : ∀ {ns : List Str} {vs : List V} {i : Nat} {f : Str}, ns.Nodup → ns[i]? = some f → (ns.zip vs).lookup f = vs[i]?
  | [], _, _, _, _, e => by simp at e
  | _ :: _, [], _, _, _, _ => by simp
  | n :: ns, v :: vs, 0, f, _, e => by
    have e : n = f := by simpa using e
    subst e
    simp [List.lookup]
  | n :: ns, v :: vs, i + 1, f, h, e => by
    have e : ns[i]? = some f := by simpa using e
    obtain ⟨h1, h2⟩ := List.nodup_cons.mp h
    have ne : (f == n) = false := by
      cases q : f == n with
      | false => rfl
      | true =>
        have z : f = n := by simpa using q
        exact absurd (z ▸ List.mem_of_getElem? e) h1
    have := zip_lookup (vs := vs) h2 e
    simp only [List.zip_cons_cons, List.lookup, ne]
    rw [this]
    simp
end
/-! ### nodes under construction -/
section
variable (K : PySem.W.Frag) (cm : CM) (S H : Hp)
mutual
inductive Own : T → V → List Addr → Prop
  | im {d : D} {v : V} : Rep K cm S v d → Own (.im d) v []
  | lst {a : Addr} {vs : List V} {ts : List T} {fp : List Addr} : H a = some (.lst vs) → OwnL ts vs fp → Own (.lst ts) (.ref a) (a :: fp)
  | ins {a dx : Addr} {c : Nat} {vs : List V} {ds : List D} : c ∈ cm.cls → H a = some (.ins (cm.addr c) dx ((cm.names c).zip vs)) → RepL K cm S vs ds → Own (.ins c ds) (.ref a) [a]
  | dct {a : Addr} {ks : List Key} {vs : List V} {ts : List T} {fp : List Addr} : H a = some (.dK (ks.zip vs)) → ks.length = vs.length → ks.Nodup → OwnL ts vs fp → Own (.dct ks ts) (.ref a) (a :: fp)
  | nd {a : Addr} {bs : List Addr} {kds : List D} {ks : List NestedKey} {vs : List V} {ds : List D} : H a = some (cm.nd a (ks.zip (bs.zip vs))) → RepL K cm S (bs.map V.ref) kds → kds.map kN = ks.map some → ks.length = vs.length → RepL K cm S vs ds → Own (.nd ks ds) (.ref a) [a]
inductive OwnL : List T → List V → List Addr → Prop
  | nil : OwnL [] [] []
  | cons {t : T} {v : V} {f1 : List Addr} {ts : List T} {vs : List V} {f2 : List Addr} : Own t v f1 → OwnL ts vs f2 → OwnL (t :: ts) (v :: vs) (f1 ++ f2)
end
inductive Sls : Sg → List (Option T) → List Addr → Prop
  | nil : Sls [] [] []
  | no {o : Option V} {σ : Sg} {st : List (Option T)} {fp : List Addr} : Sls σ st fp → Sls (o :: σ) (none :: st) fp
  | yes {v : V} {t : T} {f1 : List Addr} {σ : Sg} {st : List (Option T)} {fp : List Addr} : Own K cm S H t v f1 → Sls σ st fp → Sls (some v :: σ) (some t :: st) (f1 ++ fp)
end
section
variable {K : PySem.W.Frag} {cm : CM} {S S' H H' : Hp}
mutual
theorem Own.mono (e : Same S S') : ∀ {t : T} {v : V} {fp : List Addr}, (∀ a ∈ fp, H' a = H a) → Own K cm S H t v fp → Own K cm S' H' t v fp
  | _, _, _, k, .im h => .im (h.mono e)
  | _, _, _, k, .lst h hs => .lst ((k _ List.mem_cons_self).trans h) (OwnL.mono e (fun a m => k a (List.mem_cons_of_mem _ m)) hs)
  | _, _, _, k, .ins m h hs => .ins m ((k _ List.mem_cons_self).trans h) (hs.mono e)
  | _, _, _, k, .dct h hl hn hs => .dct ((k _ List.mem_cons_self).trans h) hl hn (OwnL.mono e (fun a m => k a (List.mem_cons_of_mem _ m)) hs)
  | _, _, _, k, .nd h hk he hl hs => .nd ((k _ List.mem_cons_self).trans h) (hk.mono e) he hl (hs.mono e)
theorem OwnL.mono (e : Same S S') : ∀ {ts : List T} {vs : List V} {fp : List Addr}, (∀ a ∈ fp, H' a = H a) → OwnL K cm S H ts vs fp → OwnL K cm S' H' ts vs fp
  | _, _, _, k, .nil => .nil
  | _, _, _, k, .cons h hs => .cons (Own.mono e (fun a m => k a (List.mem_append_left _ m)) h) (OwnL.mono e (fun a m => k a (List.mem_append_right _ m)) hs)
end
theorem Sls.mono (e : Same S S') : ∀ {σ : Sg} {st : List (Option T)} {fp : List Addr}, (∀ a ∈ fp, H' a = H a) → Sls K cm S H σ st fp → Sls K cm S' H' σ st fp
  | _, _, _, k, .nil => .nil
  | _, _, _, k, .no h => .no (Sls.mono e k h)
  | _, _, _, k, .yes h hs => .yes (h.mono e fun a m => k a (List.mem_append_left _ m)) (Sls.mono e (fun a m => k a (List.mem_append_right _ m)) hs)
mutual
theorem Own.there : ∀ {t : T} {v : V} {fp : List Addr}, Own K cm S H t v fp → ∀ a ∈ fp, H a ≠ none
  | _, _, _, .im h, a, m => by cases m
  | _, _, _, .lst h hs, a, m => by
    rcases List.mem_cons.mp m with e | m
    · subst e; rw [h]; intro z; cases z
    · exact OwnL.there hs a m
  | _, _, _, .ins _ h hs, a, m => by
    rcases List.mem_cons.mp m with e | m
    · subst e; rw [h]; intro z; cases z
    · cases m
  | _, _, _, .dct h _ _ hs, a, m => by
    rcases List.mem_cons.mp m with e | m
    · subst e; rw [h]; intro z; cases z
    · exact OwnL.there hs a m
  | _, _, _, .nd h _ _ _ _, a, m => by
    rcases List.mem_cons.mp m with e | m
    · subst e; rw [h]; intro z; cases z
    · cases m
theorem OwnL.there : ∀ {ts : List T} {vs : List V} {fp : List Addr}, OwnL K cm S H ts vs fp → ∀ a ∈ fp, H a ≠ none
  | _, _, _, .nil, a, m => by cases m
  | _, _, _, .cons h hs, a, m => by
    rcases List.mem_append.mp m with m | m
    · exact Own.there h a m
    · exact OwnL.there hs a m
end
theorem Sls.there : ∀ {σ : Sg} {st : List (Option T)} {fp : List Addr}, Sls K cm S H σ st fp → ∀ a ∈ fp, H a ≠ none
  | _, _, _, .nil, a, m => by cases m
  | _, _, _, .no h, a, m => Sls.there h a m
  | _, _, _, .yes h hs, a, m => by
    rcases List.mem_append.mp m with m | m
    · exact h.there a m
    · exact Sls.there hs a m
theorem Sls.length : ∀ {σ : Sg} {st : List (Option T)} {fp : List Addr}, Sls K cm S H σ st fp → σ.length = st.length
  | _, _, _, .nil => rfl
  | _, _, _, .no h => by rw [List.length_cons, List.length_cons, Sls.length h]
  | _, _, _, .yes _ hs => by rw [List.length_cons, List.length_cons, Sls.length hs]
theorem Sls.get : ∀ {σ : Sg} {st : List (Option T)} {fp : List Addr} {i : Nat} {t : T}, Sls K cm S H σ st fp → st[i]? = some (some t) → ∃ v f, σ[i]? = some (some v) ∧ Own K cm S H t v f ∧ ∀ a ∈ f, a ∈ fp
  | _, _, _, i, t, .nil, e => by simp at e
  | _, _, _, 0, t, .no h, e => by simp at e
  | _, _, _, i + 1, t, .no h, e => by
    obtain ⟨v, f, a, b, c⟩ := Sls.get (i := i) h (by simpa using e)
    exact ⟨v, f, by simpa using a, b, c⟩
  | _, _, _, 0, t, .yes h hs, e => by
    simp at e; subst e
    exact ⟨_, _, rfl, h, fun a m => List.mem_append_left _ m⟩
  | _, _, _, i + 1, t, .yes h hs, e => by
    obtain ⟨v, f, a, b, c⟩ := Sls.get (i := i) hs (by simpa using e)
    exact ⟨v, f, by simpa using a, b, fun a m => List.mem_append_right _ (c a m)⟩
/-- a slot is set: its old footprint goes, its new one comes -/
theorem Sls.set {t : T} {v : V} {f : List Addr} (o : Own K cm S H t v f) : ∀ {σ : Sg} {st : List (Option T)} {fp : List Addr} (i : Nat), Sls K cm S H σ st fp →
    ∃ fp', Sls K cm S H (σ.set i (some v)) (st.set i (some t)) fp' ∧ (fp.Nodup → f.Nodup → (∀ a ∈ f, a ∉ fp) → fp'.Nodup) ∧ ∀ a ∈ fp', a ∈ fp ∨ a ∈ f
  | _, _, _, i, .nil => ⟨[], .nil, fun h _ _ => h, fun a m => .inl m⟩
  | _, _, _, 0, .no h => ⟨_, .yes o h, fun n1 n2 d => List.nodup_append.mpr ⟨n2, n1, fun a ha b hb e => d a ha (e ▸ hb)⟩, fun a m => (List.mem_append.mp m).elim .inr .inl⟩
  | _, _, _, i + 1, .no h => by
    obtain ⟨fp', a, b, c⟩ := Sls.set o i h
    exact ⟨fp', .no a, b, c⟩
  | _, _, _, 0, .yes (f1 := f1) h hs => ⟨_, .yes o hs, fun n1 n2 d => List.nodup_append.mpr ⟨n2, (List.nodup_append.mp n1).2.1, fun a ha b hb e => d a ha (e ▸ List.mem_append_right _ hb)⟩,
      fun a m => (List.mem_append.mp m).elim .inr fun m => .inl (List.mem_append_right _ m)⟩
  | _, _, _, i + 1, .yes (f1 := f1) h hs => by
    obtain ⟨fp', a, b, c⟩ := Sls.set o i hs
    refine ⟨f1 ++ fp', .yes h a, fun n1 n2 d => ?_, fun a m => ?_⟩
    · obtain ⟨m1, m2, m3⟩ := List.nodup_append.mp n1
      refine List.nodup_append.mpr ⟨m1, b m2 n2 fun a ha hb => d a ha (List.mem_append_right _ hb), fun a ha b hb e => ?_⟩
      rcases c b hb with z | z
      · exact m3 a ha b z e
      · exact d b z (List.mem_append_left _ (e ▸ ha))
    · rcases List.mem_append.mp m with m | m
      · exact .inl (List.mem_append_left _ m)
      · exact (c a m).elim (fun z => .inl (List.mem_append_right _ z)) .inr
/-- a slot is forgotten -/
theorem Sls.forget {o : Option V} : ∀ {σ : Sg} {st : List (Option T)} {fp : List Addr} (i : Nat), Sls K cm S H σ st fp →
    ∃ fp', Sls K cm S H (σ.set i o) (st.set i none) fp' ∧ (fp.Nodup → fp'.Nodup) ∧ ∀ a ∈ fp', a ∈ fp
  | _, _, _, i, .nil => ⟨[], .nil, fun h => h, fun a m => m⟩
  | _, _, _, 0, .no h => ⟨_, .no h, fun n => n, fun a m => m⟩
  | _, _, _, i + 1, .no h => by
    obtain ⟨fp', a, b, c⟩ := Sls.forget i h
    exact ⟨fp', .no a, b, c⟩
  | _, _, _, 0, .yes h hs => ⟨_, .no hs, fun n => (List.nodup_append.mp n).2.1, fun a m => List.mem_append_right _ m⟩
  | _, _, _, i + 1, .yes (f1 := f1) h hs => by
    obtain ⟨fp', a, b, c⟩ := Sls.forget i hs
    refine ⟨f1 ++ fp', .yes h a, fun n1 => ?_, fun a m => ?_⟩
    · obtain ⟨m1, m2, m3⟩ := List.nodup_append.mp n1
      exact List.nodup_append.mpr ⟨m1, b m2, fun a ha b hb e => m3 a ha b (c b hb) e⟩
    · rcases List.mem_append.mp m with m | m
      · exact List.mem_append_left _ m
      · exact List.mem_append_right _ (c a m)
end
/-- what a computation may raise, and what its slots are known to hold -/
structure WH where
  w : WX
  held : Sg → Hp → Prop
  mono : ∀ {σ : Sg} {S S' : Hp}, Same S S' → held σ S → held σ S'
/-- nothing is known of the slots -/
abbrev wt (w : WX) : WH := ⟨w, fun _ _ => True, fun _ h => h⟩
class Free (W : WH) : Prop where
  any : ∀ σ S, W.held σ S
instance {w : WX} : Free (wt w) := ⟨fun _ _ => trivial⟩
abbrev WF : WH := wt fun _ _ _ _ => False
/-- the slots hold these data: S is what stands for good, fp the nodes under construction -/
structure Rx (K : PySem.W.Frag) (cm : CM) (W : WH) (st : List (Option T)) (S : Hp) (fp : List Addr) (σ : Sg) (H : Hp) : Prop where
  sh : Same S H
  sls : Sls K cm S H σ st fp
  nd : fp.Nodup
  out : ∀ a ∈ fp, S a = none
  hd : W.held σ S
section
variable {K : PySem.W.Frag} {cm : CM} {W W' : WH} {S S' H H' : Hp} {st : List (Option T)} {fp : List Addr} {σ : Sg}
theorem Rx.ext (r : Rx K cm W st S fp σ H) (x : Xt S S' H H') : Rx K cm W st S' fp σ H' := by
  have th := r.sls.there
  refine ⟨x.sh, r.sls.mono x.ss fun a m => ?_, r.nd, fun a m => ?_, W.mono x.ss r.hd⟩
  · cases e : H a with
    | none => exact absurd e (th a m)
    | some o => exact x.hh a o e
  · cases e : S' a with
    | none => rfl
    | some o => exact absurd (x.fr a o e (r.out a m)) (th a m)
/-- from one way of ending to another one -/
theorem Rx.to [Free W'] (r : Rx K cm W st S fp σ H) : Rx K cm W' st S fp σ H := ⟨r.sh, r.sls, r.nd, r.out, Free.any σ S⟩
theorem Rx.imm {d : D} {i : Nat} (r : Rx K cm W st S fp σ H) (h : st[i]? = some (some (.im d))) : ∃ v, σ[i]? = some (some v) ∧ Rep K cm S v d := by
  obtain ⟨v, f, a, b, _⟩ := r.sls.get h
  cases b with
  | im q => exact ⟨v, a, q⟩
theorem Rx.set_im [Free W] {v : V} {d : D} (r : Rx K cm W st S fp σ H) (h : Rep K cm S v d) (i : Nat) : ∃ fp', Rx K cm W (st.set i (some (.im d))) S fp' (σ.set i (some v)) H ∧ ∀ a ∈ fp', a ∈ fp := by
  obtain ⟨fp', a, b, c⟩ := r.sls.set (.im h) i
  refine ⟨fp', ⟨r.sh, a, b r.nd List.nodup_nil (fun _ m => nomatch m), fun x m => ?_, Free.any _ _⟩, fun x m => ?_⟩
  · exact (c x m).elim (r.out x) fun z => nomatch z
  · exact (c x m).elim id fun z => nomatch z
theorem Rx.set_ow [Free W] {v : V} {t : T} {f : List Addr} (r : Rx K cm W st S fp σ H) (h : Own K cm S H t v f) (n : f.Nodup) (dj : ∀ a ∈ f, a ∉ fp) (so : ∀ a ∈ f, S a = none) (i : Nat) :
    ∃ fp', Rx K cm W (st.set i (some t)) S fp' (σ.set i (some v)) H ∧ ∀ a ∈ fp', a ∈ fp ∨ a ∈ f := by
  obtain ⟨fp', a, b, c⟩ := r.sls.set h i
  exact ⟨fp', ⟨r.sh, a, b r.nd n dj, fun x m => (c x m).elim (r.out x) (so x), Free.any _ _⟩, c⟩
theorem Rx.forget [Free W'] {o : Option V} (r : Rx K cm W st S fp σ H) (i : Nat) : ∃ fp', Rx K cm W' (st.set i none) S fp' (σ.set i o) H ∧ ∀ a ∈ fp', a ∈ fp := by
  obtain ⟨fp', a, b, c⟩ := r.sls.forget (o := o) i
  exact ⟨fp', ⟨r.sh, a, b r.nd, fun x m => r.out x (c x m), Free.any _ _⟩, c⟩
end
/-- what can be read just now: data, or a node under construction over data -/
def View (K : PySem.W.Frag) (cm : CM) (S H : Hp) (v : V) (d : D) : Prop :=
  Rep K cm S v d ∨ ∃ a vs ds, v = .ref a ∧ d = .lst ds ∧ H a = some (.lst vs) ∧ RepL K cm S vs ds
theorem View.ext {K : PySem.W.Frag} {cm : CM} {S S' H H' : Hp} {v : V} {d : D} (x : Xt S S' H H') (h : View K cm S H v d) : View K cm S' H' v d := by
  rcases h with h | ⟨a, vs, ds, e1, e2, e3, h⟩
  · exact .inl (h.mono x.ss)
  · exact .inr ⟨a, vs, ds, e1, e2, x.hh _ _ e3, h.mono x.ss⟩
/-! ### errors -/
def RepX (K : PySem.W.Frag) (cm : CM) (S : Hp) (cls : Value) (od : Option Addr) (e : Ex) : Prop :=
  cls = .ref (cm.addr e.1) ∧ ((e.2 = [] ∧ od = none) ∨ ∃ dx vs, od = some dx ∧ S dx = some (.xd ((cm.names e.1).zip vs)) ∧ RepL K cm S vs e.2)
/-! ### expressions -/
section
variable (K : PySem.W.Frag) (cm : CM) (W : WH)
/-- how a computation goes on from a state -/
def Go {α : Type} (P : α → Hp → Hp → Prop) (r : R α) (S H : Hp) (σ : Sg) : Prop :=
  r.Res (fun d => ∀ H' S', Xt S S' H H' → P d S' H') fun e => ∀ cls od H' S', Xt S S' H H' → RepX K cm S' cls od e → W.w cls od σ H'
def E (f : List (Option T) → R D) : TE := fun σ H Q => ∃ st S fp, Rx K cm W st S fp σ H ∧ Go K cm W (fun d S' H' => ∀ v, Rep K cm S' v d → Q v H') (f st) S H σ
def VE (f : List (Option T) → R D) : TE := fun σ H Q => ∃ st S fp, Rx K cm W st S fp σ H ∧ Go K cm W (fun d S' H' => ∀ v, View K cm S' H' v d → Q v H') (f st) S H σ
/-- a fresh object -/
def EF (f : List (Option T) → R T) : TE := fun σ H Q => ∃ st S fp, Rx K cm W st S fp σ H ∧
  Go K cm W (fun t S' H' => ∀ v fn, Own K cm S' H' t v fn → fn.Nodup → (∀ a ∈ fn, H a = none ∧ S' a = none) → Q v H') (f st) S H σ
def TB (f : List (Option T) → R Bool) : TT := fun σ H Q => ∃ st S fp, Rx K cm W st S fp σ H ∧ Go K cm W (fun b S' H' => Q b H') (f st) S H σ
def EA (f : List (Option T) → R (List D)) : TA := fun σ H Q => ∃ st S fp, Rx K cm W st S fp σ H ∧ Go K cm W (fun ds S' H' => ∀ vs, RepL K cm S' vs ds → Q vs H') (f st) S H σ
def VA (f : List (Option T) → R (List D)) : TA := fun σ H Q => ∃ st S fp, Rx K cm W st S fp σ H ∧ Go K cm W (fun ds S' H' => ∀ vs, Paired (View K cm S' H') vs ds → Q vs H') (f st) S H σ
end
section
variable {K : PySem.W.Frag} {cm : CM} {W : WH} {S S' H H' : Hp} {σ : Sg}
theorem Go.mono {α : Type} {P P' : α → Hp → Hp → Prop} {r : R α} (g : Go K cm W P r S H σ) (h : ∀ a S' H', Xt S S' H H' → P a S' H' → P' a S' H') : Go K cm W P' r S H σ :=
  R.Res.mono g (fun a q H' S' x => h a S' H' x (q H' S' x)) fun _ q => q
theorem Go.ext {α : Type} {P : α → Hp → Hp → Prop} {r : R α} (x : Xt S S' H H') (g : Go K cm W P r S H σ) : Go K cm W P r S' H' σ :=
  R.Res.mono g (fun a q H2 S2 y => q H2 S2 (x.trans y)) fun e q cls od H2 S2 y => q cls od H2 S2 (x.trans y)
theorem Go.bind {α β : Type} {P : β → Hp → Hp → Prop} {r : R α} {f : α → R β} (g : Go K cm W P (r.bind f) S H σ) : Go K cm W (fun a S' H' => Go K cm W P (f a) S' H' σ) r S H σ := by
  unfold Go at g
  rw [R.Res.bind] at g
  exact R.Res.mono g (fun a q H' S' x => Go.ext x q) fun _ q => q
theorem Go.of {α : Type} {P : α → Hp → Hp → Prop} {o : Option α} (g : Go K cm W P (R.of o) S H σ) : ∃ a, o = some a ∧ ∀ H' S', Xt S S' H H' → P a S' H' := R.Res.of g
theorem Go.here {α : Type} {P : α → Hp → Hp → Prop} {a : α} (sh : Same S H) (g : Go K cm W P (.ok a) S H σ) : P a S H := g H S (Xt.refl sh)
theorem _root_.L2.PE.imp {X : Cx} {e : Expr} {t t' : TE} (h : PE X e t) (k : ∀ σ H Q, t' σ H Q → t σ H Q) : PE X e t' := ⟨fun pins s σ H Q I q => h.run pins s σ H Q I (k σ H Q q)⟩
theorem _root_.L2.PT.imp {X : Cx} {e : Expr} {t t' : TT} (h : PT X e t) (k : ∀ σ H Q, t' σ H Q → t σ H Q) : PT X e t' := ⟨fun pins s σ H Q I q => h.run pins s σ H Q I (k σ H Q q)⟩
theorem _root_.L2.PW.imp {X : Cx} {e : Expr} {t t' : TT} (h : PW X e t) (k : ∀ σ H Q, t' σ H Q → t σ H Q) : PW X e t' := ⟨fun wh pins s σ H Q I q => h.run wh pins s σ H Q I (k σ H Q q)⟩
theorem _root_.L2.PA.imp {X : Cx} {e : List Expr} {t t' : TA} (h : PA X e t) (k : ∀ σ H Q, t' σ H Q → t σ H Q) : PA X e t' := ⟨fun pos pins s σ H Q I q => h.run pos pins s σ H Q I (k σ H Q q)⟩
theorem _root_.L2.PS.imp {X : Cx} {e : Stmt} {t t' : TS} (h : PS X e t) (k : ∀ D σ H, t' D σ H → t D σ H) : PS X e t' := ⟨fun pins s σ H D I q => h.run pins s σ H D I (k D σ H q)⟩
theorem _root_.L2.PSs.imp {X : Cx} {e : List Stmt} {t t' : TS} (h : PSs X e t) (k : ∀ D σ H, t' D σ H → t D σ H) : PSs X e t' := ⟨fun pins s σ H D I q => h.run pins s σ H D I (k D σ H q)⟩
theorem _root_.L2.PI.imp {X : Cx} {tg e : Expr} {t t' : TI} (h : PI X tg e t) (k : ∀ σ H R, t' σ H R → t σ H R) : PI X tg e t' := ⟨fun pins s σ H R I q => h.run pins s σ H R I (k σ H R q)⟩
theorem _root_.L2.PG.imp {X : Cx} {e : Expr} {t t' : TG} (h : PG X e t) (k : ∀ v σ H Q, t' v σ H Q → t v σ H Q) : PG X e t' := ⟨fun pins s σ H v u Q I r q => h.run pins s σ H v u Q I r (k v σ H Q q)⟩
end
end DI
end
section
set_option Elab.async false
set_option linter.all false
set_option maxRecDepth 100000
set_option maxHeartbeats 2000000
/-! DI: expressions. -/
namespace DI
open PySem PySem.Spec PyProof.Rows L2
abbrev LS := List (Option T)
/-! ### names and constants -/
def imD : Option (Option T) → Option D
  | some (some (.im d)) => some d
  | _ => none
def imms : List T → Option (List D)
  | [] => some []
  | .im d :: ts => (imms ts).map (d :: ·)
  | _ :: _ => none
def viewT : T → Option D
  | .im d => some d
  | .lst ts => (imms ts).map .lst
  | _ => none
def viewD : Option (Option T) → Option D
  | some (some t) => viewT t
  | _ => none
/-- a name's datum; a name's datum or what is under construction at it -/
def vi (i : Nat) : LS → R D := fun st => .of (imD st[i]?)
def vv (i : Nat) : LS → R D := fun st => .of (viewD st[i]?)
def cc (d : D) : LS → R D := fun _ => .ok d
section
variable {K : PySem.W.Frag} {cm : CM} {W : WH} {S S' H H' : Hp} {σ : Sg}
theorem own_imms : ∀ {ts : List T} {vs : List V} {fp : List Addr} {ds : List D}, OwnL K cm S H ts vs fp → imms ts = some ds → RepL K cm S vs ds
  | _, _, _, _, .nil, e => by cases e; exact .nil
  | _, _, _, _, .cons (t := t) h hs, e => by
    cases h with
    | im q =>
      rename_i ts vs f2 d
      unfold imms at e
      cases q2 : imms ts with
      | none => rw [q2] at e; cases e
      | some es =>
        rw [q2] at e
        cases e
        exact .cons q (own_imms hs q2)
    | lst _ _ => cases e
    | ins _ _ _ => cases e
    | dct _ _ _ _ => cases e
    | nd _ _ _ _ _ => cases e
theorem own_view {t : T} {v : V} {fp : List Addr} {d : D} (o : Own K cm S H t v fp) (e : viewT t = some d) : View K cm S H v d := by
  cases o with
  | im q => cases e; exact .inl q
  | lst h hs =>
    rename_i a vs ts fp
    have e : (imms ts).map D.lst = some d := e
    cases q : imms ts with
    | none => rw [q] at e; cases e
    | some es =>
      rw [q] at e
      cases e
      exact .inr ⟨a, vs, es, rfl, rfl, h, own_imms hs q⟩
  | ins _ _ _ => cases e
  | dct _ _ _ _ => cases e
  | nd _ _ _ _ _ => cases e
end
section
variable {X : Cx} {cm : CM} {W : WH}
theorem e_var (i : Nat) {x : Str} {pos : Pos} (hN : X.N[i]? = some x := by rfl) (hv : Vis X.env.scope x := by first | exact Or.inl rfl | exact Or.inr (Or.inl rfl) | exact Or.inr (Or.inr rfl)) (hd : (x == ("__debug__" : Str)) = false := by decide)
    (hcd : (x == ("__classdict__" : Str)) = false := by decide) : PE X (.Name x pos) (E X.K cm W (vi i)) := (pe_var hN hv hd hcd).imp fun σ H Q ⟨st, S, fp, r, g⟩ => by
  obtain ⟨d, e, k⟩ := g.of
  unfold imD at e
  split at e
  · cases e
    rename_i q
    obtain ⟨v, a, b⟩ := r.imm q
    exact ⟨v, a, k H S (Xt.refl r.sh) v b⟩
  · cases e
theorem v_var (i : Nat) {x : Str} {pos : Pos} (hN : X.N[i]? = some x := by rfl) (hv : Vis X.env.scope x := by first | exact Or.inl rfl | exact Or.inr (Or.inl rfl) | exact Or.inr (Or.inr rfl)) (hd : (x == ("__debug__" : Str)) = false := by decide)
    (hcd : (x == ("__classdict__" : Str)) = false := by decide) : PE X (.Name x pos) (VE X.K cm W (vv i)) := (pe_var hN hv hd hcd).imp fun σ H Q ⟨st, S, fp, r, g⟩ => by
  obtain ⟨d, e, k⟩ := g.of
  unfold viewD at e
  split at e
  · rename_i t q
    obtain ⟨v, f, a, b, _⟩ := r.sls.get q
    exact ⟨v, a, k H S (Xt.refl r.sh) v (own_view b e)⟩
  · cases e
theorem e_cc {e : Expr} {d : D} {v : V} (h : PE X e (tC v)) (hr : ∀ S, Rep X.K cm S v d) : PE X e (E X.K cm W (cc d)) := h.imp fun σ H Q ⟨st, S, fp, r, g⟩ => g.here r.sh v (hr S)
theorem e_int {i j pos} : PE X (.Constant (.int i) j pos) (E X.K cm W (cc (.int i))) := e_cc pe_int fun _ => .int i
theorem e_bl {b j pos} : PE X (.Constant (.bool b) j pos) (E X.K cm W (cc (.bl b))) := e_cc pe_bl fun _ => .bl b
/-- data may be read -/
theorem pv_ {e : Expr} {f : LS → R D} (h : PE X e (E X.K cm W f)) : PE X e (VE X.K cm W f) := h.imp fun σ H Q ⟨st, S, fp, r, g⟩ => ⟨st, S, fp, r, g.mono fun _ _ _ _ k v hv => k v (.inl hv)⟩
/-! ### operators by values -/
/-- the operation, read off data, hands back data -/
def Op2 (K : PySem.W.Frag) (cm : CM) (r : R2) (op : D → D → Option D) : Prop :=
  ∀ (S H : Hp) (x y : V) (d e z : D) (Q : VK), Same S H → View K cm S H x d → View K cm S H y e → op d e = some z → (∀ H' S', Xt S S' H H' → ∀ v, Rep K cm S' v z → Q v H') → r x y H Q
def Op1 (K : PySem.W.Frag) (cm : CM) (r : V → Hp → VK → Prop) (op : D → Option D) : Prop :=
  ∀ (S H : Hp) (x : V) (d z : D) (Q : VK), Same S H → View K cm S H x d → op d = some z → (∀ H' S', Xt S S' H H' → ∀ v, Rep K cm S' v z → Q v H') → r x H Q
def OpN (K : PySem.W.Frag) (cm : CM) (r : List V → Hp → VK → Prop) (op : List D → Option D) : Prop :=
  ∀ (S H : Hp) (xs : List V) (ds : List D) (z : D) (Q : VK), Same S H → Paired (View K cm S H) xs ds → op ds = some z → (∀ H' S', Xt S S' H H' → ∀ v, Rep K cm S' v z → Q v H') → r xs H Q
def OpNF (K : PySem.W.Frag) (cm : CM) (r : List V → Hp → VK → Prop) (op : List D → Option (List D)) : Prop :=
  ∀ (S H : Hp) (xs : List V) (ds : List D) (zs : List D) (Q : VK), Same S H → Paired (View K cm S H) xs ds → op ds = some zs → (∀ p vs, H p = none → RepL K cm S vs zs → Q (.ref p) (upd H p (.lst vs))) → r xs H Q
def un (op : D → Option D) (f : LS → R D) : LS → R D := fun st => (f st).bind fun x => .of (op x)
def bin (op : D → D → Option D) (f g : LS → R D) : LS → R D := fun st => (f st).bind fun x => (g st).bind fun y => .of (op x y)
def dL (o : Option (List D)) : Option D := o.map .lst
def imT (ds : List D) : T := .lst (ds.map .im)
section
variable {f g h : LS → R D} {a b c e : Expr} {pos : Pos}
theorem VE.op {r : R2} {op : D → D → Option D} (ho : Op2 X.K cm r op) {σ : Sg} {H : Hp} {Q : VK} (k : E X.K cm W (bin op f g) σ H Q) : tOp r (VE X.K cm W f) (VE X.K cm W g) σ H Q := by
  obtain ⟨st, S, fp, rx, k⟩ := k
  refine ⟨st, S, fp, rx, k.bind.mono fun d S1 H1 x1 k1 v hv => ?_⟩
  refine ⟨st, S1, fp, rx.ext x1, k1.bind.mono fun z S2 H2 x2 k2 u hu => ?_⟩
  obtain ⟨w, hw, k3⟩ := k2.of
  exact ho S2 H2 v u d z w Q x2.sh (hv.ext x2) hu hw k3
theorem VE.un {r : V → Hp → VK → Prop} {op : D → Option D} (ho : Op1 X.K cm r op) {σ : Sg} {H : Hp} {Q : VK} (k : E X.K cm W (un op f) σ H Q) : tUn r (VE X.K cm W f) σ H Q := by
  obtain ⟨st, S, fp, rx, k⟩ := k
  refine ⟨st, S, fp, rx, k.bind.mono fun d S1 H1 x1 k1 v hv => ?_⟩
  obtain ⟨w, hw, k3⟩ := k1.of
  exact ho S1 H1 v d w Q x1.sh hv hw k3
theorem e_op {o : Operator} {r : R2} {op : D → D → Option D} (hr : OpR X (binaryOp o) r) (ho : Op2 X.K cm r op) (ha : PE X a (VE X.K cm W f)) (hb : PE X b (VE X.K cm W g)) : PE X (.BinOp a o b pos) (E X.K cm W (bin op f g)) :=
  (pe_op hr ha hb).imp fun σ H Q k => VE.op ho k
theorem e_un {o : UnaryOp} {r : V → Hp → VK → Prop} {op : D → Option D} (hr : UnR X (unaryOp o) r) (ho : Op1 X.K cm r op) (ha : PE X a (VE X.K cm W f)) : PE X (.UnaryOp o a pos) (E X.K cm W (un op f)) :=
  (pe_un hr ha).imp fun σ H Q k => VE.un ho k
theorem e_cmp {o : CmpOp} {r : R2} {op : D → D → Option D} (hr : OpR X (compareOp o) r) (ho : Op2 X.K cm r op) (ha : PE X a (VE X.K cm W f)) (hb : PE X b (VE X.K cm W g)) (hm : behindInMarks o b = false) : PE X (.Compare a [o] [b] pos) (E X.K cm W (bin op f g)) :=
  (pe_cmpR hr ha hb hm).imp fun σ H Q k => VE.op ho k
/-! ### tests -/
def dB : D → Option Bool
  | .bl b => some b
  | _ => none
/-- a datum that is a truth value -/
def tb (f : LS → R D) : LS → R Bool := fun st => (f st).bind fun x => .of (dB x)
theorem TB.of {σ : Sg} {H : Hp} {Q : Bool → Hp → Prop} (k : TB X.K cm W (tb f) σ H Q) : E X.K cm W f σ H (fun x H' => ∃ b, x = .bl b ∧ Q b H') := by
  obtain ⟨st, S, fp, rx, k⟩ := k
  refine ⟨st, S, fp, rx, k.bind.mono fun d S1 H1 x1 k1 v hv => ?_⟩
  obtain ⟨w, hw, k3⟩ := k1.of
  cases d <;> cases hw
  cases hv
  exact ⟨_, rfl, k3 H1 S1 (Xt.refl x1.sh)⟩
theorem t_val (he : PE X e (E X.K cm W f)) (hs : ∀ whole, isTrue e X.env whole = (do let v ← whole; standAt e.pos; holding [v] (truthy v)) := by intro _; rfl) : PT X e (TB X.K cm W (tb f)) :=
  (pt_val he hs).imp fun σ H Q k => TB.of k
theorem t_cmp {o : CmpOp} {r : R2} {op : D → D → Option D} (hr : OpR X (compareOp o) r) (ho : Op2 X.K cm r op) (ha : PE X a (VE X.K cm W f)) (hb : PE X b (VE X.K cm W g)) (hm : behindInMarks o b = false) : PT X (.Compare a [o] [b] pos) (TB X.K cm W (tb (bin op f g))) :=
  (pt_cmpR hr ha hb hm).imp fun σ H Q k => VE.op ho (TB.of k)
/-- a < b < c -/
def chain (op op' : D → D → Option D) (f g h : LS → R D) : LS → R D := fun st => (f st).bind fun x => (g st).bind fun y => (R.of (op x y)).bind fun z => (R.of (dB z)).bind fun b => if b = true then (h st).bind fun u => .of (op' y u) else .ok (.bl false)
theorem VE.chain {r r' : R2} {op op' : D → D → Option D} (ho : Op2 X.K cm r op) (ho' : Op2 X.K cm r' op') {σ : Sg} {H : Hp} {Q : VK} (k : E X.K cm W (chain op op' f g h) σ H Q) : tChain r r' (VE X.K cm W f) (VE X.K cm W g) (VE X.K cm W h) σ H Q := by
  obtain ⟨st, S, fp, rx, k⟩ := k
  refine ⟨st, S, fp, rx, k.bind.mono fun d S1 H1 x1 k1 v hv => ?_⟩
  refine ⟨st, S1, fp, rx.ext x1, k1.bind.mono fun z S2 H2 x2 k2 u hu => ?_⟩
  obtain ⟨w, hw, k3⟩ := k2.bind.of
  refine ho S2 H2 v u d z w _ x2.sh (hv.ext x2) hu hw fun H3 S3 x3 v3 r3 => ?_
  obtain ⟨b, hb, k4⟩ := (k3 H3 S3 x3).bind.of
  cases w <;> cases hb
  cases r3
  refine ⟨_, rfl, ?_⟩
  have k5 := k4 H3 S3 (Xt.refl x3.sh)
  cases b with
  | false => exact k5.here x3.sh _ (.bl false)
  | true =>
    refine ⟨st, S3, fp, ((rx.ext x1).ext x2).ext x3, k5.bind.mono fun y S4 H4 x4 k6 t ht => ?_⟩
    obtain ⟨q, hq, k7⟩ := k6.of
    exact ho' S4 H4 u t z y q Q x4.sh ((hu.ext x3).ext x4) ht hq k7
theorem t_chain {o o' : CmpOp} {r r' : R2} {op op' : D → D → Option D} (hr : OpR X (compareOp o) r) (ho : Op2 X.K cm r op) (hr' : OpR X (compareOp o') r') (ho' : Op2 X.K cm r' op') (ha : PE X a (VE X.K cm W f)) (hb : PE X b (VE X.K cm W g)) (hc : PE X c (VE X.K cm W h))
    (hm : lastMarks [o, o'] [b, c] = false := by with_unfolding_all rfl) : PT X (.Compare a [o, o'] [b, c] pos) (TB X.K cm W (tb (chain op op' f g h))) := (pt_chain hr hr' ha hb hc hm).imp fun σ H Q k => VE.chain ho ho' (TB.of k)
/-! ### and, or, not -/
def andB (f g : LS → R Bool) : LS → R Bool := fun st => (f st).bind fun b => if b = true then g st else .ok false
def orB (f g : LS → R Bool) : LS → R Bool := fun st => (f st).bind fun b => if b = true then .ok true else g st
def notB (f : LS → R Bool) : LS → R Bool := fun st => (f st).bind fun b => .ok (!b)
variable {p q : LS → R Bool} {rest : List Expr}
theorem w_and1 (ha : PT X a (TB X.K cm W p)) : PW X (.BoolOp .And [a] pos) (TB X.K cm W p) := pw_and1 ha
theorem w_or1 (ha : PT X a (TB X.K cm W p)) : PW X (.BoolOp .Or [a] pos) (TB X.K cm W p) := pw_or1 ha
theorem w_and (ha : PT X a (TB X.K cm W p)) (hb : PW X (.BoolOp .And (b :: rest) pos) (TB X.K cm W q)) : PW X (.BoolOp .And (a :: b :: rest) pos) (TB X.K cm W (andB p q)) := (pw_and ha hb).imp fun σ H Q ⟨st, S, fp, rx, k⟩ =>
  ⟨st, S, fp, rx, k.bind.mono fun b S1 H1 x1 k1 => by
    cases b with
    | true => exact ⟨st, S1, fp, rx.ext x1, k1⟩
    | false => exact k1.here x1.sh⟩
theorem w_or (ha : PT X a (TB X.K cm W p)) (hb : PW X (.BoolOp .Or (b :: rest) pos) (TB X.K cm W q)) : PW X (.BoolOp .Or (a :: b :: rest) pos) (TB X.K cm W (orB p q)) := (pw_or ha hb).imp fun σ H Q ⟨st, S, fp, rx, k⟩ =>
  ⟨st, S, fp, rx, k.bind.mono fun b S1 H1 x1 k1 => by
    cases b with
    | true => exact k1.here x1.sh
    | false => exact ⟨st, S1, fp, rx.ext x1, k1⟩⟩
theorem t_w (h : PW X e (TB X.K cm W p)) : PT X e (TB X.K cm W p) := h.pt
theorem t_not (ha : PT X a (TB X.K cm W p)) : PT X (.UnaryOp .Not a pos) (TB X.K cm W (notB p)) := (pt_not ha).imp fun σ H Q ⟨st, S, fp, rx, k⟩ =>
  ⟨st, S, fp, rx, k.bind.mono fun b S1 H1 x1 k1 => k1.here x1.sh⟩
/-- as values: all but the last are truth values -/
def andE (f g : LS → R D) : LS → R D := fun st => (f st).bind fun x => (R.of (dB x)).bind fun b => if b = true then g st else .ok (.bl false)
def orE (f g : LS → R D) : LS → R D := fun st => (f st).bind fun x => (R.of (dB x)).bind fun b => if b = true then .ok (.bl true) else g st
def dNot : D → Option D
  | .bl b => some (.bl (!b))
  | _ => none
def notE (f : LS → R D) : LS → R D := fun st => (f st).bind fun x => .of (dNot x)
theorem e_one {op} (ha : PE X a (E X.K cm W f)) : PE X (.BoolOp op [a] pos) (E X.K cm W f) := pe_one ha
theorem e_and (ha : PE X a (E X.K cm W f)) (hb : PE X (.BoolOp .And (b :: rest) pos) (E X.K cm W g)) : PE X (.BoolOp .And (a :: b :: rest) pos) (E X.K cm W (andE f g)) := (pe_and ha hb).imp fun σ H Q ⟨st, S, fp, rx, k⟩ =>
  ⟨st, S, fp, rx, k.bind.mono fun d S1 H1 x1 k1 v hv => by
    obtain ⟨w, hw, k2⟩ := k1.bind.of
    cases d <;> cases hw
    cases hv
    refine ⟨_, rfl, ?_⟩
    have k3 := k2 H1 S1 (Xt.refl x1.sh)
    cases w with
    | true => exact ⟨st, S1, fp, rx.ext x1, k3⟩
    | false => exact k3.here x1.sh _ (.bl false)⟩
theorem e_or (ha : PE X a (E X.K cm W f)) (hb : PE X (.BoolOp .Or (b :: rest) pos) (E X.K cm W g)) : PE X (.BoolOp .Or (a :: b :: rest) pos) (E X.K cm W (orE f g)) := (pe_or ha hb).imp fun σ H Q ⟨st, S, fp, rx, k⟩ =>
  ⟨st, S, fp, rx, k.bind.mono fun d S1 H1 x1 k1 v hv => by
    obtain ⟨w, hw, k2⟩ := k1.bind.of
    cases d <;> cases hw
    cases hv
    refine ⟨_, rfl, ?_⟩
    have k3 := k2 H1 S1 (Xt.refl x1.sh)
    cases w with
    | true => exact k3.here x1.sh _ (.bl true)
    | false => exact ⟨st, S1, fp, rx.ext x1, k3⟩⟩
theorem e_not (ha : PE X a (E X.K cm W f)) : PE X (.UnaryOp .Not a pos) (E X.K cm W (notE f)) := (pe_not ha).imp fun σ H Q ⟨st, S, fp, rx, k⟩ =>
  ⟨st, S, fp, rx, k.bind.mono fun d S1 H1 x1 k1 v hv => by
    obtain ⟨w, hw, k2⟩ := k1.of
    cases d <;> cases hw
    cases hv
    exact ⟨_, rfl, k2 H1 S1 (Xt.refl x1.sh) _ (.bl _)⟩⟩
/-- a if t else b -/
def ifE (p : LS → R Bool) (f g : LS → R D) : LS → R D := fun st => (p st).bind fun b => if b = true then f st else g st
/-! ### argument lists, displays -/
theorem nodup1 (p : Addr) : [p].Nodup := by simp
def nilA : LS → R (List D) := fun _ => .ok []
def consA (f : LS → R D) (r : LS → R (List D)) : LS → R (List D) := fun st => (f st).bind fun x => (r st).bind fun xs => .ok (x :: xs)
variable {es : List Expr} {r : LS → R (List D)}
theorem a_nil : PA X [] (EA X.K cm W nilA) := pa_nil.imp fun σ H Q ⟨st, S, fp, rx, k⟩ => k.here rx.sh [] .nil
theorem a_cons (ha : PE X e (E X.K cm W f)) (hr : PA X es (EA X.K cm W r)) (hs : starEach (e :: es) X.env = (false, eval e X.env) :: starEach es X.env := by rfl) : PA X (e :: es) (EA X.K cm W (consA f r)) := (pa_cons ha hr hs).imp fun σ H Q ⟨st, S, fp, rx, k⟩ =>
  ⟨st, S, fp, rx, k.bind.mono fun d S1 H1 x1 k1 v hv => ⟨st, S1, fp, rx.ext x1, k1.bind.mono fun ds S2 H2 x2 k2 vs hvs => k2.here x2.sh (v :: vs) (.cons (hv.mono x2.ss) hvs)⟩⟩
theorem va_nil : PA X [] (VA X.K cm W nilA) := pa_nil.imp fun σ H Q ⟨st, S, fp, rx, k⟩ => k.here rx.sh [] .nil
theorem va_cons (ha : PE X e (VE X.K cm W f)) (hr : PA X es (VA X.K cm W r)) (hs : starEach (e :: es) X.env = (false, eval e X.env) :: starEach es X.env := by rfl) : PA X (e :: es) (VA X.K cm W (consA f r)) := (pa_cons ha hr hs).imp fun σ H Q ⟨st, S, fp, rx, k⟩ =>
  ⟨st, S, fp, rx, k.bind.mono fun d S1 H1 x1 k1 v hv => ⟨st, S1, fp, rx.ext x1, k1.bind.mono fun ds S2 H2 x2 k2 vs hvs => k2.here x2.sh (v :: vs) (.cons (hv.ext x2) hvs)⟩⟩
/-- the length is within the line -/
def lineL (ds : List D) : Option (List D) := if ds.length ≤ sizeLine then some ds else none
def tupE (r : LS → R (List D)) : LS → R D := fun st => (r st).bind fun ds => .of ((lineL ds).map .tup)
def lstE (r : LS → R (List D)) : LS → R D := fun st => (r st).bind fun ds => .of ((lineL ds).map .lst)
def lstF (r : LS → R (List D)) : LS → R T := fun st => (r st).bind fun ds => .of ((lineL ds).map imT)
theorem lineL_some {ds : List D} {α : Type} {φ : List D → α} {z : α} (h : (lineL ds).map φ = some z) : ds.length ≤ sizeLine ∧ z = φ ds := by
  unfold lineL at h
  split at h
  · cases h; exact ⟨by assumption, rfl⟩
  · cases h
theorem e_tup {x1} (h : PA X es (EA X.K cm W r)) : PE X (.Tuple es x1 pos) (E X.K cm W (tupE r)) := (pe_tup h).imp fun σ H Q ⟨st, S, fp, rx, k⟩ =>
  ⟨st, S, fp, rx, k.bind.mono fun ds S1 H1 x1 k1 vs hvs => by
    obtain ⟨w, hw, k2⟩ := k1.of
    obtain ⟨hl, rfl⟩ := lineL_some hw
    refine ⟨by rw [hvs.length]; exact hl, fun p hp => ?_⟩
    exact k2 _ _ (Xt.new x1.sh hp) _ (.tup (.inl (.inl upd_same)) (hvs.mono (same_upd (x1.sh.free hp))))⟩
theorem e_lst (h : PA X es (EA X.K cm W r)) : PE X (.List es pos) (E X.K cm W (lstE r)) := (pe_lst h).imp fun σ H Q ⟨st, S, fp, rx, k⟩ =>
  ⟨st, S, fp, rx, k.bind.mono fun ds S1 H1 x1 k1 vs hvs => by
    obtain ⟨w, hw, k2⟩ := k1.of
    obtain ⟨hl, rfl⟩ := lineL_some hw
    refine ⟨by rw [hvs.length]; exact hl, fun p hp => ?_⟩
    exact k2 _ _ (Xt.new x1.sh hp) _ (.lst upd_same (hvs.mono (same_upd (x1.sh.free hp))))⟩
theorem own_imT {K : PySem.W.Frag} {S H : Hp} : ∀ {vs : List V} {ds : List D}, RepL K cm S vs ds → OwnL K cm S H (ds.map .im) vs []
  | _, _, .nil => .nil
  | _, _, .cons h hs => .cons (f1 := []) (.im h) (own_imT hs)
theorem own_fresh {K : PySem.W.Frag} {S H : Hp} {p : Addr} {vs : List V} {ds : List D} (h : RepL K cm S vs ds) : Own K cm S (upd H p (.lst vs)) (imT ds) (.ref p) [p] := .lst upd_same (own_imT h)
theorem f_lst (h : PA X es (EA X.K cm W r)) : PE X (.List es pos) (EF X.K cm W (lstF r)) := (pe_lst h).imp fun σ H Q ⟨st, S, fp, rx, k⟩ =>
  ⟨st, S, fp, rx, k.bind.mono fun ds S1 H1 x1 k1 vs hvs => by
    obtain ⟨w, hw, k2⟩ := k1.of
    obtain ⟨hl, rfl⟩ := lineL_some hw
    refine ⟨by rw [hvs.length]; exact hl, fun p hp => ?_⟩
    refine k2 _ _ (Xt.own x1.sh hp) _ [p] (own_fresh hvs) (nodup1 p) fun a m => ?_
    have e : a = p := by simpa using m
    subst e
    exact ⟨x1.hh.free hp, x1.sh.free hp⟩⟩
end
end
end DI
end
section
set_option Elab.async false
set_option linter.all false
set_option maxRecDepth 100000
set_option maxHeartbeats 2000000
/-! DI: operators on data. -/
namespace DI
open PySem PySem.Spec PyProof.Rows L2
section
variable {K : PySem.W.Frag} {cm : CM} {S H : Hp}
theorem View.int {v : V} {i : Int} (h : View K cm S H v (.int i)) : v = .int i := by
  rcases h with h | ⟨_, _, _, _, e, _⟩
  · cases h; rfl
  · cases e
theorem View.bl {v : V} {b : Bool} (h : View K cm S H v (.bl b)) : v = .bl b := by
  rcases h with h | ⟨_, _, _, _, e, _⟩
  · cases h; rfl
  · cases e
theorem View.str {v : V} {x : Str} (h : View K cm S H v (.str x)) : v = .str x := by
  rcases h with h | ⟨_, _, _, _, e, _⟩
  · cases h; rfl
  · cases e
theorem View.non {v : V} (h : View K cm S H v .non) : v = .non := by
  rcases h with h | ⟨_, _, _, _, e, _⟩
  · cases h; rfl
  · cases e
theorem View.tup {v : V} {ds : List D} (h : View K cm S H v (.tup ds)) : ∃ a xs, v = .ref a ∧ SqT K S a xs ∧ RepL K cm S xs ds := by
  rcases h with h | ⟨_, _, _, _, e, _⟩
  · cases h; exact ⟨_, _, rfl, by assumption, by assumption⟩
  · cases e
theorem View.lst {v : V} {ds : List D} (sh : Same S H) (h : View K cm S H v (.lst ds)) : ∃ a xs, v = .ref a ∧ H a = some (.lst xs) ∧ RepL K cm S xs ds := by
  rcases h with h | ⟨a, vs, es, e1, e2, e3, h⟩
  · cases h; rename_i a xs q hr; exact ⟨a, xs, rfl, sh _ _ q, hr⟩
  · cases e2; exact ⟨a, vs, e1, e3, h⟩
theorem View.scr {v : V} {ds : List D} (h : View K cm S H v (.scr ds)) : ∃ a xs, v = .ref a ∧ SqL K S a xs ∧ RepL K cm S xs ds := by
  rcases h with h | ⟨_, _, _, _, e, _⟩
  · cases h; exact ⟨_, _, rfl, by assumption, by assumption⟩
  · cases e
theorem View.ins {v : V} {c : Nat} {ds : List D} (h : View K cm S H v (.ins c ds)) : ∃ a dx vs, v = .ref a ∧ S a = some (.ins (cm.addr c) dx ((cm.names c).zip vs)) ∧ RepL K cm S vs ds := by
  rcases h with h | ⟨_, _, _, _, e, _⟩
  · cases h; exact ⟨_, _, _, rfl, by assumption, by assumption⟩
  · cases e
/-- a fresh tuple of data -/
theorem fin_tup {vs : List V} {ds : List D} {Q : VK} (sh : Same S H) (r : RepL K cm S vs ds) (k : ∀ H' S', Xt S S' H H' → ∀ v, Rep K cm S' v (.tup ds) → Q v H') : ∀ p, H p = none → Q (.ref p) (upd H p (.tup vs)) :=
  fun p hp => k _ _ (Xt.new sh hp) _ (.tup (.inl (.inl upd_same)) (r.mono (same_upd (sh.free hp))))
theorem fin_lst {vs : List V} {ds : List D} {Q : VK} (sh : Same S H) (r : RepL K cm S vs ds) (k : ∀ H' S', Xt S S' H H' → ∀ v, Rep K cm S' v (.lst ds) → Q v H') : ∀ p, H p = none → Q (.ref p) (upd H p (.lst vs)) :=
  fun p hp => k _ _ (Xt.new sh hp) _ (.lst upd_same (r.mono (same_upd (sh.free hp))))
end
/-! ### arithmetic -/
def lineC (xs ys : List D) : Option (List D) := if xs.length + ys.length ≤ sizeLine then some (xs ++ ys) else none
theorem lineC_some {xs ys : List D} {α : Type} {φ : List D → α} {z : α} (h : (lineC xs ys).map φ = some z) : xs.length + ys.length ≤ sizeLine ∧ z = φ (xs ++ ys) := by
  unfold lineC at h
  split at h
  · cases h; exact ⟨by assumption, rfl⟩
  · cases h
def dAdd : D → D → Option D
  | .int i, .int j => some (.int (i + j))
  | .str x, .str y => if x.length + y.length ≤ sizeLine then some (.str (x ++ y)) else none
  | .lst xs, .lst ys => (lineC xs ys).map .lst
  | .tup xs, .tup ys => (lineC xs ys).map .tup
  | _, _ => none
def rAddS : R2 := fun x y H Q => ∃ i j, x = .str i ∧ y = .str j ∧ i.length + j.length ≤ sizeLine ∧ Q (.str (i ++ j)) H
def rAddU (K : PySem.W.Frag) : R2 := fun x y H Q => rI0 (fun i j => .int (i + j)) x y H Q ∨ (rAddS x y H Q ∨ (rCat x y H Q ∨ rCatA K x y H Q))
section
variable {X : Cx} {cm : CM}
theorem or_add : OpR X (binaryOp .Add) (rAddU X.K) := op_add.or (op_add_str.or (op_cat.or op_catA))
theorem d_add : Op2 X.K cm (rAddU X.K) dAdd := by
  intro S H x y d e z Q sh hx hy ho k
  cases d <;> cases e <;> try (cases ho; done)
  case int.int i j =>
    cases ho
    rw [hx.int, hy.int]
    exact .inl ⟨i, j, rfl, rfl, k H S (Xt.refl sh) _ (.int _)⟩
  case str.str i j =>
    have ho : (if i.length + j.length ≤ sizeLine then some (D.str (i ++ j)) else none) = some z := ho
    split at ho
    · cases ho
      rw [hx.str, hy.str]
      exact .inr (.inl ⟨i, j, rfl, rfl, by assumption, k H S (Xt.refl sh) _ (.str _)⟩)
    · cases ho
  case tup.tup xs ys =>
    obtain ⟨hl, rfl⟩ := lineC_some ho
    obtain ⟨a, vs, rfl, ha, ra⟩ := hx.tup
    obtain ⟨b, ws, rfl, hb, rb⟩ := hy.tup
    refine .inr (.inr (.inr ⟨a, b, vs, ws, rfl, rfl, same_sqT sh ha, same_sqT sh hb, by rw [ra.length, rb.length]; exact hl, fun e => ?_, fun _ e => ?_, fun _ _ => fin_tup sh (ra.append rb) k⟩))
    · subst e
      cases ra
      exact k H S (Xt.refl sh) _ (.tup hb rb)
    · subst e
      cases rb
      rw [List.append_nil] at k
      exact k H S (Xt.refl sh) _ (.tup ha ra)
  case lst.lst xs ys =>
    obtain ⟨hl, rfl⟩ := lineC_some ho
    obtain ⟨a, vs, rfl, ha, ra⟩ := hx.lst sh
    obtain ⟨b, ws, rfl, hb, rb⟩ := hy.lst sh
    exact .inr (.inr (.inl ⟨a, b, vs, ws, rfl, rfl, ha, hb, by rw [ra.length, rb.length]; exact hl, fin_lst sh (ra.append rb) k⟩))
/-- two ints -/
def dII (g : Int → Int → Option D) : D → D → Option D
  | .int i, .int j => g i j
  | _, _ => none
theorem d_II {g : Int → Int → Option D} {r : R2} (h : ∀ (i j : Int) (z : D) (H : Hp) (Q : VK), g i j = some z → (∃ (v : V), (∀ S, Rep X.K cm S v z) ∧ (Q v H → r (.int i) (.int j) H Q))) : Op2 X.K cm r (dII g) := by
  intro S H x y d e z Q sh hx hy ho k
  cases d <;> cases e <;> try (cases ho; done)
  case int.int i j =>
    rw [hx.int, hy.int]
    obtain ⟨v, hv, q⟩ := h i j z H Q ho
    exact q (k H S (Xt.refl sh) v (hv S))
def gI (C : Int → Int → Bool) (f : Int → Int → Int) (i j : Int) : Option D := if C i j = true then some (.int (f i j)) else none
theorem d_gI {C : Int → Int → Prop} {c : Int → Int → Bool} {f : Int → Int → Int} (hc : ∀ i j, c i j = true → C i j) : Op2 X.K cm (rI C fun i j => .int (f i j)) (dII (gI c f)) := d_II fun i j z H Q h => by
  unfold gI at h
  split at h
  · cases h
    rename_i q
    exact ⟨_, fun S => .int _, fun w => ⟨i, j, rfl, rfl, hc i j q, w⟩⟩
  · cases h
def posC (_ j : Int) : Bool := decide (0 < j)
def divC (_ j : Int) : Bool := decide (0 < j) && decide (j.natAbs.log2 < 9000)
def mulC (i j : Int) : Bool := decide (i.natAbs.log2 + j.natAbs.log2 < 1000000)
def powC (i j : Int) : Bool := decide (0 ≤ j) && decide (j ≤ 1000000) && decide (i.natAbs < 2 ^ 64)
def dSub : D → D → Option D := dII fun i j => some (.int (i - j))
def dMod : D → D → Option D := dII (gI posC fun i j => i % j)
def dDiv : D → D → Option D := dII (gI divC fun i j => i / j)
def dPow : D → D → Option D := dII (gI powC fun i j => i ^ j.toNat)
theorem d_sub : Op2 X.K cm (rI0 fun i j => .int (i - j)) dSub := d_II fun i j z H Q h => by
  cases h
  exact ⟨_, fun S => .int _, fun w => ⟨i, j, rfl, rfl, w⟩⟩
theorem d_mod : Op2 X.K cm (rI (fun _ j => 0 < j) fun i j => .int (i % j)) dMod := d_gI fun i j h => of_decide_eq_true h
theorem d_div : Op2 X.K cm (rI CDivW fun i j => .int (i / j)) dDiv := d_gI fun i j h => by
  unfold divC at h
  simp only [Bool.and_eq_true, decide_eq_true_eq] at h
  exact h
theorem d_pow : Op2 X.K cm (rI CPow fun i j => .int (i ^ j.toNat)) dPow := d_gI fun i j h => by
  unfold powC at h
  simp only [Bool.and_eq_true, decide_eq_true_eq] at h
  exact ⟨h.1.1, h.1.2, h.2⟩
/-- product; a list times an int -/
def repD (xs : List D) (k : Int) : Option (List D) := if -(2 ^ 63) ≤ k ∧ k < 2 ^ 63 ∧ xs.length * k.toNat ≤ sizeLine then some (List.replicate k.toNat xs).flatten else none
def dMul : D → D → Option D
  | .int i, .int j => gI mulC (fun i j => i * j) i j
  | .lst xs, .int k => (repD xs k).map .lst
  | _, _ => none
def rMulU : R2 := fun x y H Q => rI CMulW (fun i j => .int (i * j)) x y H Q ∨ rRep x y H Q
theorem or_mul : OpR X (binaryOp .Mult) rMulU := op_mulW.or op_rep
theorem RepL.flat {K : PySem.W.Frag} {S : Hp} {vs : List V} {ds : List D} (h : RepL K cm S vs ds) : ∀ n : Nat, RepL K cm S (List.replicate n vs).flatten (List.replicate n ds).flatten
  | 0 => .nil
  | n + 1 => by
    rw [List.replicate_succ, List.replicate_succ, List.flatten_cons, List.flatten_cons]
    exact h.append (RepL.flat h n)
theorem repD_some {xs : List D} {k : Int} {α : Type} {φ : List D → α} {z : α} (h : (repD xs k).map φ = some z) : (-(2 ^ 63) ≤ k ∧ k < 2 ^ 63 ∧ xs.length * k.toNat ≤ sizeLine) ∧ z = φ (List.replicate k.toNat xs).flatten := by
  unfold repD at h
  split at h
  · cases h; exact ⟨by assumption, rfl⟩
  · cases h
theorem d_mul : Op2 X.K cm rMulU dMul := by
  intro S H x y d e z Q sh hx hy ho k
  cases d <;> cases e <;> try (cases ho; done)
  case int.int i j =>
    rw [hx.int, hy.int]
    have ho : (if mulC i j = true then some (D.int (i * j)) else none) = some z := ho
    split at ho
    · cases ho
      rename_i q
      exact .inl ⟨i, j, rfl, rfl, (show i.natAbs.log2 + j.natAbs.log2 < 1000000 from by unfold mulC at q; exact of_decide_eq_true q), k H S (Xt.refl sh) _ (.int _)⟩
    · cases ho
  case lst.int xs j =>
    obtain ⟨⟨h1, h2, h3⟩, rfl⟩ := repD_some ho
    obtain ⟨a, vs, rfl, ha, ra⟩ := hx.lst sh
    rw [hy.int]
    exact .inr ⟨a, j, vs, rfl, rfl, ha, h1, h2, by rw [ra.length]; exact h3, fin_lst sh (ra.flat _) k⟩
def dNeg : D → Option D
  | .int i => some (.int (-i))
  | _ => none
theorem d_neg : Op1 X.K cm (rU fun i => .int (-i)) dNeg := by
  intro S H x d z Q sh hx ho k
  cases d <;> try (cases ho; done)
  case int i =>
    cases ho
    rw [hx.int]
    exact ⟨i, rfl, k H S (Xt.refl sh) _ (.int _)⟩
/-! ### comparisons -/
def dLt : D → D → Option D := dII fun i j => some (.bl (decide (i < j)))
def dLe : D → D → Option D := dII fun i j => some (.bl (decide (i ≤ j)))
def dGt : D → D → Option D := dII fun i j => some (.bl (decide (j < i)))
def dGe : D → D → Option D := dII fun i j => some (.bl (decide (j ≤ i)))
theorem d_cI {g : Int → Int → Bool} : Op2 X.K cm (rI0 fun i j => .bl (g i j)) (dII fun i j => some (.bl (g i j))) := d_II fun i j z H Q h => by
  cases h
  exact ⟨_, fun S => .bl _, fun w => ⟨i, j, rfl, rfl, w⟩⟩
theorem d_lt : Op2 X.K cm (rI0 fun i j => .bl (decide (i < j))) dLt := d_cI
theorem d_le : Op2 X.K cm (rI0 fun i j => .bl (decide (i ≤ j))) dLe := d_cI
theorem d_gt : Op2 X.K cm (rI0 fun i j => .bl (decide (j < i))) dGt := d_cI
theorem d_ge : Op2 X.K cm (rI0 fun i j => .bl (decide (j ≤ i))) dGe := d_cI
def dIsN : D → D → Option D
  | d, .non => some (.bl (match d with | .non => true | _ => false))
  | _, _ => none
end
/-! ### equality of data -/
mutual
def D.py : D → Option PyData
  | .non => some .none
  | .bl b => some (.bool b)
  | .int i => some (.int i)
  | .str x => some (.str x)
  | .tup xs => (D.pys xs).map .tuple
  | .lst xs => (D.pys xs).map .list
  | _ => none
def D.pys : List D → Option (List PyData)
  | [] => some []
  | d :: ds => match D.py d, D.pys ds with
    | some p, some ps => some (p :: ps)
    | _, _ => none
end
section
variable {K : PySem.W.Frag} {cm : CM} {S H : Hp}
mutual
theorem Rep.dp (sh : Same S H) : ∀ {v : V} {d : D} {p : PyData}, Rep K cm S v d → d.py = some p → Dp K H v p
  | _, _, _, .non, e => by cases e; exact .non
  | _, _, _, .bl b, e => by cases e; exact .bl b
  | _, _, _, .int b, e => by cases e; exact .int b
  | _, _, _, .str b, e => by cases e; exact .str b
  | _, _, p, .tup (ds := ds) h hs, e => by
    have e : (D.pys ds).map PyData.tuple = some p := by unfold D.py at e; exact e
    cases q : D.pys ds with
    | none => rw [q] at e; cases e
    | some ps => rw [q] at e; cases e; exact .tup (same_sqT sh h) (RepL.dp sh hs q)
  | _, _, p, .lst (ds := ds) h hs, e => by
    have e : (D.pys ds).map PyData.list = some p := by unfold D.py at e; exact e
    cases q : D.pys ds with
    | none => rw [q] at e; cases e
    | some ps => rw [q] at e; cases e; exact .lst (SqL.of (sh _ _ h)) (RepL.dp sh hs q)
  | _, _, _, .ins _ _ _, e => by unfold D.py at e; cases e
  | _, _, _, .scr _ _, e => by unfold D.py at e; cases e
  | _, _, _, .tset _ _ _, e => by unfold D.py at e; cases e
  | _, _, _, .dct _ _ _ _, e => by unfold D.py at e; cases e
  | _, _, _, .rng _, e => by unfold D.py at e; cases e
  | _, _, _, .nd _ _ _ _ _, e => by unfold D.py at e; cases e
theorem RepL.dp (sh : Same S H) : ∀ {vs : List V} {ds : List D} {ps : List PyData}, RepL K cm S vs ds → D.pys ds = some ps → DpAll K H vs ps
  | _, _, _, .nil, e => by unfold D.pys at e; cases e; exact .nil
  | _, _, _, .cons (d := d) (ds := ds) h hs, e => by
    unfold D.pys at e
    cases q1 : D.py d with
    | none => rw [q1] at e; cases e
    | some p =>
      cases q2 : D.pys ds with
      | none => rw [q1, q2] at e; cases e
      | some ps =>
        rw [q1, q2] at e
        cases e
        exact .cons (Rep.dp sh h q1) (RepL.dp sh hs q2)
end
theorem View.dp (sh : Same S H) {v : V} {d : D} {p : PyData} (h : View K cm S H v d) (e : d.py = some p) : Dp K H v p := by
  rcases h with h | ⟨a, vs, ds, e1, e2, e3, h⟩
  · exact h.dp sh e
  · subst e1; subst e2
    have e : (D.pys ds).map PyData.list = some p := by unfold D.py at e; exact e
    cases q : D.pys ds with
    | none => rw [q] at e; cases e
    | some ps => rw [q] at e; cases e; exact .lst (SqL.of e3) (h.dp sh q)
end
def D.sh (d : D) : Option PyData := (d.py).bind fun p => if SeqAt.shaped p = true then some p else none
theorem D.sh_some {d : D} {p : PyData} (h : d.sh = some p) : d.py = some p ∧ SeqAt.shaped p = true := by
  unfold D.sh at h
  cases q : d.py with
  | none => rw [q] at h; cases h
  | some u =>
    rw [q] at h
    have h : (if SeqAt.shaped u = true then some u else none) = some p := h
    split at h
    · cases h; exact ⟨rfl, by assumption⟩
    · cases h
def dEqB (d e : D) : Option Bool := match d.sh, e.sh with
  | some p, some q => some (PyData.eqv p q)
  | _, _ => none
def dEq (d e : D) : Option D := (dEqB d e).map .bl
def dNe (d e : D) : Option D := (dEqB d e).map fun b => .bl (!b)
theorem dEqB_some {d e : D} {b : Bool} (h : dEqB d e = some b) : ∃ p q, d.py = some p ∧ e.py = some q ∧ SeqAt.shaped p = true ∧ SeqAt.shaped q = true ∧ b = PyData.eqv p q := by
  unfold dEqB at h
  cases q1 : d.sh with
  | none => rw [q1] at h; cases h
  | some p =>
    cases q2 : e.sh with
    | none => rw [q1, q2] at h; cases h
    | some q =>
      rw [q1, q2] at h
      cases h
      obtain ⟨a1, a2⟩ := D.sh_some q1
      obtain ⟨b1, b2⟩ := D.sh_some q2
      exact ⟨p, q, a1, b1, a2, b2, rfl⟩
/-- x in xs: a list or a tuple of flat things, or a list of data -/
def D.flat : D → Bool
  | .non => true
  | .bl _ => true
  | .int _ => true
  | .str _ => true
  | _ => false
section
variable {X : Cx} {cm : CM}
theorem d_eq : Op2 X.K cm (rEqD X.K) dEq := by
  intro S H x y d e z Q sh hx hy ho k
  unfold dEq at ho
  cases q : dEqB d e with
  | none => rw [q] at ho; cases ho
  | some b =>
    rw [q] at ho
    cases ho
    obtain ⟨p, u, h1, h2, h3, h4, rfl⟩ := dEqB_some q
    exact ⟨p, u, hx.dp sh h1, hy.dp sh h2, h3, h4, k H S (Xt.refl sh) _ (.bl _)⟩
theorem d_ne : Op2 X.K cm (rNeD X.K) dNe := by
  intro S H x y d e z Q sh hx hy ho k
  unfold dNe at ho
  cases q : dEqB d e with
  | none => rw [q] at ho; cases ho
  | some b =>
    rw [q] at ho
    cases ho
    obtain ⟨p, u, h1, h2, h3, h4, rfl⟩ := dEqB_some q
    exact ⟨p, u, hx.dp sh h1, hy.dp sh h2, h3, h4, k H S (Xt.refl sh) _ (.bl _)⟩
end
end DI
end
section
set_option Elab.async false
set_option linter.all false
set_option maxRecDepth 100000
set_option maxHeartbeats 2000000
/-! DI: subscripts, slices, attributes, built-ins. -/
namespace DI
open PySem PySem.Spec PyProof.Rows L2
/-! ### x in xs -/
section
variable {X : Cx} {cm : CM}
def rInT (K : PySem.W.Frag) : R2 := fun x y H Q => ∃ d ds, Dp K H x d ∧ Dp K H y (.tuple ds) ∧ SeqAt.shaped d = true ∧ SeqAt.shaped (.tuple ds) = true ∧ Q (.bl (ds.any fun z => PyData.eqv z d)) H
def rNotInT (K : PySem.W.Frag) : R2 := fun x y H Q => ∃ d ds, Dp K H x d ∧ Dp K H y (.tuple ds) ∧ SeqAt.shaped d = true ∧ SeqAt.shaped (.tuple ds) = true ∧ Q (.bl (!ds.any fun z => PyData.eqv z d)) H
theorem op_inT (hu : X.A.units + 65 < cLine) : OpR X (compareOp .In) (rInT X.K) := by
  intro pins s σ H x y v u Q I rx ry h
  obtain ⟨d, ds, hd, he, sd, se, q⟩ := h
  obtain ⟨as, r1⟩ := Dp.reads I d x v hd rx
  obtain ⟨bs, r2⟩ := Dp.reads I (.tuple ds) y u he ry
  exact SeqAt.in_tuple_reads r2 r1 (SeqAt.canLay_of_shaped se) (SeqAt.canLay_of_shaped sd) (room_in_shaped sd hu) ⟨.bl _, H, I, rfl, q⟩
theorem op_notInT (hu : X.A.units + 65 < cLine) : OpR X (compareOp .NotIn) (rNotInT X.K) := by
  intro pins s σ H x y v u Q I rx ry h
  obtain ⟨d, ds, hd, he, sd, se, q⟩ := h
  obtain ⟨as, r1⟩ := Dp.reads I d x v hd rx
  obtain ⟨bs, r2⟩ := Dp.reads I (.tuple ds) y u he ry
  exact SeqAt.notIn_tuple_reads r2 r1 (SeqAt.canLay_of_shaped se) (SeqAt.canLay_of_shaped sd) (room_in_shaped sd hu) ⟨.bl _, H, I, rfl, q⟩
def rInU (K : PySem.W.Frag) : R2 := fun x y H Q => rInD K x y H Q ∨ rInT K x y H Q
def rNotInU (K : PySem.W.Frag) : R2 := fun x y H Q => rNotInD K x y H Q ∨ rNotInT K x y H Q
theorem or_in {k : Nat} (hr : Room k X.A) : OpR X (compareOp .In) (rInU X.K) := (op_inD (by have := hr.un; omega)).or (op_inT (by have := hr.un; omega))
theorem or_notIn {k : Nat} (hr : Room k X.A) : OpR X (compareOp .NotIn) (rNotInU X.K) := (op_notInD (by have := hr.un; omega)).or (op_notInT (by have := hr.un; omega))
theorem or_eq {k : Nat} (hr : Room k X.A) : OpR X (compareOp .Eq) (rEqD X.K) := op_eqD (by have := hr.un; omega)
theorem or_ne {k : Nat} (hr : Room k X.A) : OpR X (compareOp .NotEq) (rNeD X.K) := op_neD (by have := hr.un; omega)
def dInB (d e : D) : Option Bool := match d.sh, e.sh with
  | some p, some (.list qs) => some (qs.any fun z => PyData.eqv z p)
  | some p, some (.tuple qs) => some (qs.any fun z => PyData.eqv z p)
  | _, _ => none
def dIn (d e : D) : Option D := (dInB d e).map .bl
def dNotIn (d e : D) : Option D := (dInB d e).map fun b => .bl (!b)
theorem dInB_some {d e : D} {b : Bool} (h : dInB d e = some b) : ∃ p q qs, d.py = some p ∧ e.py = some q ∧ SeqAt.shaped p = true ∧ SeqAt.shaped q = true ∧ (q = .list qs ∨ q = .tuple qs) ∧ b = qs.any fun z => PyData.eqv z p := by
  unfold dInB at h
  cases q1 : d.sh with
  | none => rw [q1] at h; cases h
  | some p =>
    cases q2 : e.sh with
    | none => rw [q1, q2] at h; cases h
    | some q =>
      rw [q1, q2] at h
      obtain ⟨a1, a2⟩ := D.sh_some q1
      obtain ⟨b1, b2⟩ := D.sh_some q2
      cases q <;> try (cases h; done)
      case list qs => cases h; exact ⟨p, _, qs, a1, b1, a2, b2, .inl rfl, rfl⟩
      case tuple qs => cases h; exact ⟨p, _, qs, a1, b1, a2, b2, .inr rfl, rfl⟩
theorem d_in : Op2 X.K cm (rInU X.K) dIn := by
  intro S H x y d e z Q sh hx hy ho k
  unfold dIn at ho
  cases q : dInB d e with
  | none => rw [q] at ho; cases ho
  | some b =>
    rw [q] at ho
    cases ho
    obtain ⟨p, u, qs, h1, h2, h3, h4, rfl | rfl, rfl⟩ := dInB_some q
    · exact .inl ⟨p, qs, hx.dp sh h1, hy.dp sh h2, h3, h4, k H S (Xt.refl sh) _ (.bl _)⟩
    · exact .inr ⟨p, qs, hx.dp sh h1, hy.dp sh h2, h3, h4, k H S (Xt.refl sh) _ (.bl _)⟩
theorem d_notIn : Op2 X.K cm (rNotInU X.K) dNotIn := by
  intro S H x y d e z Q sh hx hy ho k
  unfold dNotIn at ho
  cases q : dInB d e with
  | none => rw [q] at ho; cases ho
  | some b =>
    rw [q] at ho
    cases ho
    obtain ⟨p, u, qs, h1, h2, h3, h4, rfl | rfl, rfl⟩ := dInB_some q
    · exact .inl ⟨p, qs, hx.dp sh h1, hy.dp sh h2, h3, h4, k H S (Xt.refl sh) _ (.bl _)⟩
    · exact .inr ⟨p, qs, hx.dp sh h1, hy.dp sh h2, h3, h4, k H S (Xt.refl sh) _ (.bl _)⟩
/-! ### subscripts -/
theorem RepL.atI {K : PySem.W.Frag} {S : Hp} {vs : List V} {ds : List D} {i : Int} {d : D} (h : RepL K cm S vs ds) (e : atI ds i = some d) : ∃ v, L2.atI vs i = some v ∧ Rep K cm S v d := by
  unfold L2.atI at e ⊢
  rw [h.length]
  cases q : ixN ds.length i with
  | none => rw [q] at e; cases e
  | some j =>
    rw [q] at e
    have e : ds[j]? = some d := e
    obtain ⟨v, a, b⟩ := h.get e
    exact ⟨v, a, b⟩
def dIdx : D → D → Option D
  | .lst ds, .int i => atI ds i
  | .tup ds, .int i => atI ds i
  | .scr ds, .int i => atI ds i
  | .str z, .int i => if z.length ≤ sizeLine then (atI z.cps.toList i).map fun c => .str ⟨#[c]⟩ else none
  | _, _ => none
theorem d_idx : Op2 X.K cm (rIx X.K) dIdx := by
  intro S H x y d e z Q sh hx hy ho k
  cases d <;> cases e <;> try (cases ho; done)
  case lst.int ds i =>
    obtain ⟨a, vs, rfl, ha, ra⟩ := hx.lst sh
    rw [hy.int]
    obtain ⟨v, e1, r1⟩ := ra.atI ho
    exact .inl ⟨a, vs, i, v, rfl, rfl, SqL.of ha, e1, k H S (Xt.refl sh) v r1⟩
  case tup.int ds i =>
    obtain ⟨a, vs, rfl, ha, ra⟩ := hx.tup
    rw [hy.int]
    obtain ⟨v, e1, r1⟩ := ra.atI ho
    exact .inr (.inl ⟨a, vs, i, v, rfl, rfl, same_sqT sh ha, e1, k H S (Xt.refl sh) v r1⟩)
  case scr.int ds i =>
    obtain ⟨a, vs, rfl, ha, ra⟩ := hx.scr
    rw [hy.int]
    obtain ⟨v, e1, r1⟩ := ra.atI ho
    exact .inl ⟨a, vs, i, v, rfl, rfl, same_sqL sh ha, e1, k H S (Xt.refl sh) v r1⟩
  case str.int w i =>
    rw [hx.str, hy.int]
    have ho : (if w.length ≤ sizeLine then (L2.atI w.cps.toList i).map fun c => D.str ⟨#[c]⟩ else none) = some z := ho
    split at ho
    · cases q : L2.atI w.cps.toList i with
      | none => rw [q] at ho; cases ho
      | some c =>
        rw [q] at ho
        cases ho
        exact .inr (.inr ⟨w, i, c, rfl, rfl, by assumption, q, k H S (Xt.refl sh) _ (.str _)⟩)
    · cases ho
variable {W : WH} {f g : LS → R D} {a b e : Expr} {pos : Pos}
theorem e_ix (ha : PE X a (VE X.K cm W f)) (hb : PE X b (VE X.K cm W g)) (hs : PlainIx b := by exact fun _ _ => rfl) : PE X (.Subscript a b pos) (E X.K cm W (bin dIdx f g)) := (pe_ix ix_seq ha hb hs).imp fun σ H Q k => VE.op d_idx k
/-! ### slices -/
def cutL {α : Type} (xs : List α) (lo hi : Option Int) : List α := (xs.drop (HT.sIx xs.length 0 lo)).take (HT.sIx xs.length xs.length hi - HT.sIx xs.length 0 lo)
theorem RepL.cut {K : PySem.W.Frag} {S : Hp} {vs : List V} {ds : List D} (h : RepL K cm S vs ds) (lo hi : Option Int) : RepL K cm S (cutV vs lo hi) (cutL ds lo hi) := by
  unfold cutV cutL
  rw [h.length]
  exact (h.drop _).take _
def dSl (d : D) (lo hi : Option Int) : Option D := match d with
  | .lst ds => some (.lst (cutL ds lo hi))
  | .tup ds => some (.tup (cutL ds lo hi))
  | .str z => if z.length ≤ sizeLine then some (.str (cutS z lo hi)) else none
  | _ => none
def rSlU (K : PySem.W.Frag) : V → Option Int → Option Int → Hp → VK → Prop := fun x lo hi H Q => rSlL K x lo hi H Q ∨ (rSlA K x lo hi H Q ∨ rSlS x lo hi H Q)
theorem sl_any : SlR X (rSlU X.K) := sl_list.or (sl_tupA.or sl_str)
theorem cutV_whole {xs : List V} {lo hi : Option Int} (h : HT.sIx xs.length 0 lo = 0 ∧ HT.sIx xs.length xs.length hi = xs.length) : cutV xs lo hi = xs := by
  unfold cutV
  rw [h.1, h.2]
  simp
/-- a part of a slice: left out, or an int -/
def partN : LS → R (Option Int) := fun _ => .ok none
def dInt : D → Option Int
  | .int i => some i
  | _ => none
def partI (f : LS → R D) : LS → R (Option Int) := fun st => (f st).bind fun d => (R.of (dInt d)).bind fun i => .ok (some i)
def OP (K : PySem.W.Frag) (cm : CM) (W : WH) (f : LS → R (Option Int)) : TO := fun σ H Q => ∃ st S fp, Rx K cm W st S fp σ H ∧ Go K cm W (fun o S' H' => Q o H') (f st) S H σ
theorem o_none : PO X none (OP X.K cm W partN) := ⟨fun pins s σ H Q I ⟨st, S, fp, rx, k⟩ => po_none.run pins s σ H Q I (k.here rx.sh)⟩
theorem o_some (h : PE X e (VE X.K cm W f)) : PO X (some e) (OP X.K cm W (partI f)) := ⟨fun pins s σ H Q I ⟨st, S, fp, rx, k⟩ => (po_some h).run pins s σ H Q I
  ⟨st, S, fp, rx, k.bind.mono fun d S1 H1 x1 k1 v hv => by
    obtain ⟨i, hi, k2⟩ := k1.bind.of
    cases d <;> cases hi
    rw [hv.int]
    exact ⟨_, rfl, (k2 H1 S1 (Xt.refl x1.sh)).here x1.sh⟩⟩⟩
def slE (f : LS → R D) (lo hi : LS → R (Option Int)) : LS → R D := fun st => (f st).bind fun d => (lo st).bind fun l => (hi st).bind fun h => .of (dSl d l h)
/-- .. a fresh list -/
def slF (f : LS → R D) (lo hi : LS → R (Option Int)) : LS → R T := fun st => (f st).bind fun d => (lo st).bind fun l => (hi st).bind fun h => match d with
  | .lst ds => .ok (imT (cutL ds l h))
  | _ => .bad
variable {lo hi : LS → R (Option Int)} {el eh : Option Expr} {p2 : Pos}
theorem e_sl (ha : PE X a (VE X.K cm W f)) (hl : PO X el (OP X.K cm W lo)) (hh : PO X eh (OP X.K cm W hi)) : PE X (.Subscript a (.Slice el eh none p2) pos) (E X.K cm W (slE f lo hi)) := (pe_slice sl_any ha hl hh).imp fun σ H Q ⟨st, S, fp, rx, k⟩ =>
  ⟨st, S, fp, rx, k.bind.mono fun d S1 H1 x1 k1 v hv => ⟨st, S1, fp, rx.ext x1, k1.bind.mono fun l S2 H2 x2 k2 => ⟨st, S2, fp, (rx.ext x1).ext x2, k2.bind.mono fun u S3 H3 x3 k3 => by
    obtain ⟨z, hz, k4⟩ := k3.of
    replace hv := (hv.ext x2).ext x3
    cases d <;> try (cases hz; done)
    case lst ds =>
      cases hz
      obtain ⟨a, vs, rfl, ha, ra⟩ := hv.lst x3.sh
      exact .inl ⟨a, vs, rfl, SqL.of ha, fin_lst x3.sh (ra.cut l u) k4⟩
    case tup ds =>
      cases hz
      obtain ⟨a, vs, rfl, ha, ra⟩ := hv.tup
      refine .inr (.inl ⟨a, vs, rfl, same_sqT x3.sh ha, fun w => ?_, fun _ => fin_tup x3.sh (ra.cut l u) k4⟩)
      have rc := ra.cut l u
      rw [cutV_whole w] at rc
      exact k4 H3 S3 (Xt.refl x3.sh) _ (.tup ha rc)
    case str w =>
      rw [hv.str]
      have hz : (if w.length ≤ sizeLine then some (D.str (cutS w l u)) else none) = some z := hz
      split at hz
      · cases hz
        exact .inr (.inr ⟨w, rfl, by assumption, k4 H3 S3 (Xt.refl x3.sh) _ (.str _)⟩)
      · cases hz⟩⟩⟩
/-! ### attributes -/
/-- the classes in whose instances the attribute stands, each with its place -/
def dFld (tbl : List (Nat × Nat)) : D → Option D
  | .ins c ds => (tbl.lookup c).bind fun i => ds[i]?
  | _ => none
structure FldOk (K : PySem.W.Frag) (cm : CM) (f : Str) (c i : Nat) : Prop where
  cl : Cls K (cm.addr c)
  na : NoAttr K (cm.addr c) f
  at_ : (cm.names c)[i]? = some f
  nd : (cm.names c).Nodup
theorem lookup_mem {tbl : List (Nat × Nat)} {c i : Nat} (h : tbl.lookup c = some i) : (c, i) ∈ tbl := by
  induction tbl with
  | nil => cases h
  | cons p r ih =>
    obtain ⟨c', i'⟩ := p
    unfold List.lookup at h
    cases q : c == c' with
    | true =>
      rw [q] at h
      have e : c = c' := by simpa using q
      cases h
      rw [e]
      exact List.mem_cons_self
    | false =>
      rw [q] at h
      exact List.mem_cons_of_mem _ (ih h)
theorem e_fld {tbl : List (Nat × Nat)} {f : Str} {g : LS → R D} (ok : ∀ p ∈ tbl, p.1 ∈ cm.cls → FldOk X.K cm f p.1 p.2) (ha : PE X a (E X.K cm W g)) (hb : attributeBase a f X.env (eval a X.env) = eval a X.env := by rfl) : PE X (.Attribute a f pos) (E X.K cm W (un (dFld tbl) g)) :=
  (pe_fld ha hb).imp fun σ H Q ⟨st, S, fp, rx, k⟩ => ⟨st, S, fp, rx, k.bind.mono fun d S1 H1 x1 k1 v hv => by
    obtain ⟨z, hz, k2⟩ := k1.of
    cases d <;> try (cases hz; done)
    case ins c ds =>
      cases hv with
      | @ins a dx _ vs _ m0 h1 h2 =>
        have hz : (tbl.lookup c).bind (fun i => ds[i]?) = some z := hz
        cases q : tbl.lookup c with
        | none => rw [q] at hz; cases hz
        | some i =>
          rw [q] at hz
          have hz : ds[i]? = some z := hz
          obtain ⟨v, e1, r1⟩ := h2.get hz
          have o := ok _ (lookup_mem q) m0
          exact ⟨a, cm.addr c, dx, _, v, rfl, x1.sh _ _ h1, o.cl, o.na, by rw [zip_lookup o.nd o.at_]; exact e1, k2 H1 S1 (Xt.refl x1.sh) v r1⟩⟩
/-! ### built-ins called -/
def callE (op : List D → Option D) (r : LS → R (List D)) : LS → R D := fun st => (r st).bind fun ds => .of (op ds)
def callF (op : List D → Option (List D)) (r : LS → R (List D)) : LS → R T := fun st => (r st).bind fun ds => .of ((op ds).map imT)
section
variable {r : List V → Hp → VK → Prop} {args : LS → R (List D)} {x : Str} {id ty : String} {p : Pos} {es : List Expr}
theorem VA.op {op : List D → Option D} (ho : OpN X.K cm r op) {σ : Sg} {H : Hp} {Q : VK} (k : E X.K cm W (callE op args) σ H Q) : tCB r (VA X.K cm W args) σ H Q := by
  obtain ⟨st, S, fp, rx, k⟩ := k
  refine ⟨st, S, fp, rx, k.bind.mono fun ds S1 H1 x1 k1 vs hvs => ?_⟩
  obtain ⟨w, hw, k3⟩ := k1.of
  exact ho S1 H1 vs ds w Q x1.sh hvs hw k3
theorem VA.opF {op : List D → Option (List D)} (ho : OpNF X.K cm r op) {σ : Sg} {H : Hp} {Q : VK} (k : EF X.K cm W (callF op args) σ H Q) : tCB r (VA X.K cm W args) σ H Q := by
  obtain ⟨st, S, fp, rx, k⟩ := k
  refine ⟨st, S, fp, rx, k.bind.mono fun ds S1 H1 x1 k1 vs hvs => ?_⟩
  obtain ⟨w, hw, k3⟩ := k1.of
  cases q : op ds with
  | none => rw [q] at hw; cases hw
  | some zs =>
    rw [q] at hw
    cases hw
    refine ho S1 H1 vs ds zs Q x1.sh hvs q fun p us hp ru => ?_
    refine k3 _ _ (Xt.own x1.sh hp) _ [p] (own_fresh ru) (nodup1 p) fun b m => ?_
    have e : b = p := by simpa using m
    subst e
    exact ⟨x1.hh.free hp, x1.sh.free hp⟩
theorem opN_of {op : List D → Option (List D)} (ho : OpNF X.K cm r op) : OpN X.K cm r (fun ds => dL (op ds)) := by
  intro S H xs ds z Q sh hx h k
  cases q : op ds with
  | none =>
    replace h : (op ds).map D.lst = some z := h
    rw [q] at h; cases h
  | some zs =>
    replace h : (op ds).map D.lst = some z := h
    rw [q] at h
    cases h
    exact ho S H xs ds zs Q sh hx q fun p us hp ru => fin_lst sh ru k p hp
theorem e_callB {op : List D → Option D} (hc : CallR X (.builtin id) r) (ho : OpN X.K cm r op) (hm : X.mg x = none) (hv : bootBuiltins x = some (.builtin id)) (ha : PA X (e :: es) (VA X.K cm W args)) (hg : Gl X x := by rfl) (hn : x ≠ "__name__" := by decide) (hdb : (x == ("__debug__" : Str)) = false := by decide)
    (hst : starEach (e :: es) X.env = (false, eval e X.env) :: starEach es X.env := by rfl) (hpl : (backTo pos (starEach es X.env)).any (·.1) = false := by rfl) : PE X (.Call (.Name x p) (e :: es) [] pos) (E X.K cm W (callE op args)) :=
  (pe_callB hc hg hm hv ha hn hdb hst hpl).imp fun σ H Q k => VA.op ho k
theorem e_callT {op : List D → Option D} (hc : CallR X (.type ty) r) (ho : OpN X.K cm r op) (hm : X.mg x = none) (hv : bootBuiltins x = some (.type ty)) (ha : PA X (e :: es) (VA X.K cm W args)) (hg : Gl X x := by rfl) (hn : x ≠ "__name__" := by decide) (hdb : (x == ("__debug__" : Str)) = false := by decide)
    (hst : starEach (e :: es) X.env = (false, eval e X.env) :: starEach es X.env := by rfl) (hpl : (backTo pos (starEach es X.env)).any (·.1) = false := by rfl) : PE X (.Call (.Name x p) (e :: es) [] pos) (E X.K cm W (callE op args)) :=
  (pe_callTy hc hg hm hv ha hn hdb hst hpl).imp fun σ H Q k => VA.op ho k
theorem f_callT {op : List D → Option (List D)} (hc : CallR X (.type ty) r) (ho : OpNF X.K cm r op) (hm : X.mg x = none) (hv : bootBuiltins x = some (.type ty)) (ha : PA X (e :: es) (VA X.K cm W args)) (hg : Gl X x := by rfl) (hn : x ≠ "__name__" := by decide) (hdb : (x == ("__debug__" : Str)) = false := by decide)
    (hst : starEach (e :: es) X.env = (false, eval e X.env) :: starEach es X.env := by rfl) (hpl : (backTo pos (starEach es X.env)).any (·.1) = false := by rfl) : PE X (.Call (.Name x p) (e :: es) [] pos) (EF X.K cm W (callF op args)) :=
  (pe_callTy hc hg hm hv ha hn hdb hst hpl).imp fun σ H Q k => VA.opF ho k
end
end
end DI
end
section
set_option Elab.async false
set_option linter.all false
set_option maxRecDepth 100000
set_option maxHeartbeats 2000000
/-! DI: statements. -/
namespace DI
open PySem PySem.Spec PyProof.Rows L2
/-- how a block ends -/
inductive Out where
  | bad
  | nx (st : LS)
  | rt (d : D)
  | bk (st : LS)
  | ct (st : LS)
  | ex (st : LS) (e : Ex)
def Out.seq (o : Out) (g : LS → Out) : Out := match o with
  | .nx st => g st
  | o => o
def R.out {α : Type} (r : R α) (st : LS) (k : α → Out) : Out := match r with
  | .bad => .bad
  | .ok a => k a
  | .ex e => .ex st e
/-- what a def's body must keep: H0 as the def found it, S0 what stood for good then -/
structure Fr where
  S0 : Hp
  F : Hp
  /-- slots that keep their value -/
  fix : Nat → Option V
abbrev noFix : Nat → Option V := fun _ => none
abbrev fix0 (x : Addr) : Nat → Option V := fun i => if i = 0 then some (.ref x) else none
structure RR (K : PySem.W.Frag) (cm : CM) (W : WH) (c : Fr) (st : LS) (S : Hp) (fp : List Addr) (σ : Sg) (H : Hp) : Prop where
  rx : Rx K cm W st S fp σ H
  xt : Xt c.S0 S c.F H
  fr : ∀ a ∈ fp, c.F a = none
  fx : ∀ i v, c.fix i = some v → σ[i]? = some (some v)
section
variable {K : PySem.W.Frag} {cm : CM} {W : WH} {c : Fr} {st : LS} {S S' H H' : Hp} {fp : List Addr} {σ : Sg}
theorem RR.ext (r : RR K cm W c st S fp σ H) (x : Xt S S' H H') : RR K cm W c st S' fp σ H' := ⟨r.rx.ext x, r.xt.trans x, r.fr, r.fx⟩
theorem fx_set {o : Option V} {i : Nat} (r : ∀ i v, c.fix i = some v → σ[i]? = some (some v)) (hi : c.fix i = none) : ∀ j v, c.fix j = some v → (σ.set i o)[j]? = some (some v) := fun j v e => by
  have ne : i ≠ j := fun z => by
    rw [z, e] at hi
    cases hi
  rw [List.getElem?_set_ne ne]
  exact r j v e
theorem RR.set_im [Free W] {v : V} {d : D} {i : Nat} (r : RR K cm W c st S fp σ H) (h : Rep K cm S v d) (hi : c.fix i = none) : ∃ fp', RR K cm W c (st.set i (some (.im d))) S fp' (σ.set i (some v)) H := by
  obtain ⟨fp', a, b⟩ := r.rx.set_im h i
  exact ⟨fp', a, r.xt, fun x m => r.fr x (b x m), fx_set r.fx hi⟩
end
/-- a state that goes on from S -/
def On (K : PySem.W.Frag) (cm : CM) (W : WH) (c : Fr) (S : Hp) (st : LS) (σ : Sg) (H : Hp) : Prop := ∃ S' fp, Same S S' ∧ RR K cm W c st S' fp σ H
def Post (K : PySem.W.Frag) (cm : CM) (W : WH) (c : Fr) (D : Ends) (S : Hp) : Out → Prop
  | .bad => False
  | .nx st => ∀ σ H, On K cm W c S st σ H → D.nx σ H
  | .bk st => ∀ σ H, On K cm W c S st σ H → D.bk σ H
  | .ct st => ∀ σ H, On K cm W c S st σ H → D.ct σ H
  | .rt d => ∀ v H S', Same S S' → Xt c.S0 S' c.F H → Rep K cm S' v d → D.rt v H
  | .ex st e => ∀ cls od σ H S' fp, Same S S' → RR K cm W c st S' fp σ H → RepX K cm S' cls od e → W.w cls od σ H
def SX (K : PySem.W.Frag) (cm : CM) (W : WH) (c : Fr) (f : LS → Out) : TS := fun D σ H => ∃ st S fp, RR K cm W c st S fp σ H ∧ Post K cm W c D S (f st)
section
variable {K : PySem.W.Frag} {cm : CM} {W : WH} {c : Fr} {D : Ends} {S S' H H' : Hp} {σ : Sg}
theorem On.mono {st : LS} (h : Same S S') (o : On K cm W c S' st σ H) : On K cm W c S st σ H := let ⟨S2, fp, a, b⟩ := o; ⟨S2, fp, h.trans a, b⟩
theorem Post.mono {o : Out} (h : Same S S') (p : Post K cm W c D S o) : Post K cm W c D S' o := by
  cases o with
  | bad => exact p
  | nx st => exact fun σ H q => p σ H (q.mono h)
  | bk st => exact fun σ H q => p σ H (q.mono h)
  | ct st => exact fun σ H q => p σ H (q.mono h)
  | rt d => exact fun v H S2 a => p v H S2 (h.trans a)
  | ex st e => exact fun cls od σ H S2 fp a => p cls od σ H S2 fp (h.trans a)
theorem RR.on {st : LS} {fp : List Addr} (r : RR K cm W c st S fp σ H) : On K cm W c S st σ H := ⟨S, fp, Same.refl S, r⟩
/-- from an expression to what follows it -/
theorem Post.go {α : Type} {r : R α} {st : LS} {fp : List Addr} {k : α → Out} {P : α → Hp → Hp → Prop} (rr : RR K cm W c st S fp σ H) (p : Post K cm W c D S (r.out st k))
    (h : ∀ a S' H', Xt S S' H H' → Post K cm W c D S' (k a) → P a S' H') : Go K cm W P r S H σ := by
  cases r with
  | bad => exact p
  | ok a => exact fun H' S' x => h a S' H' x (Post.mono x.ss p)
  | ex e => exact fun cls od H' S' x q => p cls od σ H' S' fp x.ss (rr.ext x) q
end
section
variable {X : Cx} {cm : CM} {W : WH} {c : Fr} {pos : Pos} {s : Stmt} {rest : List Stmt} {F G : LS → Out} {f : LS → R D} {e : Expr}
def nilS : LS → Out := fun st => .nx st
def seqS (F G : LS → Out) : LS → Out := fun st => (F st).seq G
theorem s_nil : PSs X [] (SX X.K cm W c nilS) := pss_nil.imp fun D σ H ⟨st, S, fp, r, p⟩ => p σ H r.on
theorem s_cons (h1 : PS X s (SX X.K cm W c F)) (h2 : PSs X rest (SX X.K cm W c G)) : PSs X (s :: rest) (SX X.K cm W c (seqS F G)) := (pss_cons h1 h2).imp fun D σ H ⟨st, S, fp, r, p⟩ => by
  refine ⟨st, S, fp, r, ?_⟩
  replace p : Post X.K cm W c D S ((F st).seq G) := p
  cases q : F st with
  | bad => rw [q] at p; exact p
  | nx st' =>
    rw [q] at p
    exact fun σ' H' ⟨S', fp', a, b⟩ => ⟨st', S', fp', b, Post.mono a p⟩
  | rt d => rw [q] at p; exact p
  | bk st' => rw [q] at p; exact p
  | ct st' => rw [q] at p; exact p
  | ex st' e => rw [q] at p; exact p
theorem s_one (h1 : PS X s (SX X.K cm W c F)) : PSs X [s] (SX X.K cm W c F) := (pss_one h1)
def retS (f : LS → R D) : LS → Out := fun st => (f st).out st .rt
theorem s_ret (h : PE X e (E X.K cm W f)) : PS X (.Return (some e) pos) (SX X.K cm W c (retS f)) := (ps_ret h).imp fun D σ H ⟨st, S, fp, r, p⟩ =>
  ⟨st, S, fp, r.rx, Post.go r p fun d S' H' x q v hv => q v H' S' (Same.refl S') (r.xt.trans x) hv⟩
def dropS (f : LS → R D) : LS → Out := fun st => (f st).out st fun _ => .nx st
theorem s_expr (h : PE X e (E X.K cm W f)) (hs : swapsWith e none pos.line X.env = pure false := by rfl) : PS X (.Expr e pos) (SX X.K cm W c (dropS f)) := (ps_expr h hs).imp fun D σ H ⟨st, S, fp, r, p⟩ =>
  ⟨st, S, fp, r.rx, Post.go r p fun d S' H' x q v hv => q σ H' (r.ext x).on⟩
def ifS (b : LS → R Bool) (F G : LS → Out) : LS → Out := fun st => (b st).out st fun b => if b = true then F st else G st
theorem s_if {b : LS → R Bool} {t : Expr} {s1 s2 : List Stmt} (hc : PT X t (TB X.K cm W b)) (h1 : PSs X s1 (SX X.K cm W c F)) (h2 : PSs X s2 (SX X.K cm W c G)) : PS X (.If t s1 s2 pos) (SX X.K cm W c (ifS b F G)) := (ps_if hc h1 h2).imp fun D σ H ⟨st, S, fp, r, p⟩ =>
  ⟨st, S, fp, r.rx, Post.go r p fun b S' H' x q => by
    cases b with
    | true => exact ⟨st, S', fp, r.ext x, q⟩
    | false => exact ⟨st, S', fp, r.ext x, q⟩⟩
/-- a statement that is never reached in what is asked -/
def neverS : LS → Out := fun _ => .bad
theorem ss_never {ss : List Stmt} : PSs X ss (SX X.K cm W c neverS) := pss_never.imp fun D σ H ⟨st, S, fp, r, p⟩ => p.elim
/-! ### targets -/
/-- only the slots vs may differ -/
def Keeps (vs : List Nat) (σ σ' : Sg) : Prop := σ'.length = σ.length ∧ ∀ i, i ∉ vs → σ'[i]? = σ[i]?
theorem Keeps.refl (vs : List Nat) (σ : Sg) : Keeps vs σ σ := ⟨rfl, fun _ _ => rfl⟩
theorem Keeps.set (i : Nat) (o : Option V) (σ : Sg) : Keeps [i] σ (σ.set i o) := ⟨by simp, fun j h => by
  rw [List.getElem?_set_ne]
  intro e
  exact h (by simp [e])⟩
theorem Keeps.trans {vs ws : List Nat} {a b d : Sg} (h : Keeps vs a b) (k : Keeps ws b d) : Keeps (vs ++ ws) a d := ⟨k.1.trans h.1, fun i n => (k.2 i fun m => n (List.mem_append_right _ m)).trans (h.2 i fun m => n (List.mem_append_left _ m))⟩
/-- what is stored: a datum -/
def GX (K : PySem.W.Frag) (cm : CM) (vs : List Nat) (g : D → LS → Option LS) : TG := fun v σ H Q => ∃ st S fp d, Rx K cm WF st S fp σ H ∧ Rep K cm S v d ∧ ∃ st', g d st = some st' ∧ ∀ σ' fp', Rx K cm WF st' S fp' σ' H → (∀ a ∈ fp', a ∈ fp) → Keeps vs σ σ' → Q σ' H
def GXs (K : PySem.W.Frag) (cm : CM) (vs : List Nat) (g : List D → LS → Option LS) : TGs := fun xs σ H Q => ∃ st S fp ds, Rx K cm WF st S fp σ H ∧ RepL K cm S xs ds ∧ ∃ st', g ds st = some st' ∧ ∀ σ' fp', Rx K cm WF st' S fp' σ' H → (∀ a ∈ fp', a ∈ fp) → Keeps vs σ σ' → Q σ' H
def gN (i : Nat) : D → LS → Option LS := fun d st => some (st.set i (some (.im d)))
def gsNil : List D → LS → Option LS := fun ds st => match ds with
  | [] => some st
  | _ => none
def gsCons (g : D → LS → Option LS) (h : List D → LS → Option LS) : List D → LS → Option LS := fun ds st => match ds with
  | d :: ds => (g d st).bind fun st' => h ds st'
  | [] => none
def gT (n : Nat) (g : List D → LS → Option LS) : D → LS → Option LS := fun d st => match d with
  | .tup ds => if ds.length = n then g ds st else none
  | _ => none
theorem g_name {i : Nat} {x : Str} (hN : X.N.Nodup) (hi : X.N[i]? = some x) (hx : Loc X.env.scope x) (hf : X.fn x = true ∨ X.env.scope.names.lookup x = some .local := by first | exact .inl rfl | exact .inr rfl | assumption) : PG X (.Name x pos) (GX X.K cm [i] (gN i)) :=
  (pg_name hN hi hx hf).imp fun v σ H Q ⟨st, S, fp, d, r, hv, st', e, k⟩ => by
    cases e
    obtain ⟨fp', r', b⟩ := r.set_im hv i
    exact k _ fp' r' b (Keeps.set i _ σ)
theorem gs_nil : PGs X [] (GXs X.K cm [] gsNil) := ⟨fun pins s σ H vs us Q I r ⟨st, S, fp, ds, rr, hv, st', e, k⟩ => by
  cases hv with
  | nil =>
    cases e
    exact pgs_nil.run pins s σ H [] us Q I r ⟨rfl, k σ fp rr (fun a m => m) (Keeps.refl _ σ)⟩
  | cons _ _ => cases e⟩
theorem gs_cons {e : Expr} {es : List Expr} {vs ws : List Nat} {g : D → LS → Option LS} {h : List D → LS → Option LS} (h1 : PG X e (GX X.K cm vs g)) (h2 : PGs X es (GXs X.K cm ws h))
    (hs : (assignEach (e :: es) X.env).map (·.2) = assign e X.env :: (assignEach es X.env).map (·.2) := by rfl) : PGs X (e :: es) (GXs X.K cm (vs ++ ws) (gsCons g h)) :=
  ⟨fun pins s σ H xs us Q I r ⟨st, S, fp, ds, rr, hv, st', e, k⟩ => by
    cases hv with
    | nil => cases e
    | @cons v xs d ds hd hs' =>
      replace e : ((g d st).bind fun st' => h ds st') = some st' := e
      cases q : g d st with
      | none => rw [q] at e; cases e
      | some st1 =>
        rw [q] at e
        refine (pgs_cons h1 h2 hs).run pins s σ H (v :: xs) us Q I r ⟨v, xs, rfl, st, S, fp, d, rr, hd, st1, q, fun σ1 fp1 r1 b1 k1 => ?_⟩
        exact ⟨st1, S, fp1, ds, r1, hs', st', e, fun σ2 fp2 r2 b2 k2 => k σ2 fp2 r2 (fun a m => b1 a (b2 a m)) (k1.trans k2)⟩⟩
theorem g_tup {es : List Expr} {k : Nat} {vs : List Nat} {g : List D → LS → Option LS} {n : Nat} (hc : X.calm = true) (h : PGs X es (GXs X.K cm vs g))
    (hn : (assignEach es X.env).length = n := by rfl) (hst : (assignEach es X.env).findIdx? (·.1) = none := by rfl) : PG X (.Tuple es k pos) (GX X.K cm vs (gT n g)) :=
  (pg_tup hc h hn hst).imp fun v σ H Q ⟨st, S, fp, d, r, hv, st', e, kk⟩ => by
    cases d <;> try (cases e; done)
    case tup ds =>
      cases hv with
      | @tup a xs _ h1 h2 =>
        replace e : (if ds.length = n then g ds st else none) = some st' := e
        split at e
        · rename_i q
          exact ⟨a, xs, rfl, same_sqT r.sh h1, h2.length.trans q, st, S, fp, ds, r, h2, st', e, kk⟩
        · cases e
def Out.of : Option LS → Out
  | some st => .nx st
  | none => .bad
theorem fx_keeps {c : Fr} {vs : List Nat} {σ σ' : Sg} (r : ∀ i v, c.fix i = some v → σ[i]? = some (some v)) (k : Keeps vs σ σ') (hx : ∀ i ∈ vs, c.fix i = none) : ∀ i v, c.fix i = some v → σ'[i]? = some (some v) := fun i v e => by
  have ni : i ∉ vs := fun m => by
    rw [hx i m] at e
    cases e
  rw [k.2 i ni]
  exact r i v e
def asgS (f : LS → R D) (g : D → LS → Option LS) : LS → Out := fun st => (f st).out st fun d => .of (g d st)
def setS (i : Nat) (f : LS → R D) : LS → Out := fun st => (f st).out st fun d => .nx (st.set i (some (.im d)))
theorem s_set [Free W] {i : Nat} {x : Str} {pos' : Pos} (hN : X.N.Nodup) (hi : X.N[i]? = some x) (hx : Loc X.env.scope x) (he : PE X e (E X.K cm W f)) (hs : swapsWith e (some (.Name x pos')) pos.line X.env = pure false := by rfl) (hf : X.fn x = true ∨ X.env.scope.names.lookup x = some .local := by first | exact .inl rfl | exact .inr rfl | assumption) (hfx : c.fix i = none := by rfl) :
    PS X (.Assign [.Name x pos'] e pos) (SX X.K cm W c (setS i f)) := (ps_set hN hi hx he hs hf).imp fun D σ H ⟨st, S, fp, r, p⟩ =>
  ⟨st, S, fp, r.rx, Post.go r p fun d S' H' x q v hv => by
    obtain ⟨fp', r'⟩ := (r.ext x).set_im hv hfx
    exact q _ H' r'.on⟩
/-- a fresh object at a name: the name alone holds it -/
def setF (i : Nat) (f : LS → R T) : LS → Out := fun st => (f st).out st fun t => .nx (st.set i (some t))
theorem s_setF [Free W] {i : Nat} {x : Str} {pos' : Pos} {f : LS → R T} (hN : X.N.Nodup) (hi : X.N[i]? = some x) (hx : Loc X.env.scope x) (he : PE X e (EF X.K cm W f)) (hs : swapsWith e (some (.Name x pos')) pos.line X.env = pure false := by rfl) (hf : X.fn x = true ∨ X.env.scope.names.lookup x = some .local := by first | exact .inl rfl | exact .inr rfl | assumption) (hfx : c.fix i = none := by rfl) :
    PS X (.Assign [.Name x pos'] e pos) (SX X.K cm W c (setF i f)) := (ps_set hN hi hx he hs hf).imp fun D σ H ⟨st, S, fp, r, p⟩ =>
  ⟨st, S, fp, r.rx, Post.go r p fun t S' H' x q v fn hv nd fo => by
    have r2 := r.ext x
    obtain ⟨fp', a, b⟩ := r2.rx.set_ow hv nd (fun a m1 m2 => r.rx.sls.there a m2 (fo a m1).1) (fun a m => (fo a m).2) i
    refine q _ H' (RR.on ⟨a, r2.xt, fun y m => ?_, fx_set r2.fx hfx⟩)
    rcases b y m with m | m
    · exact r2.fr y m
    · exact r.xt.hh.free (fo y m).1⟩
/-- name op= e -/
def augS (i : Nat) (op : D → D → Option D) (f : LS → R D) : LS → Out := fun st => (vi i st).out st fun x => (f st).out st fun y => (R.of (op x y)).out st fun z => .nx (st.set i (some (.im z)))
theorem s_aug [Free W] {i : Nat} {x : Str} {op : Operator} {ti : TIp} {o : D → D → Option D} {pos' : Pos} (ho : PIp X op ti) (od : Op2 X.K cm ti o) (hN : X.N.Nodup) (hi : X.N[i]? = some x) (hx : Loc X.env.scope x) (he : PE X e (E X.K cm W f)) (hf : X.fn x = true ∨ X.env.scope.names.lookup x = some .local := by first | exact .inl rfl | exact .inr rfl | assumption) (hfx : c.fix i = none := by rfl) :
    PS X (.AugAssign (.Name x pos') op e pos) (SX X.K cm W c (augS i o f)) := (ps_aug hN hi hx he ho hf).imp fun D σ H ⟨st, S, fp, r, p⟩ => by
  replace p : Post X.K cm W c D S ((vi i st).out st fun x => (f st).out st fun y => (R.of (o x y)).out st fun z => .nx (st.set i (some (.im z)))) := p
  cases q : vi i st with
  | bad => rw [q] at p; exact p.elim
  | ex e => unfold vi R.of at q; split at q <;> cases q
  | ok d =>
    rw [q] at p
    have q2 : st[i]? = some (some (.im d)) := by
      unfold vi at q
      cases q3 : imD st[i]? with
      | none => rw [q3] at q; cases q
      | some d' =>
        rw [q3] at q
        cases q
        unfold imD at q3
        split at q3
        · cases q3; assumption
        · cases q3
    obtain ⟨v, a, b⟩ := r.rx.imm q2
    refine ⟨v, a, st, S, fp, r.rx, Post.go r p fun y S' H' x k u hu => ?_⟩
    cases q4 : o d y with
    | none => rw [q4] at k; exact k.elim
    | some z =>
      rw [q4] at k
      refine od S' H' v u d y z _ x.sh (.inl (b.mono x.ss)) (.inl hu) q4 fun H2 S2 x2 w hw => ?_
      obtain ⟨fp', r'⟩ := ((r.ext x).ext x2).set_im hw hfx
      exact k _ H2 (r'.on.mono x2.ss)
end
end DI
end
section
set_option Elab.async false
set_option linter.all false
set_option maxRecDepth 100000
set_option maxHeartbeats 2000000
/-! DI: loops and comprehensions. -/
namespace DI
open PySem PySem.Spec PyProof.Rows L2
/-- J walks the items, as long as B stands -/
def Wk (K : PySem.W.Frag) (cm : CM) (J : It) (S B : Hp) (items : List D) : Prop := ∀ i S' H, Same S S' → Same S' H → Same B H →
  (∀ d, items[i]? = some d → J.go i H ∧ ∀ x H', J.yld i H x H' → ∃ S2, Xt S' S2 H H' ∧ Rep K cm S2 x d) ∧ (items.length = i → J.stop i H)
/-- what is walked: data that stand for good; .. that stand just now -/
def IE (K : PySem.W.Frag) (cm : CM) (W : WH) (f : LS → R (List D)) : TI := fun σ H R => ∃ st S fp, Rx K cm W st S fp σ H ∧ Go K cm W (fun items S' H' => ∀ J, Wk K cm J S' S' items → R J H') (f st) S H σ
def IV (K : PySem.W.Frag) (cm : CM) (W : WH) (f : LS → R (List D)) : TI := fun σ H R => ∃ st S fp, Rx K cm W st S fp σ H ∧ Go K cm W (fun items S' H' => ∀ J, Wk K cm J S' H' items → R J H') (f st) S H σ
section
variable {X : Cx} {cm : CM} {W : WH} {c : Fr} {pos p : Pos} {tg e : Expr} {f : LS → R D} {fi : LS → R (List D)}
theorem Wk.mono {K : PySem.W.Frag} {J : It} {S B B' : Hp} {its : List D} (w : Wk K cm J S B its) (h : Same B B') : Wk K cm J S B' its := fun i S' H a b d => w i S' H a b (h.trans d)
theorem i_v (h : PI X tg e (IE X.K cm W fi)) : PI X tg e (IV X.K cm W fi) := h.imp fun σ H R ⟨st, S, fp, r, g⟩ => ⟨st, S, fp, r, g.mono fun its S' H' x k J w => k J (w.mono x.sh)⟩
/-! ### sources -/
def itemsD : D → Option (List D)
  | .lst ds => some ds
  | .tup ds => some ds
  | .scr ds => some ds
  | _ => none
def items (f : LS → R D) : LS → R (List D) := fun st => (f st).bind fun d => .of (itemsD d)
theorem wk_list {K : PySem.W.Frag} {S B : Hp} {a : Addr} {xs : List V} {ds : List D} (h : ∀ H, Same B H → SqL K H a xs) (r : RepL K cm S xs ds) : Wk K cm (Itl K a) S B ds := fun i S' H s1 s2 s3 => by
  refine ⟨fun d e => ?_, fun l => ⟨xs, h H s3, by rw [r.length]; exact Nat.le_of_eq l⟩⟩
  obtain ⟨v, e1, r1⟩ := r.get e
  refine ⟨⟨xs, v, h H s3, e1⟩, fun x H' ⟨e2, q⟩ => ?_⟩
  subst e2
  have := q xs (h _ s3)
  rw [e1] at this
  cases this
  exact ⟨S', Xt.refl s2, r1.mono s1⟩
theorem wk_tup {K : PySem.W.Frag} {S B : Hp} {a : Addr} {xs : List V} {ds : List D} (h : ∀ H, Same B H → SqT K H a xs) (r : RepL K cm S xs ds) : Wk K cm (Itt K a) S B ds := fun i S' H s1 s2 s3 => by
  refine ⟨fun d e => ?_, fun l => ⟨xs, h H s3, by rw [r.length]; exact Nat.le_of_eq l⟩⟩
  obtain ⟨v, e1, r1⟩ := r.get e
  refine ⟨⟨xs, v, h H s3, e1⟩, fun x H' ⟨e2, q⟩ => ?_⟩
  subst e2
  have := q xs (h _ s3)
  rw [e1] at this
  cases this
  exact ⟨S', Xt.refl s2, r1.mono s1⟩
/-- one of two readings -/
theorem pi_or {w1 w2 : TI} (h1 : PI X tg e w1) (h2 : PI X tg e w2) : PI X tg e (fun σ H R => w1 σ H R ∨ w2 σ H R) := ⟨fun pins s σ H R I h => h.elim (h1.run pins s σ H R I) (h2.run pins s σ H R I)⟩
theorem i_e (h : PE X e (E X.K cm W f)) : PI X tg e (IE X.K cm W (items f)) := (pi_or (pi_list h) (pi_tup h)).imp fun σ H R ⟨st, S, fp, r, g⟩ => by
  replace g : Go X.K cm W (fun items S' H' => ∀ J, Wk X.K cm J S' S' items → R J H') ((f st).bind fun d => .of (itemsD d)) S H σ := g
  cases q : f st with
  | bad => rw [q] at g; exact g.elim
  | ex x => rw [q] at g; exact .inl ⟨st, S, fp, r, by rw [q]; exact g⟩
  | ok d =>
    rw [q] at g
    cases d <;> try (exact g.elim)
    case lst ds =>
      refine .inl ⟨st, S, fp, r, ?_⟩
      rw [q]
      intro H1 S1 x1 v hv
      cases hv with
      | @lst a xs _ h1 h2 => exact ⟨a, rfl, ⟨xs, SqL.of (x1.sh _ _ h1)⟩, g H1 S1 x1 _ (wk_list (fun H s => SqL.of (s _ _ h1)) h2)⟩
    case scr ds =>
      refine .inl ⟨st, S, fp, r, ?_⟩
      rw [q]
      intro H1 S1 x1 v hv
      cases hv with
      | @scr a xs _ h1 h2 => exact ⟨a, rfl, ⟨xs, same_sqL x1.sh h1⟩, g H1 S1 x1 _ (wk_list (fun H s => same_sqL s h1) h2)⟩
    case tup ds =>
      refine .inr ⟨st, S, fp, r, ?_⟩
      rw [q]
      intro H1 S1 x1 v hv
      cases hv with
      | @tup a xs _ h1 h2 => exact ⟨a, rfl, ⟨xs, same_sqT x1.sh h1⟩, g H1 S1 x1 _ (wk_tup (fun H s => same_sqT s h1) h2)⟩
theorem i_view (h : PE X e (VE X.K cm W f)) : PI X tg e (IV X.K cm W (items f)) := (pi_or (pi_list h) (pi_tup h)).imp fun σ H R ⟨st, S, fp, r, g⟩ => by
  replace g : Go X.K cm W (fun items S' H' => ∀ J, Wk X.K cm J S' H' items → R J H') ((f st).bind fun d => .of (itemsD d)) S H σ := g
  cases q : f st with
  | bad => rw [q] at g; exact g.elim
  | ex x => rw [q] at g; exact .inl ⟨st, S, fp, r, by rw [q]; exact g⟩
  | ok d =>
    rw [q] at g
    cases d <;> try (exact g.elim)
    case lst ds =>
      refine .inl ⟨st, S, fp, r, ?_⟩
      rw [q]
      intro H1 S1 x1 v hv
      obtain ⟨a, xs, rfl, h1, h2⟩ := hv.lst x1.sh
      exact ⟨a, rfl, ⟨xs, SqL.of h1⟩, g H1 S1 x1 _ (wk_list (fun H s => SqL.of (s _ _ h1)) h2)⟩
    case scr ds =>
      refine .inl ⟨st, S, fp, r, ?_⟩
      rw [q]
      intro H1 S1 x1 v hv
      obtain ⟨a, xs, rfl, h1, h2⟩ := hv.scr
      exact ⟨a, rfl, ⟨xs, same_sqL x1.sh h1⟩, g H1 S1 x1 _ (wk_list (fun H s => same_sqL s (same_sqL x1.sh h1)) h2)⟩
    case tup ds =>
      refine .inr ⟨st, S, fp, r, ?_⟩
      rw [q]
      intro H1 S1 x1 v hv
      obtain ⟨a, xs, rfl, h1, h2⟩ := hv.tup
      exact ⟨a, rfl, ⟨xs, same_sqT x1.sh h1⟩, g H1 S1 x1 _ (wk_tup (fun H s => same_sqT s (same_sqT x1.sh h1)) h2)⟩
/-- range(n), range(a, b) -/
def rangeD (lo : Int) (n : Nat) : List D := (List.range n).map fun (i : Nat) => D.int (lo + (i : Int))
theorem rangeD_get {lo : Int} {n i : Nat} {d : D} (h : (rangeD lo n)[i]? = some d) : i < n ∧ d = .int (lo + (i : Int)) := by
  unfold rangeD at h
  rw [List.getElem?_map] at h
  by_cases hi : i < n
  · rw [List.getElem?_range hi] at h
    cases h
    exact ⟨hi, rfl⟩
  · rw [List.getElem?_eq_none (by rw [List.length_range]; omega)] at h
    cases h
theorem rangeD_len {lo : Int} {n : Nat} : (rangeD lo n).length = n := by unfold rangeD; rw [List.length_map, List.length_range]
theorem wk_range {K : PySem.W.Frag} {S B : Hp} {lo : Int} {n : Nat} : Wk K cm (Itr lo n) S B (rangeD lo n) := fun i S' H s1 s2 s3 => by
  refine ⟨fun d e => ?_, fun l => by rw [rangeD_len] at l; exact Nat.le_of_eq l⟩
  obtain ⟨hi, rfl⟩ := rangeD_get e
  exact ⟨hi, fun x H' ⟨e1, e2⟩ => ⟨S', by rw [e1]; exact Xt.refl s2, by rw [e2]; exact .int _⟩⟩
def rng1 : List D → Option (List D)
  | [.int j] => if -(2 ^ 62) ≤ j ∧ j < 2 ^ 62 then some (rangeD 0 j.toNat) else none
  | _ => none
def rng2 : List D → Option (List D)
  | [.int i, .int j] => if -(2 ^ 62) ≤ i ∧ i < 2 ^ 62 ∧ -(2 ^ 62) ≤ j ∧ j < 2 ^ 62 then some (rangeD i (j - i).toNat) else none
  | _ => none
def callI (op : List D → Option (List D)) (r : LS → R (List D)) : LS → R (List D) := fun st => (r st).bind fun ds => .of (op ds)
theorem rep1 {K : PySem.W.Frag} {S : Hp} {vs : List V} {d : D} (h : RepL K cm S vs [d]) : ∃ v, vs = [v] ∧ Rep K cm S v d := by
  cases h with
  | cons a b => cases b; exact ⟨_, rfl, a⟩
theorem rep2 {K : PySem.W.Frag} {S : Hp} {vs : List V} {d e : D} (h : RepL K cm S vs [d, e]) : ∃ v u, vs = [v, u] ∧ Rep K cm S v d ∧ Rep K cm S u e := by
  cases h with
  | cons a b =>
    obtain ⟨u, rfl, r⟩ := rep1 b
    exact ⟨_, u, rfl, a, r⟩
theorem i_range1 {a : Expr} {args : LS → R (List D)} (hm : X.mg "range" = none) (ha : PA X [a] (EA X.K cm W args)) (hg : Gl X "range" := by rfl) (hs : starEach [a] X.env = [(false, eval a X.env)] := by rfl) : PI X tg (.Call (.Name "range" p) [a] [] pos) (IE X.K cm W (callI rng1 args)) :=
  (pi_range1 hg hm ha hs).imp fun σ H R ⟨st, S, fp, r, g⟩ => ⟨st, S, fp, r, g.bind.mono fun ds S1 H1 x1 k1 vs hv => by
    obtain ⟨its, hi, k2⟩ := k1.of
    unfold rng1 at hi
    split at hi
    · rename_i j
      split at hi
      · cases hi
        rename_i q
        obtain ⟨v, rfl, h1⟩ := rep1 hv
        cases h1
        exact ⟨j, rfl, q.1, q.2, k2 H1 S1 (Xt.refl x1.sh) _ wk_range⟩
      · cases hi
    · cases hi⟩
theorem i_range2 {a b : Expr} {args : LS → R (List D)} (hm : X.mg "range" = none) (ha : PA X [a, b] (EA X.K cm W args)) (hg : Gl X "range" := by rfl) (hs : starEach [a, b] X.env = [(false, eval a X.env), (false, eval b X.env)] := by rfl) (hs2 : starEach [b] X.env = [(false, eval b X.env)] := by rfl) :
    PI X tg (.Call (.Name "range" p) [a, b] [] pos) (IE X.K cm W (callI rng2 args)) :=
  (pi_range2 hg hm ha hs hs2).imp fun σ H R ⟨st, S, fp, r, g⟩ => ⟨st, S, fp, r, g.bind.mono fun ds S1 H1 x1 k1 vs hv => by
    obtain ⟨its, hi, k2⟩ := k1.of
    unfold rng2 at hi
    split at hi
    · rename_i i j
      split at hi
      · cases hi
        rename_i q
        obtain ⟨v, u, rfl, h1, h2⟩ := rep2 hv
        cases h1
        cases h2
        exact ⟨i, j, rfl, q, k2 H1 S1 (Xt.refl x1.sh) _ wk_range⟩
      · cases hi
    · cases hi⟩
/-! ### for -/
def forL (g : D → LS → Option LS) (F : LS → Out) : List D → LS → Out
  | [], st => .nx st
  | d :: ds, st => match g d st with
    | none => .bad
    | some st1 => match F st1 with
      | .nx st2 => forL g F ds st2
      | .ct st2 => forL g F ds st2
      | .bk st2 => .nx st2
      | o => o
def forS (fi : LS → R (List D)) (g : D → LS → Option LS) (F : LS → Out) : LS → Out := fun st => (fi st).out st fun ds => forL g F ds st
variable {F : LS → Out} {g : D → LS → Option LS} {vs : List Nat} {body : List Stmt}
theorem drop_get {α : Type} {l : List α} {i : Nat} {x : α} (h : l[i]? = some x) : l.drop i = x :: l.drop (i + 1) := by
  obtain ⟨h1, h2⟩ := List.getElem?_eq_some_iff.mp h
  rw [List.drop_eq_getElem_cons h1, h2]
theorem s_for [Free W] (hi : PI X tg e (IE X.K cm W fi)) (hg : PG X tg (GX X.K cm vs g)) (hb : PSs X body (SX X.K cm W c F)) (hc : X.calm = true := by rfl) (hp : PassesOwn (model X.prog X.w) X.A X.env X.xe := by first | exact PassesOwn.never | exact PassesOwn.leaving | assumption)
    (hs : ∀ x, foldedSetIterable e X.env x = pure x := by intro _; rfl) (hx : ∀ i ∈ vs, c.fix i = none := by simp) : PS X (.For tg e body [] pos) (SX X.K cm W c (forS fi g F)) := (ps_for hp hc hi hg hb hs).imp fun D σ H ⟨st, S, fp, r, p⟩ =>
  ⟨st, S, fp, r.rx, Post.go r p fun ds S1 H1 x1 q J w => by
    refine ⟨fun i m σ H => m = ds.length - i ∧ i ≤ ds.length ∧ ∃ st S' fp, Same S1 S' ∧ RR X.K cm W c st S' fp σ H ∧ Post X.K cm W c D S1 (forL g F (ds.drop i) st), ⟨_, rfl, Nat.zero_le _, st, S1, fp, Same.refl S1, r.ext x1, by rw [List.drop_zero]; exact q⟩, ?_⟩
    rintro i m σ2 H2 ⟨rfl, hi, st2, S2, fp2, s2, r2, q2⟩
    obtain ⟨w1, w2⟩ := w i S2 H2 s2 r2.rx.sh (s2.trans r2.rx.sh)
    cases q3 : ds[i]? with
    | none =>
      have hl : ds.length ≤ i := List.getElem?_eq_none_iff.mp q3
      rw [List.drop_eq_nil_of_le hl] at q2
      exact .inl ⟨w2 (Nat.le_antisymm hl hi), q2 σ2 H2 ⟨S2, fp2, s2, r2⟩⟩
    | some d =>
      have hl : i < ds.length := (List.getElem?_eq_some_iff.mp q3).1
      obtain ⟨go, y⟩ := w1 d q3
      rw [drop_get q3] at q2
      refine .inr ⟨go, fun σ H => ∃ st S' fp, Same S1 S' ∧ RR X.K cm W c st S' fp σ H ∧ Post X.K cm W c D S1 (forL g F (ds.drop (i + 1)) st), fun σ' H' n => ⟨ds.length - (i + 1), by omega, rfl, hl, n⟩, fun v H3 hy => ?_⟩
      obtain ⟨S3, x3, hv⟩ := y v H3 hy
      replace q2 : Post X.K cm W c D S1 (match g d st2 with
        | none => .bad
        | some st1 => match F st1 with
          | .nx st2 => forL g F (ds.drop (i + 1)) st2
          | .ct st2 => forL g F (ds.drop (i + 1)) st2
          | .bk st2 => .nx st2
          | o => o) := q2
      cases q4 : g d st2 with
      | none => rw [q4] at q2; exact q2.elim
      | some st4 =>
        rw [q4] at q2
        refine ⟨st2, S3, fp2, d, (r2.rx.ext x3).to, hv, st4, q4, fun σ4 fp4 r4 b4 kp => ⟨st4, S3, fp4, ⟨r4.to, r2.xt.trans x3, fun a m => r2.fr a (b4 a m), fx_keeps r2.fx kp hx⟩, ?_⟩⟩
        have s14 : Same S1 S3 := s2.trans x3.ss
        replace q2 : Post X.K cm W c D S1 (match F st4 with
          | .nx st2 => forL g F (ds.drop (i + 1)) st2
          | .ct st2 => forL g F (ds.drop (i + 1)) st2
          | .bk st2 => .nx st2
          | o => o) := q2
        cases q5 : F st4 with
        | bad => rw [q5] at q2; exact q2
        | nx st5 => rw [q5] at q2; exact fun σ5 H5 ⟨S5, fp5, s5, r5⟩ => ⟨st5, S5, fp5, s14.trans s5, r5, q2⟩
        | ct st5 => rw [q5] at q2; exact fun σ5 H5 ⟨S5, fp5, s5, r5⟩ => ⟨st5, S5, fp5, s14.trans s5, r5, q2⟩
        | bk st5 => rw [q5] at q2; exact fun σ5 H5 o => q2 σ5 H5 (o.mono s14)
        | rt d => rw [q5] at q2; exact fun v H S5 a => q2 v H S5 (s14.trans a)
        | ex st5 e5 => rw [q5] at q2; exact fun cls od σ H S5 fp5 a => q2 cls od σ H S5 fp5 (s14.trans a)⟩
/-! ### while -/
def whileL (b : LS → R Bool) (F : LS → Out) : Nat → LS → Out
  | 0, _ => .bad
  | n + 1, st => (b st).out st fun k => if k = true then (match F st with
      | .nx st2 => whileL b F n st2
      | .ct st2 => whileL b F n st2
      | .bk st2 => .nx st2
      | o => o) else .nx st
def whileS (n : Nat) (b : LS → R Bool) (F : LS → Out) : LS → Out := fun st => whileL b F n st
theorem s_while {t : Expr} {b : LS → R Bool} (n : Nat) (ht : PT X t (TB X.K cm W b)) (hb : PSs X body (SX X.K cm W c F)) (hp : PassesOwn (model X.prog X.w) X.A X.env X.xe := by first | exact PassesOwn.never | exact PassesOwn.leaving | assumption) :
    PS X (.While t body [] pos) (SX X.K cm W c (whileS n b F)) := (ps_while hp ht hb).imp fun D σ H ⟨st, S, fp, r, p⟩ => by
  refine ⟨fun m σ H => ∃ st S' fp, RR X.K cm W c st S' fp σ H ∧ Post X.K cm W c D S' (whileL b F m st), ⟨n, st, S, fp, r, p⟩, ?_⟩
  rintro m σ2 H2 ⟨st2, S2, fp2, r2, q2⟩
  cases m with
  | zero => exact q2.elim
  | succ m =>
    refine ⟨st2, S2, fp2, r2.rx, Post.go r2 q2 fun k S3 H3 x3 q3 => ?_⟩
    cases k with
    | false => exact q3 σ2 H3 (r2.ext x3).on
    | true =>
      refine ⟨fun σ H => ∃ st S' fp, RR X.K cm W c st S' fp σ H ∧ Post X.K cm W c D S' (whileL b F m st), fun σ' H' h => ⟨m, Nat.lt_succ_self m, h⟩, st2, S3, fp2, r2.ext x3, ?_⟩
      replace q3 : Post X.K cm W c D S3 (match F st2 with
        | .nx st2 => whileL b F m st2
        | .ct st2 => whileL b F m st2
        | .bk st2 => .nx st2
        | o => o) := q3
      cases q5 : F st2 with
      | bad => rw [q5] at q3; exact q3
      | nx st5 => rw [q5] at q3; exact fun σ5 H5 ⟨S5, fp5, s5, r5⟩ => ⟨st5, S5, fp5, r5, Post.mono s5 q3⟩
      | ct st5 => rw [q5] at q3; exact fun σ5 H5 ⟨S5, fp5, s5, r5⟩ => ⟨st5, S5, fp5, r5, Post.mono s5 q3⟩
      | bk st5 => rw [q5] at q3; exact q3
      | rt d => rw [q5] at q3; exact q3
      | ex st5 e5 => rw [q5] at q3; exact q3
end
end DI
end
section
set_option Elab.async false
set_option linter.all false
set_option maxRecDepth 100000
set_option maxHeartbeats 2000000
/-! DI: comprehensions. -/
namespace DI
open PySem PySem.Spec PyProof.Rows L2
def R.noex {α : Type} : R α → R α
  | .ex _ => .bad
  | r => r
def wipeS (st : LS) : List Nat → LS
  | [] => st
  | v :: vs => (wipeS st vs).set v none
section
variable {K : PySem.W.Frag} {cm : CM} {S H : Hp} {σ σ' : Sg} {st : LS} {fp : List Addr}
theorem Rx.wipe {W W' : WH} [Free W'] (r : Rx K cm W st S fp σ H) : ∀ vs : List Nat, ∃ fp', Rx K cm W' (wipeS st vs) S fp' (L2.wipe σ vs) H ∧ ∀ a ∈ fp', a ∈ fp
  | [] => ⟨fp, r.to, fun _ m => m⟩
  | v :: vs => by
    obtain ⟨f1, r1, b1⟩ := Rx.wipe (W' := W') r vs
    obtain ⟨f2, r2, b2⟩ := r1.forget (W' := W') (o := none) v
    exact ⟨f2, r2, fun a m => b1 a (b2 a m)⟩
theorem wipe_get : ∀ (vs : List Nat) (i : Nat), (L2.wipe σ vs)[i]? = if i ∈ vs then σ[i]?.map (fun _ => none) else σ[i]?
  | [], i => by simp [L2.wipe]
  | v :: vs, i => by
    unfold L2.wipe
    by_cases h : v = i
    · subst h
      rw [List.getElem?_set]
      simp only [if_true, List.mem_cons, true_or]
      have := wipe_get vs v
      by_cases hl : v < σ.length
      · have hl2 : v < (L2.wipe σ vs).length := by rw [wipe_length]; exact hl
        rw [if_pos hl2, List.getElem?_eq_getElem hl]
        rfl
      · have hl2 : ¬ v < (L2.wipe σ vs).length := by rw [wipe_length]; exact hl
        rw [if_neg hl2, List.getElem?_eq_none (by omega)]
        rfl
    · rw [List.getElem?_set_ne h, wipe_get vs i]
      have : (i ∈ v :: vs) ↔ i ∈ vs := by simp [Ne.symm h]
      simp only [this]
theorem Keeps.wipe {vs : List Nat} (k : Keeps vs σ σ') : L2.wipe σ' vs = L2.wipe σ vs := by
  apply List.ext_getElem?
  intro i
  rw [wipe_get, wipe_get]
  by_cases h : i ∈ vs
  · rw [if_pos h, if_pos h]
    have e := k.1
    by_cases hl : i < σ.length
    · rw [List.getElem?_eq_getElem hl, List.getElem?_eq_getElem (show i < σ'.length by rw [e]; exact hl)]
      rfl
    · rw [List.getElem?_eq_none (show σ.length ≤ i by omega), List.getElem?_eq_none (show σ'.length ≤ i by rw [e]; omega)]
  · rw [if_neg h, if_neg h, k.2 i h]
end
def compL (g : D → LS → Option LS) (t : LS → R Bool) (f : LS → R D) (st : LS) : List D → R (List D)
  | [] => .ok []
  | d :: ds => match g d st with
    | none => .bad
    | some st1 => (t st1).noex.bind fun b => if b = true then (f st1).noex.bind fun y => (compL g t f st ds).bind fun ys => .ok (y :: ys) else compL g t f st ds
def compR (fi : LS → R (List D)) (vs : List Nat) (g : D → LS → Option LS) (t : LS → R Bool) (f : LS → R D) : LS → R (List D) := fun st => (fi st).bind fun ds => if ds.length ≤ sizeLine then compL g t f (wipeS st vs) ds else .bad
def compE (fi : LS → R (List D)) (vs : List Nat) (g : D → LS → Option LS) (t : LS → R Bool) (f : LS → R D) : LS → R D := fun st => (compR fi vs g t f st).bind fun ys => .ok (.lst ys)
def compF (fi : LS → R (List D)) (vs : List Nat) (g : D → LS → Option LS) (t : LS → R Bool) (f : LS → R D) : LS → R T := fun st => (compR fi vs g t f st).bind fun ys => .ok (imT ys)
def yesT : LS → R Bool := fun _ => .ok true
theorem R.noex_ok {α β : Type} {r : R α} {k : α → R β} {z : β} (h : (r.noex.bind k) = .ok z) : ∃ a, r = .ok a ∧ k a = .ok z := by
  cases r with
  | bad => cases h
  | ok a => exact ⟨a, rfl, h⟩
  | ex e => cases h
theorem R.bind_ok {α β : Type} {r : R α} {k : α → R β} {z : β} (h : (r.bind k) = .ok z) : ∃ a, r = .ok a ∧ k a = .ok z := by
  cases r with
  | bad => cases h
  | ok a => exact ⟨a, rfl, h⟩
  | ex e => cases h
theorem compL_ok {g : D → LS → Option LS} {t : LS → R Bool} {f : LS → R D} {st : LS} : ∀ ds : List D, compL g t f st ds = .bad ∨ ∃ zs, compL g t f st ds = .ok zs
  | [] => .inr ⟨[], rfl⟩
  | d :: ds => by
    have ih := compL_ok (g := g) (t := t) (f := f) (st := st) ds
    simp only [compL]
    cases g d st with
    | none => exact .inl rfl
    | some st1 =>
      simp only []
      cases t st1 with
      | bad => exact .inl rfl
      | ex e => exact .inl rfl
      | ok b =>
        simp only [R.noex, R.bind]
        cases b with
        | false => simpa using ih
        | true =>
          simp only [if_true]
          cases f st1 with
          | bad => exact .inl rfl
          | ex e => exact .inl rfl
          | ok y =>
            simp only []
            rcases ih with h | ⟨zs, h⟩
            · rw [h]; exact .inl rfl
            · rw [h]; exact .inr ⟨y :: zs, rfl⟩
section
variable {X : Cx} {cm : CM} {W : WH} {fi : LS → R (List D)} {vs : List Nat} {g : D → LS → Option LS} {t : LS → R Bool} {f : LS → R D}
theorem comp_reads {σ : Sg} {H : Hp} {Q : VK}
    (k : ∃ st S fp, Rx X.K cm W st S fp σ H ∧ Go X.K cm W (fun ys S' H' => ∀ L acc, H L = none → S' L = none → H' L = some (.lst acc) → RepL X.K cm S' acc ys → Q (.ref L) H') (compR fi vs g t f st) S H σ) :
    tLc (IV X.K cm W fi) (GX X.K cm vs g) (TB X.K cm WF t) (E X.K cm WF f) vs σ H Q := by
  obtain ⟨st, S, fp, r, k⟩ := k
  refine ⟨st, S, fp, r, k.bind.mono fun ds S1 H1 x1 q J w L hL => ?_⟩
  replace q : Go X.K cm W (fun ys S' H' => ∀ L acc, H L = none → S' L = none → H' L = some (.lst acc) → RepL X.K cm S' acc ys → Q (.ref L) H') (if ds.length ≤ sizeLine then compL g t f (wipeS st vs) ds else .bad) S1 H1 σ := q
  by_cases hlen : ds.length ≤ sizeLine
  · rw [if_pos hlen] at q
    obtain ⟨fp0, r0, b0⟩ := (r.ext x1).wipe (W' := WF) vs
    have s1L : S1 L = none := x1.sh.free hL
    rcases compL_ok (g := g) (t := t) (f := f) (st := wipeS st vs) ds with qz | ⟨zs, qz⟩
    · rw [qz] at q; exact q.elim
    rw [qz] at q
    refine ⟨fun i m H => m = ds.length - i ∧ i ≤ ds.length ∧ ∃ S' acc ys us, Xt S1 S' H1 H ∧ S' L = none ∧ H L = some (.lst acc) ∧ RepL X.K cm S' acc ys ∧ acc.length ≤ i ∧ compL g t f (wipeS st vs) (ds.drop i) = .ok us ∧ zs = ys ++ us,
      ⟨_, rfl, Nat.zero_le _, S1, [], [], zs, Xt.own x1.sh hL, s1L, upd_same, .nil, Nat.le_refl _, by rw [List.drop_zero]; exact qz, rfl⟩, ?_⟩
    rintro i m H2 ⟨rfl, hi, S2, acc, ys, us, x2, n2, hA, rA, lA, q2, qe⟩
    obtain ⟨w1, w2⟩ := w i S2 H2 x2.ss x2.sh x2.hh
    cases q3 : ds[i]? with
    | none =>
      have hl : ds.length ≤ i := List.getElem?_eq_none_iff.mp q3
      rw [List.drop_eq_nil_of_le hl] at q2
      cases q2
      rw [List.append_nil] at qe
      subst qe
      exact .inl ⟨w2 (Nat.le_antisymm hl hi), q H2 S2 x2 L acc (x1.hh.free hL) n2 hA rA⟩
    | some d =>
      have hl : i < ds.length := (List.getElem?_eq_some_iff.mp q3).1
      obtain ⟨go, y⟩ := w1 d q3
      rw [drop_get q3] at q2
      refine .inr ⟨go, fun H => i + 1 ≤ ds.length ∧ ∃ S' acc ys us, Xt S1 S' H1 H ∧ S' L = none ∧ H L = some (.lst acc) ∧ RepL X.K cm S' acc ys ∧ acc.length ≤ i + 1 ∧ compL g t f (wipeS st vs) (ds.drop (i + 1)) = .ok us ∧ zs = ys ++ us,
        fun H' n => ⟨ds.length - (i + 1), by omega, rfl, n⟩, fun v H3 hy => ?_⟩
      obtain ⟨S3, x3, hv⟩ := y v H3 hy
      replace q2 : (match g d (wipeS st vs) with
        | none => .bad
        | some st1 => (t st1).noex.bind fun b => if b = true then (f st1).noex.bind fun y => (compL g t f (wipeS st vs) (ds.drop (i + 1))).bind fun ys => .ok (y :: ys) else compL g t f (wipeS st vs) (ds.drop (i + 1))) = R.ok us := q2
      cases q4 : g d (wipeS st vs) with
      | none => rw [q4] at q2; cases q2
      | some st4 =>
        rw [q4] at q2
        obtain ⟨b, q5, q6⟩ := R.noex_ok q2
        have x13 := x2.trans x3
        have keepL : ∀ {S' H' : Hp}, Xt S2 S' H2 H' → S' L = none ∧ H' L = some (.lst acc) := fun {S' H'} x => by
          refine ⟨?_, x.hh _ _ hA⟩
          cases q : S' L with
          | none => rfl
          | some o =>
            have z := x.fr L o q n2
            rw [hA] at z
            cases z
        refine ⟨wipeS st vs, S3, fp0, d, r0.ext x13, hv, st4, q4, fun σ4 fp4 r4 b4 k4 => ⟨?_, st4, S3, fp4, r4, ?_⟩⟩
        · have e1 := k4.wipe
          rw [e1]
          apply List.ext_getElem?
          intro j
          rw [wipe_get]
          split
          · rename_i hj
            rw [wipe_get, if_pos hj]
            cases σ[j]? <;> rfl
          · rfl
        · rw [q5]
          intro H5 S5 x5
          cases b with
          | false =>
            obtain ⟨n5, hA5⟩ := keepL (x3.trans x5)
            exact ⟨hl, S5, acc, ys, us, x13.trans x5, n5, hA5, rA.mono (x3.ss.trans x5.ss), by omega, q6, qe⟩
          | true =>
            obtain ⟨u, q7, q8⟩ := R.noex_ok q6
            obtain ⟨us', q9, q10⟩ := R.bind_ok q8
            cases q10
            refine ⟨st4, S5, fp4, r4.ext x5, ?_⟩
            rw [q7]
            intro H6 S6 x6 z hz
            obtain ⟨n6, hA6⟩ := keepL ((x3.trans x5).trans x6)
            refine ⟨acc, hA6, by omega, hl, S6, acc ++ [z], ys ++ [u], us', ?_, n6, upd_same, (rA.mono ((x3.ss.trans x5.ss).trans x6.ss)).append (.cons hz .nil), by rw [List.length_append]; simp; omega, q9, by rw [qe]; simp⟩
            have xx := (x13.trans x5).trans x6
            exact ⟨xx.ss, same_upd2 xx.sh n6, fun b o e => by
              have ne : b ≠ L := fun z => by rw [z, hL] at e; cases e
              rw [upd_ne ne]
              exact xx.hh b o e, xx.fr⟩
  · rw [if_neg hlen] at q
    exact q.elim
variable {elt tg iter : Expr} {ifs : List Expr} {scope : Scope} {own : List (Str × Nat)} {pos spos : Pos} {c : Fr}
abbrev BX (X : Cx) (scope : Scope) (P : Cx → Prop) : Prop := ∀ (s : Shared) (H : Hp) (C : Addr) (cl : List (Str × Addr)) (fp : List Addr), P (X.blk s H scope (compEnvC scope cl C X.env) fp)
theorem ts_nil : PTs X [] (TB X.K cm W yesT) := ⟨fun pins s σ H Q I ⟨st, S, fp, r, k⟩ => pts_nil.run pins s σ H Q I (k.here r.sh)⟩
theorem ts_one {e : Expr} (h : PT X e (TB X.K cm W t)) : PTs X [e] (TB X.K cm W t) := pts_one h
theorem lc_frz {σ : Sg} {H : Hp} {Q : VK} (k : E X.K cm W (compE fi vs g t f) σ H Q) : tLc (IV X.K cm W fi) (GX X.K cm vs g) (TB X.K cm WF t) (E X.K cm WF f) vs σ H Q := by
  obtain ⟨st, S, fp, r, k⟩ := k
  refine comp_reads ⟨st, S, fp, r, ?_⟩
  replace k : Go X.K cm W (fun d S' H' => ∀ v, Rep X.K cm S' v d → Q v H') ((compR fi vs g t f st).bind fun ys => .ok (.lst ys)) S H σ := k
  cases q : compR fi vs g t f st with
  | bad => rw [q] at k; exact k
  | ex e => rw [q] at k; exact k
  | ok ys =>
    rw [q] at k
    intro H1 S1 x1 L acc hL s1 hA rA
    refine k H1 (upd S1 L (.lst acc)) ⟨x1.ss.trans (same_upd s1), fun b o e => ?_, x1.hh, fun b o e n => ?_⟩ _ (.lst upd_same (rA.mono (same_upd s1)))
    · by_cases hb : b = L
      · subst hb; rw [upd_same] at e; cases e; exact hA
      · rw [upd_ne hb] at e; exact x1.sh b o e
    · by_cases hb : b = L
      · subst hb; exact hL
      · rw [upd_ne hb] at e; exact x1.fr b o e n
theorem lc_own {σ : Sg} {H : Hp} {Q : VK} (k : EF X.K cm W (compF fi vs g t f) σ H Q) : tLc (IV X.K cm W fi) (GX X.K cm vs g) (TB X.K cm WF t) (E X.K cm WF f) vs σ H Q := by
  obtain ⟨st, S, fp, r, k⟩ := k
  refine comp_reads ⟨st, S, fp, r, ?_⟩
  replace k : Go X.K cm W (fun t S' H' => ∀ v fn, Own X.K cm S' H' t v fn → fn.Nodup → (∀ a ∈ fn, H a = none ∧ S' a = none) → Q v H') ((compR fi vs g t f st).bind fun ys => .ok (imT ys)) S H σ := k
  cases q : compR fi vs g t f st with
  | bad => rw [q] at k; exact k
  | ex e => rw [q] at k; exact k
  | ok ys =>
    rw [q] at k
    intro H1 S1 x1 L acc hL s1 hA rA
    refine k H1 S1 x1 _ [L] (.lst hA (own_imT rA)) (nodup1 L) fun b m => ?_
    have e : b = L := by simpa using m
    subst e
    exact ⟨hL, s1⟩
theorem e_lc (hi : PI X tg iter (IV X.K cm W fi)) (ok : BlkOk X.N X.env.scope scope own) (hg : BX X scope fun Y => PG Y tg (GX X.K cm (own.map (·.2)) g)) (ht : BX X scope fun Y => PTs Y ifs (TB X.K cm WF t)) (he : BX X scope fun Y => PE Y elt (E X.K cm WF f))
    (hN : X.N.Nodup) (hc : X.calm = true := by rfl) (hs : ∀ x, foldedSetIterable iter X.env x = pure x := by intro _; rfl) : PE X (.ListComp elt [⟨tg, iter, ifs, 0⟩] scope pos) (E X.K cm W (compE fi (own.map (·.2)) g t f)) :=
  (pe_lc hc hN hi ok hg ht he hs).imp fun σ H Q k => lc_frz k
/-- name = [..] -/
theorem s_setLc [Free W] {i : Nat} {y : Str} {py : Pos} (hN : X.N.Nodup) (hy : X.N[i]? = some y) (hyl : X.env.scope.names.lookup y = some .local) (hsw : swapsWith (.ListComp elt [⟨tg, iter, ifs, 0⟩] scope pos) (some (.Name y py)) spos.line X.env = pure true)
    (hi : PI X tg iter (IV X.K cm W fi)) (ok : BlkOk X.N X.env.scope scope own) (hg : BX X scope fun Y => PG Y tg (GX X.K cm (own.map (·.2)) g)) (ht : BX X scope fun Y => PTs Y ifs (TB X.K cm WF t)) (he : BX X scope fun Y => PE Y elt (E X.K cm WF f))
    (hc : X.calm = true := by rfl) (hs : ∀ x, foldedSetIterable iter X.env x = pure x := by intro _; rfl) (hfx : c.fix i = none := by rfl) : PS X (.Assign [.Name y py] (.ListComp elt [⟨tg, iter, ifs, 0⟩] scope pos) spos) (SX X.K cm W c (setS i (compE fi (own.map (·.2)) g t f))) :=
  (ps_setLc hc hN hy hyl hsw hi ok hg ht he hs).imp fun D σ H ⟨st, S, fp, r, p⟩ => lc_frz ⟨st, S, fp, r.rx, Post.go r p fun d S' H' x q v hv => by
    obtain ⟨fp', r'⟩ := (r.ext x).set_im hv hfx
    exact q _ H' r'.on⟩
theorem s_setLcF [Free W] {i : Nat} {y : Str} {py : Pos} (hN : X.N.Nodup) (hy : X.N[i]? = some y) (hyl : X.env.scope.names.lookup y = some .local) (hsw : swapsWith (.ListComp elt [⟨tg, iter, ifs, 0⟩] scope pos) (some (.Name y py)) spos.line X.env = pure true)
    (hi : PI X tg iter (IV X.K cm W fi)) (ok : BlkOk X.N X.env.scope scope own) (hg : BX X scope fun Y => PG Y tg (GX X.K cm (own.map (·.2)) g)) (ht : BX X scope fun Y => PTs Y ifs (TB X.K cm WF t)) (he : BX X scope fun Y => PE Y elt (E X.K cm WF f))
    (hc : X.calm = true := by rfl) (hs : ∀ x, foldedSetIterable iter X.env x = pure x := by intro _; rfl) (hfx : c.fix i = none := by rfl) : PS X (.Assign [.Name y py] (.ListComp elt [⟨tg, iter, ifs, 0⟩] scope pos) spos) (SX X.K cm W c (setF i (compF fi (own.map (·.2)) g t f))) :=
  (ps_setLc hc hN hy hyl hsw hi ok hg ht he hs).imp fun D σ H ⟨st, S, fp, r, p⟩ => lc_own ⟨st, S, fp, r.rx, Post.go r p fun t S' H' x q v fn hv nd fo => by
    have r2 := r.ext x
    obtain ⟨fp', a, b⟩ := r2.rx.set_ow hv nd (fun a m1 m2 => r.rx.sls.there a m2 (fo a m1).1) (fun a m => (fo a m).2) i
    refine q _ H' (RR.on ⟨a, r2.xt, fun y m => ?_, fx_set r2.fx hfx⟩)
    rcases b y m with m | m
    · exact r2.fr y m
    · exact r.xt.hh.free (fo y m).1⟩
end
end DI
end
section
set_option Elab.async false
set_option linter.all false
set_option maxRecDepth 100000
set_option maxHeartbeats 2000000
/-! DI: what is under construction: changed, frozen. -/
namespace DI
open PySem PySem.Spec PyProof.Rows L2
section
variable {K : PySem.W.Frag} {cm : CM} {S S' H H' : Hp} {σ : Sg} {st : LS} {fp : List Addr} {c : Fr}
/-- one slot apart from the others -/
theorem Sls.split {t : T} : ∀ {σ : Sg} {st : LS} {fp : List Addr} {i : Nat}, Sls K cm S H σ st fp → st[i]? = some (some t) → fp.Nodup →
    ∃ (v : V) (f g : List Addr), σ[i]? = some (some v) ∧ Own K cm S H t v f ∧ f.Nodup ∧ (∀ a ∈ f, a ∈ fp) ∧ (∀ a ∈ g, a ∈ fp) ∧ (∀ a ∈ f, a ∉ g) ∧
      ∀ (S' H' : Hp) (t' : T) (f' : List Addr), Same S S' → (∀ a ∈ g, H' a = H a) → Own K cm S' H' t' v f' → f'.Nodup → (∀ a ∈ f', a ∉ g) → ∃ fp', Sls K cm S' H' σ (st.set i (some t')) fp' ∧ fp'.Nodup ∧ ∀ a ∈ fp', a ∈ g ∨ a ∈ f'
  | _, _, _, i, .nil, e, _ => by simp at e
  | _, _, _, 0, .no h, e, _ => by simp at e
  | _, _, _, i + 1, .no h, e, n => by
    obtain ⟨v, f, g, h1, h2, h3, h4, h5, h6, h7⟩ := Sls.split (i := i) h (by simpa using e) n
    exact ⟨v, f, g, by simpa using h1, h2, h3, h4, h5, h6, fun S' H' t' f' a b d e1 e2 => by
      obtain ⟨fp', x, y, z⟩ := h7 S' H' t' f' a b d e1 e2
      exact ⟨fp', .no x, y, z⟩⟩
  | _, _, _, 0, .yes (f1 := f1) (fp := fp) (σ := σ) (st := st) h hs, e, n => by
    simp at e
    subst e
    obtain ⟨n1, n2, n3⟩ := List.nodup_append.mp n
    refine ⟨_, f1, fp, rfl, h, n1, fun a m => List.mem_append_left _ m, fun a m => List.mem_append_right _ m, fun a m1 m2 => n3 a m1 a m2 rfl, fun S' H' t' f' a b d e1 e2 => ?_⟩
    exact ⟨f' ++ fp, .yes d (hs.mono a b), List.nodup_append.mpr ⟨e1, n2, fun x hx y hy z => e2 x hx (z ▸ hy)⟩, fun x m => (List.mem_append.mp m).elim .inr .inl⟩
  | _, _, _, i + 1, .yes (v := v0) (t := t0) (f1 := f1) (fp := fp) (σ := σ) (st := st) h hs, e, n => by
    obtain ⟨n1, n2, n3⟩ := List.nodup_append.mp n
    obtain ⟨v, f, g, h1, h2, h3, h4, h5, h6, h7⟩ := Sls.split (i := i) hs (by simpa using e) n2
    refine ⟨v, f, f1 ++ g, by simpa using h1, h2, h3, fun a m => List.mem_append_right _ (h4 a m), fun a m => (List.mem_append.mp m).elim (List.mem_append_left _) fun m => List.mem_append_right _ (h5 a m), fun a m1 m2 => ?_, fun S' H' t' f' a b d e1 e2 => ?_⟩
    · rcases List.mem_append.mp m2 with m2 | m2
      · exact n3 a m2 a (h4 a m1) rfl
      · exact h6 a m1 m2
    · obtain ⟨fp', x, y, z⟩ := h7 S' H' t' f' a (fun q m => b q (List.mem_append_right _ m)) d e1 (fun q m1 m2 => e2 q m1 (List.mem_append_right _ m2))
      refine ⟨f1 ++ fp', .yes (h.mono a fun q m => b q (List.mem_append_left _ m)) x, List.nodup_append.mpr ⟨n1, y, fun q hq w hw ew => ?_⟩, fun q m => ?_⟩
      · rcases z w hw with m | m
        · exact n3 q hq w (h5 w m) ew
        · exact e2 w m (List.mem_append_left _ (ew ▸ hq))
      · rcases List.mem_append.mp m with m | m
        · exact .inl (List.mem_append_left _ m)
        · exact (z q m).elim (fun m => .inl (List.mem_append_right _ m)) .inr
/-- the node at a slot is changed -/
theorem RR.mut {t : T} {i : Nat} (r : RR K cm W c st S fp σ H) (h : st[i]? = some (some t)) : ∃ (v : V) (f : List Addr), σ[i]? = some (some v) ∧ Own K cm S H t v f ∧ f.Nodup ∧ (∀ a ∈ f, a ∈ fp) ∧
    ∀ (S' H' H2 : Hp) (t' : T) (f' : List Addr), Xt S S' H H' → (∀ a, a ∉ f → H2 a = H' a) → Own K cm S' H2 t' v f' → f'.Nodup → (∀ a ∈ f', a ∈ f ∨ (H a = none ∧ S' a = none)) → On K cm W c S' (st.set i (some t')) σ H2 := by
  obtain ⟨v, f, g, h1, h2, h3, h4, h5, h6, h7⟩ := r.rx.sls.split h r.rx.nd
  refine ⟨v, f, h1, h2, h3, h4, fun S' H' H2 t' f' x he ho nd hf => ?_⟩
  have r2 := r.ext x
  have th := r.rx.sls.there
  obtain ⟨fp', x1, x2, x3⟩ := h7 S' H2 t' f' x.ss (fun a m => by
    rw [he a fun z => h6 a z m]
    cases q : H a with
    | none => exact absurd q (th a (h5 a m))
    | some o => exact x.hh a o q) ho nd (fun a m1 m2 => by
    rcases hf a m1 with z | z
    · exact h6 a z m2
    · exact th a (h5 a m2) z.1)
  have out : ∀ {a : Addr} {o : HO} {G : Hp}, (∀ b ∈ fp, G b = none) → G a = some o → a ∉ f := fun {a o G} hG e m => by
    rw [hG a (h4 a m)] at e
    cases e
  refine ⟨S', fp', Same.refl S', ⟨⟨fun a o e => ?_, x1, x2, fun a m => ?_, r2.rx.hd⟩, ⟨r2.xt.ss, fun a o e => ?_, fun a o e => ?_, r2.xt.fr⟩, fun a m => ?_, r.fx⟩⟩
  · rw [he a (out r2.rx.out e)]; exact x.sh a o e
  · rcases x3 a m with m | m
    · exact r2.rx.out a (h5 a m)
    · exact (hf a m).elim (fun z => r2.rx.out a (h4 a z)) fun z => z.2
  · rw [he a (out r2.rx.out e)]; exact x.sh a o e
  · rw [he a (out r2.fr e)]; exact r2.xt.hh a o e
  · rcases x3 a m with m | m
    · exact r2.fr a (h5 a m)
    · exact (hf a m).elim (fun z => r2.fr a (h4 a z)) fun z => r.xt.hh.free z.1
/-! ### freezing -/
mutual
def T.toD : T → D
  | .im d => d
  | .lst ts => .lst (T.toDs ts)
  | .ins c ds => .ins c ds
  | .dct ks ts => .dct false ks (T.toDs ts)
  | .nd ks ds => .nd ks ds
def T.toDs : List T → List D
  | [] => []
  | t :: ts => T.toD t :: T.toDs ts
end
mutual
theorem Own.rep (s : Same S S') : ∀ {t : T} {v : V} {f : List Addr}, (∀ a ∈ f, S' a = H a) → Own K cm S H t v f → Rep K cm S' v t.toD
  | _, _, _, k, .im h => by unfold T.toD; exact h.mono s
  | _, _, _, k, .lst h hs => by unfold T.toD; exact .lst ((k _ List.mem_cons_self).trans h) (OwnL.rep s (fun a m => k a (List.mem_cons_of_mem _ m)) hs)
  | _, _, _, k, .ins m h hs => by unfold T.toD; exact .ins m ((k _ List.mem_cons_self).trans h) (hs.mono s)
  | _, _, _, k, .dct h hl hn hs => by unfold T.toD; exact .dct (l := false) ((k _ List.mem_cons_self).trans h) hl hn (OwnL.rep s (fun a m => k a (List.mem_cons_of_mem _ m)) hs)
  | _, _, _, k, .nd h hk he hl hs => by unfold T.toD; exact .nd ((k _ List.mem_cons_self).trans h) (hk.mono s) he hl (hs.mono s)
theorem OwnL.rep (s : Same S S') : ∀ {ts : List T} {vs : List V} {f : List Addr}, (∀ a ∈ f, S' a = H a) → OwnL K cm S H ts vs f → RepL K cm S' vs (T.toDs ts)
  | _, _, _, k, .nil => by unfold T.toDs; exact .nil
  | _, _, _, k, .cons h hs => by unfold T.toDs; exact .cons (Own.rep s (fun a m => k a (List.mem_append_left _ m)) h) (OwnL.rep s (fun a m => k a (List.mem_append_right _ m)) hs)
end
/-- the nodes f stand for good from now on -/
def frzH (S H : Hp) (f : List Addr) : Hp := fun a => if a ∈ f then H a else S a
theorem frzH_in {f : List Addr} {a : Addr} (m : a ∈ f) : frzH S H f a = H a := if_pos m
theorem frzH_out {f : List Addr} {a : Addr} (m : a ∉ f) : frzH S H f a = S a := if_neg m
theorem frzH_same {f : List Addr} (sh : Same S H) : Same S (frzH S H f) := fun a o e => by
  by_cases m : a ∈ f
  · rw [frzH_in m]; exact sh a o e
  · rw [frzH_out m]; exact e
theorem frzH_sub {f : List Addr} (sh : Same S H) : Same (frzH S H f) H := fun a o e => by
  by_cases m : a ∈ f
  · rw [frzH_in m] at e; exact e
  · rw [frzH_out m] at e; exact sh a o e
end
def frz (i : Nat) (st : LS) : LS := match st[i]? with
  | some (some t) => st.set i (some (.im t.toD))
  | _ => st
section
variable {K : PySem.W.Frag} {cm : CM} {S S' H H' : Hp} {σ : Sg} {st : LS} {fp : List Addr} {c : Fr}
theorem RR.frz (r : RR K cm W c st S fp σ H) (i : Nat) : On K cm W c S (frz i st) σ H := by
  unfold DI.frz
  split
  · rename_i t h
    obtain ⟨v, f, g, h1, h2, h3, h4, h5, h6, h7⟩ := r.rx.sls.split h r.rx.nd
    have s1 : Same S (frzH S H f) := frzH_same r.rx.sh
    have hv := h2.rep s1 (fun a m => frzH_in m)
    obtain ⟨fp', x1, x2, x3⟩ := h7 (frzH S H f) H (.im t.toD) [] s1 (fun _ _ => rfl) (.im hv) List.nodup_nil (fun _ m => nomatch m)
    have x4 : ∀ a ∈ fp', a ∈ g := fun a m => (x3 a m).elim id fun z => nomatch z
    refine ⟨frzH S H f, fp', s1, ⟨⟨frzH_sub r.rx.sh, x1, x2, fun a m => ?_, W.mono s1 r.rx.hd⟩, ⟨r.xt.ss.trans s1, frzH_sub r.rx.sh, r.xt.hh, fun a o e n => ?_⟩, fun a m => r.fr a (h5 a (x4 a m)), r.fx⟩⟩
    · rw [frzH_out fun z => h6 a z (x4 a m)]
      exact r.rx.out a (h5 a (x4 a m))
    · by_cases m : a ∈ f
      · exact r.fr a (h4 a m)
      · rw [frzH_out m] at e
        exact r.xt.fr a o e n
  · exact r.on
end
section
variable {X : Cx} {cm : CM} {W : WH} {c : Fr} {pos p1 p2 p3 p4 : Pos} {F : LS → Out} {s : Stmt} {e eo ei : Expr} {x : Str} {i : Nat}
theorem s_frz (i : Nat) (h : PS X s (SX X.K cm W c F)) : PS X s (SX X.K cm W c fun st => F (frz i st)) := h.imp fun D σ H ⟨st, S, fp, r, p⟩ => by
  obtain ⟨S', fp', a, b⟩ := r.frz i
  exact ⟨_, S', fp', b, Post.mono a p⟩
theorem f_e {f : LS → R D} (h : PE X e (E X.K cm W f)) : PE X e (EF X.K cm W fun st => (f st).bind fun d => .ok (.im d)) := h.imp fun σ H Q ⟨st, S, fp, r, k⟩ => ⟨st, S, fp, r, k.bind.mono fun d S1 H1 x1 k1 v hv =>
  k1.here x1.sh v [] (.im hv) List.nodup_nil fun _ m => nomatch m⟩
/-! ### x.append(e) -/
def ownL : Option (Option T) → Option (List T)
  | some (some (.lst ts)) => some ts
  | _ => none
theorem ownL_some {o : Option (Option T)} {ts : List T} (h : ownL o = some ts) : o = some (some (.lst ts)) := by
  unfold ownL at h
  split at h
  · cases h; rfl
  · cases h
def appS (i : Nat) (f : LS → R T) : LS → Out := fun st => match ownL st[i]? with
  | none => .bad
  | some ts => (f st).out st fun t => if ts.length < sizeLine then .nx (st.set i (some (.lst (ts ++ [t])))) else .bad
theorem OwnL.length {K : PySem.W.Frag} {S H : Hp} : ∀ {ts : List T} {vs : List V} {f : List Addr}, OwnL K cm S H ts vs f → vs.length = ts.length
  | _, _, _, .nil => rfl
  | _, _, _, .cons _ hs => by rw [List.length_cons, List.length_cons, OwnL.length hs]
theorem OwnL.snoc {K : PySem.W.Frag} {S H : Hp} {t : T} {v : V} {f2 : List Addr} (o : Own K cm S H t v f2) : ∀ {ts : List T} {vs : List V} {f : List Addr}, OwnL K cm S H ts vs f → OwnL K cm S H (ts ++ [t]) (vs ++ [v]) (f ++ f2)
  | _, _, _, .nil => by
    have := OwnL.cons o OwnL.nil
    rw [List.append_nil] at this
    exact this
  | _, _, _, .cons h hs => by
    rw [List.append_assoc]
    exact .cons h (OwnL.snoc o hs)
theorem own_upd {K : PySem.W.Frag} {S H : Hp} {a : Addr} {o : HO} {t : T} {v : V} {f : List Addr} (n : a ∉ f) (h : Own K cm S H t v f) : Own K cm S (upd H a o) t v f := h.mono (Same.refl S) fun b m => upd_ne fun z => n (z ▸ m)
theorem ownL_upd {K : PySem.W.Frag} {S H : Hp} {a : Addr} {o : HO} {ts : List T} {vs : List V} {f : List Addr} (n : a ∉ f) (h : OwnL K cm S H ts vs f) : OwnL K cm S (upd H a o) ts vs f := h.mono (Same.refl S) fun b m => upd_ne fun z => n (z ▸ m)
theorem Own.ext {K : PySem.W.Frag} {S S' H H' : Hp} {t : T} {v : V} {f : List Addr} (h : Own K cm S H t v f) (x : Xt S S' H H') : Own K cm S' H' t v f := h.mono x.ss fun a m => by
  cases q : H a with
  | none => exact absurd q (h.there a m)
  | some o => exact x.hh a o q
theorem OwnL.ext {K : PySem.W.Frag} {S S' H H' : Hp} {t : List T} {v : List V} {f : List Addr} (h : OwnL K cm S H t v f) (x : Xt S S' H H') : OwnL K cm S' H' t v f := h.mono x.ss fun a m => by
  cases q : H a with
  | none => exact absurd q (h.there a m)
  | some o => exact x.hh a o q
theorem s_app {f : LS → R T} (h : PE X e (tBM X.K "list" rAppend (tVar i) (tCons (EF X.K cm W f) tNil))) (hs : swapsWith e none pos.line X.env = pure false := by rfl) : PS X (.Expr e pos) (SX X.K cm W c (appS i f)) := (ps_expr h hs).imp fun D σ H ⟨st, S, fp, r, p⟩ => by
  replace p : Post X.K cm W c D S (match ownL st[i]? with
    | none => .bad
    | some ts => (f st).out st fun t => if ts.length < sizeLine then .nx (st.set i (some (.lst (ts ++ [t])))) else .bad) := p
  cases q : ownL st[i]? with
  | none => rw [q] at p; exact p.elim
  | some ts =>
    rw [q] at p
    obtain ⟨v, f1, h1, h2, h3, h4, h5⟩ := r.mut (ownL_some q)
    cases h2 with
    | @lst a vs _ f2 ha hts =>
      obtain ⟨n1, n2⟩ := List.nodup_cons.mp h3
      refine ⟨.ref a, h1, .inl ⟨rfl, vs, SqL.of ha⟩, st, S, fp, r.rx, Post.go r p fun t S' H' x q v fn hv nd fo => ?_⟩
      split at q
      · rename_i hl
        have ha' := x.hh _ _ ha
        have afn : a ∉ fn := fun m => by
          rw [(fo a m).1] at ha
          cases ha
        refine ⟨a, vs, v, rfl, rfl, ha', by rw [hts.length]; exact hl, ?_⟩
        have th : ∀ b ∈ f2, H b ≠ none := hts.there
        refine q σ _ (h5 S' H' _ _ _ x (fun b n => upd_ne fun z => n (z ▸ List.mem_cons_self)) (.lst upd_same (OwnL.snoc (own_upd afn hv) (ownL_upd n1 (hts.ext x)))) (List.nodup_cons.mpr ⟨fun m => (List.mem_append.mp m).elim n1 afn, List.nodup_append.mpr ⟨n2, nd, fun b hb d hd z => ?_⟩⟩) fun b m => ?_)
        · subst z
          exact th b hb (fo b hd).1
        · rcases List.mem_cons.mp m with m | m
          · exact .inl (by rw [m]; exact List.mem_cons_self)
          · exact (List.mem_append.mp m).elim (fun m => .inl (List.mem_cons_of_mem _ m)) fun m => .inr (fo b m)
      · exact q.elim
/-! ### x[e] = v -/
/-- one item apart -/
theorem OwnL.split {K : PySem.W.Frag} {S H : Hp} {t : T} : ∀ {ts : List T} {vs : List V} {fp : List Addr} {i : Nat}, OwnL K cm S H ts vs fp → ts[i]? = some t → fp.Nodup →
    ∃ (v : V) (f g : List Addr), vs[i]? = some v ∧ Own K cm S H t v f ∧ f.Nodup ∧ (∀ a ∈ f, a ∈ fp) ∧ (∀ a ∈ g, a ∈ fp) ∧ (∀ a ∈ f, a ∉ g) ∧
      ∀ (S' H' : Hp) (t' : T) (v' : V) (f' : List Addr), Same S S' → (∀ a ∈ g, H' a = H a) → Own K cm S' H' t' v' f' → f'.Nodup → (∀ a ∈ f', a ∉ g) → ∃ fp', OwnL K cm S' H' (ts.set i t') (vs.set i v') fp' ∧ fp'.Nodup ∧ ∀ a ∈ fp', a ∈ g ∨ a ∈ f'
  | _, _, _, i, .nil, e, _ => by simp at e
  | _, _, _, 0, .cons (f1 := f1) (f2 := f2) h hs, e, n => by
    simp at e
    subst e
    obtain ⟨n1, n2, n3⟩ := List.nodup_append.mp n
    refine ⟨_, f1, f2, rfl, h, n1, fun a m => List.mem_append_left _ m, fun a m => List.mem_append_right _ m, fun a m1 m2 => n3 a m1 a m2 rfl, fun S' H' t' v' f' a b d e1 e2 => ?_⟩
    exact ⟨f' ++ f2, .cons d (hs.mono a b), List.nodup_append.mpr ⟨e1, n2, fun x hx y hy z => e2 x hx (z ▸ hy)⟩, fun x m => (List.mem_append.mp m).elim .inr .inl⟩
  | _, _, _, i + 1, .cons (f1 := f1) (f2 := f2) h hs, e, n => by
    obtain ⟨n1, n2, n3⟩ := List.nodup_append.mp n
    obtain ⟨v, f, g, h1, h2, h3, h4, h5, h6, h7⟩ := OwnL.split (i := i) hs (by simpa using e) n2
    refine ⟨v, f, f1 ++ g, by simpa using h1, h2, h3, fun a m => List.mem_append_right _ (h4 a m), fun a m => (List.mem_append.mp m).elim (List.mem_append_left _) fun m => List.mem_append_right _ (h5 a m), fun a m1 m2 => ?_, fun S' H' t' v' f' a b d e1 e2 => ?_⟩
    · rcases List.mem_append.mp m2 with m2 | m2
      · exact n3 a m2 a (h4 a m1) rfl
      · exact h6 a m1 m2
    · obtain ⟨fp', x, y, z⟩ := h7 S' H' t' v' f' a (fun q m => b q (List.mem_append_right _ m)) d e1 (fun q m1 m2 => e2 q m1 (List.mem_append_right _ m2))
      refine ⟨f1 ++ fp', .cons (h.mono a fun q m => b q (List.mem_append_left _ m)) x, List.nodup_append.mpr ⟨n1, y, fun q hq w hw ew => ?_⟩, fun q m => ?_⟩
      · rcases z w hw with m | m
        · exact n3 q hq w (h5 w m) ew
        · exact e2 w m (List.mem_append_left _ (ew ▸ hq))
      · rcases List.mem_append.mp m with m | m
        · exact .inl (List.mem_append_left _ m)
        · exact (z q m).elim (fun m => .inl (List.mem_append_right _ m)) .inr
theorem ixN_lt {n : Nat} {i : Int} {j : Nat} (h : ixN n i = some j) : j < n := (ixN_seq h).2.1
/-- the place that an index names -/
def placeD (n : Nat) (d : D) : Option Nat := (dInt d).bind fun i => ixN n i
def setIS (i : Nat) (f : LS → R T) (g : LS → R D) : LS → Out := fun st => match ownL st[i]? with
  | none => .bad
  | some ts => (f st).out st fun t => (g st).out st fun d => match placeD ts.length d with
    | some j => .nx (st.set i (some (.lst (ts.set j t))))
    | none => .bad
theorem s_setI {f : LS → R T} {g : LS → R D} {tg : Expr} (he : PE X e (EF X.K cm W f)) (hg : PG X tg (gSub (tVar i) (VE X.K cm W g) rSetL)) (hs : swapsWithSole [tg] e pos.line X.env = pure false := by rfl) (hw : swappedStores [tg] e X.env = pure none := by rfl)
    (h1 : (assignEach [tg] X.env).map (·.2) = [assign tg X.env] := by rfl) : PS X (.Assign [tg] e pos) (SX X.K cm W c (setIS i f g)) := (ps_asg he hg hs hw h1).imp fun D σ H ⟨st, S, fp, r, p⟩ => by
  replace p : Post X.K cm W c D S (match ownL st[i]? with
    | none => .bad
    | some ts => (f st).out st fun t => (g st).out st fun d => match placeD ts.length d with
      | some j => .nx (st.set i (some (.lst (ts.set j t))))
      | none => .bad) := p
  cases q : ownL st[i]? with
  | none => rw [q] at p; exact p.elim
  | some ts =>
    rw [q] at p
    obtain ⟨v, f1, h1, h2, h3, h4, h5⟩ := r.mut (ownL_some q)
    cases h2 with
    | @lst a vs _ f2 ha hts =>
      obtain ⟨n1, n2⟩ := List.nodup_cons.mp h3
      refine ⟨st, S, fp, r.rx, Post.go r p fun t S1 H1 x1 q1 v fn hv nd fo => ⟨.ref a, h1, st, S1, fp, r.rx.ext x1, Post.go (r.ext x1) q1 fun d S2 H2 x2 q2 u hu => ?_⟩⟩
      have x := x1.trans x2
      cases q3 : placeD ts.length d with
      | none => rw [q3] at q2; exact q2.elim
      | some j =>
        rw [q3] at q2
        cases d <;> try (cases q3; done)
        case int k =>
          replace q3 : ixN ts.length k = some j := q3
          have afn : a ∉ fn := fun m => by
            rw [(fo a m).1] at ha
            cases ha
          have hj : j < ts.length := ixN_lt q3
          have o2 := hts.ext x
          obtain ⟨w, fw, gw, e1, e2, e3, e4, e5, e6, e7⟩ := o2.split (List.getElem?_eq_getElem hj) n2
          have th : ∀ b ∈ f2, H b ≠ none := hts.there
          obtain ⟨fz, z1, z2, z3⟩ := e7 S2 (upd H2 a (.lst (vs.set j v))) t v fn (Same.refl _) (fun b m => upd_ne fun z => n1 (z ▸ e5 b m)) (own_upd afn (hv.ext x2)) nd (fun b m1 m2 => th b (e5 b m2) (fo b m1).1)
          refine ⟨a, vs, k, j, rfl, hu.int, x.hh _ _ ha, by rw [hts.length]; exact q3, ?_⟩
          refine q2 σ _ (h5 S2 H2 _ _ (a :: fz) x (fun b n => upd_ne fun z => n (z ▸ List.mem_cons_self)) (.lst upd_same z1) (List.nodup_cons.mpr ⟨fun m => ?_, z2⟩) fun b m => ?_)
          · exact (z3 a m).elim (fun m => n1 (e5 a m)) afn
          · rcases List.mem_cons.mp m with m | m
            · exact .inl (by rw [m]; exact List.mem_cons_self)
            · rcases z3 b m with m | m
              · exact .inl (List.mem_cons_of_mem _ (e5 b m))
              · refine .inr ⟨(fo b m).1, ?_⟩
                cases q : S2 b with
                | none => rfl
                | some o =>
                  have := x.fr b o q (r.rx.sh.free (fo b m).1)
                  have z := x2.fr b o q (fo b m).2
                  have y := hv.there b m
                  rw [z] at y
                  exact absurd rfl y
/-! ### x[e] op= v -/
end
end DI
end
section
set_option Elab.async false
set_option linter.all false
set_option maxRecDepth 100000
set_option maxHeartbeats 2000000
/-! DI: defs and their calls. -/
namespace DI
open PySem PySem.Spec PyProof.Rows L2
/-- what a call leaves -/
def Fin (K : PySem.W.Frag) (cm : CM) (S H : Hp) (Q : VK) (E : XK) (r : R D) : Prop :=
  r.Res (fun d => ∀ v H' S', Xt S S' H H' → Rep K cm S' v d → Q v H') fun e => ∀ cls od H' S', Xt S S' H H' → RepX K cm S' cls od e → E cls od H'
/-- THE PROMISE of a def: it hands back what its denotation says; nothing that stood is changed -/
def spD (K : PySem.W.Frag) (cm : CM) (n : Nat) (F : List D → R D) : Sp := fun vs H Q E => vs.length = n ∧ ∃ S ds, Same S H ∧ RepL K cm S vs ds ∧ Fin K cm S H Q E (F ds)
/-- the denotation of a body -/
def Out.end : Out → R D
  | .bad => .bad
  | .nx _ => .ok .non
  | .rt d => .ok d
  | .bk _ => .bad
  | .ct _ => .bad
  | .ex _ e => .ex e
def st0 (n : Nat) (ds : List D) : LS := ds.map (fun d => some (T.im d)) ++ List.replicate (n - ds.length) none
/-- the denotation of a def: m slots in all -/
def den (m : Nat) (F : LS → Out) (ds : List D) : R D := (F (st0 m ds)).end
section
variable {K : PySem.W.Frag} {cm : CM} {S H : Hp}
theorem sls_none : ∀ n : Nat, Sls K cm S H (List.replicate n none) (List.replicate n none) []
  | 0 => .nil
  | n + 1 => by rw [List.replicate_succ, List.replicate_succ]; exact .no (sls_none n)
theorem sls_start (n : Nat) : ∀ {vs : List V} {ds : List D}, RepL K cm S vs ds → Sls K cm S H (vs.map some ++ List.replicate n none) (ds.map (fun d => some (T.im d)) ++ List.replicate n none) []
  | _, _, .nil => sls_none n
  | _, _, .cons h hs => .yes (f1 := []) (.im h) (sls_start n hs)
end
section
variable {P : Program} {w : World} {K : PySem.W.Frag} {mg : Str → Option Value} {base : Heap} {cm : CM} {x qual : Str} {params : Arguments} {body : List Stmt} {scope : Scope} {dvs : List V} {kws : List (Str × V)} {f : Addr} {fd : FuncData} {N ps : List Str} {k : Nat}
/-- a def's body read as a denotation: the def keeps its promise -/
theorem fn_ok {F : LS → Out} (Fd : FunD K x qual params body scope dvs kws f fd) (Sc : FnScope N ps scope)
    (hb : ∀ (cdv : Value) (A : Around) (outer : List Env) (s : Shared) (H : Hp) (E : XK) (S0 F0 : Hp), Room k (A.deeper (envOfC qual scope s.heap.objs.size f cdv)) →
      Takes (cxOf (L2.CX P w) P w K mg base N qual scope f cdv A outer s H E) (fun cls d _ H => E cls d H) →
      PSs (cxOf (L2.CX P w) P w K mg base N qual scope f cdv A outer s H E) body (SX K cm (wt fun cls d _ H => E cls d H) ⟨S0, F0, noFix⟩ F)) :
    FnOk P w K mg base (L2.CX P w) (k + 1) f fd ps (spD K cm ps.length (den N.length F)) := by
  refine Fd.ok Sc (fun vs H Q E h => h.1) fun cdv A outer s H vs Q E hr ⟨hl, S, ds, sh, hv, fin⟩ => ?_
  refine ⟨_, hb cdv A outer s H E S H hr (takes_of rfl rfl rfl rfl), st0 N.length ds, S, [], ⟨⟨sh, ?_, List.nodup_nil, fun _ m => (nomatch m), trivial⟩, Xt.refl sh, fun _ m => (nomatch m), fun _ _ z => (nomatch z)⟩, ?_⟩
  · unfold L2.start st0
    rw [hv.length]
    exact sls_start _ hv
  · replace fin : Fin K cm S H Q E (F (st0 N.length ds)).end := fin
    cases q : F (st0 N.length ds) with
    | bad => rw [q] at fin; exact fin
    | nx st => rw [q] at fin; exact fun σ H' ⟨S', fp, a, r⟩ => fin .non H' S' r.xt .non
    | rt d => rw [q] at fin; exact fun v H' S' a x r => fin v H' S' x r
    | bk st => rw [q] at fin; exact fin.elim
    | ct st => rw [q] at fin; exact fin.elim
    | ex st e => rw [q] at fin; exact fun cls od σ H' S' fp a r x => fin cls od H' S' r.xt x
end
/-! ### f(..) -/
section
variable {X : Cx} {cm : CM} {W : WH} {k n : Nat} {f : Addr} {fd : FuncData} {ps : List Str} {x : Str} {p pos : Pos} {e : Expr} {es : List Expr} {args : LS → R (List D)} {F : List D → R D} {dvs : List V} {dd : List D} {us : List Value}
def callU (F : List D → R D) (dd : List D) (args : LS → R (List D)) : LS → R D := fun st => (args st).bind fun ds => F (ds ++ dd)
theorem call_reads (hd : ∀ S, RepL X.K cm S dvs dd) (hn : ∀ ds, F ds ≠ .bad → ds.length = n) {σ : Sg} {H : Hp} {Q : VK} (k : E X.K cm W (callU F dd args) σ H Q) : tCallSD (spD X.K cm n F) dvs (WE W.w) (EA X.K cm W args) σ H Q := by
  obtain ⟨st, S, fp, r, k⟩ := k
  refine ⟨st, S, fp, r, k.bind.mono fun ds S1 H1 x1 k1 vs hv => ?_⟩
  have hv2 := hv.append (hd S1)
  refine ⟨?_, S1, ds ++ dd, x1.sh, hv2, ?_⟩
  · rw [hv2.length]
    refine hn _ fun e => ?_
    rw [e] at k1
    exact k1.elim
  · exact R.Res.mono k1 (fun d q v H' S' x2 hr => q H' S' x2 v hr) fun e q => q
/-- a denotation that wants so many arguments -/
def ar (n : Nat) (F : List D → R D) : List D → R D := fun ds => if ds.length = n then F ds else .bad
theorem ar_len {F : List D → R D} : ∀ ds, ar n F ds ≠ .bad → ds.length = n := fun ds h => by
  unfold ar at h
  split at h
  · assumption
  · exact absurd rfl h
theorem spD_ar {K : PySem.W.Frag} {vs : List V} {H : Hp} {Q : VK} {E : XK} (h : spD K cm n (ar n F) vs H Q E) : spD K cm n F vs H Q E := by
  obtain ⟨a, S, ds, b, c, d⟩ := h
  refine ⟨a, S, ds, b, c, ?_⟩
  unfold ar at d
  split at d
  · exact d
  · exact d.elim
theorem e_call (G : FnOk X.prog X.w X.K X.mg X.base (L2.CX X.prog X.w) k f fd ps (spD X.K cm n F)) (tk : Takes X W.w) (hr : Room k X.A) (hm : X.mg x = some (.ref f)) (hk : PySem.W.keepIn X.K (.ref f) = true) (hb : Binds X.K fd ps us) (hu : Vals dvs us) (hd : ∀ S, RepL X.K cm S dvs dd)
    (ha : PA X (e :: es) (EA X.K cm W args)) (hg : Gl X x := by rfl) (hdb : (x == ("__debug__" : Str)) = false := by decide) (he : starEach (e :: es) X.env = (false, eval e X.env) :: starEach es X.env := by rfl) (hpl : (backTo pos (starEach es X.env)).any (·.1) = false := by rfl) :
    PE X (.Call (.Name x p) (e :: es) [] pos) (E X.K cm W (callU (ar n F) dd args)) :=
  (pe_callSD (G.imp fun vs H Q E h => spD_ar h) hr hg hm hk hb hu (fun σ => passAt tk σ) ha hdb he hpl).imp fun σ H Q k => call_reads hd ar_len k
end
/-! ### __init__ -/
/-- THE PROMISE of an __init__: the fields of the instance -/
def spI (K : PySem.W.Frag) (cm : CM) (c n : Nat) (F : List D → R (List D)) : Sp := fun vs H Q E => vs.length = n + 1 ∧ ∃ (x dx : Addr) (ws : List V) (S : Hp) (ds : List D), vs = .ref x :: ws ∧ Same S H ∧ S x = none ∧ H x = some (.ins (cm.addr c) dx []) ∧ RepL K cm S ws ds ∧
  (F ds).Res (fun fs => ∀ H' S' us dx', Xt S S' (fun a => if a = x then none else H a) H' → S' x = none → H' x = some (.ins (cm.addr c) dx' ((cm.names c).zip us)) → RepL K cm S' us fs → Q .non H')
    fun e => ∀ cls od H' S', Xt S S' (fun a => if a = x then none else H a) H' → RepX K cm S' cls od e → E cls od H'
/-- slot 0 is the instance -/
def stI (n c : Nat) (ds : List D) : LS := some (T.ins c []) :: (ds.map (fun d => some (T.im d)) ++ List.replicate (n - 1 - ds.length) none)
def Out.endI (c : Nat) : Out → R (List D)
  | .nx st => (match st[0]? with
    | some (some (T.ins c' fs)) => if c' = c then .ok fs else .bad
    | _ => .bad)
  | .ex _ e => .ex e
  | _ => .bad
def denI (m c : Nat) (F : LS → Out) (ds : List D) : R (List D) := (F (stI m c ds)).endI c
section
variable {P : Program} {w : World} {K : PySem.W.Frag} {mg : Str → Option Value} {base : Heap} {cm : CM} {x qual : Str} {params : Arguments} {body : List Stmt} {scope : Scope} {dvs : List V} {kws : List (Str × V)} {f : Addr} {fd : FuncData} {N ps : List Str} {k c n : Nat}
theorem init_ok {F : LS → Out} (hcm : c ∈ cm.cls) (Fd : FunD K x qual params body scope dvs kws f fd) (Sc : FnScope N ps scope) (hn : ps.length = n + 1)
    (hb : ∀ (cdv : Value) (A : Around) (outer : List Env) (s : Shared) (H : Hp) (E : XK) (S0 F0 : Hp) (x : Addr), Room k (A.deeper (envOfC qual scope s.heap.objs.size f cdv)) →
      Takes (cxOf (L2.CX P w) P w K mg base N qual scope f cdv A outer s H E) (fun cls d _ H => E cls d H) →
      PSs (cxOf (L2.CX P w) P w K mg base N qual scope f cdv A outer s H E) body (SX K cm (wt fun cls d _ H => E cls d H) ⟨S0, F0, fix0 x⟩ F)) :
    FnOk P w K mg base (L2.CX P w) (k + 1) f fd ps (spI K cm c n (denI N.length c F)) := by
  refine Fd.ok Sc (fun vs H Q E h => h.1.trans hn.symm) fun cdv A outer s H vs Q E hr ⟨hl, x, dx, ws, S, ds, e, sh, sx, hx, hv, fin⟩ => ?_
  subst e
  refine ⟨_, hb cdv A outer s H E S (fun a => if a = x then none else H a) x hr (takes_of rfl rfl rfl rfl), stI N.length c ds, S, [x], ⟨⟨sh, ?_, nodup1 x, fun a m => ?_, trivial⟩, ⟨Same.refl S, sh, fun a o q => ?_, fun a o q z => ?_⟩, fun a m => ?_, fun i v z => ?_⟩, ?_⟩
  · unfold L2.start stI
    have e1 : N.length - (V.ref x :: ws).length = N.length - 1 - ds.length := by rw [List.length_cons, hv.length]; omega
    rw [e1]
    have hx0 : H x = some (.ins (cm.addr c) dx ((cm.names c).zip [])) := by rw [hx]; simp
    exact Sls.yes (f1 := [x]) (.ins hcm hx0 .nil) (sls_start _ hv)
  · have e : a = x := by simpa using m
    rw [e]; exact sx
  · replace q : (if a = x then none else H a) = some o := q
    by_cases e : a = x
    · rw [if_pos e] at q; cases q
    · rw [if_neg e] at q; exact q
  · replace z : S a = none := z
    rw [z] at q; cases q
  · have e : a = x := by simpa using m
    exact if_pos e
  · replace z : (if i = 0 then some (V.ref x) else none) = some v := z
    split at z
    · rename_i e
      subst e
      cases z
      rfl
    · cases z
  · unfold denI at fin
    cases q : F (stI N.length c ds) with
    | bad => rw [q] at fin; exact fin.elim
    | rt d => rw [q] at fin; exact fin.elim
    | bk st => rw [q] at fin; exact fin.elim
    | ct st => rw [q] at fin; exact fin.elim
    | ex st e => rw [q] at fin; exact fun cls od σ H' S' fp a r x => fin cls od H' S' r.xt x
    | nx st =>
      rw [q] at fin
      intro σ H' ⟨S', fp, a, r⟩
      replace fin : (match st[0]? with
        | some (some (T.ins c' fs)) => if c' = c then R.ok fs else .bad
        | _ => .bad).Res _ _ := fin
      split at fin
      · rename_i c' fs e0
        split at fin
        · rename_i ec
          subst ec
          obtain ⟨v, f1, h1, h2, h3⟩ := r.rx.sls.get e0
          have h4 := r.fx 0 (.ref x) rfl
          rw [h4] at h1
          cases h1
          cases h2 with
          | ins _ h5 h6 => exact fin H' S' _ _ r.xt (r.rx.out x (h3 x List.mem_cons_self)) h5 h6
        · exact fin.elim
      · exact fin.elim
end
/-! ### C(..) -/
section
variable {X : Cx} {cm : CM} {W : WH} {k n c : Nat} {f : Addr} {fd : FuncData} {ps : List Str} {x : Str} {p pos : Pos} {e : Expr} {es : List Expr} {args : LS → R (List D)} {F : List D → R (List D)} {dvs : List V} {dd : List D} {us : List Value}
def makeU (c : Nat) (F : List D → R (List D)) (dd : List D) (args : LS → R (List D)) : LS → R D := fun st => (args st).bind fun ds => (F (ds ++ dd)).bind fun fs => .ok (.ins c fs)
def arI (n : Nat) (F : List D → R (List D)) : List D → R (List D) := fun ds => if ds.length = n then F ds else .bad
/-- C(..): what is raised is wished for at the caller's slots -/
def tMakeS (C : Addr) (sp : Sp) (dvs : List V) (E : Sg → XK) (t : TA) : TE := fun σ H Q => t σ H fun vs H1 => ∀ x dx, H1 x = none → H1 dx = none → dx ≠ x →
  sp (.ref x :: (vs ++ dvs)) (upd (upd H1 dx (.own x)) x (.ins C dx [])) (fun v H2 => v = .non ∧ Q (.ref x) H2) (E σ)
theorem makeS_run {pins : List (Addr × Obj)} {τ : Sg} {G : Hp} {z : Shared} {Q : VK} {as : List Value} {ws : List V} {sp : Sp} {C : Addr} {E : Sg → XK} (M : Mk X.K C f) (Fo : FnOk X.prog X.w X.K X.mg X.base (L2.CX X.prog X.w) k f fd ps sp) (room : Room (k + 1) X.A)
    (bi : Binds X.K fd ps us) (dv : Vals dvs us) (ha : PassesAt (L2.CX X.prog X.w) X τ (E τ)) (J : Inv X pins τ G z) (rel : Vals ws as)
    (ask : ∀ x dx, G x = none → G dx = none → dx ≠ x → sp (.ref x :: (ws ++ dvs)) (upd (upd G dx (.own x)) x (.ins C dx [])) (fun v H2 => v = .non ∧ Q (.ref x) H2) (E τ)) :
    wpAny (model X.prog X.w) X.A (call (.ref C) as) (EP X pins τ Q) X.xe z := by
  have asked := ask (z.heap.objs.size + 1) z.heap.objs.size (J.hok.fresh (Nat.le_succ _)) (J.hok.fresh (Nat.le_refl _)) (Nat.ne_of_lt (Nat.lt_succ_self _))
  have J2 := Inv.made (C := C) J
  have rel2 : Vals (V.ref (z.heap.objs.size + 1) :: (ws ++ dvs)) (Value.ref (z.heap.objs.size + 1) :: (as ++ us)) := .cons rfl (rel.append dv)
  have many : (Value.ref (z.heap.objs.size + 1) :: as ++ us).length = ps.length := (rel2.length.symm.trans (Fo.len _ _ _ _ asked))
  refine wpAny_call (make_map (f := f) J.kIn M.makes M.init (beq_iff_eq.mp M.fn) (codeAny_mono (Fo.run _ X.stack _ _ ⟨Value.ref (z.heap.objs.size + 1) :: as, []⟩ (Value.ref (z.heap.objs.size + 1) :: (as ++ us)) _ _ (E τ) (room.make C as [])
    (J2.env0.make C as []) (bi _ (Value.ref (z.heap.objs.size + 1) :: as) J2.kIn many) rel2 asked) fun out z' got => ?_))
  cases out with
  | error err => exact ha pins _ _ err z' J2 got
  | ok way =>
    cases way <;> try (exact False.elim got)
    obtain ⟨b, G', J3, rb, eb, goal⟩ := J2.after got
    subst eb
    exact ⟨rb, ⟨V.ref (z.heap.objs.size + 1), G', J3, rfl, goal⟩⟩
theorem pe_makeS {C : Addr} {sp : Sp} {t : TA} {E : Sg → XK} (M : Mk X.K C f) (Fo : FnOk X.prog X.w X.K X.mg X.base (L2.CX X.prog X.w) k f fd ps sp) (room : Room (k + 1) X.A) (hm : X.mg x = some (.ref C)) (bi : Binds X.K fd ps us) (dv : Vals dvs us)
    (hx : ∀ σ, PassesAt (L2.CX X.prog X.w) X σ (E σ)) (ha : PA X (e :: es) t) (hg : Gl X x) (hdb : (x == ("__debug__" : Str)) = false) (he : starEach (e :: es) X.env = (false, eval e X.env) :: starEach es X.env) (hpl : (backTo pos (starEach es X.env)).any (·.1) = false) :
    PE X (.Call (.Name x p) (e :: es) [] pos) (tMakeS C sp dvs E t) := by
  refine ⟨fun pins z τ G Q J ask => wpAny_Call_Name_kw (ld_glob J hg hm ?_ hdb)⟩
  refine PySem.W.callWith_K (h₀ := X.base) J.ok.mod.kin M.kp (thn (ha.run pos pins z τ G _ J ask) fun as z1 ⟨ws, G1, J1, rel, q⟩ => ⟨J1.kIn, ?_⟩) he hpl
  exact makeS_run M Fo room bi dv (hx τ) J1 rel q
theorem make_reads (hcm : c ∈ cm.cls) (hd : ∀ S, RepL X.K cm S dvs dd) {σ : Sg} {H : Hp} {Q : VK} (q : E X.K cm W (makeU c (arI n F) dd args) σ H Q) : tMakeS (cm.addr c) (spI X.K cm c n F) dvs (WE W.w) (EA X.K cm W args) σ H Q := by
  obtain ⟨st, S, fp, r, g⟩ := q
  exact ⟨st, S, fp, r, g.bind.mono fun ds S1 H1 x1 k1 vs hv x dx nx ndx ne => by
    have hv2 := hv.append (hd S1)
    replace k1 : Go X.K cm W (fun d S' H' => ∀ v, Rep X.K cm S' v d → Q v H') ((if (ds ++ dd).length = n then F (ds ++ dd) else .bad).bind fun fs => .ok (.ins c fs)) S1 H1 σ := k1
    split at k1
    · rename_i hl
      have sx : S1 x = none := x1.sh.free nx
      have sdx : S1 dx = none := x1.sh.free ndx
      have s2 : Same S1 (upd (upd H1 dx (.own x)) x (.ins (cm.addr c) dx [])) := same_upd2 (same_upd2 x1.sh sdx) sx
      have h1 : ∀ {H' : Hp}, Same (fun a => if a = x then none else (upd (upd H1 dx (.own x)) x (.ins (cm.addr c) dx [])) a) H' → Same H1 H' := fun {H'} s a o e => by
        have na : a ≠ x := fun z => by rw [z, nx] at e; cases e
        have nd : a ≠ dx := fun z => by rw [z, ndx] at e; cases e
        refine s a o ?_
        show (if a = x then none else (upd (upd H1 dx (.own x)) x (.ins (cm.addr c) dx [])) a) = some o
        rw [if_neg na, upd_ne na, upd_ne nd]
        exact e
      have h2 : ∀ {S' : Hp} {a : Addr} {o : HO}, (∀ a o, S' a = some o → S1 a = none → (if a = x then none else (upd (upd H1 dx (.own x)) x (.ins (cm.addr c) dx [])) a) = none) → S' a = some o → S1 a = none → a ≠ x → H1 a = none := fun {S' a o} fr e n na => by
        have z := fr a o e n
        rw [if_neg na, upd_ne na] at z
        by_cases nd : a = dx
        · rw [nd]; exact ndx
        · rw [upd_ne nd] at z; exact z
      refine ⟨by rw [List.length_cons, hv2.length, hl], x, dx, _, S1, ds ++ dd, rfl, s2, sx, upd_same, hv2, ?_⟩
      cases q : F (ds ++ dd) with
      | bad => rw [q] at k1; exact k1.elim
      | ex er =>
        rw [q] at k1
        intro cls od H' S' x2 hr
        refine k1 cls od H' S' ⟨x2.ss, x2.sh, h1 x2.hh, fun a o e n => ?_⟩ hr
        by_cases na : a = x
        · rw [na]; exact nx
        · exact h2 x2.fr e n na
      | ok fs =>
        rw [q] at k1
        intro H' S' ys dx' x2 nx' hx' hr'
        refine ⟨rfl, k1 H' (upd S' x (.ins (cm.addr c) dx' ((cm.names c).zip ys))) ⟨x2.ss.trans (same_upd nx'), fun a o e => ?_, h1 x2.hh, fun a o e n => ?_⟩ _ (.ins hcm upd_same (hr'.mono (same_upd nx')))⟩
        · by_cases na : a = x
          · rw [na, upd_same] at e; cases e; rw [na]; exact hx'
          · rw [upd_ne na] at e; exact x2.sh a o e
        · by_cases na : a = x
          · rw [na]; exact nx
          · rw [upd_ne na] at e; exact h2 x2.fr e n na
    · exact k1.elim⟩
theorem e_make {C : Addr} (hcm : c ∈ cm.cls) (hC : C = cm.addr c) (M : Mk X.K C f) (G : FnOk X.prog X.w X.K X.mg X.base (L2.CX X.prog X.w) k f fd ps (spI X.K cm c n F)) (tk : Takes X W.w) (hr : Room (k + 1) X.A) (hm : X.mg x = some (.ref C)) (hb : Binds X.K fd ps us) (hu : Vals dvs us) (hd : ∀ S, RepL X.K cm S dvs dd)
    (ha : PA X (e :: es) (EA X.K cm W args)) (hg : Gl X x := by rfl) (hdb : (x == ("__debug__" : Str)) = false := by decide) (he : starEach (e :: es) X.env = (false, eval e X.env) :: starEach es X.env := by rfl) (hpl : (backTo pos (starEach es X.env)).any (·.1) = false := by rfl) :
    PE X (.Call (.Name x p) (e :: es) [] pos) (E X.K cm W (makeU c (arI n F) dd args)) :=
  (pe_makeS M G hr hm hb hu (fun σ => passAt tk σ) ha hg hdb he hpl).imp fun σ H Q q => by
    subst hC
    exact make_reads hcm hd q
/-! ### o.m(..) -/
end
end DI
end
section
set_option Elab.async false
set_option linter.all false
set_option maxRecDepth 100000
set_option maxHeartbeats 2000000
/-! DI: built-ins. -/
namespace DI
open PySem PySem.Spec PyProof.Rows L2
section
variable {X : Cx} {cm : CM} {K : PySem.W.Frag} {S H : Hp}
theorem view1 {vs : List V} {d : D} (h : Paired (View K cm S H) vs [d]) : ∃ v, vs = [v] ∧ View K cm S H v d := by
  cases h with
  | cons a b => cases b; exact ⟨_, rfl, a⟩
theorem view2 {vs : List V} {d e : D} (h : Paired (View K cm S H) vs [d, e]) : ∃ v u, vs = [v, u] ∧ View K cm S H v d ∧ View K cm S H u e := by
  cases h with
  | cons a b =>
    obtain ⟨u, rfl, r⟩ := view1 b
    exact ⟨_, u, rfl, a, r⟩
/-! ### len -/
def rLen (K : PySem.W.Frag) : List V → Hp → VK → Prop := fun xs H Q => (∃ p ys, xs = [.ref p] ∧ (SqL K H p ys ∨ SqT K H p ys) ∧ Q (.int ys.length) H) ∨ ∃ z, xs = [.str z] ∧ z.length ≤ sizeLine ∧ Q (.int z.length) H
theorem c_len : CallR X (.builtin "len") (rLen X.K) := call_len_seq.or call_len_str
def dLen1 : D → Option D
  | .lst ds => some (.int ds.length)
  | .tup ds => some (.int ds.length)
  | .scr ds => some (.int ds.length)
  | .str z => if z.length ≤ sizeLine then some (.int z.length) else none
  | _ => none
def one (f : D → Option D) : List D → Option D
  | [d] => f d
  | _ => none
def two (f : D → D → Option D) : List D → Option D
  | [d, e] => f d e
  | _ => none
def dLen : List D → Option D := one dLen1
theorem one_some {α : Type} {f : D → Option D} {ds : List D} {z : D} (h : one f ds = some z) : ∃ d, ds = [d] ∧ f d = some z := by
  unfold one at h
  split at h
  · exact ⟨_, rfl, h⟩
  · cases h
theorem two_some {f : D → D → Option D} {ds : List D} {z : D} (h : two f ds = some z) : ∃ d e, ds = [d, e] ∧ f d e = some z := by
  unfold two at h
  split at h
  · exact ⟨_, _, rfl, h⟩
  · cases h
theorem d_len : OpN X.K cm (rLen X.K) dLen := by
  intro S H xs ds z Q sh hx ho k
  obtain ⟨d, rfl, h2⟩ := one_some (α := Unit) ho
  replace ho := h2
  clear h2
  obtain ⟨v, rfl, hv⟩ := view1 hx
  cases d <;> try (cases ho; done)
  case lst ds =>
    cases ho
    obtain ⟨a, us, rfl, ha, ra⟩ := hv.lst sh
    exact .inl ⟨a, us, rfl, .inl (SqL.of ha), by rw [ra.length]; exact k H S (Xt.refl sh) _ (.int _)⟩
  case tup ds =>
    cases ho
    obtain ⟨a, us, rfl, ha, ra⟩ := hv.tup
    exact .inl ⟨a, us, rfl, .inr (same_sqT sh ha), by rw [ra.length]; exact k H S (Xt.refl sh) _ (.int _)⟩
  case scr ds =>
    cases ho
    obtain ⟨a, us, rfl, ha, ra⟩ := hv.scr
    exact .inl ⟨a, us, rfl, .inl (same_sqL sh ha), by rw [ra.length]; exact k H S (Xt.refl sh) _ (.int _)⟩
  case str w =>
    replace ho : (if w.length ≤ sizeLine then some (D.int w.length) else none) = some z := ho
    split at ho
    · cases ho
      rw [hv.str]
      exact .inr ⟨w, rfl, by assumption, k H S (Xt.refl sh) _ (.int _)⟩
    · cases ho
/-! ### int, abs, min, max of two -/
def dInt1 : D → Option D
  | .int i => some (.int i)
  | .bl b => some (.int (if b = true then 1 else 0))
  | _ => none
def dToInt : List D → Option D := one dInt1
theorem d_toInt : OpN X.K cm (fun xs H Q => (∃ i, xs = [.int i] ∧ Q (.int i) H) ∨ ∃ k, xs = [.bl k] ∧ Q (.int (if k = true then 1 else 0)) H) dToInt := by
  intro S H xs ds z Q sh hx ho k
  obtain ⟨d, rfl, h2⟩ := one_some (α := Unit) ho
  replace ho := h2
  clear h2
  obtain ⟨v, rfl, hv⟩ := view1 hx
  cases d <;> try (cases ho; done)
  case int i =>
    cases ho
    rw [hv.int]
    exact .inl ⟨i, rfl, k H S (Xt.refl sh) _ (.int _)⟩
  case bl b =>
    cases ho
    rw [hv.bl]
    exact .inr ⟨b, rfl, k H S (Xt.refl sh) _ (.int _)⟩
def dMax2 : List D → Option D := two (dII fun i j => some (.int (if j > i then j else i)))
def dMin2 : List D → Option D := two (dII fun i j => some (.int (if j < i then j else i)))
theorem d_two {r : List V → Hp → VK → Prop} {g : Int → Int → Option D} (h : ∀ (i j : Int) (z : D) (H : Hp) (Q : VK), g i j = some z → ∃ v : V, (∀ S, Rep X.K cm S v z) ∧ (Q v H → r [.int i, .int j] H Q)) : OpN X.K cm r (two (dII g)) := by
  intro S H xs ds z Q sh hx ho k
  obtain ⟨d, e, rfl, h2⟩ := two_some ho
  replace ho := h2
  clear h2
  obtain ⟨v, u, rfl, hv, hu⟩ := view2 hx
  cases d <;> cases e <;> try (cases ho; done)
  case int.int i j =>
    rw [hv.int, hu.int]
    obtain ⟨y, hy, q⟩ := h i j z H Q ho
    exact q (k H S (Xt.refl sh) y (hy S))
theorem d_max2 : OpN X.K cm (fun xs H Q => ∃ i j, xs = [.int i, .int j] ∧ Q (.int (if j > i then j else i)) H) dMax2 := d_two fun i j z H Q e => by
  cases e
  exact ⟨_, fun _ => .int _, fun q => ⟨i, j, rfl, q⟩⟩
theorem d_min2 : OpN X.K cm (fun xs H Q => ∃ i j, xs = [.int i, .int j] ∧ Q (.int (if j < i then j else i)) H) dMin2 := d_two fun i j z H Q e => by
  cases e
  exact ⟨_, fun _ => .int _, fun q => ⟨i, j, rfl, q⟩⟩
/-! ### sums, greatest, least of a list of numbers -/
def dInts : List D → Option (List Int)
  | [] => some []
  | .int i :: ds => (dInts ds).map (i :: ·)
  | _ :: _ => none
theorem dInts_eq : ∀ {ds : List D} {ns : List Int}, dInts ds = some ns → ds = ns.map D.int
  | [], ns, h => by cases h; rfl
  | d :: ds, ns, h => by
    cases d <;> try (cases h; done)
    case int i =>
      replace h : (dInts ds).map (i :: ·) = some ns := h
      cases q : dInts ds with
      | none => rw [q] at h; cases h
      | some ms =>
        rw [q] at h
        cases h
        rw [dInts_eq q]
        rfl
theorem dInts_map : ∀ ns : List Int, dInts (ns.map D.int) = some ns
  | [] => rfl
  | n :: ns => by
    show (dInts (ns.map D.int)).map (n :: ·) = _
    rw [dInts_map ns]
    rfl
theorem rep_ints : ∀ {vs : List V} {ns : List Int}, RepL K cm S vs (ns.map D.int) → vs = ns.map V.int
  | [], [], _ => rfl
  | v :: vs, n :: ns, .cons h hs => by
    cases h
    rw [rep_ints hs]
    rfl
  | [], _ :: _, h => by cases h
  | _ :: _, [], h => by cases h
/-- the numbers of a list -/
def lstInts : D → Option (List Int)
  | .lst ds => dInts ds
  | _ => none
theorem lst_ints {v : V} {d : D} {ns : List Int} (sh : Same S H) (hv : View K cm S H v d) (h : lstInts d = some ns) : ∃ a, v = .ref a ∧ H a = some (.lst (ns.map V.int)) := by
  cases d <;> try (cases h; done)
  case lst ds =>
    obtain ⟨a, us, rfl, ha, ra⟩ := hv.lst sh
    rw [dInts_eq h] at ra
    rw [rep_ints ra] at ha
    exact ⟨a, rfl, ha⟩
def dSum : List D → Option D := one fun d => (lstInts d).map fun ns => .int ns.sum
theorem d_sum : OpN X.K cm (rSum X.K) dSum := by
  intro S H xs ds z Q sh hx ho k
  obtain ⟨d, rfl, h2⟩ := one_some (α := Unit) ho
  replace ho := h2
  clear h2
  obtain ⟨v, rfl, hv⟩ := view1 hx
  replace ho : (lstInts d).map (fun ns => D.int ns.sum) = some z := ho
  cases q : lstInts d with
  | none => rw [q] at ho; cases ho
  | some ns =>
    rw [q] at ho
    cases ho
    obtain ⟨a, rfl, ha⟩ := lst_ints sh hv q
    exact ⟨a, ns, rfl, SqL.of ha, k H S (Xt.refl sh) _ (.int _)⟩
/-! ### list, tuple, sorted -/
def dList1 : D → Option (List D)
  | .lst ds => some ds
  | .tup ds => some ds
  | .scr ds => some ds
  | _ => none
def oneF (f : D → Option (List D)) : List D → Option (List D)
  | [d] => f d
  | _ => none
theorem oneF_some {f : D → Option (List D)} {ds : List D} {z : List D} (h : oneF f ds = some z) : ∃ d, ds = [d] ∧ f d = some z := by
  unfold oneF at h
  split at h
  · exact ⟨_, rfl, h⟩
  · cases h
def dListF : List D → Option (List D) := oneF dList1
theorem d_listF : OpNF X.K cm (fun xs H Q => ∃ p ys, xs = [.ref p] ∧ (SqL X.K H p ys ∨ SqT X.K H p ys) ∧ ∀ l, H l = none → Q (.ref l) (upd H l (.lst ys))) dListF := by
  intro S H xs ds z Q sh hx ho k
  obtain ⟨d, rfl, h2⟩ := oneF_some ho
  replace ho := h2
  clear h2
  obtain ⟨v, rfl, hv⟩ := view1 hx
  cases d <;> try (cases ho; done)
  case lst ds =>
    cases ho
    obtain ⟨a, us, rfl, ha, ra⟩ := hv.lst sh
    exact ⟨a, us, rfl, .inl (SqL.of ha), fun l hl => k l us hl ra⟩
  case tup ds =>
    cases ho
    obtain ⟨a, us, rfl, ha, ra⟩ := hv.tup
    exact ⟨a, us, rfl, .inr (same_sqT sh ha), fun l hl => k l us hl ra⟩
  case scr ds =>
    cases ho
    obtain ⟨a, us, rfl, ha, ra⟩ := hv.scr
    exact ⟨a, us, rfl, .inl (same_sqL sh ha), fun l hl => k l us hl ra⟩
def dTuple : List D → Option D := one fun d => (dList1 d).map .tup
theorem d_tuple : OpN X.K cm (fun xs H Q => ∃ p ys, xs = [.ref p] ∧ ((SqL X.K H p ys ∧ ∀ l, H l = none → Q (.ref l) (upd H l (.tup ys))) ∨ (SqT X.K H p ys ∧ Q (.ref p) H))) dTuple := by
  intro S H xs ds z Q sh hx ho k
  obtain ⟨d, rfl, h2⟩ := one_some (α := Unit) ho
  replace ho := h2
  clear h2
  obtain ⟨v, rfl, hv⟩ := view1 hx
  cases d <;> try (cases ho; done)
  case lst ds =>
    cases ho
    obtain ⟨a, us, rfl, ha, ra⟩ := hv.lst sh
    exact ⟨a, us, rfl, .inl ⟨SqL.of ha, fin_tup sh ra k⟩⟩
  case tup ds =>
    cases ho
    obtain ⟨a, us, rfl, ha, ra⟩ := hv.tup
    exact ⟨a, us, rfl, .inr ⟨same_sqT sh ha, k H S (Xt.refl sh) _ (.tup ha ra)⟩⟩
  case scr ds =>
    cases ho
    obtain ⟨a, us, rfl, ha, ra⟩ := hv.scr
    exact ⟨a, us, rfl, .inl ⟨same_sqL sh ha, fin_tup sh ra k⟩⟩
/-- numbers in rising order -/
def insI (n : Int) : List Int → List Int
  | [] => [n]
  | m :: ms => if n ≤ m then n :: m :: ms else m :: insI n ms
def srtI : List Int → List Int
  | [] => []
  | n :: ns => insI n (srtI ns)
theorem insI_perm (n : Int) : ∀ ms : List Int, (insI n ms).Perm (n :: ms)
  | [] => .refl _
  | m :: ms => by
    unfold insI
    split
    · exact .refl _
    · exact (List.Perm.cons m (insI_perm n ms)).trans (List.Perm.swap n m ms)
theorem srtI_perm : ∀ ns : List Int, (srtI ns).Perm ns
  | [] => .refl _
  | n :: ns => (insI_perm n _).trans (List.Perm.cons n (srtI_perm ns))
theorem insI_up (n : Int) : ∀ {ms : List Int}, ms.Pairwise (· ≤ ·) → (insI n ms).Pairwise (· ≤ ·)
  | [], _ => by unfold insI; exact List.pairwise_singleton _ _
  | m :: ms, h => by
    obtain ⟨h1, h2⟩ := List.pairwise_cons.mp h
    unfold insI
    split
    · rename_i q
      exact List.pairwise_cons.mpr ⟨fun y hy => (List.mem_cons.mp hy).elim (fun e => by rw [e]; exact q) fun hy => Int.le_trans q (h1 y hy), h⟩
    · rename_i q
      refine List.pairwise_cons.mpr ⟨fun y hy => ?_, insI_up n h2⟩
      rcases List.mem_cons.mp ((insI_perm n ms).mem_iff.mp hy) with e | hy
      · omega
      · exact h1 y hy
theorem srtI_up : ∀ ns : List Int, (srtI ns).Pairwise (· ≤ ·)
  | [] => .nil
  | n :: ns => insI_up n (srtI_up ns)
theorem up_unique : ∀ {xs ys : List Int}, xs.Perm ys → xs.Pairwise (· ≤ ·) → ys.Pairwise (· ≤ ·) → xs = ys
  | [], ys, p, _, _ => (List.Perm.nil_eq p)
  | x :: xs, [], p, _, _ => by have := p.length_eq; simp at this
  | x :: xs, y :: ys, p, h1, h2 => by
    obtain ⟨a1, a2⟩ := List.pairwise_cons.mp h1
    obtain ⟨b1, b2⟩ := List.pairwise_cons.mp h2
    have e : x = y := by
      rcases List.mem_cons.mp (p.mem_iff.mp List.mem_cons_self) with e | m
      · exact e
      · rcases List.mem_cons.mp (p.mem_iff.mpr (List.mem_cons_self (a := y) (l := ys))) with e | m'
        · exact e.symm
        · exact Int.le_antisymm (a1 y m') (b1 x m)
    subst e
    rw [up_unique (List.Perm.cons_inv p) a2 b2]
def dSortF : List D → Option (List D) := oneF fun d => (lstInts d).map fun ns => (srtI ns).map D.int
theorem d_sortF : OpNF X.K cm (rSortedI X.K) dSortF := by
  intro S H xs ds z Q sh hx ho k
  obtain ⟨d, rfl, h2⟩ := oneF_some ho
  replace ho := h2
  clear h2
  obtain ⟨v, rfl, hv⟩ := view1 hx
  replace ho : ((lstInts d).map fun ns => (srtI ns).map D.int) = some z := ho
  cases q : lstInts d with
  | none => rw [q] at ho; cases ho
  | some ns =>
    rw [q] at ho
    cases ho
    obtain ⟨a, rfl, ha⟩ := lst_ints sh hv q
    refine ⟨a, ns, rfl, SqL.of ha, fun ns' p pm up hp => ?_⟩
    have e : ns' = srtI ns := up_unique (pm.trans (srtI_perm ns).symm) up (srtI_up ns)
    subst e
    exact k p _ hp (RepL.ints _)
end
end DI
end
section
set_option Elab.async false
set_option linter.all false
set_option maxRecDepth 100000
set_option maxHeartbeats 4000000
/-! DI: sets of tuples of numbers: made by a comprehension, sorted. -/
namespace DI
open PySem PySem.Spec PyProof.Rows L2
/-- a tuple of numbers comes to the set -/
theorem set_addT {P : Program} {w : World} {A : Around} {E : Value → Shared → Prop} {z : Shared} {a x : Addr} {k : List Int} {L : List (Addr × List Int)} {es : Array (Int × Value)} {ep : Nat} {t : SetTable} {Q : Value → Shared → Prop} (R : SetTR P w z.heap a L es ep t) (hx : IsT P w z.heap k x) (hu : A.units + 5 < cLine) (few : L.length + 1 < 64)
    (hQ : ∀ h' tk L' es' ep' t', Heap.SameBut a z.heap h' → SetTR P w h' a L' es' ep' t' → (k ∈ L.map (·.2) → L' = L) → (k ∉ L.map (·.2) → L'.Perm ((x, k) :: L)) → Q .none { z with heap := h', toks := tk }) :
    wpAny (model P w) A (call (.builtin "set.add") [.ref a, .ref x]) Q E z := by
  obtain ⟨o, ho, hex, hd⟩ := R.ob
  have ty : z.TypeIs (.ref a) "set" := ⟨o, ho, hex.1⟩
  refine wpAny_call_entry PySem.F.slot_set_add ty PySem.F.entry_set_add ?_ (PySem.F.args_set_add_2 _ _)
  unfold Builtin.«set.add» Builtin.Frozenset.oneOther
  simp only [List.isEmpty_nil, bind_assoc]
  unfold Builtin.Frozenset.addrOf setAdd
  refine wpAny_bind (wpAny_pure ?_)
  try dsimp only
  refine wpAny_bind (wpAny_pure ?_)
  try dsimp only
  refine wpAny_bind ?_
  refine wpAny_holding ?_
  refine wpAny_bind (wpAny_pyHash_tuple (by have : A.in1.units = A.units + 1 := rfl; omega) hx ?_)
  refine add_at (s := { z with toks := z.toks + (k.length + 1) }) R hx (by have : A.in1.units = A.units + 1 := rfl; omega) few fun b h' L' es' ep' t' sb r c1 c2 => ?_
  show wpAny _ _ (ret Value.none) _ _ _
  exact wpAny_pure ⟨_, rfl, hQ h' _ L' es' ep' t' sb r c1 c2⟩
section
variable {X : Cx} {cm : CM} {W : WH}
theorem tset_adds {pins : List (Addr × Obj)} {σ : Sg} {H : Hp} {s : Shared} {a x : Addr} {k : List Int} {L : List (Addr × List Int)} {Q : Value → Shared → Prop} {E : Value → Shared → Prop} (hu : X.A.units + 6 < cLine) (I : Inv X pins σ H s) (ha : H a = some (SetTO X.prog X.w a L)) (ht : ∀ p ∈ L, SqT X.K H p.1 (p.2.map V.int)) (hx : SqT X.K H x (k.map V.int)) (few : L.length + 1 < 64)
    (hQ : ∀ L', (k ∈ L.map (·.2) → L' = L) → (k ∉ L.map (·.2) → L'.Perm ((x, k) :: L)) → ∀ s', Inv X pins σ (upd H a (SetTO X.prog X.w a L')) s' → Q .none s') : wpAny (model X.prog X.w) X.A (call (.builtin "set.add") [.ref a, .ref x]) Q E s := by
  obtain ⟨es, ep, t, R⟩ := SetT0.full (I.hok a _ ha).1 fun p hp => I.isT (ht p hp)
  refine set_addT R (I.isT hx) (by omega) few fun h' tk L' es' ep' t' sb r c1 c2 => ?_
  obtain ⟨o, ho, _⟩ := id r.ob
  exact hQ L' c1 c2 _ (I.write (e := a) (t' := tk) (by rw [ha]; trivial) (.inl rfl) (fun b u hb hu => (sb.2 b hb).trans hu) ⟨o, ho⟩ (setTO_new r.t0))
/-- {elt for target in iter if ..}, elt a tuple of numbers: D the new set -/
def tSt (K : PySem.W.Frag) (P : Program) (w : World) (wi : TI) (g : TG) (tt : TT) (te : TE) (vs : List Nat) : TE := fun σ H Q => wi σ H fun J H1 => ∀ D, H1 D = none → ∃ W : Nat → Nat → Hp → Prop, (∃ m, W 0 m (upd H1 D (SetTO P w D []))) ∧ ∀ i m H, W i m H →
  (J.stop i H ∧ Q (.ref D) H) ∨ (J.go i H ∧ ∃ Nx : Hp → Prop, (∀ H', Nx H' → ∃ m', m' < m ∧ W (i + 1) m' H') ∧ ∀ x H', J.yld i H x H' → g x (wipe σ vs) H' fun σ2 H2 => wipe σ2 vs = wipe σ vs ∧ tt σ2 H2 fun b H3 =>
    if b = true then te σ2 H3 fun y H4 => ∃ (x : Addr) (k : List Int) (L : List (Addr × List Int)), y = .ref x ∧ SqT K H4 x (k.map V.int) ∧ H4 D = some (SetTO P w D L) ∧ (∀ p ∈ L, SqT K H4 p.1 (p.2.map V.int)) ∧ L.length + 1 < 64 ∧
      ∀ L', (k ∈ L.map (·.2) → L' = L) → (k ∉ L.map (·.2) → L'.Perm ((x, k) :: L)) → Nx (upd H4 D (SetTO P w D L')) else Nx H3)
end
section
variable {Y : Cx}
open PpSet
theorem tset_core {pp : List (Addr × Obj)} {z : Shared} {τ : L2.St} {G : Hp} {Q : VK} {elt tg iter : Expr} {ifs : List Expr} {scope : Scope} {own : List (Str × Nat)} {pos pos' : Pos} {wi : TI} {g : TG} {tt : TT} {te : TE} {use : Option (Value → Sem Unit)} {Qf : Value → Shared → Prop}
    (kroom : Y.A.units + 6 < cLine) (kc : Y.calm = true) (kN : Y.N.Nodup) (J : Inv Y pp τ G z) (ki : PI Y tg iter wi) (okb : BlkOk Y.N Y.env.scope scope own)
    (kg : ∀ (z : Shared) (G : Hp) (C : Addr) (cl : List (Str × Addr)) (mem : List Addr), PG (Y.blk z G scope (compEnvC scope cl C Y.env) mem) tg g) (kt : ∀ (z : Shared) (G : Hp) (C : Addr) (cl : List (Str × Addr)) (mem : List Addr), PTs (Y.blk z G scope (compEnvC scope cl C Y.env) mem) ifs tt)
    (ke : ∀ (z : Shared) (G : Hp) (C : Addr) (cl : List (Str × Addr)) (mem : List Addr), PE (Y.blk z G scope (compEnvC scope cl C Y.env) mem) elt te) (ks : ∀ x, foldedSetIterable iter Y.env x = pure x)
    (ask : tSt Y.K Y.prog Y.w wi g tt te (own.map (·.2)) τ G Q)
    (kR : ∀ B C z' m G', Inv Y pp τ G' z' → Q (.ref B) G' → z'.heap.Ns C m → FpOk Y pp G' C → compPost (model Y.prog Y.w) Y.A Y.xe use Qf (.ref B) C (.ok .next) z') :
    wpAny (model Y.prog Y.w) Y.A (comprehension (.SetComp elt [⟨tg, iter, ifs, 0⟩] scope pos) scope Y.env pos' (newSet (.type "set")) false (eval iter Y.env) use) Qf Y.xe z := by
  have frees : ∀ y ∈ scope.names, y.2 = .free → ∃ c, Y.env.cells.lookup y.1 = some c := fun y hy e => by
    rcases okb.free y hy e with k | k
    · exact J.ok.has _ (.inl k)
    · exact J.ok.has _ (.inr k)
  refine wpAny_comprehension_free (use := use) rfl ks (closure_ok frees) okb.kind (fun y hy e => by rw [okb.uniq y hy, e])
    (thn (ki.run pp z τ G _ J ask) fun xw s1 hx => thn hx fun itrv z2 got2 => ?_)
  obtain ⟨itr, mem, sta, Jt, G2, e, J2, tr, sz2, fo2, q⟩ := got2
  subst e
  refine newSet_ok (newEnv_comp ?_)
  generalize eB : z2.heap.objs.size = B
  have nB : G2 B = none := J2.hok.fresh (Nat.le_of_eq eB)
  obtain ⟨Inw, ⟨m0, iw0⟩, trn⟩ := q B nB
  -- the new list
  generalize ez3 : ({ z2 with heap := z2.heap.push { cls := .type "set", dict := none, data := .set #[] 0 (.fresh 0 0 (!Y.w.params.followText "set-order")) } } : Shared) = z3
  have J3 : Inv Y pp τ (upd G2 B (SetTO Y.prog Y.w B [])) z3 := by
    rw [← ez3]
    refine J2.laid (t' := z2.toks) (fun b o e => Heap.get?_push_of_some _ e) (Nat.le_of_eq eB) ?_
    rw [← eB]
    exact setTO_new (SetTR.t0 (setTR_fresh (Heap.get?_push_size _ rfl)))
  have got3 : z3.heap = z2.heap.push { cls := .type "set", dict := none, data := .set #[] 0 (.fresh 0 0 (!Y.w.params.followText "set-order")) } := by rw [← ez3]
  have siz : ∀ b ∈ mem, b < z2.heap.objs.size := fun b hb => by
    obtain ⟨o, e, _⟩ := tr.obj _ _ sz2 b hb
    exact Heap.lt_size e
  have fo3 : ∀ b ∈ mem, FpOk Y pp (upd G2 B (SetTO Y.prog Y.w B [])) b ∧ b < z3.heap.objs.size := fun b hb => by
    have hlt := siz b hb
    refine ⟨⟨?_, (fo2 b hb).2⟩, by rw [got3, Heap.size_push]; exact Nat.lt_succ_of_lt hlt⟩
    rw [upd_ne (by rw [← eB]; exact Nat.ne_of_lt hlt)]
    exact (fo2 b hb).1
  have sz3 : sta 0 z3.heap := tr.keep _ _ _ sz2 fun b _ o e => by rw [got3]; exact Heap.get?_push_of_some _ e
  have J4 := block_start J3 okb kN fo3
  have qg := kg z3 (upd G2 B (SetTO Y.prog Y.w B [])) z3.heap.objs.size (cellsFrom (z3.heap.objs.size + 1) scope.names (cloFrom Y.env.cells scope.names [])) mem
  have qt := kt z3 (upd G2 B (SetTO Y.prog Y.w B [])) z3.heap.objs.size (cellsFrom (z3.heap.objs.size + 1) scope.names (cloFrom Y.env.cells scope.names [])) mem
  have qe := ke z3 (upd G2 B (SetTO Y.prog Y.w B [])) z3.heap.objs.size (cellsFrom (z3.heap.objs.size + 1) scope.names (cloFrom Y.env.cells scope.names [])) mem
  show codeAny _ _ (.compStart (.SetComp elt [⟨tg, iter, ifs, 0⟩] scope pos) 0 (.ref itr) (.ref B) (compEnvC scope (cellsFrom (z3.heap.objs.size + 1) scope.names (cloFrom Y.env.cells scope.names [])) z3.heap.objs.size Y.env)) (compPost (model Y.prog Y.w) Y.A Y.xe use Qf (.ref B) z3.heap.objs.size) { z3 with heap := pushCells (z3.heap.push { cls := .type "dict", data := .dict #[] }) scope.names }
  have nmem : ∀ b ∈ mem, (upd G2 B (SetTO Y.prog Y.w B [])) b = none := fun b hb => (fo3 b hb).1.1
  generalize ece : compEnvC scope (cellsFrom (z3.heap.objs.size + 1) scope.names (cloFrom Y.env.cells scope.names [])) z3.heap.objs.size Y.env = env1 at J4 qg qt qe ⊢
  have eL : env1.locals = z3.heap.objs.size := by subst ece; rfl
  generalize eG3 : upd G2 B (SetTO Y.prog Y.w B []) = G3 at J3 J4 qg qt qe iw0 nmem fo3
  generalize ez4 : ({ z3 with heap := pushCells (z3.heap.push { cls := .type "dict", data := .dict #[] }) scope.names } : Shared) = z4 at J4 ⊢
  have sz4 : sta 0 z4.heap := tr.keep _ _ _ sz3 fun b _ o e => by rw [← ez4]; exact pushCells_keeps _ _ _ _ (Heap.get?_push_of_some _ e)
  have still : ∀ {τ' : L2.St} {G' : Hp} {z' : Shared}, Inv (Y.blk z3 G3 scope env1 mem) [] τ' G' z' → (∀ b ∈ mem, G' b = none) → ∀ b ∈ mem, FpOk (Y.blk z3 G3 scope env1 mem) [] G' b := fun {τ' G' z'} J' hn b hb =>
    ⟨hn b hb, (J'.ok.exf b hb).1, J'.ok.exfs b hb, .inl hb, fun x c e => (J'.ok.exf b hb).2 x c e, fun p hp => absurd (show p ∈ ([] : List (Addr × Obj)) ++ [] from hp) (by simp)⟩
  have walk1 : codeAny (model Y.prog Y.w) Y.A (.compLoop (.SetComp elt [⟨tg, iter, ifs, 0⟩] scope pos) 0 (.ref itr) (.ref B) env1) (compPost (model Y.prog Y.w) Y.A Y.xe use Qf (.ref B) z3.heap.objs.size) z4 := by
    refine compLoopS_any (fun nn z' => ∃ i G', Inv (Y.blk z3 G3 scope env1 mem) [] (wipe τ (own.map (·.2))) G' z' ∧ sta i z'.heap ∧ (∀ b ∈ mem, G' b = none) ∧ Inw i nn G') ?_ m0 ⟨0, G3, J4, sz4, nmem, iw0⟩
    rintro nn z5 ⟨i, G5, J5, sz5, nn5, iw5⟩
    rcases trn i nn G5 iw5 with ⟨stop, qq⟩ | ⟨go, Nx, hNx, step⟩
    · have fd := tr.done (Y.blk z3 G3 scope env1 mem) rfl rfl rfl kc i [] z5 _ G5 (fun _ _ => False) J5 (still J5 nn5) sz5 stop
      refine thnF fd fun r z6 ⟨er, J6⟩ => ?_
      subst er
      -- back in the def's context
      have J7 : Inv Y pp τ G5 z6 := J3.call' (ch := mem) J6.os J6.base J6.hok J6.bare fun b hb => ⟨(fo3 b hb).1.2.2.2.1, (fo3 b hb).1.2.1, (fo3 b hb).1.2.2.2.2.1, (fo3 b hb).1.2.2.2.2.2⟩
      have nC : G5 z3.heap.objs.size = none := by
        have z : G5 env1.locals = none := J6.free
        rw [eL] at z
        exact z
      obtain ⟨m, hn, _⟩ := J6.loc
      have hn : z6.heap.Ns env1.locals m := hn
      rw [eL] at hn
      exact kR B z3.heap.objs.size z6 m G5 J7 qq hn (J3.fpOk (Nat.le_refl _) nC)
    · have fi := tr.item (Y.blk z3 G3 scope env1 mem) rfl rfl rfl kc i [] z5 _ G5 (fun _ _ => False) J5 (still J5 nn5) sz5 go
      refine thnF fi fun r z6 ⟨u, er, h6⟩ => ?_
      subst er
      refine thnF h6 fun _ z7 ⟨x, G7, J7, r7, y7, sz7, nn7⟩ => ?_
      have J7' := J7.pinned (still J7 nn7) (tr.obj _ _ sz7)
      refine thnF (qg.run _ z7 _ G7 x u _ J7' r7 (step x G7 y7)) fun _ z8 ⟨τ8, G8, J8, hw8, q8⟩ => ?_
      refine thnF (qt.run _ z8 τ8 G8 _ J8 q8) fun b z9 ⟨G9, J9, q9⟩ => ?_
      -- the turn's end
      have turned : ∀ {z' : Shared} {G' : Hp}, Inv (Y.blk z3 G3 scope env1 mem) ([] ++ pinsAt mem z7.heap) τ8 G' z' → Nx G' → ∃ m, m < nn ∧ ∃ i G', Inv (Y.blk z3 G3 scope env1 mem) [] (wipe τ (own.map (·.2))) G' z' ∧ sta i z'.heap ∧ (∀ b ∈ mem, G' b = none) ∧ Inw i m G' := fun {z' G'} J' nx => by
        obtain ⟨m', hm, w'⟩ := hNx G' nx
        have pin' : ∀ b ∈ mem, ∀ o, z7.heap.get? b = some o → z'.heap.get? b = some o ∧ G' b = none := fun b hb o e =>
          let z := J'.pin (b, o) (List.mem_append_right _ (List.mem_append_right _ (mem_pinsAt hb e)))
          ⟨z.1, z.2.1⟩
        have hl : (wipe τ (own.map (·.2))).length = τ8.length := by rw [← hw8, wipe_length]
        refine ⟨m', hm, i + 1, G', (J'.unpinned (pins := [])).weak hl (fun j v e => ?_), tr.keep _ _ _ sz7 fun b hb o e => (pin' b hb o e).1, fun b hb => ?_, w'⟩
        · rw [← hw8] at e
          exact (wipe_some e).1
        · obtain ⟨o, e, _⟩ := tr.obj _ _ sz7 b hb
          exact (pin' b hb o e).2
      cases b with
      | false =>
        simp only [Bool.false_eq_true, if_false] at q9 ⊢
        exact turned J9 q9
      | true =>
        simp only [if_true] at q9 ⊢
        refine thnF (qe.run _ z9 τ8 G9 _ J9 q9) fun w1 z10 ⟨yv, G10, J10, r10, xa, ks1, L0, ey, hxa, hD10, hL0, hz10, nx⟩ => ?_
        subst ey
        cases (show w1 = Value.ref xa from r10)
        exact tset_adds (X := Y.blk z3 G3 scope env1 mem) kroom J10 hD10 hL0 hxa hz10 fun L1 c1 c2 z11 J11 => turned J11 (nx L1 c1 c2)
  exact codeAny_compStart_set walk1 (tr.self Y.A 0 _ _ _ sz4 walk1)
end
/-! ### the data -/
def tupInts : D → Option (List Int)
  | .tup ds => dInts ds
  | _ => none
def keysOf : List D → Option (List (List Int))
  | [] => some []
  | d :: ds => match tupInts d, keysOf ds with
    | some k, some ks => some (k :: ks)
    | _, _ => none
/-- what comes into a set: once -/
def addK (xs : List (List Int)) (k : List Int) : List (List Int) := if k ∈ xs then xs else xs ++ [k]
def onceK (ks : List (List Int)) : List (List Int) := ks.foldl addK []
def setR (fi : LS → R (List D)) (vs : List Nat) (g : D → LS → Option LS) (t : LS → R Bool) (f : LS → R D) : LS → R (List (List Int)) := fun st => (compR fi vs g t f st).bind fun ys => match keysOf ys with
  | some ks => if ks.length < 64 then .ok ks else .bad
  | none => .bad
def setE (fi : LS → R (List D)) (vs : List Nat) (g : D → LS → Option LS) (t : LS → R Bool) (f : LS → R D) : LS → R D := fun st => (setR fi vs g t f st).bind fun ks => .ok (.tset (onceK ks))
theorem keysOf_append : ∀ {xs ys : List D} {ks : List (List Int)}, keysOf (xs ++ ys) = some ks → ∃ k1 k2, keysOf xs = some k1 ∧ keysOf ys = some k2 ∧ ks = k1 ++ k2
  | [], ys, ks, h => ⟨[], ks, rfl, h, rfl⟩
  | d :: xs, ys, ks, h => by
    rw [List.cons_append] at h
    unfold keysOf at h
    split at h
    · rename_i k ks' e1 e2
      cases h
      obtain ⟨k1, k2, a, b, c⟩ := keysOf_append e2
      refine ⟨k :: k1, k2, ?_, b, by rw [c]; rfl⟩
      unfold keysOf
      rw [e1, a]
    · cases h
theorem tup_ints {K : PySem.W.Frag} {cm : CM} {S : Hp} {v : V} {d : D} {k : List Int} (h : Rep K cm S v d) (e : tupInts d = some k) : ∃ x, v = .ref x ∧ SqT K S x (k.map V.int) := by
  cases d <;> try (cases e; done)
  case tup ds =>
    cases h with
    | @tup a xs _ h1 h2 =>
      rw [dInts_eq e] at h2
      rw [rep_ints h2] at h1
      exact ⟨a, rfl, h1⟩
theorem onceK_snoc (ks : List (List Int)) (k : List Int) : onceK (ks ++ [k]) = addK (onceK ks) k := by
  unfold onceK
  rw [List.foldl_append]
  rfl
theorem addK_len (xs : List (List Int)) (k : List Int) : (addK xs k).length ≤ xs.length + 1 := by
  unfold addK
  split
  · omega
  · simp
theorem onceK_len : ∀ ks : List (List Int), (onceK ks).length ≤ ks.length := by
  intro ks
  have gen : ∀ (ks xs : List (List Int)), (ks.foldl addK xs).length ≤ xs.length + ks.length := by
    intro ks
    induction ks with
    | nil => intro xs; simp
    | cons k ks ih =>
      intro xs
      have h1 := ih (addK xs k)
      have h2 := addK_len xs k
      simp only [List.foldl_cons, List.length_cons]
      omega
  have := gen ks []
  rw [List.length_nil, Nat.zero_add] at this
  exact this
section
variable {X : Cx} {cm : CM} {W : WH} {fi : LS → R (List D)} {vs : List Nat} {g : D → LS → Option LS} {t : LS → R Bool} {f : LS → R D}
theorem tset_reads {σ : Sg} {H : Hp} {Q : VK} (hset : cm.setO = SetTO X.prog X.w) (k : E X.K cm W (setE fi vs g t f) σ H Q) : tSt X.K X.prog X.w (IV X.K cm W fi) (GX X.K cm vs g) (TB X.K cm WF t) (E X.K cm WF f) vs σ H Q := by
  obtain ⟨st, S, fp, r, k⟩ := k
  refine ⟨st, S, fp, r, ?_⟩
  cases qf : fi st with
  | bad => unfold setE setR compR at k; rw [qf] at k; exact k.elim
  | ex e => unfold setE setR compR at k; rw [qf] at k; exact k
  | ok ds =>
    intro H1 S1 x1 J w L0 hL
    replace k : Go X.K cm W (fun d S' H' => ∀ v, Rep X.K cm S' v d → Q v H') ((((if ds.length ≤ sizeLine then compL g t f (wipeS st vs) ds else .bad).bind fun ys => match keysOf ys with
      | some ks => if ks.length < 64 then R.ok ks else .bad
      | none => .bad).bind fun ks => .ok (.tset (onceK ks)))) S H σ := by
      unfold setE setR compR at k
      rw [qf] at k
      exact k
    by_cases hlen : ds.length ≤ sizeLine
    case neg => rw [if_neg hlen] at k; exact k.elim
    rw [if_pos hlen] at k
    obtain ⟨fp0, r0, b0⟩ := (r.ext x1).wipe (W' := WF) vs
    have s1L : S1 L0 = none := x1.sh.free hL
    rcases compL_ok (g := g) (t := t) (f := f) (st := wipeS st vs) ds with qz | ⟨zs, qz⟩
    · rw [qz] at k; exact k.elim
    rw [qz] at k
    cases qk : keysOf zs with
    | none =>
      replace k : Go X.K cm W (fun d S' H' => ∀ v, Rep X.K cm S' v d → Q v H') ((match keysOf zs with
        | some ks => if ks.length < 64 then R.ok ks else .bad
        | none => .bad).bind fun ks => .ok (.tset (onceK ks))) S H σ := k
      rw [qk] at k
      exact k.elim
    | some kz =>
    replace k : Go X.K cm W (fun d S' H' => ∀ v, Rep X.K cm S' v d → Q v H') ((match keysOf zs with
      | some ks => if ks.length < 64 then R.ok ks else .bad
      | none => .bad).bind fun ks => .ok (.tset (onceK ks))) S H σ := k
    rw [qk] at k
    replace k : Go X.K cm W (fun d S' H' => ∀ v, Rep X.K cm S' v d → Q v H') ((if kz.length < 64 then R.ok kz else .bad).bind fun ks => .ok (.tset (onceK ks))) S H σ := k
    by_cases few : kz.length < 64
    case neg => rw [if_neg few] at k; exact k.elim
    rw [if_pos few] at k
    replace k : ∀ H' S', Xt S S' H H' → ∀ v, Rep X.K cm S' v (.tset (onceK kz)) → Q v H' := k
    let Good : Nat → Hp → Prop := fun i H => ∃ S' L ys us ky, Xt S1 S' H1 H ∧ S' L0 = none ∧ H L0 = some (SetTO X.prog X.w L0 L) ∧ (∀ p ∈ L, SqT X.K S' p.1 (p.2.map V.int)) ∧ keysOf ys = some ky ∧ (L.map (·.2)).Perm (onceK ky) ∧ compL g t f (wipeS st vs) (ds.drop i) = .ok us ∧ zs = ys ++ us
    refine ⟨fun i m H => m = ds.length - i ∧ i ≤ ds.length ∧ Good i H, ⟨_, rfl, Nat.zero_le _, S1, [], [], zs, [], Xt.own x1.sh hL, s1L, upd_same, fun p m => (nomatch m), rfl, List.Perm.refl _, by rw [List.drop_zero]; exact qz, rfl⟩, ?_⟩
    rintro i m H2 ⟨rfl, hi, S2, L, ys, us, ky, x2, n2, hA, hT, hky, pm, q2, qe⟩
    obtain ⟨w1, w2⟩ := w i S2 H2 x2.ss x2.sh x2.hh
    cases q3 : ds[i]? with
    | none =>
      have hl : ds.length ≤ i := List.getElem?_eq_none_iff.mp q3
      rw [List.drop_eq_nil_of_le hl] at q2
      cases q2
      rw [List.append_nil] at qe
      subst qe
      rw [hky] at qk
      cases qk
      refine .inl ⟨w2 (Nat.le_antisymm hl hi), k H2 (upd S2 L0 (SetTO X.prog X.w L0 L)) ⟨(x1.ss.trans x2.ss).trans (same_upd n2), fun b o e => ?_, x1.hh.trans x2.hh, fun b o e n => ?_⟩ _ (.tset (L := L) (by rw [hset]; exact upd_same) (fun p m => same_sqT (same_upd n2) (hT p m)) pm)⟩
      · by_cases hb : b = L0
        · subst hb; rw [upd_same] at e; cases e; exact hA
        · rw [upd_ne hb] at e; exact x2.sh b o e
      · by_cases hb : b = L0
        · subst hb; exact x1.hh.free hL
        · rw [upd_ne hb] at e; exact (x1.trans x2).fr b o e n
    | some d =>
      have hl : i < ds.length := (List.getElem?_eq_some_iff.mp q3).1
      obtain ⟨go, y⟩ := w1 d q3
      rw [drop_get q3] at q2
      refine .inr ⟨go, fun H => i + 1 ≤ ds.length ∧ Good (i + 1) H, fun H' n => ⟨ds.length - (i + 1), by omega, rfl, n⟩, fun v H3 hy => ?_⟩
      obtain ⟨S3, x3, hv⟩ := y v H3 hy
      replace q2 : (match g d (wipeS st vs) with
        | none => .bad
        | some st1 => (t st1).noex.bind fun b => if b = true then (f st1).noex.bind fun y => (compL g t f (wipeS st vs) (ds.drop (i + 1))).bind fun ys => .ok (y :: ys) else compL g t f (wipeS st vs) (ds.drop (i + 1))) = R.ok us := q2
      cases q4 : g d (wipeS st vs) with
      | none => rw [q4] at q2; cases q2
      | some st4 =>
        rw [q4] at q2
        obtain ⟨b, q5, q6⟩ := R.noex_ok q2
        have x13 := x2.trans x3
        have keepL : ∀ {S' H' : Hp}, Xt S2 S' H2 H' → S' L0 = none ∧ H' L0 = some (SetTO X.prog X.w L0 L) := fun {S' H'} x => by
          refine ⟨?_, x.hh _ _ hA⟩
          cases q : S' L0 with
          | none => rfl
          | some o =>
            have z := x.fr L0 o q n2
            rw [hA] at z
            cases z
        refine ⟨wipeS st vs, S3, fp0, d, r0.ext x13, hv, st4, q4, fun σ4 fp4 r4 b4 k4 => ⟨?_, st4, S3, fp4, r4, ?_⟩⟩
        · have e1 := k4.wipe
          rw [e1]
          apply List.ext_getElem?
          intro j
          rw [wipe_get]
          split
          · rename_i hj
            rw [wipe_get, if_pos hj]
            cases σ[j]? <;> rfl
          · rfl
        · rw [q5]
          intro H5 S5 x5
          have s25 : Same S2 S5 := x3.ss.trans x5.ss
          cases b with
          | false =>
            obtain ⟨n5, hA5⟩ := keepL (x3.trans x5)
            exact ⟨hl, S5, L, ys, us, ky, x13.trans x5, n5, hA5, fun p m => same_sqT s25 (hT p m), hky, pm, q6, qe⟩
          | true =>
            obtain ⟨u, q7, q8⟩ := R.noex_ok q6
            obtain ⟨us', q9, q10⟩ := R.bind_ok q8
            cases q10
            refine ⟨st4, S5, fp4, r4.ext x5, ?_⟩
            rw [q7]
            intro H6 S6 x6 z hz
            obtain ⟨n6, hA6⟩ := keepL ((x3.trans x5).trans x6)
            rw [qe] at qk
            obtain ⟨k1, k2, e1, e2, e3⟩ := keysOf_append qk
            rw [hky] at e1
            cases e1
            have e4 : ∃ ku, tupInts u = some ku ∧ ∃ kr, k2 = ku :: kr := by
              unfold keysOf at e2
              split at e2
              · rename_i ku kr a1 a2
                cases e2
                exact ⟨ku, a1, kr, rfl⟩
              · cases e2
            obtain ⟨ku, hku, kr, rfl⟩ := e4
            obtain ⟨xa, rfl, hxa⟩ := tup_ints hz hku
            have s26 : Same S2 S6 := s25.trans x6.ss
            have hT6 : ∀ p ∈ L, SqT X.K S6 p.1 (p.2.map V.int) := fun p m => same_sqT s26 (hT p m)
            have lenL : L.length ≤ ky.length := by
              have := pm.length_eq
              rw [List.length_map] at this
              rw [this]
              exact onceK_len ky
            have lenZ : ky.length + 1 ≤ kz.length := by rw [e3]; simp
            refine ⟨xa, ku, L, rfl, same_sqT x6.sh hxa, hA6, fun p m => same_sqT x6.sh (hT6 p m), by omega, fun L' c1 c2 => ⟨hl, S6, L', ys ++ [u], us', ky ++ [ku], ?_, n6, upd_same, fun p m => ?_, ?_, ?_, q9, by rw [qe]; simp⟩⟩
            · have xx := (x13.trans x5).trans x6
              exact ⟨xx.ss, same_upd2 xx.sh n6, fun b o e => by
                have ne : b ≠ L0 := fun z => by rw [z, hL] at e; cases e
                rw [upd_ne ne]
                exact xx.hh b o e, xx.fr⟩
            · rcases Classical.em (ku ∈ L.map (·.2)) with c | c
              · rw [c1 c] at m; exact hT6 p m
              · rcases List.mem_cons.mp ((c2 c).mem_iff.mp m) with e | m
                · rw [e]; exact hxa
                · exact hT6 p m
            · have gen : ∀ {a : List D} {ka : List (List Int)}, keysOf a = some ka → keysOf (a ++ [u]) = some (ka ++ [ku]) := by
                intro a
                induction a with
                | nil =>
                  intro ka h
                  cases h
                  show keysOf [u] = _
                  unfold keysOf
                  rw [hku]
                  rfl
                | cons d0 a ih =>
                  intro ka h
                  unfold keysOf at h
                  split at h
                  · rename_i k0 ks0 a1 a2
                    cases h
                    show keysOf (d0 :: (a ++ [u])) = _
                    unfold keysOf
                    rw [a1, ih a2]
                    rfl
                  · cases h
              exact gen hky
            · rw [onceK_snoc]
              unfold addK
              rcases Classical.em (ku ∈ L.map (·.2)) with c | c
              · rw [c1 c, if_pos (pm.mem_iff.mp c)]
                exact pm
              · rw [if_neg fun z => c (pm.mem_iff.mpr z)]
                have p2 := (c2 c).map (·.2)
                rw [List.map_cons] at p2
                exact (p2.trans (List.Perm.cons ku pm)).trans (List.perm_append_comm (l₁ := [ku]))
variable {elt tg iter : Expr} {ifs : List Expr} {scope : Scope} {own : List (Str × Nat)} {pos : Pos}
theorem e_sc {k : Nat} (hset : cm.setO = SetTO X.prog X.w) (hr : Room k X.A) (hi : PI X tg iter (IV X.K cm W fi)) (ok : BlkOk X.N X.env.scope scope own) (hg : BX X scope fun Y => PG Y tg (GX X.K cm (own.map (·.2)) g)) (ht : BX X scope fun Y => PTs Y ifs (TB X.K cm WF t)) (he : BX X scope fun Y => PE Y elt (E X.K cm WF f))
    (hN : X.N.Nodup) (hc : X.calm = true := by rfl) (hs : ∀ x, foldedSetIterable iter X.env x = pure x := by intro _; rfl) : PE X (.SetComp elt [⟨tg, iter, ifs, 0⟩] scope pos) (E X.K cm W (setE fi (own.map (·.2)) g t f)) := by
  refine ⟨fun pins s σ H Q I h => ?_⟩
  rw [PpSet.eval_SetComp]
  refine tset_core (by have := hr.un; omega) hc hN I hi ok hg ht he hs (tset_reads hset h) fun B C s' m H' I' q hn f => ⟨m, hn, fun h'' sb => ?_⟩
  obtain ⟨f0, f1, f2, f3, f4, f5⟩ := f
  exact ⟨.ref B, H', I'.turned (t' := s'.toks) (fun b o hb e => (sb.2 b hb).trans e) f0 f1 f3 f4 f5, rfl, q⟩
end
end DI
end
section
set_option Elab.async false
set_option linter.all false
set_option maxRecDepth 100000
set_option maxHeartbeats 2000000
/-! DI: isinstance, own operators, methods. -/
namespace DI
open PySem PySem.Spec PyProof.Rows L2
/-! ### types -/
inductive BT where
  | non | bool | int | str | tuple | list
def BT.nm : BT → String
  | .non => "NoneType"
  | .bool => "bool"
  | .int => "int"
  | .str => "str"
  | .tuple => "tuple"
  | .list => "list"
/-- a type: a built-in one, an own class by its tag -/
inductive TY where
  | b (t : BT)
  | c (k : Nat)
def TY.vl (cm : CM) : TY → Value
  | .b t => .type t.nm
  | .c k => .ref (cm.addr k)
def D.ty : D → Option TY
  | .non => some (.b .non)
  | .bl _ => some (.b .bool)
  | .int _ => some (.b .int)
  | .str _ => some (.b .str)
  | .tup _ => some (.b .tuple)
  | .lst _ => some (.b .list)
  | .scr _ => some (.b .list)
  | .ins c _ => some (.c c)
  | .tset _ => none
  | .dct _ _ _ => none
  | .rng _ _ => none
  | .nd _ _ => none
def BT.sub : BT → BT → Bool
  | .non, .non => true
  | .bool, .bool => true
  | .bool, .int => true
  | .int, .int => true
  | .str, .str => true
  | .tuple, .tuple => true
  | .list, .list => true
  | _, _ => false
/-- is a value of this type an instance of that one; sub: the classes' own order -/
def TY.sub (sub : Nat → Nat → Bool) : TY → TY → Bool
  | .b s, .b t => s.sub t
  | .c k, .c j => sub k j
  | _, _ => false
def dIs (sub : Nat → Nat → Bool) (ts : List TY) : D → Option D := fun d => d.ty.map fun t => .bl (ts.any (t.sub sub))
/-- a dict with nested keys: its entries, each with the key's own tuple -/
def NDO (P : Program) (w : World) (a : Addr) (ps : List (NestedKey × Addr × V)) : HO := .ext fun h =>
  (a == sysModules) = false ∧ ps.length ≤ sizeLine ∧ ∃ xs : List (NestedKey × Addr × Value), Paired (fun p q => p.1 = q.1 ∧ p.2.1 = q.2.1 ∧ RelV p.2.2 q.2.2) ps xs ∧
    ∃ o es ep, h.get? a = some o ∧ o.ExactDict ∧ o.data = .dict es ep ∧ es.toList = xs.map (entryOfKey (nestedKind P w)) ∧ (xs.map (·.1)).Nodup
/-- what is known of an own class -/
structure ClsOk (K : PySem.W.Frag) (C : Addr) : Prop where
  cl : Cls K C
  ca : PySem.W.findIn K (.ref C) "__class__" = some (some (.builtin "object.__class__"))
  cn : PySem.W.specialIn K (.builtin "object.__class__") "__get__" = some (some (.builtin "getset_descriptor.__get__"))
  ct : PySem.W.takesIn K (.builtin "object.__class__") = some true
  cm : PySem.W.mroIn K C (.type "object") = some true
section
variable {K : PySem.W.Frag} {cm : CM} {S H : Hp}
theorem tyx_lst {a : Addr} {xs : List V} (h : SqL K H a xs) : TyX K H (.ref a) (.type "list") := by
  rcases h with (h | ⟨o, h⟩) | ⟨o, _, _, h, c, _⟩
  · exact .base (.lst h)
  · exact .base (.frz h)
  · exact .kList h c
theorem tyx_tup {a : Addr} {xs : List V} (h : SqT K H a xs) : TyX K H (.ref a) (.type "tuple") := by
  rcases h with (h | ⟨o, h⟩) | ⟨o, _, _, h, c, _⟩
  · exact .base (.tup h)
  · exact .fTuple h
  · exact .kTuple h c
theorem tyx_of {v : V} {d : D} {t : TY} (ok : ∀ c ∈ cm.cls, ClsOk K (cm.addr c)) (sh : Same S H) (h : View K cm S H v d) (e : d.ty = some t) : TyX K H v (t.vl cm) := by
  rcases h with h | ⟨a, vs, ds, rfl, rfl, h, _⟩
  · cases h with
    | non => cases e; exact .base .non
    | bl b => cases e; exact .base (.bl b)
    | int i => cases e; exact .base (.int i)
    | str x => cases e; exact .base (.str x)
    | tup h _ => cases e; exact tyx_tup (same_sqT sh h)
    | lst h _ => cases e; exact .base (.lst (sh _ _ h))
    | scr h _ => cases e; exact tyx_lst (same_sqL sh h)
    | tset _ _ _ => cases e
    | dct _ _ _ _ => cases e
    | rng _ => cases e
    | nd _ _ _ _ _ => cases e
    | ins m h _ => cases e; exact .base (.ins (sh _ _ h) (ok _ m).cl (ok _ m).ca (ok _ m).cn (ok _ m).ct (ok _ m).cm)
  · cases e; exact .base (.lst h)
theorem bt_kit (s t : BT) : PySem.W.kitOne K (.type s.nm) (.type t.nm) = some (s.sub t) := by
  cases s <;> cases t <;> exact kit_ty (by decide +kernel)
/-- what isinstance answers, over the classes and the types that are asked -/
def KitOk (K : PySem.W.Frag) (cm : CM) (sub : Nat → Nat → Bool) (t : TY) : Prop := match t with
  | .b t => ∀ c ∈ cm.cls, PySem.W.kitOne K (.ref (cm.addr c)) (.type t.nm) = some false
  | .c j => (∀ s : BT, PySem.W.kitOne K (.type s.nm) (.ref (cm.addr j)) = some false) ∧ ∀ c ∈ cm.cls, PySem.W.kitOne K (.ref (cm.addr c)) (.ref (cm.addr j)) = some (sub c j)
theorem View.insm {v : V} {c : Nat} {ds : List D} (h : View K cm S H v (.ins c ds)) : c ∈ cm.cls := by
  rcases h with h | ⟨_, _, _, _, e, _⟩
  · cases h; assumption
  · cases e
theorem kit_one {sub : Nat → Nat → Bool} {v : V} {d : D} {t u : TY} (ok : KitOk K cm sub u) (h : View K cm S H v d) (e : d.ty = some t) : PySem.W.kitOne K (t.vl cm) (u.vl cm) = some (t.sub sub u) := by
  cases u with
  | b u =>
    cases t with
    | b t => exact bt_kit t u
    | c k =>
      cases d <;> cases e
      exact ok _ h.insm
  | c j =>
    cases t with
    | b t => exact ok.1 t
    | c k =>
      cases d <;> cases e
      exact ok.2 _ h.insm
theorem kit_any {sub : Nat → Nat → Bool} {v : V} {d : D} {t : TY} (h : View K cm S H v d) (e : d.ty = some t) : ∀ {us : List TY}, (∀ u ∈ us, KitOk K cm sub u) → PySem.W.kitAny K (t.vl cm) (us.map (TY.vl cm)) = some (us.any (t.sub sub))
  | [], _ => kitAny_nil
  | u :: us, ok => by
    have h1 := kit_one (ok u List.mem_cons_self) h e
    have h2 := kit_any h e fun x m => ok x (List.mem_cons_of_mem _ m)
    rw [List.map_cons, List.any_cons]
    refine kitAny_cons h1 (fun z => ?_) fun z => ?_
    · rw [z, Bool.false_or]; exact h2
    · rw [z, Bool.true_or]
end
/-- a class as an expression -/
def TY.v (cm : CM) : TY → V
  | .b t => .ty t.nm
  | .c k => .ref (cm.addr k)
theorem TY.clsv (cm : CM) : ∀ t : TY, ClsV (t.v cm) (t.vl cm)
  | .b _ => .ty _
  | .c _ => .own _
theorem TY.clsvs (cm : CM) : ∀ ts : List TY, Paired ClsV (ts.map (TY.v cm)) (ts.map (TY.vl cm))
  | [] => .nil
  | t :: ts => .cons (t.clsv cm) (TY.clsvs cm ts)
def tys (cm : CM) : List TY → TA
  | [] => tNil
  | t :: ts => tCons (tC (t.v cm)) (tys cm ts)
theorem tys_run {cm : CM} {σ : Sg} {H : Hp} {Q : List V → Hp → Prop} : ∀ {ts : List TY}, Q (ts.map (TY.v cm)) H → tys cm ts σ H Q
  | [], h => h
  | t :: ts, h => tys_run (Q := fun xs H2 => Q (t.v cm :: xs) H2) h
section
variable {X : Cx} {cm : CM} {W : WH} {sub : Nat → Nat → Bool} {f g : LS → R D} {p pos tpos : Pos} {a b e : Expr} {es : List Expr} {t : TY} {ts : List TY}
theorem e_isi (ok : ∀ c ∈ cm.cls, ClsOk X.K (cm.addr c)) (kit : KitOk X.K cm sub t) (hm : X.mg "isinstance" = none) (ha : PE X a (VE X.K cm W f)) (hc : PE X e (tC (t.v cm))) (hg : Gl X "isinstance" := by rfl)
    (hs1 : starEach [a, e] X.env = (false, eval a X.env) :: starEach [e] X.env := by rfl) (hs2 : starEach [e] X.env = (false, eval e X.env) :: starEach [] X.env := by rfl)
    (hpl : (backTo pos (starEach [e] X.env)).any (·.1) = false := by rfl) : PE X (.Call (.Name "isinstance" p) [a, e] [] pos) (E X.K cm W (un (dIs sub [t]) f)) :=
  (pe_callB call_isi hg hm PyProof.Rows.boot_isinstance (pa_cons ha (pa_cons hc pa_nil hs2) hs1) (by decide) (by decide) hs1 hpl).imp fun σ H Q ⟨st, S, fp, rx, k⟩ => ⟨st, S, fp, rx, k.bind.mono fun d S1 H1 x1 k1 v hv => by
    obtain ⟨z, hz, k2⟩ := k1.of
    unfold dIs at hz
    cases q : d.ty with
    | none => rw [q] at hz; cases hz
    | some ty =>
      rw [q] at hz
      cases hz
      refine ⟨v, t.v cm, ty.vl cm, t.vl cm, ty.sub sub t, rfl, t.clsv cm, tyx_of ok x1.sh hv q, kit_one kit hv q, ?_⟩
      have := k2 H1 S1 (Xt.refl x1.sh) (.bl (List.any [t] (ty.sub sub))) (.bl _)
      simpa using this⟩
/-- isinstance(a, (c1, c2)) -/
theorem e_isiT {k : Nat} (ok : ∀ c ∈ cm.cls, ClsOk X.K (cm.addr c)) (kit : ∀ t ∈ ts, KitOk X.K cm sub t) (hl : ts.length ≤ sizeLine) (hm : X.mg "isinstance" = none) (ha : PE X a (VE X.K cm W f)) (hc : PA X es (tys cm ts)) (hg : Gl X "isinstance" := by rfl)
    (hs1 : starEach [a, .Tuple es k tpos] X.env = (false, eval a X.env) :: starEach [.Tuple es k tpos] X.env := by rfl) (hs2 : starEach [.Tuple es k tpos] X.env = (false, eval (.Tuple es k tpos) X.env) :: starEach [] X.env := by rfl)
    (hpl : (backTo pos (starEach [.Tuple es k tpos] X.env)).any (·.1) = false := by rfl) : PE X (.Call (.Name "isinstance" p) [a, .Tuple es k tpos] [] pos) (E X.K cm W (un (dIs sub ts) f)) :=
  (pe_callB call_isiT hg hm PyProof.Rows.boot_isinstance (pa_cons ha (pa_cons (pe_tup hc) pa_nil hs2) hs1) (by decide) (by decide) hs1 hpl).imp fun σ H Q ⟨st, S, fp, rx, k⟩ => ⟨st, S, fp, rx, k.bind.mono fun d S1 H1 x1 k1 v hv => by
    obtain ⟨z, hz, k2⟩ := k1.of
    unfold dIs at hz
    cases q : d.ty with
    | none => rw [q] at hz; cases hz
    | some ty =>
      rw [q] at hz
      cases hz
      refine tys_run (ts := ts) ⟨by rw [List.length_map]; exact hl, fun r hr => ?_⟩
      have x2 : Xt S1 S1 H1 (upd H1 r (.tup (ts.map (TY.v cm)))) := Xt.own x1.sh hr
      exact ⟨v, r, ts.map (TY.v cm), ty.vl cm, ts.map (TY.vl cm), ts.any (ty.sub sub), rfl, upd_same, TY.clsvs cm ts, tyx_of ok x2.sh (hv.ext x2) q, kit_any hv q kit, k2 _ S1 x2 _ (.bl _)⟩⟩
/-! ### own operators: what is raised is wished for at the slots -/
def OpS (X : Cx) (f : Value → Value → Sem Value) (r : Sg → R2) : Prop :=
  ∀ (pins : List (Addr × Obj)) (s : Shared) (σ : Sg) (H : Hp) (x y : V) (v u : Value) (Q : VK), Inv X pins σ H s → RelV x v → RelV y u → r σ x y H Q →
    wpAny (model X.prog X.w) X.A (f v u) (EP X pins σ Q) X.xe s
theorem OpS.or {h : Value → Value → Sem Value} {r r' : Sg → R2} (o : OpS X h r) (o' : OpS X h r') : OpS X h (fun σ x y H Q => r σ x y H Q ∨ r' σ x y H Q) :=
  fun pins s σ H x y v u Q I rx ry q => q.elim (o pins s σ H x y v u Q I rx ry) (o' pins s σ H x y v u Q I rx ry)
variable {C h : Addr} {fd : FuncData} {ps : List Str} {n : Nat} {sp : Sp} {Ex : Sg → XK}
end
end DI
end
section
set_option Elab.async false
set_option linter.all false
set_option maxRecDepth 100000
set_option maxHeartbeats 2000000
/-! DI: fields of an instance that its __init__ makes; own operators and methods over data. -/
namespace DI
open PySem PySem.Spec PyProof.Rows L2
theorem putF_app {f : Str} {y : V} : ∀ {ns : List Str} {vs : List V}, ns.Nodup → ns[vs.length]? = some f → putF f y (ns.zip vs) = ns.zip (vs ++ [y])
  | [], vs, _, e => by simp at e
  | n :: ns, [], _, e => by
    have e : n = f := by simpa using e
    subst e
    simp [putF]
  | n :: ns, v :: vs, h, e => by
    obtain ⟨h1, h2⟩ := List.nodup_cons.mp h
    have e : ns[vs.length]? = some f := by simpa using e
    have ne : n ≠ f := fun z => h1 (z ▸ List.mem_of_getElem? e)
    show (if n = f then _ else (n, v) :: putF f y (ns.zip vs)) = _
    rw [if_neg ne, putF_app h2 e]
    rfl
theorem putF_set {f : Str} {y : V} : ∀ {ns : List Str} {vs : List V} {j : Nat}, ns.Nodup → j < vs.length → ns[j]? = some f → putF f y (ns.zip vs) = ns.zip (vs.set j y)
  | [], vs, _, _, _, e => by simp at e
  | n :: ns, [], _, _, l, _ => by simp at l
  | n :: ns, v :: vs, 0, _, _, e => by
    have e : n = f := by simpa using e
    subst e
    show (if n = n then (n, y) :: ns.zip vs else _) = _
    rw [if_pos rfl]
    rfl
  | n :: ns, v :: vs, j + 1, h, l, e => by
    obtain ⟨h1, h2⟩ := List.nodup_cons.mp h
    have e : ns[j]? = some f := by simpa using e
    have ne : n ≠ f := fun z => h1 (z ▸ List.mem_of_getElem? e)
    show (if n = f then _ else (n, v) :: putF f y (ns.zip vs)) = _
    rw [if_neg ne, putF_set h2 (by simpa using l) e]
    rfl
theorem RepL.set {K : PySem.W.Frag} {cm : CM} {S : Hp} {v : V} {d : D} (h : Rep K cm S v d) : ∀ {vs : List V} {ds : List D} (j : Nat), RepL K cm S vs ds → RepL K cm S (vs.set j v) (ds.set j d)
  | _, _, _, .nil => .nil
  | _, _, 0, .cons _ hs => .cons h hs
  | _, _, j + 1, .cons a hs => .cons a (RepL.set h j hs)
def putD (j : Nat) (d : D) (fs : List D) : Option (List D) := if j = fs.length then some (fs ++ [d]) else if j < fs.length then some (fs.set j d) else none
def insO (c : Nat) : Option (Option T) → Option (List D)
  | some (some (.ins c' fs)) => if c' = c then some fs else none
  | _ => none
theorem insO_some {c : Nat} {o : Option (Option T)} {fs : List D} (h : insO c o = some fs) : o = some (some (.ins c fs)) := by
  unfold insO at h
  split at h
  · split at h
    · rename_i e; subst e; cases h; rfl
    · cases h
  · cases h
/-- self.f = e: the instance of class c is at slot i, f is its j-th field -/
def slfS (i c j : Nat) (f : LS → R D) : LS → Out := fun st => match insO c st[i]? with
  | none => .bad
  | some fs => (f st).out st fun d => match putD j d fs with
    | some fs' => .nx (st.set i (some (.ins c fs')))
    | none => .bad
/-- self.f -/
def slfE (i c j : Nat) : LS → R D := fun st => .of ((insO c st[i]?).bind fun fs => fs[j]?)
section
variable {X : Cx} {cm : CM} {W : WH} {c : Fr} {i k j : Nat} {f : LS → R D} {fn : Str} {p p' pos : Pos} {e o : Expr}
theorem s_slf (ok : FldOk X.K cm fn k j) (hl : (cm.names k).length < 1000) (ho : PE X o (tVar i)) (he : PE X e (E X.K cm W f)) (hs : swapsWith e (some (.Attribute o fn p')) pos.line X.env = pure false := by rfl) :
    PS X (.Assign [.Attribute o fn p'] e pos) (SX X.K cm W c (slfS i k j f)) := (ps_fld ho he hs).imp fun D σ H ⟨st, S, fp, r, p⟩ => by
  replace p : Post X.K cm W c D S (match insO k st[i]? with
    | none => .bad
    | some fs => (f st).out st fun d => match putD j d fs with
      | some fs' => .nx (st.set i (some (.ins k fs')))
      | none => .bad) := p
  cases q : insO k st[i]? with
  | none => rw [q] at p; exact p.elim
  | some fs =>
    rw [q] at p
    obtain ⟨v, f1, h1, h2, h3, h4, h5⟩ := r.mut (insO_some q)
    cases h2 with
    | @ins a dx _ vs _ m0 ha hr =>
      refine ⟨st, S, fp, r.rx, Post.go r p fun d S' H' x q2 y hy => ⟨.ref a, h1, a, cm.addr k, dx, _, rfl, x.hh _ _ ha, ok.cl, ok.na, Nat.lt_of_le_of_lt (by rw [List.length_zip]; exact Nat.min_le_left _ _) hl, ?_⟩⟩
      have hr' := hr.mono x.ss
      cases q3 : putD j d fs with
      | none => rw [q3] at q2; exact q2.elim
      | some fs' =>
        rw [q3] at q2
        have key : ∃ vs', putF fn y ((cm.names k).zip vs) = (cm.names k).zip vs' ∧ RepL X.K cm S' vs' fs' := by
          unfold putD at q3
          split at q3
          · rename_i ej
            cases q3
            exact ⟨_, putF_app ok.nd (by rw [hr.length, ← ej]; exact ok.at_), hr'.append (.cons hy .nil)⟩
          · split at q3
            · rename_i lj
              cases q3
              exact ⟨_, putF_set ok.nd (by rw [hr.length]; exact lj) ok.at_, hr'.set hy j⟩
            · cases q3
        obtain ⟨vs', e1, r1⟩ := key
        rw [e1]
        refine q2 σ _ (h5 S' H' _ _ [a] x (fun b n => upd_ne fun z => n (by rw [z]; exact List.mem_cons_self)) (.ins m0 upd_same r1) (nodup1 a) fun b m => .inl m)
theorem e_slf (ok : FldOk X.K cm fn k j) (ho : PE X o (tVar i)) (hb : attributeBase o fn X.env (eval o X.env) = eval o X.env := by rfl) : PE X (.Attribute o fn pos) (E X.K cm W (slfE i k j)) :=
  (pe_fld ho hb).imp fun σ H Q ⟨st, S, fp, r, g⟩ => by
    obtain ⟨d, e, kk⟩ := g.of
    cases q : insO k st[i]? with
    | none => rw [q] at e; cases e
    | some fs =>
      rw [q] at e
      obtain ⟨v, f1, h1, h2, _⟩ := r.sls.get (insO_some q)
      cases h2 with
      | @ins a dx _ vs _ m0 ha hr =>
        obtain ⟨u, e1, r1⟩ := hr.get e
        exact ⟨.ref a, h1, a, cm.addr k, dx, _, u, rfl, ha, ok.cl, ok.na, by rw [zip_lookup ok.nd ok.at_]; exact e1, kk H S (Xt.refl r.sh) u r1⟩
end
/-! ### own operators over data -/
def op2R (op : D → D → R D) (f g : LS → R D) : LS → R D := fun st => (f st).bind fun x => (g st).bind fun y => op x y
end DI
end
section
set_option Elab.async false
set_option linter.all false
set_option maxRecDepth 100000
set_option maxHeartbeats 2000000
/-! DI: sorted(set of tuples of numbers). -/
namespace DI
open PySem PySem.Spec PyProof.Rows L2
def lexle : List Int → List Int → Bool
  | [], _ => true
  | _ :: _, [] => false
  | a :: as, b :: bs => decide (a < b) || (decide (a = b) && lexle as bs)
def insT (k : List Int) : List (List Int) → List (List Int)
  | [] => [k]
  | m :: ms => if lexle k m = true then k :: m :: ms else m :: insT k ms
def srtT : List (List Int) → List (List Int)
  | [] => []
  | k :: ks => insT k (srtT ks)
theorem insT_perm (n : List Int) : ∀ ms : List (List Int), (insT n ms).Perm (n :: ms)
  | [] => .refl _
  | m :: ms => by
    unfold insT
    split
    · exact .refl _
    · exact (List.Perm.cons m (insT_perm n ms)).trans (List.Perm.swap n m ms)
theorem srtT_perm : ∀ ns : List (List Int), (srtT ns).Perm ns
  | [] => .refl _
  | n :: ns => (insT_perm n _).trans (List.Perm.cons n (srtT_perm ns))
theorem lexle_code {B : Int} : ∀ {x y : List Int}, x.length = y.length → TS.Bd B x → TS.Bd B y → (lexle x y = true → TS.code B x ≤ TS.code B y) ∧ (lexle x y = false → TS.code B y ≤ TS.code B x)
  | [], [], _, _, _ => ⟨fun _ => Int.le_refl _, fun _ => Int.le_refl _⟩
  | [], _ :: _, h, _, _ => by simp at h
  | _ :: _, [], h, _, _ => by simp at h
  | a :: x, b :: y, h, hx, hy => by
    have hl : x.length = y.length := by simpa using h
    obtain ⟨i1, i2⟩ := lexle_code hl hx.tail hy.tail
    rcases Int.lt_trichotomy a b with c | c | c
    · have q := TS.code_lt hl hx.tail hy.tail c
      refine ⟨fun _ => Int.le_of_lt q, fun z => ?_⟩
      unfold lexle at z
      rw [decide_eq_true c] at z
      cases z
    · subst c
      have e1 : ∀ {u v : List Int}, u.length = v.length → (TS.code B u ≤ TS.code B v → TS.code B (a :: u) ≤ TS.code B (a :: v)) := fun {u v} huv le => by
        show a * B ^ u.length + TS.code B u ≤ a * B ^ v.length + TS.code B v
        rw [huv]
        omega
      have e2 : lexle (a :: x) (a :: y) = lexle x y := by
        show (decide (a < a) || (decide (a = a) && lexle x y)) = _
        simp
      rw [e2]
      exact ⟨fun z => e1 hl (i1 z), fun z => e1 hl.symm (i2 z)⟩
    · have q := TS.code_lt hl.symm hy.tail hx.tail c
      refine ⟨fun z => ?_, fun _ => Int.le_of_lt q⟩
      unfold lexle at z
      rw [decide_eq_false (by omega : ¬ a < b), decide_eq_false (by omega : ¬ a = b)] at z
      cases z
theorem code_inj {B : Int} : ∀ {x y : List Int}, x.length = y.length → TS.Bd B x → TS.Bd B y → TS.code B x = TS.code B y → x = y
  | [], [], _, _, _, _ => rfl
  | [], _ :: _, h, _, _, _ => by simp at h
  | _ :: _, [], h, _, _, _ => by simp at h
  | a :: x, b :: y, h, hx, hy, e => by
    have hl : x.length = y.length := by simpa using h
    rcases Int.lt_trichotomy a b with c | c | c
    · have q := TS.code_lt hl hx.tail hy.tail c
      omega
    · subst c
      have e : a * B ^ x.length + TS.code B x = a * B ^ y.length + TS.code B y := e
      rw [hl] at e
      rw [code_inj hl hx.tail hy.tail (by omega)]
    · have q := TS.code_lt hl.symm hy.tail hx.tail c
      omega
theorem insT_up {B : Int} {d : Nat} (k : List Int) (hk : k.length = d ∧ TS.Bd B k) : ∀ {ms : List (List Int)}, (∀ m ∈ ms, m.length = d ∧ TS.Bd B m) → ms.Pairwise (fun a b => TS.code B a ≤ TS.code B b) → (insT k ms).Pairwise (fun a b => TS.code B a ≤ TS.code B b)
  | [], _, _ => by unfold insT; exact List.pairwise_singleton _ _
  | m :: ms, hm, h => by
    obtain ⟨h1, h2⟩ := List.pairwise_cons.mp h
    have m0 := hm m List.mem_cons_self
    obtain ⟨l1, l2⟩ := lexle_code (x := k) (y := m) (hk.1.trans m0.1.symm) hk.2 m0.2
    unfold insT
    split
    · rename_i q
      exact List.pairwise_cons.mpr ⟨fun y hy => (List.mem_cons.mp hy).elim (fun e => by rw [e]; exact l1 q) fun hy => Int.le_trans (l1 q) (h1 y hy), h⟩
    · rename_i q
      have q : lexle k m = false := by simpa using q
      refine List.pairwise_cons.mpr ⟨fun y hy => ?_, insT_up k hk (fun x hx => hm x (List.mem_cons_of_mem _ hx)) h2⟩
      rcases List.mem_cons.mp ((insT_perm k ms).mem_iff.mp hy) with e | hy
      · rw [e]; exact l2 q
      · exact h1 y hy
theorem srtT_up {B : Int} {d : Nat} : ∀ {ms : List (List Int)}, (∀ m ∈ ms, m.length = d ∧ TS.Bd B m) → (srtT ms).Pairwise (fun a b => TS.code B a ≤ TS.code B b)
  | [], _ => .nil
  | k :: ks, h => insT_up k (h k List.mem_cons_self) (fun m hm => h m (List.mem_cons_of_mem _ ((srtT_perm ks).mem_iff.mp hm))) (srtT_up fun m hm => h m (List.mem_cons_of_mem _ hm))
theorem code_unique {B : Int} {d : Nat} {xs ys : List (List Int)} (p : xs.Perm ys) (h : ∀ m ∈ ys, m.length = d ∧ TS.Bd B m) (h1 : xs.Pairwise (fun a b => TS.code B a ≤ TS.code B b)) (h2 : ys.Pairwise (fun a b => TS.code B a ≤ TS.code B b)) : xs = ys := by
  have e : xs.map (TS.code B) = ys.map (TS.code B) := up_unique (p.map _) (List.pairwise_map.mpr h1) (List.pairwise_map.mpr h2)
  have gen : ∀ {xs ys : List (List Int)}, (∀ m ∈ xs, m.length = d ∧ TS.Bd B m) → (∀ m ∈ ys, m.length = d ∧ TS.Bd B m) → xs.map (TS.code B) = ys.map (TS.code B) → xs = ys := by
    intro xs
    induction xs with
    | nil =>
      intro ys _ _ e
      cases ys with
      | nil => rfl
      | cons y ys => simp at e
    | cons x xs ih =>
      intro ys a b e
      cases ys with
      | nil => simp at e
      | cons y ys =>
        rw [List.map_cons, List.map_cons] at e
        injection e with e1 e2
        have a0 := a x List.mem_cons_self
        have b0 := b y List.mem_cons_self
        rw [code_inj (a0.1.trans b0.1.symm) a0.2 b0.2 e1, ih (fun m hm => a m (List.mem_cons_of_mem _ hm)) (fun m hm => b m (List.mem_cons_of_mem _ hm)) e2]
  exact gen (fun m hm => h m (p.mem_iff.mp hm)) h e
/-- all of one length, not empty, no number below 0 -/
def okT : List (List Int) → Bool
  | [] => true
  | k :: ks => decide (1 ≤ k.length) && (k :: ks).all fun q => decide (q.length = k.length) && q.all fun n => decide (0 ≤ n)
def mxI : List Int → Int
  | [] => 0
  | n :: ns => max n (mxI ns)
theorem mxI_le : ∀ {ns : List Int} {n : Int}, n ∈ ns → n ≤ mxI ns
  | m :: ns, n, h => by
    show n ≤ max m (mxI ns)
    rcases List.mem_cons.mp h with e | h
    · rw [e]; exact Int.le_max_left _ _
    · exact Int.le_trans (mxI_le h) (Int.le_max_right _ _)
theorem okT_bd {xs : List (List Int)} (h : okT xs = true) : ∃ (d : Nat) (B : Int), 1 ≤ d ∧ ∀ k ∈ xs, k.length = d ∧ TS.Bd B k := by
  cases xs with
  | nil => exact ⟨1, 1, Nat.le_refl 1, fun k hk => nomatch hk⟩
  | cons k ks =>
    unfold okT at h
    rw [Bool.and_eq_true, decide_eq_true_eq, List.all_eq_true] at h
    obtain ⟨h1, h2⟩ := h
    refine ⟨k.length, mxI (k :: ks).flatten + 1, h1, fun q hq => ?_⟩
    have h3 := h2 q hq
    rw [Bool.and_eq_true, decide_eq_true_eq, List.all_eq_true] at h3
    refine ⟨h3.1, fun n hn => ⟨by simpa using h3.2 n hn, ?_⟩⟩
    have := mxI_le (List.mem_flatten.mpr ⟨q, hq, hn⟩)
    omega
def dSortU : List D → Option (List D) := oneF fun d => match d with
  | .tset xs => if okT xs = true then some ((srtT xs).map fun k => .tup (k.map .int)) else none
  | _ => none
theorem repL_tups {K : PySem.W.Frag} {cm : CM} {S : Hp} : ∀ {L : List (Addr × List Int)}, (∀ p ∈ L, SqT K S p.1 (p.2.map V.int)) → RepL K cm S (L.map fun q => V.ref q.1) ((L.map (·.2)).map fun k => .tup (k.map .int))
  | [], _ => .nil
  | p :: L, h => .cons (.tup (h p List.mem_cons_self) (RepL.ints _)) (repL_tups fun q hq => h q (List.mem_cons_of_mem _ hq))
theorem d_sortU {X : Cx} {cm : CM} (hset : cm.setO = SetTO X.prog X.w) : OpNF X.K cm (rSortedT X.K X.prog X.w) dSortU := by
  intro S H xs ds z Q sh hx ho k
  obtain ⟨d, rfl, h2⟩ := oneF_some ho
  clear ho
  obtain ⟨v, rfl, hv⟩ := view1 hx
  cases d <;> try (cases h2; done)
  case tset ks =>
    replace h2 : (if okT ks = true then some ((srtT ks).map fun k => D.tup (k.map .int)) else none) = some z := h2
    split at h2
    · rename_i ok
      cases h2
      rcases hv with hv | ⟨_, _, _, _, e, _⟩
      · cases hv with
        | @tset a L _ h1 h3 pm =>
          obtain ⟨d, B, hd, hB⟩ := okT_bd ok
          have hB2 : ∀ p ∈ L, p.2.length = d ∧ TS.Bd B p.2 := fun p hp => hB _ (pm.mem_iff.mp (List.mem_map.mpr ⟨p, hp, rfl⟩))
          rw [hset] at h1
          refine ⟨a, L, d, B, rfl, sh _ _ h1, fun p hp => same_sqT sh (h3 p hp), hd, hB2, fun L' p pL nd hl pw hp => ?_⟩
          have e : L'.map (·.2) = srtT ks := code_unique (d := d) (B := B) (((pL.map (·.2)).trans pm).trans (srtT_perm ks).symm) (fun m hm => hB m ((srtT_perm ks).mem_iff.mp hm)) (List.pairwise_map.mpr pw) (srtT_up hB)
          have r := repL_tups (K := X.K) (cm := cm) (S := S) (L := L') fun q hq => h3 q (pL.mem_iff.mp hq)
          rw [e] at r
          exact k p _ hp r
      · cases e
    · cases h2
end DI
end
section
set_option Elab.async false
set_option linter.all false
set_option maxRecDepth 100000
set_option maxHeartbeats 2000000
/-! DI: lists under construction inside lists under construction. -/
namespace DI
open PySem PySem.Spec PyProof.Rows L2
/-! ### [fresh for ..] -/
def compTL (g : D → LS → Option LS) (t : LS → R Bool) (f : LS → R T) (st : LS) : List D → R (List T)
  | [] => .ok []
  | d :: ds => match g d st with
    | none => .bad
    | some st1 => (t st1).noex.bind fun b => if b = true then (f st1).noex.bind fun y => (compTL g t f st ds).bind fun ys => .ok (y :: ys) else compTL g t f st ds
def compTF (fi : LS → R (List D)) (vs : List Nat) (g : D → LS → Option LS) (t : LS → R Bool) (f : LS → R T) : LS → R T := fun st => (fi st).bind fun ds => if ds.length ≤ sizeLine then (compTL g t f (wipeS st vs) ds).bind fun ts => .ok (.lst ts) else .bad
theorem compTL_ok {g : D → LS → Option LS} {t : LS → R Bool} {f : LS → R T} {st : LS} : ∀ ds : List D, compTL g t f st ds = .bad ∨ ∃ zs, compTL g t f st ds = .ok zs
  | [] => .inr ⟨[], rfl⟩
  | d :: ds => by
    have ih := compTL_ok (g := g) (t := t) (f := f) (st := st) ds
    simp only [compTL]
    cases g d st with
    | none => exact .inl rfl
    | some st1 =>
      simp only []
      cases t st1 with
      | bad => exact .inl rfl
      | ex e => exact .inl rfl
      | ok b =>
        simp only [R.noex, R.bind]
        cases b with
        | false => simpa using ih
        | true =>
          simp only [if_true]
          cases f st1 with
          | bad => exact .inl rfl
          | ex e => exact .inl rfl
          | ok y =>
            simp only []
            rcases ih with h | ⟨zs, h⟩
            · rw [h]; exact .inl rfl
            · rw [h]; exact .inr ⟨y :: zs, rfl⟩
section
variable {X : Cx} {cm : CM} {W : WH} {fi : LS → R (List D)} {vs : List Nat} {g : D → LS → Option LS} {t : LS → R Bool} {f : LS → R T}
theorem compT_reads {σ : Sg} {H : Hp} {Q : VK} (k : EF X.K cm W (compTF fi vs g t f) σ H Q) : tLc (IV X.K cm W fi) (GX X.K cm vs g) (TB X.K cm WF t) (EF X.K cm WF f) vs σ H Q := by
  obtain ⟨st, S, fp, r, k⟩ := k
  refine ⟨st, S, fp, r, k.bind.mono fun ds S1 H1 x1 q J w L hL => ?_⟩
  replace q : Go X.K cm W (fun t S' H' => ∀ v fn, Own X.K cm S' H' t v fn → fn.Nodup → (∀ a ∈ fn, H a = none ∧ S' a = none) → Q v H') (if ds.length ≤ sizeLine then (compTL g t f (wipeS st vs) ds).bind fun ts => .ok (.lst ts) else .bad) S1 H1 σ := q
  by_cases hlen : ds.length ≤ sizeLine
  · rw [if_pos hlen] at q
    obtain ⟨fp0, r0, b0⟩ := (r.ext x1).wipe (W' := WF) vs
    have s1L : S1 L = none := x1.sh.free hL
    rcases compTL_ok (g := g) (t := t) (f := f) (st := wipeS st vs) ds with qz | ⟨zs, qz⟩
    · rw [qz] at q; exact q.elim
    rw [qz] at q
    let Good : Nat → List V → List T → List Addr → Hp → Hp → Prop := fun i acc ys fA S' H => Xt S1 S' H1 H ∧ S' L = none ∧ H L = some (.lst acc) ∧ OwnL X.K cm S' H ys acc fA ∧ fA.Nodup ∧ (∀ a ∈ fA, H1 a = none ∧ S' a = none ∧ a ≠ L) ∧ acc.length ≤ i
    refine ⟨fun i m H => m = ds.length - i ∧ i ≤ ds.length ∧ ∃ S' acc ys us fA, Good i acc ys fA S' H ∧ compTL g t f (wipeS st vs) (ds.drop i) = .ok us ∧ zs = ys ++ us,
      ⟨_, rfl, Nat.zero_le _, S1, [], [], zs, [], ⟨Xt.own x1.sh hL, s1L, upd_same, .nil, List.nodup_nil, (fun _ m => nomatch m), Nat.le_refl _⟩, by rw [List.drop_zero]; exact qz, rfl⟩, ?_⟩
    rintro i m H2 ⟨rfl, hi, S2, acc, ys, us, fA, ⟨x2, n2, hA, rA, nA, fF, lA⟩, q2, qe⟩
    obtain ⟨w1, w2⟩ := w i S2 H2 x2.ss x2.sh x2.hh
    cases q3 : ds[i]? with
    | none =>
      have hl : ds.length ≤ i := List.getElem?_eq_none_iff.mp q3
      rw [List.drop_eq_nil_of_le hl] at q2
      cases q2
      rw [List.append_nil] at qe
      subst qe
      refine .inl ⟨w2 (Nat.le_antisymm hl hi), q H2 S2 x2 (.ref L) (L :: fA) (.lst hA rA) (List.nodup_cons.mpr ⟨fun m => (fF L m).2.2 rfl, nA⟩) fun b m => ?_⟩
      rcases List.mem_cons.mp m with e | m
      · rw [e]; exact ⟨x1.hh.free hL, n2⟩
      · exact ⟨x1.hh.free (fF b m).1, (fF b m).2.1⟩
    | some d =>
      have hl : i < ds.length := (List.getElem?_eq_some_iff.mp q3).1
      obtain ⟨go, y⟩ := w1 d q3
      rw [drop_get q3] at q2
      refine .inr ⟨go, fun H => i + 1 ≤ ds.length ∧ ∃ S' acc ys us fA, Good (i + 1) acc ys fA S' H ∧ compTL g t f (wipeS st vs) (ds.drop (i + 1)) = .ok us ∧ zs = ys ++ us,
        fun H' n => ⟨ds.length - (i + 1), by omega, rfl, n⟩, fun v H3 hy => ?_⟩
      obtain ⟨S3, x3, hv⟩ := y v H3 hy
      replace q2 : (match g d (wipeS st vs) with
        | none => .bad
        | some st1 => (t st1).noex.bind fun b => if b = true then (f st1).noex.bind fun y => (compTL g t f (wipeS st vs) (ds.drop (i + 1))).bind fun ys => .ok (y :: ys) else compTL g t f (wipeS st vs) (ds.drop (i + 1))) = R.ok us := q2
      cases q4 : g d (wipeS st vs) with
      | none => rw [q4] at q2; cases q2
      | some st4 =>
        rw [q4] at q2
        obtain ⟨b, q5, q6⟩ := R.noex_ok q2
        have x13 := x2.trans x3
        have keepL : ∀ {S' H' : Hp}, Xt S2 S' H2 H' → S' L = none ∧ H' L = some (.lst acc) ∧ OwnL X.K cm S' H' ys acc fA ∧ ∀ a ∈ fA, H1 a = none ∧ S' a = none ∧ a ≠ L := fun {S' H'} x => by
          refine ⟨?_, x.hh _ _ hA, rA.ext x, fun a m => ⟨(fF a m).1, ?_, (fF a m).2.2⟩⟩
          · cases q : S' L with
            | none => rfl
            | some o =>
              have z := x.fr L o q n2
              rw [hA] at z
              cases z
          · cases q : S' a with
            | none => rfl
            | some o => exact absurd (x.fr a o q (fF a m).2.1) (rA.there a m)
        refine ⟨wipeS st vs, S3, fp0, d, r0.ext x13, hv, st4, q4, fun σ4 fp4 r4 b4 k4 => ⟨?_, st4, S3, fp4, r4, ?_⟩⟩
        · have e1 := k4.wipe
          rw [e1]
          apply List.ext_getElem?
          intro j
          rw [wipe_get]
          split
          · rename_i hj
            rw [wipe_get, if_pos hj]
            cases σ[j]? <;> rfl
          · rfl
        · rw [q5]
          intro H5 S5 x5
          cases b with
          | false =>
            obtain ⟨n5, hA5, rA5, fF5⟩ := keepL (x3.trans x5)
            exact ⟨hl, S5, acc, ys, us, fA, ⟨x13.trans x5, n5, hA5, rA5, nA, fF5, by omega⟩, q6, qe⟩
          | true =>
            obtain ⟨u, q7, q8⟩ := R.noex_ok q6
            obtain ⟨us', q9, q10⟩ := R.bind_ok q8
            cases q10
            refine ⟨st4, S5, fp4, r4.ext x5, ?_⟩
            rw [q7]
            intro H6 S6 x6 z fn hz nd fo
            have x25 := x3.trans x5
            obtain ⟨n6, hA6, rA6, fF6⟩ := keepL (x25.trans x6)
            have Lfn : L ∉ fn := fun m => by
              have e := x25.hh _ _ hA
              rw [(fo L m).1] at e
              cases e
            have LfA : L ∉ fA := fun m => (fF L m).2.2 rfl
            refine ⟨acc, hA6, by omega, hl, S6, acc ++ [z], ys ++ [u], us', fA ++ fn, ⟨?_, n6, upd_same, OwnL.snoc (own_upd Lfn hz) (ownL_upd LfA rA6), List.nodup_append.mpr ⟨nA, nd, fun a ha b hb e => ?_⟩, fun a m => ?_, by rw [List.length_append]; simp; omega⟩, q9, by rw [qe]; simp⟩
            · have xx := (x13.trans x5).trans x6
              exact ⟨xx.ss, same_upd2 xx.sh n6, fun b o e => by
                have ne : b ≠ L := fun z => by rw [z, hL] at e; cases e
                rw [upd_ne ne]
                exact xx.hh b o e, xx.fr⟩
            · subst e
              exact (rA.ext x25).there a ha (fo a hb).1
            · rcases List.mem_append.mp m with m | m
              · exact fF6 a m
              · exact ⟨((x13.trans x5).hh.free (fo a m).1), (fo a m).2, fun e => Lfn (e ▸ m)⟩
  · rw [if_neg hlen] at q
    exact q.elim
variable {elt tg iter : Expr} {ifs : List Expr} {scope : Scope} {own : List (Str × Nat)} {pos spos : Pos} {c : Fr}
/-- name = [fresh for ..] -/
theorem s_setLcT [Free W] {i : Nat} {y : Str} {py : Pos} (hN : X.N.Nodup) (hy : X.N[i]? = some y) (hyl : X.env.scope.names.lookup y = some .local) (hsw : swapsWith (.ListComp elt [⟨tg, iter, ifs, 0⟩] scope pos) (some (.Name y py)) spos.line X.env = pure true)
    (hi : PI X tg iter (IV X.K cm W fi)) (ok : BlkOk X.N X.env.scope scope own) (hg : BX X scope fun Y => PG Y tg (GX X.K cm (own.map (·.2)) g)) (ht : BX X scope fun Y => PTs Y ifs (TB X.K cm WF t)) (he : BX X scope fun Y => PE Y elt (EF X.K cm WF f))
    (hc : X.calm = true := by rfl) (hs : ∀ x, foldedSetIterable iter X.env x = pure x := by intro _; rfl) (hfx : c.fix i = none := by rfl) : PS X (.Assign [.Name y py] (.ListComp elt [⟨tg, iter, ifs, 0⟩] scope pos) spos) (SX X.K cm W c (setF i (compTF fi (own.map (·.2)) g t f))) :=
  (ps_setLc hc hN hy hyl hsw hi ok hg ht he hs).imp fun D σ H ⟨st, S, fp, r, p⟩ => compT_reads ⟨st, S, fp, r.rx, Post.go r p fun t S' H' x q v fn hv nd fo => by
    have r2 := r.ext x
    obtain ⟨fp', a, b⟩ := r2.rx.set_ow hv nd (fun a m1 m2 => r.rx.sls.there a m2 (fo a m1).1) (fun a m => (fo a m).2) i
    refine q _ H' (RR.on ⟨a, r2.xt, fun y m => ?_, fx_set r2.fx hfx⟩)
    rcases b y m with m | m
    · exact r2.fr y m
    · exact r.xt.hh.free (fo y m).1⟩
end
/-! ### x[e].append(y) -/
def lstT : Option T → Option (List T)
  | some (.lst us) => some us
  | _ => none
theorem lstT_some {o : Option T} {us : List T} (h : lstT o = some us) : o = some (.lst us) := by
  unfold lstT at h
  split at h
  · cases h; rfl
  · cases h
def appPS (i : Nat) (g : LS → R D) (f : LS → R T) : LS → Out := fun st => match ownL st[i]? with
  | none => .bad
  | some ts => (g st).out st fun d => match placeD ts.length d with
    | none => .bad
    | some j => match lstT ts[j]? with
      | none => .bad
      | some us => (f st).out st fun t => if us.length < sizeLine then .nx (st.set i (some (.lst (ts.set j (.lst (us ++ [t])))))) else .bad
section
variable {X : Cx} {cm : CM} {W : WH} {c : Fr} {pos : Pos} {e : Expr} {i : Nat}
theorem s_appP {f : LS → R T} {g : LS → R D} (h : PE X e (tBM X.K "list" rAppend (tOp (rIx X.K) (tVar i) (VE X.K cm W g)) (tCons (EF X.K cm W f) tNil))) (hs : swapsWith e none pos.line X.env = pure false := by rfl) : PS X (.Expr e pos) (SX X.K cm W c (appPS i g f)) := (ps_expr h hs).imp fun D σ H ⟨st, S, fp, r, p⟩ => by
  replace p : Post X.K cm W c D S (match ownL st[i]? with
    | none => .bad
    | some ts => (g st).out st fun d => match placeD ts.length d with
      | none => .bad
      | some j => match lstT ts[j]? with
        | none => .bad
        | some us => (f st).out st fun t => if us.length < sizeLine then .nx (st.set i (some (.lst (ts.set j (.lst (us ++ [t])))))) else .bad) := p
  cases q : ownL st[i]? with
  | none => rw [q] at p; exact p.elim
  | some ts =>
    rw [q] at p
    obtain ⟨v, f1, h1, h2, h3, h4, h5⟩ := r.mut (ownL_some q)
    cases h2 with
    | @lst a vs _ f2 ha hts =>
      obtain ⟨n1, n2⟩ := List.nodup_cons.mp h3
      refine ⟨.ref a, h1, st, S, fp, r.rx, Post.go r p fun d S1 H1 x1 q1 u hu => ?_⟩
      cases q3 : placeD ts.length d with
      | none => rw [q3] at q1; exact q1.elim
      | some j =>
        rw [q3] at q1
        cases d <;> try (cases q3; done)
        case int kk =>
          replace q3 : ixN ts.length kk = some j := q3
          replace q1 : Post X.K cm W c D S1 (match lstT ts[j]? with
            | none => .bad
            | some us => (f st).out st fun t => if us.length < sizeLine then .nx (st.set i (some (.lst (ts.set j (.lst (us ++ [t])))))) else .bad) := q1
          cases q4 : lstT ts[j]? with
          | none => rw [q4] at q1; exact q1.elim
          | some us =>
            rw [q4] at q1
            have o1 := hts.ext x1
            obtain ⟨w, fw, gw, e1, e2, e3, e4, e5, e6, e7⟩ := o1.split (lstT_some q4) n2
            cases e2 with
            | @lst b ws _ fb hb hus =>
              obtain ⟨m1, m2⟩ := List.nodup_cons.mp e3
              have ab : a ≠ b := fun z => n1 (e4 a (by rw [z]; exact List.mem_cons_self))
              refine .inl ⟨a, vs, kk, .ref b, rfl, hu.int, SqL.of (x1.hh _ _ ha), ?_, .inl ⟨rfl, ws, SqL.of hb⟩, st, S1, fp, r.rx.ext x1, Post.go (r.ext x1) q1 fun t S2 H2 x2 q5 v fn hv nd fo => ?_⟩
              · unfold L2.atI
                rw [hts.length, q3]
                exact e1
              · split at q5
                · rename_i hl
                  have x := x1.trans x2
                  have hb2 := x2.hh _ _ hb
                  have bfn : b ∉ fn := fun m => by
                    rw [(fo b m).1] at hb
                    cases hb
                  have afn : a ∉ fn := fun m => by
                    have := x1.hh _ _ ha
                    rw [(fo a m).1] at this
                    cases this
                  refine ⟨b, ws, v, rfl, rfl, hb2, by rw [hus.length]; exact hl, ?_⟩
                  have thw : ∀ c ∈ fb, H1 c ≠ none := hus.there
                  have thg : ∀ c ∈ gw, H1 c ≠ none := fun c m => o1.there c (e5 c m)
                  have bg : b ∉ gw := e6 b List.mem_cons_self
                  obtain ⟨fz, z1, z2, z3⟩ := e7 S2 (upd H2 b (.lst (ws ++ [v]))) (.lst (us ++ [t])) (.ref b) (b :: (fb ++ fn)) x2.ss (fun c m => by
                    have cb : c ≠ b := fun z => bg (z ▸ m)
                    rw [upd_ne cb]
                    cases q : H1 c with
                    | none => exact absurd q (thg c m)
                    | some o => exact x2.hh c o q) (.lst upd_same (OwnL.snoc (own_upd bfn hv) (ownL_upd m1 (hus.ext x2))))
                    (List.nodup_cons.mpr ⟨fun m => (List.mem_append.mp m).elim m1 bfn, List.nodup_append.mpr ⟨m2, nd, fun c hc d hd z => by subst z; exact thw c hc (fo c hd).1⟩⟩)
                    (fun c m1 m2 => by
                      rcases List.mem_cons.mp m1 with m | m
                      · exact bg (m ▸ m2)
                      · rcases List.mem_append.mp m with m | m
                        · exact e6 c (List.mem_cons_of_mem _ m) m2
                        · exact thg c m2 (fo c m).1)
                  have e8 : vs.set j (.ref b) = vs := by
                    apply List.ext_getElem?
                    intro n
                    by_cases hn : j = n
                    · subst hn
                      have hj := (List.getElem?_eq_some_iff.mp e1).1
                      rw [List.getElem?_set_self hj, e1]
                    · rw [List.getElem?_set_ne hn]
                  rw [e8] at z1
                  refine q5 σ _ (h5 S2 H2 _ _ (a :: fz) x (fun c n => upd_ne fun z => n (z ▸ List.mem_cons_of_mem _ (e4 b List.mem_cons_self))) (.lst ?_ z1) (List.nodup_cons.mpr ⟨fun m => ?_, z2⟩) fun c m => ?_)
                  · rw [upd_ne ab]
                    exact x.hh _ _ ha
                  · rcases z3 a m with m | m
                    · exact n1 (e5 a m)
                    · rcases List.mem_cons.mp m with m | m
                      · exact ab m
                      · rcases List.mem_append.mp m with m | m
                        · exact n1 (e4 a (List.mem_cons_of_mem _ m))
                        · exact afn m
                  · rcases List.mem_cons.mp m with m | m
                    · exact .inl (by rw [m]; exact List.mem_cons_self)
                    · rcases z3 c m with m | m
                      · exact .inl (List.mem_cons_of_mem _ (e5 c m))
                      · rcases List.mem_cons.mp m with m | m
                        · exact .inl (List.mem_cons_of_mem _ (e4 c (by rw [m]; exact List.mem_cons_self)))
                        · rcases List.mem_append.mp m with m | m
                          · exact .inl (List.mem_cons_of_mem _ (e4 c (List.mem_cons_of_mem _ m)))
                          · exact .inr ⟨x1.hh.free (fo c m).1, (fo c m).2⟩
                · exact q5.elim
end
end DI
end
section
set_option Elab.async false
set_option linter.all false
set_option maxRecDepth 100000
set_option maxHeartbeats 2000000
/-! DI: o.m(..). -/
namespace DI
open PySem PySem.Spec PyProof.Rows L2
end DI
end
section
set_option Elab.async false
set_option linter.all false
set_option maxRecDepth 100000
set_option maxHeartbeats 2000000
/-! DI: enumerate and zip over lists and tuples. -/
namespace DI
open PySem PySem.Spec PyProof.Rows L2
/-- a list (false) or a tuple (true) -/
def SqB (K : PySem.W.Frag) (k : Bool) (H : Hp) (a : Addr) (xs : List V) : Prop := if k = true then SqT K H a xs else SqL K H a xs
def IsB (k : Bool) (h : Heap) (a : Addr) (xs : Array Value) : Prop := if k = true then h.IsTuple a xs else h.IsList a xs
def ItB (k : Bool) (h : Heap) (i a : Addr) (n : Nat) : Prop := if k = true then h.IsTupleIter i a n else h.IsListIter i a n
def obB (k : Bool) (a : Addr) : Obj := { cls := .type (if k = true then "tuple_iterator" else "list_iterator"), data := .fields #[.ref a, .int 0 0] }
theorem begB (k : Bool) (a : Addr) (xs : Array Value) : Begins (.ref a) (obB k a) fun h => IsB k h a xs := by
  cases k
  · exact begins_list a xs
  · exact begins_tuple a xs
theorem drwB {prog : Program} {w : World} {A : Around} (hh : A.handled = none) (k : Bool) (i a : Addr) (ne : a ≠ i) (xs : Array Value) : Draws prog w A i [i, a] xs.size (fun n v => xs[n]? = some v) (fun n h => ItB k h i a n ∧ IsB k h a xs) := by
  cases k
  · exact .list hh i a ne xs
  · exact .tuple hh i a ne xs
theorem itB_obj {k : Bool} {h : Heap} {i a : Addr} {n : Nat} (t : ItB k h i a n) : ∃ o, h.get? i = some o ∧ ∀ v, o.data ≠ .cell v := by
  cases k
  · obtain ⟨o, e, _, d⟩ := t
    exact ⟨o, e, fun v z => by rw [d] at z; cases z⟩
  · obtain ⟨o, e, _, d⟩ := t
    exact ⟨o, e, fun v z => by rw [d] at z; cases z⟩
theorem itB_at {k : Bool} {h h' : Heap} {i a : Addr} {n : Nat} (t : ItB k h i a n) (g : ∀ o, h.get? i = some o → h'.get? i = some o) : ItB k h' i a n := by
  cases k
  · exact Heap.IsListIter.at t fun o e => g o e
  · exact Heap.IsTupleIter.at t fun o e => g o e
theorem itB_new {k : Bool} {h : Heap} {i a : Addr} (e : h.get? i = some (obB k a)) : ItB k h i a 0 := by
  cases k
  · exact ⟨_, e, rfl, rfl⟩
  · exact ⟨_, e, rfl, rfl⟩
section
variable {X : Cx} {pins : List (Addr × Obj)} {σ : Sg} {H : Hp} {s : Shared} {k : Bool} {a : Addr} {xs ys : List V}
theorem seqB (I : Inv X pins σ H s) (h : SqB X.K k H a xs) : ∃ its : List Value, Vals xs its ∧ IsB k s.heap a its.toArray ∧ a < s.heap.objs.size := by
  cases k
  · obtain ⟨its, rv, p, _⟩ := I.list h
    exact ⟨its, rv, p.isList, p.lt⟩
  · obtain ⟨its, rv, p, _⟩ := I.tuple h
    obtain ⟨o, ho, _⟩ := id p
    exact ⟨its, rv, p, Heap.lt_size ho⟩
theorem seqB_inj (I : Inv X pins σ H s) (h : SqB X.K k H a xs) (h' : SqB X.K k H a ys) : xs = ys := by
  cases k
  · exact I.list_inj h h'
  · exact I.tuple_inj h h'
end
theorem Vals.item {xs : List V} {its : List Value} {i : Nat} {u : Value} (r : Vals xs its) (e : its.toArray[i]? = some u) : ∃ x, xs[i]? = some x ∧ RelV x u := by
  have hi : i < its.length := by
    have := (Array.getElem?_eq_some_iff.mp e).1
    simpa using this
  have hx : i < xs.length := by rw [r.length]; exact hi
  obtain ⟨v, e1, r1⟩ := r.get (List.getElem?_eq_getElem hx)
  have e2 : its[i]? = some u := by simpa using e
  rw [e2] at e1
  cases e1
  exact ⟨_, List.getElem?_eq_getElem hx, r1⟩
/-! ### enumerate -/
def IteB (K : PySem.W.Frag) (k : Bool) (c : Int) (a : Addr) : It :=
  ⟨fun i H => ∃ (xs : List V) (x : V), SqB K k H a xs ∧ xs[i]? = some x, fun i H v H' => ∃ T x, v = .ref T ∧ H T = none ∧ H' = upd H T (.tup [.int (c + (i : Int)), x]) ∧ ∀ xs, SqB K k H a xs → xs[i]? = some x, fun i H => ∃ xs : List V, SqB K k H a xs ∧ xs.length = i⟩
theorem turn_enB {P : Program} {w : World} {K : PySem.W.Frag} {elts : List Expr} {kk : Nat} {tpos : Pos} (k : Bool) (c : Int) (a e it : Addr) (hne : e ≠ it) (hea : e ≠ a) (hai : a ≠ it) :
    Turn P w K (.Tuple elts kk tpos) (IteB K k c a) [e, it] e (fun i h => (∃ old, IsEnum h e it (c + (i : Int)) old) ∧ ItB k h it a i) where
  mem := by simp
  obj := fun i h st b hb => by
    obtain ⟨⟨old, he⟩, hi⟩ := st
    have e' : b = e ∨ b = it := by simpa using hb
    rcases e' with z | z
    · rw [z]; exact ⟨_, he, fun v q => nomatch q⟩
    · rw [z]; exact itB_obj hi
  keep := fun i h h' st kp => let ⟨⟨old, he⟩, hi⟩ := st; ⟨⟨old, kp e (by simp) _ he⟩, itB_at hi fun o q => kp it (by simp) o q⟩
  item := by
    intro X hP hw hK hc i pins s σ H E I hf st hg
    subst hP hw hK
    obtain ⟨⟨old, he⟩, hit⟩ := st
    obtain ⟨xs, x, hq, hx⟩ := hg
    obtain ⟨its, rv, p, hz⟩ := seqB I hq
    have hl := rv.length
    have hlt : i < its.toArray.size := by
      have := (List.getElem?_eq_some_iff.mp hx).1
      simp; omega
    have hel : e < s.heap.objs.size := Heap.lt_size he
    have hil : it < s.heap.objs.size := by obtain ⟨_, q, _⟩ := itB_obj hit; exact Heap.lt_size q
    have hnf : e ∉ [it, a] := fun m => by
      rcases List.mem_cons.mp m with z | m
      · exact hne z
      · exact hea (by simpa using m)
    refine wpAny_pyNext_enum_itemC (drwB (A := X.A.in1) (I.ok.hd hc) k it a hai its.toArray) he ⟨hit, p⟩ hlt hne hnf fun u h' tk hu ho hit' hT hsz hk => ?_
    obtain ⟨x', hx', ru⟩ := Vals.item rv hu
    rw [hx] at hx'
    cases hx'
    refine ⟨_, rfl, wpAny_letOwnedTupleGo_enum (s := { s with heap := h', toks := tk + 1 }) ho fun h'' he' sb => ?_⟩
    have hT2 : h''.get? s.heap.objs.size = some { cls := .type "tuple", data := .seq #[.int (c + (i : Int)) tk, u] } := (sb.2 _ (Nat.ne_of_gt hel)).trans hT
    have new : ObjOk X.prog X.w (upd H s.heap.objs.size (.tup [.int (c + (i : Int)), x])) h'' s.heap.objs.size (.tup [.int (c + (i : Int)), x]) :=
      ⟨by show 2 ≤ sizeLine; decide, [.int (c + (i : Int)) tk, u], .cons ⟨_, rfl⟩ (.cons ru .nil), ⟨_, hT2, rfl, _, rfl⟩⟩
    have I1 : Inv X pins σ (upd H s.heap.objs.size (.tup [.int (c + (i : Int)), x])) { s with heap := h'', toks := tk + 1 } :=
      I.turnedNew (ch := [e, it]) (fun b ob hb q => (sb.2 b (fun z => hb (by simp [z]))).trans (hk b ob (fun z => hb (by simp [z])) (fun z => hb (by simp [z])) q)) hf (Nat.le_refl _) new
    refine ⟨.ref s.heap.objs.size, _, I1, rfl, ⟨_, x, rfl, I.hok.fresh (Nat.le_refl _), rfl, fun ys hy => by rw [seqB_inj I hy hq]; exact hx⟩, ⟨⟨u, ?_⟩, itB_at hit'.1 fun o q => (sb.2 it (Ne.symm hne)).trans q⟩, fun b hb => ?_⟩
    · have e1 : c + ((i + 1 : Nat) : Int) = c + (i : Int) + 1 := by omega
      rw [e1]; exact he'
    · have hb' : b < s.heap.objs.size := by
        have e' : b = e ∨ b = it := by simpa using hb
        rcases e' with z | z
        · rw [z]; exact hel
        · rw [z]; exact hil
      rw [upd_ne (Nat.ne_of_lt hb')]
      exact (hf b hb).1
  done := by
    intro X hP hw hK hc i pins s σ H E I hf st hg
    subst hP hw hK
    obtain ⟨⟨old, he⟩, hit⟩ := st
    obtain ⟨xs, hq, hx⟩ := hg
    obtain ⟨its, rv, p, hz⟩ := seqB I hq
    obtain ⟨f0, f1, f2, f3, f4, f5⟩ := hf it (by simp)
    have hl := rv.length
    have hn : its.toArray.size = i := by simp; omega
    refine wpAny_pyNext_enum_endD (drwB (A := X.A.in1) (I.ok.hd hc) k it a hai its.toArray) he ⟨?_, p⟩ fun h' eb => ⟨rfl, I.turned (t' := s.toks) (fun b o hb q => eb b o hb q) f0 f1 f3 f4 f5⟩
    rw [hn]
    exact hit
  self := fun A i s Q E st h => let ⟨⟨_, he⟩, _⟩ := st; wpAny_pyIter_enum he h
theorem meets_en1 {v : Value} {o : Obj} {H : Heap → Prop} (B : Begins v o H) :
    Meets (Builtin.«enumerate.__new__» ⟨[.type "enumerate", v], []⟩) (fun _ R s => H s.heap ∧
      R (.ok (.ret (.ref (s.heap.push o).objs.size))) { s with heap := (s.heap.push o).push { cls := .type "enumerate", data := .fields #[.none, .bool false, .ref s.heap.objs.size, rawInt 0, .none, .none] } }) :=
  .of_wp fun prog w A R s h => by
    obtain ⟨hp, g, d, tk, os⟩ := s
    obtain ⟨h1, h⟩ := h
    have hsub := sub_enumerate
    have begun : ∀ {A' : Around} {E : Value → Shared → Prop} {Q : Value → Shared → Prop}, Q (.ref hp.objs.size) ⟨hp.push o, g, d, tk, os⟩ → wpAny (model prog w) A' (pyIter v) Q E ⟨hp, g, d, tk, os⟩ :=
      fun q => B.iter prog w _ _ ⟨hp, g, d, tk, os⟩ _ h1 q
    wp_walk using begun
    refine wpAny_stack_any fun st => wpAny_pure ?_
    split
    · rename_i c _ _ _ _ _
      cases (c == Value.type "enumerate") <;> (wp_walk using begun; exact ⟨_, rfl, h⟩)
    · wp_walk using begun
      exact ⟨_, rfl, h⟩
section
variable {prog : Program} {w : World} {A : Around} {E : Value → Shared → Prop} {s : Shared}
theorem en1_begins {v : Value} {o : Obj} {H : Heap → Prop} {Q : Value → Shared → Prop} (B : Begins v o H) (h1 : H s.heap)
    (h : ∀ h', IsEnum h' (s.heap.objs.size + 1) s.heap.objs.size 0 .none → h'.get? s.heap.objs.size = some o → h'.objs.size = s.heap.objs.size + 2 →
      (∀ b o, s.heap.get? b = some o → h'.get? b = some o) → Q (.ref (s.heap.objs.size + 1)) { s with heap := h' }) :
    wpAny (model prog w) A (call (.type "enumerate") [v]) Q E s := by
  refine callType_new F.called_enumerate (by decide) (F.typeCall_enumerate_1 _) (F.newCall_enumerate_1 _) (fun obj => F.args_object_init_2 obj _) F.entry_enumerate_new (meets_en1 B) ⟨h1, ?_⟩
  have grown : (s.heap.push o).objs.size = s.heap.objs.size + 1 := Heap.size_push ..
  have last := Heap.get?_push_size (s.heap.push o) (o := { cls := .type "enumerate", data := .fields #[.none, .bool false, .ref s.heap.objs.size, rawInt 0, .none, .none] }) rfl
  show _ ∧ _
  rw [grown] at last ⊢
  exact ⟨⟨_, last, rfl⟩, h _ last (Heap.get?_push_of_some _ (Heap.get?_push_size _ B.free)) (by rw [Heap.size_push, grown]) fun b u x => Heap.get?_push_of_some _ (Heap.get?_push_of_some _ x)⟩
end
def iEnB (K : PySem.W.Frag) (ta : TA) : TI := fun σ H R => ta σ H fun vs H1 => ∃ k a xs, vs = [.ref a] ∧ SqB K k H1 a xs ∧ R (IteB K k 0 a) H1
theorem pi_enB {X : Cx} {e : Expr} {ta : TA} {p pos tpos : Pos} {elts : List Expr} {kk : Nat} (hg : Gl X "enumerate") (hm : X.mg "enumerate" = none) (ha : PA X [e] ta) (hs : starEach [e] X.env = [(false, eval e X.env)] := by rfl) :
    PI X (.Tuple elts kk tpos) (.Call (.Name "enumerate" p) [e] [] pos) (iEnB X.K ta) := by
  refine ⟨fun pins s σ H R I h => ?_⟩
  refine Call_ (ld_blt I hg hm boot_enumerate (PyProof.Rows.callWith_type1 (thn (ha.run pos pins s σ H _ I h) fun us s1 ⟨vs, H1, I1, r1, q1⟩ => ?_) hs rfl))
  obtain ⟨k, a, xs, ex, hq, q⟩ := q1
  subst ex
  cases r1 with
  | cons r rr =>
    cases rr
    cases r
    obtain ⟨its, rv, p', hz⟩ := seqB I1 hq
    refine en1_begins (begB k a its.toArray) p' fun h' he hit hsz hk => wpAny_pyIter_enum he ?_
    have I2 : Inv X pins σ H1 { s1 with heap := h' } := I1.kept (t' := s1.toks) hk
    refine ⟨s1.heap.objs.size + 1, [s1.heap.objs.size + 1, s1.heap.objs.size], _, _, H1, rfl, I2, turn_enB k 0 a (s1.heap.objs.size + 1) s1.heap.objs.size (Nat.succ_ne_self _) (Nat.ne_of_gt (Nat.lt_succ_of_lt hz)) (Nat.ne_of_lt hz), ⟨⟨.none, he⟩, itB_new hit⟩, fun b hb => ?_, q⟩
    have e' : b = s1.heap.objs.size + 1 ∨ b = s1.heap.objs.size := by simpa using hb
    have hle : s1.heap.objs.size ≤ b := by
      rcases e' with z | z
      · rw [z]; exact Nat.le_add_right _ _
      · rw [z]; exact Nat.le_refl _
    exact I1.fpOk hle (I1.hok.fresh hle)
/-! ### zip of two -/
def ItzB (K : PySem.W.Frag) (k j : Bool) (a b : Addr) : It :=
  ⟨fun i H => ∃ (xs ys : List V) (x y : V), SqB K k H a xs ∧ SqB K j H b ys ∧ xs[i]? = some x ∧ ys[i]? = some y,
    fun i H v H' => ∃ T x y, v = .ref T ∧ H T = none ∧ H' = upd H T (.tup [x, y]) ∧ (∀ xs, SqB K k H a xs → xs[i]? = some x) ∧ ∀ ys, SqB K j H b ys → ys[i]? = some y,
    fun i H => ∃ xs ys : List V, SqB K k H a xs ∧ SqB K j H b ys ∧ i = min xs.length ys.length⟩
/-- the cells of a zip -/
structure ZpB (a b z TI TO i1 i2 : Addr) : Prop where
  s : ZipSep2 z TI TO i1 i2 [i1, a] [i2, b]
  a1 : a ≠ i1
  b2 : b ≠ i2
theorem turn_zpB {P : Program} {w : World} {K : PySem.W.Frag} {elts : List Expr} {kk : Nat} {tpos : Pos} (k j : Bool) {a b z TI TO i1 i2 : Addr} (D : ZpB a b z TI TO i1 i2) :
    Turn P w K (.Tuple elts kk tpos) (ItzB K k j a b) [z, TI, TO, i1, i2] z (fun i h => IsZip h z TI TO .none ∧ IsTupOf2 h TI (.ref i1) (.ref i2) ∧ (∃ x y, IsTupOf2 h TO x y) ∧ ItB k h i1 a i ∧ ItB j h i2 b i) where
  mem := by simp
  obj := fun i h st c hc => by
    obtain ⟨hz, hTI, ⟨x, y, hTO⟩, h1, h2⟩ := st
    have e' : c = z ∨ c = TI ∨ c = TO ∨ c = i1 ∨ c = i2 := by simpa using hc
    rcases e' with q | q | q | q | q
    · rw [q]; exact ⟨_, hz, fun v q => nomatch q⟩
    · rw [q]; exact ⟨_, hTI, fun v q => nomatch q⟩
    · rw [q]; exact ⟨_, hTO, fun v q => nomatch q⟩
    · rw [q]; exact itB_obj h1
    · rw [q]; exact itB_obj h2
  keep := fun i h h' st kp => by
    obtain ⟨hz, hTI, ⟨x, y, hTO⟩, h1, h2⟩ := st
    exact ⟨kp z (by simp) _ hz, kp TI (by simp) _ hTI, ⟨x, y, kp TO (by simp) _ hTO⟩, itB_at h1 fun o q => kp i1 (by simp) o q, itB_at h2 fun o q => kp i2 (by simp) o q⟩
  item := by
    intro X hP hw hK hc i pins s σ H E I hf st hg
    subst hP hw hK
    obtain ⟨hz, hTI, ⟨x0, y0, hTO⟩, h1, h2⟩ := st
    obtain ⟨xs, ys, x, y, hqx, hqy, hx, hy⟩ := hg
    obtain ⟨its, rv, p, _⟩ := seqB I hqx
    obtain ⟨its2, rv2, p2, _⟩ := seqB I hqy
    have hl1 := rv.length
    have hl2 := rv2.length
    have hlt1 : i < its.toArray.size := by
      have := (List.getElem?_eq_some_iff.mp hx).1
      simp; omega
    have hlt2 : i < its2.toArray.size := by
      have := (List.getElem?_eq_some_iff.mp hy).1
      simp; omega
    have hzl : z < s.heap.objs.size := Heap.lt_size hz
    refine wpAny_pyNext_zipD2_item D.s (drwB (A := X.A.in1) (I.ok.hd hc) k i1 a D.a1 its.toArray) (drwB (A := X.A.in1) (I.ok.hd hc) j i2 b D.b2 its2.toArray) hz hTI hTO ⟨h1, p⟩ ⟨h2, p2⟩ hlt1 hlt2 fun u u2 h' tk hu hu2 z' TO' h1' h2' hT hsz hk => ?_
    obtain ⟨x', hx', ru⟩ := Vals.item rv hu
    obtain ⟨y', hy', ru2⟩ := Vals.item rv2 hu2
    rw [hx] at hx'
    rw [hy] at hy'
    cases hx'
    cases hy'
    refine ⟨_, rfl, wpAny_letOwnedTupleGo_zip (s := { s with heap := h', toks := tk }) z' fun h'' z'' sb => ?_⟩
    have hT2 : h''.get? s.heap.objs.size = some { cls := .type "tuple", data := .seq #[u, u2] } := (sb.2 _ (Nat.ne_of_gt hzl)).trans hT
    have new : ObjOk X.prog X.w (upd H s.heap.objs.size (.tup [x, y])) h'' s.heap.objs.size (.tup [x, y]) :=
      ⟨by show 2 ≤ sizeLine; decide, [u, u2], .cons ru (.cons ru2 .nil), ⟨_, hT2, rfl, _, rfl⟩⟩
    have I1 : Inv X pins σ (upd H s.heap.objs.size (.tup [x, y])) { s with heap := h'', toks := tk } :=
      I.turnedNew (t' := tk) (ch := [z, TI, TO, i1, i2]) (fun c o hb q => (sb.2 c (fun q' => hb (by simp [q']))).trans (hk c o (fun q' => hb (by simp [q'])) (fun q' => hb (by simp [q'])) (fun q' => hb (by simp [q'])) (fun q' => hb (by simp [q'])) q)) hf (Nat.le_refl _) new
    refine ⟨.ref s.heap.objs.size, _, I1, rfl, ⟨_, x, y, rfl, I.hok.fresh (Nat.le_refl _), rfl, fun l hl => by rw [seqB_inj I hl hqx]; exact hx, fun l hl => by rw [seqB_inj I hl hqy]; exact hy⟩, ⟨z'', ?_, ⟨u, u2, ?_⟩, ?_, ?_⟩, fun c hcm => ?_⟩
    · exact (sb.2 _ D.s.TIz).trans (hk _ _ D.s.TIz D.s.TITO D.s.TIi1 D.s.TIi2 hTI)
    · exact (sb.2 _ D.s.TOz).trans TO'
    · exact itB_at h1'.1 fun o q => (sb.2 _ D.s.zi1.symm).trans q
    · exact itB_at h2'.1 fun o q => (sb.2 _ D.s.zi2.symm).trans q
    · have hlt : c < s.heap.objs.size := by
        have e' : c = z ∨ c = TI ∨ c = TO ∨ c = i1 ∨ c = i2 := by simpa using hcm
        rcases e' with q | q | q | q | q
        · rw [q]; exact hzl
        · rw [q]; exact Heap.lt_size hTI
        · rw [q]; exact Heap.lt_size hTO
        · rw [q]; obtain ⟨_, e1, _⟩ := itB_obj h1; exact Heap.lt_size e1
        · rw [q]; obtain ⟨_, e2, _⟩ := itB_obj h2; exact Heap.lt_size e2
      rw [upd_ne (Nat.ne_of_lt hlt)]
      exact (hf c hcm).1
  done := by
    intro X hP hw hK hc i pins s σ H E I hf st hg
    subst hP hw hK
    obtain ⟨hz, hTI, ⟨x0, y0, hTO⟩, h1, h2⟩ := st
    obtain ⟨xs, ys, hqx, hqy, hend⟩ := hg
    obtain ⟨its, rv, p, _⟩ := seqB I hqx
    obtain ⟨its2, rv2, p2, _⟩ := seqB I hqy
    have l1 := rv.length
    have l2 := rv2.length
    refine wpAny_pyNext_zipD2_end (i := i) D.s (drwB (A := X.A.in1) (I.ok.hd hc) k i1 a D.a1 its.toArray) (drwB (A := X.A.in1) (I.ok.hd hc) j i2 b D.b2 its2.toArray) hz hTI hTO ⟨h1, p⟩ ⟨h2, p2⟩ (by simp; omega) (by simp; omega) (by simp; omega) fun h' tk hk =>
      ⟨rfl, I.turnedL (t' := tk) (ch := [z, TI, TO, i1, i2]) (fun c o hb q => hk c o (fun q' => hb (by simp [q'])) (fun q' => hb (by simp [q'])) (fun q' => hb (by simp [q'])) (fun q' => hb (by simp [q'])) q) hf⟩
  self := fun A i s Q E st h => wpAny_pyIter_zip st.1 h
def iZpB (K : PySem.W.Frag) (ta : TA) : TI := fun σ H R => ta σ H fun vs H1 => ∃ k j a b xs ys, vs = [.ref a, .ref b] ∧ SqB K k H1 a xs ∧ SqB K j H1 b ys ∧ R (ItzB K k j a b) H1
theorem no2 {x y z : Nat} (h : x ≠ y) (k : x ≠ z) : x ∉ ([y, z] : List Nat) := fun m => by
  rcases List.mem_cons.mp m with e | m
  · exact h e
  · exact k (by simpa using m)
theorem neq {x y : Nat} (h : x < y ∨ y < x) : x ≠ y := by omega
theorem zpB_apart {a b n : Nat} (h1 : a < n) (h2 : b < n) : ZpB a b (n + 4) (n + 2) (n + 3) n (n + 1) :=
  ⟨⟨neq (by omega), neq (by omega), neq (by omega), neq (by omega), List.mem_cons_self, no2 (by omega) (by omega), no2 (by omega) (by omega), neq (by omega), List.mem_cons_self, no2 (by omega) (by omega), no2 (by omega) (by omega), no2 (by omega) (by omega), no2 (by omega) (by omega)⟩, neq (by omega), neq (by omega)⟩
theorem pi_zpB {X : Cx} {e e2 : Expr} {ta : TA} {p pos tpos : Pos} {elts : List Expr} {kk : Nat} (hg : Gl X "zip") (hm : X.mg "zip" = none) (ha : PA X [e, e2] ta)
    (hs : starEach [e, e2] X.env = (false, eval e X.env) :: starEach [e2] X.env := by rfl) (hpl : (backTo pos (starEach [e2] X.env)).any (·.1) = false := by rfl) :
    PI X (.Tuple elts kk tpos) (.Call (.Name "zip" p) [e, e2] [] pos) (iZpB X.K ta) := by
  refine ⟨fun pins s σ H R I h => ?_⟩
  refine Call_ (ld_blt I hg hm PyProof.Rows.boot_zip (PyProof.Rows.callWith_type1 (thn (ha.run pos pins s σ H _ I h) fun us s1 ⟨vs, H1, I1, r1, q1⟩ => ?_) hs hpl))
  obtain ⟨k, j, a, b, xs, ys, ex, hqx, hqy, q⟩ := q1
  subst ex
  cases r1 with
  | cons r rr =>
    cases rr with
    | cons r' rr =>
      cases rr
      cases r
      cases r'
      obtain ⟨its, rv, p1, la⟩ := seqB I1 hqx
      obtain ⟨its2, rv2, p2, lb⟩ := seqB I1 hqy
      refine zip_begins2 (begB k a its.toArray) (begB j b its2.toArray) p1 p2 fun h' hz hTI hTO h1 h2 hsz hk => wpAny_pyIter_zip hz ?_
      have I2 : Inv X pins σ H1 { s1 with heap := h' } := I1.kept (t' := s1.toks) hk
      refine ⟨s1.heap.objs.size + 4, [s1.heap.objs.size + 4, s1.heap.objs.size + 2, s1.heap.objs.size + 3, s1.heap.objs.size, s1.heap.objs.size + 1], _, _, H1, rfl, I2, turn_zpB k j (zpB_apart la lb), ⟨hz, hTI, ⟨_, _, hTO⟩, itB_new h1, itB_new h2⟩, fun c hcm => ?_, q⟩
      have e' : c = s1.heap.objs.size + 4 ∨ c = s1.heap.objs.size + 2 ∨ c = s1.heap.objs.size + 3 ∨ c = s1.heap.objs.size ∨ c = s1.heap.objs.size + 1 := by simpa using hcm
      have hle : s1.heap.objs.size ≤ c := by
        rcases e' with z | z | z | z | z <;> rw [z] <;> first | exact Nat.le_add_right _ _ | exact Nat.le_refl _
      exact I1.fpOk hle (I1.hok.fresh hle)
/-! ### over data -/
def seqD : D → Option (Bool × List D)
  | .lst ds => some (false, ds)
  | .scr ds => some (false, ds)
  | .tup ds => some (true, ds)
  | _ => none
theorem seqD_rep {K : PySem.W.Frag} {cm : CM} {S H : Hp} {v : V} {d : D} {k : Bool} {ds : List D} (sh : Same S H) (h : View K cm S H v d) (e : seqD d = some (k, ds)) : ∃ a xs, v = .ref a ∧ SqB K k H a xs ∧ RepL K cm S xs ds := by
  cases d <;> cases e
  · obtain ⟨a, xs, rfl, h1, h2⟩ := h.tup
    exact ⟨a, xs, rfl, same_sqT sh h1, h2⟩
  · obtain ⟨a, xs, rfl, h1, h2⟩ := h.lst sh
    exact ⟨a, xs, rfl, SqL.of h1, h2⟩
  · obtain ⟨a, xs, rfl, h1, h2⟩ := h.scr
    exact ⟨a, xs, rfl, same_sqL sh h1, h2⟩
def enumL (c : Int) : List D → List D
  | [] => []
  | d :: ds => .tup [.int c, d] :: enumL (c + 1) ds
theorem enumL_get : ∀ {ds : List D} {c : Int} {i : Nat}, (enumL c ds)[i]? = ds[i]?.map fun d => .tup [.int (c + (i : Int)), d]
  | [], _, i => by simp [enumL]
  | d :: ds, c, 0 => by simp [enumL]
  | d :: ds, c, i + 1 => by
    show (enumL (c + 1) ds)[i]? = _
    rw [enumL_get]
    have e : c + 1 + (i : Int) = c + ((i + 1 : Nat) : Int) := by omega
    rw [e]
    simp
theorem enumL_len : ∀ {ds : List D} {c : Int}, (enumL c ds).length = ds.length
  | [], _ => rfl
  | d :: ds, c => by simp [enumL, enumL_len]
def zipL : List D → List D → List D
  | x :: xs, y :: ys => .tup [x, y] :: zipL xs ys
  | _, _ => []
theorem zipL_get : ∀ {xs ys : List D} {i : Nat}, (zipL xs ys)[i]? = match xs[i]?, ys[i]? with
    | some x, some y => some (.tup [x, y])
    | _, _ => none
  | [], ys, i => by cases ys <;> simp [zipL]
  | x :: xs, [], i => by
    simp only [zipL, List.getElem?_nil]
    cases (x :: xs)[i]? <;> rfl
  | x :: xs, y :: ys, 0 => by simp [zipL]
  | x :: xs, y :: ys, i + 1 => by
    show (zipL xs ys)[i]? = _
    rw [zipL_get]
    simp
theorem zipL_len : ∀ {xs ys : List D}, (zipL xs ys).length = min xs.length ys.length
  | [], ys => by cases ys <;> simp [zipL]
  | x :: xs, [] => by simp [zipL]
  | x :: xs, y :: ys => by
    simp only [zipL, List.length_cons, zipL_len]
    omega
section
variable {K : PySem.W.Frag} {cm : CM} {S S' H H' : Hp}
theorem sqB_same {k : Bool} {a : Addr} {xs : List V} (e : Same H H') (h : SqB K k H a xs) : SqB K k H' a xs := by
  cases k
  · exact same_sqL e h
  · exact same_sqT e h
theorem wk_enB {k : Bool} {c : Int} {a : Addr} {xs : List V} {ds : List D} {S B : Hp} (h : ∀ H, Same B H → SqB K k H a xs) (r : RepL K cm S xs ds) : Wk K cm (IteB K k c a) S B (enumL c ds) := fun i S' H s1 s2 s3 => by
  refine ⟨fun d e => ?_, fun l => ?_⟩
  · rw [enumL_get] at e
    cases q : ds[i]? with
    | none => rw [q] at e; cases e
    | some d0 =>
      rw [q] at e
      cases e
      obtain ⟨v, e1, r1⟩ := r.get q
      refine ⟨⟨xs, v, h H s3, e1⟩, fun x H' ⟨T, y, e2, e3, e4, e5⟩ => ?_⟩
      have := e5 xs (h H s3)
      rw [e1] at this
      cases this
      subst e2 e4
      exact ⟨_, Xt.new s2 e3, .tup (.inl (.inl upd_same)) (.cons (.int _) (.cons (r1.mono (s1.trans (same_upd (s2.free e3)))) .nil))⟩
  · exact ⟨xs, h H s3, by rw [r.length, ← l, enumL_len]⟩
theorem wk_zpB {k j : Bool} {a b : Addr} {xs ys : List V} {ds es : List D} {S B : Hp} (h : ∀ H, Same B H → SqB K k H a xs) (h2 : ∀ H, Same B H → SqB K j H b ys) (r : RepL K cm S xs ds) (r2 : RepL K cm S ys es) : Wk K cm (ItzB K k j a b) S B (zipL ds es) := fun i S' H s1 s2 s3 => by
  refine ⟨fun d e => ?_, fun l => ?_⟩
  · rw [zipL_get] at e
    split at e
    · rename_i d1 d2 q1 q2
      cases e
      obtain ⟨v, e1, r1⟩ := r.get q1
      obtain ⟨u, e2, r3⟩ := r2.get q2
      refine ⟨⟨xs, ys, v, u, h H s3, h2 H s3, e1, e2⟩, fun x H' ⟨T, y, z, f1, f2, f3, f4, f5⟩ => ?_⟩
      have z1 := f4 xs (h H s3)
      have z2 := f5 ys (h2 H s3)
      rw [e1] at z1
      rw [e2] at z2
      cases z1
      cases z2
      subst f1 f3
      have s4 := s1.trans (same_upd (o := .tup [v, u]) (s2.free f2))
      exact ⟨_, Xt.new s2 f2, .tup (.inl (.inl upd_same)) (.cons (r1.mono s4) (.cons (r3.mono s4) .nil))⟩
    · cases e
  · exact ⟨xs, ys, h H s3, h2 H s3, by rw [r.length, r2.length, ← l, zipL_len]⟩
end
/-- enumerate(e) -/
def enumI (f : LS → R (List D)) : LS → R (List D) := fun st => (f st).bind fun ds => match ds with
  | [d] => .of ((seqD d).map fun p => enumL 0 p.2)
  | _ => .bad
/-- zip(e, e2) -/
def zipI (f : LS → R (List D)) : LS → R (List D) := fun st => (f st).bind fun ds => match ds with
  | [d, e] => .of ((seqD d).bind fun p => (seqD e).map fun q => zipL p.2 q.2)
  | _ => .bad
section
variable {X : Cx} {cm : CM} {W : WH} {e e2 : Expr} {p pos tpos : Pos} {elts : List Expr} {kk : Nat} {args : LS → R (List D)}
theorem i_enum (hm : X.mg "enumerate" = none) (ha : PA X [e] (EA X.K cm W args)) (hg : Gl X "enumerate" := by rfl) (hs : starEach [e] X.env = [(false, eval e X.env)] := by rfl) :
    PI X (.Tuple elts kk tpos) (.Call (.Name "enumerate" p) [e] [] pos) (IE X.K cm W (enumI args)) :=
  (pi_enB hg hm ha hs).imp fun σ H R ⟨st, S, fp, r, g⟩ => ⟨st, S, fp, r, g.bind.mono fun ds S1 H1 x1 k1 vs hv => by
    match ds, k1, hv with
    | [d], k1, hv =>
      obtain ⟨its, hi, k2⟩ := k1.of
      cases q : seqD d with
      | none => rw [q] at hi; cases hi
      | some pr =>
        obtain ⟨k, ds⟩ := pr
        rw [q] at hi
        cases hi
        obtain ⟨v, rfl, rv⟩ := rep1 hv
        obtain ⟨a, xs, rfl, h1, h2⟩ := seqD_rep (Same.refl S1) (.inl rv) q
        exact ⟨k, a, xs, rfl, sqB_same x1.sh h1, k2 H1 S1 (Xt.refl x1.sh) _ (wk_enB (fun H s => sqB_same s h1) h2)⟩
    | [], k1, hv => exact k1.elim
    | _ :: _ :: _, k1, hv => exact k1.elim⟩
theorem i_zip (hm : X.mg "zip" = none) (ha : PA X [e, e2] (EA X.K cm W args)) (hg : Gl X "zip" := by rfl) (hs : starEach [e, e2] X.env = (false, eval e X.env) :: starEach [e2] X.env := by rfl) (hpl : (backTo pos (starEach [e2] X.env)).any (·.1) = false := by rfl) :
    PI X (.Tuple elts kk tpos) (.Call (.Name "zip" p) [e, e2] [] pos) (IE X.K cm W (zipI args)) :=
  (pi_zpB hg hm ha hs hpl).imp fun σ H R ⟨st, S, fp, r, g⟩ => ⟨st, S, fp, r, g.bind.mono fun ds S1 H1 x1 k1 vs hv => by
    match ds, k1, hv with
    | [d, e], k1, hv =>
      obtain ⟨its, hi, k2⟩ := k1.of
      cases q : seqD d with
      | none => rw [q] at hi; cases hi
      | some pr =>
        obtain ⟨k, ds⟩ := pr
        rw [q] at hi
        cases q2 : seqD e with
        | none =>
          replace hi : (seqD e).map (fun q => zipL ds q.2) = some its := hi
          rw [q2] at hi; cases hi
        | some pr2 =>
          obtain ⟨j, es⟩ := pr2
          replace hi : (seqD e).map (fun q => zipL ds q.2) = some its := hi
          rw [q2] at hi
          cases hi
          obtain ⟨v, u, rfl, rv, ru⟩ := rep2 hv
          obtain ⟨a, xs, rfl, h1, h2⟩ := seqD_rep (Same.refl S1) (.inl rv) q
          obtain ⟨b, ys, rfl, h3, h4⟩ := seqD_rep (Same.refl S1) (.inl ru) q2
          exact ⟨k, j, a, b, xs, ys, rfl, sqB_same x1.sh h1, sqB_same x1.sh h3, k2 H1 S1 (Xt.refl x1.sh) _ (wk_zpB (fun H s => sqB_same s h1) (fun H s => sqB_same s h3) h2 h4)⟩
    | [], k1, hv => exact k1.elim
    | [_], k1, hv => exact k1.elim
    | _ :: _ :: _ :: _, k1, hv => exact k1.elim⟩
end
end DI
end
section
set_option Elab.async false
set_option linter.all false
set_option maxRecDepth 100000
set_option maxHeartbeats 2000000
/-! DI: bundles for the text that the program prints. -/
namespace DI
open PySem PySem.Spec PyProof.Rows L2
def frzS (i : Nat) (F : LS → Out) : LS → Out := fun st => F (frz i st)
theorem takesF {X : Cx} : Takes X WF.w := fun u s' ⟨a, B, sI, pins, σ, H, cls, d, e, I, nb, up, sky, na, os, ag, w⟩ => w.elim
/-- a def, its promise, its default values -/
structure DefP (P : Program) (w : World) (K : PySem.W.Frag) (mg : Str → Option Value) (base : Heap) (cm : CM) (k n : Nat) (f : Addr) (F : List D → R D) (dds : List D) : Prop where
  ok : ∃ fd ps dvs, FnOk P w K mg base (L2.CX P w) k f fd ps (spD K cm n F) ∧ (∀ S, RepL K cm S dvs dds) ∧ ∀ j, j ≤ dds.length → ∃ us, Vals (dvs.drop j) us ∧ Binds K fd ps us
/-- an __init__ -/
structure IniP (P : Program) (w : World) (K : PySem.W.Frag) (mg : Str → Option Value) (base : Heap) (cm : CM) (k n c : Nat) (f : Addr) (F : List D → R (List D)) (dds : List D) : Prop where
  ok : ∃ fd ps dvs, FnOk P w K mg base (L2.CX P w) k f fd ps (spI K cm c n F) ∧ (∀ S, RepL K cm S dvs dds) ∧ ∀ j, j ≤ dds.length → ∃ us, Vals (dvs.drop j) us ∧ Binds K fd ps us
/-- the name stands at the top for this def -/
structure At (K : PySem.W.Frag) (mg : Str → Option Value) (x : Str) (f : Addr) : Prop where
  mg : mg x = some (.ref f)
  kp : PySem.W.keepIn K (.ref f) = true
/-- the name stands at the top for this class -/
structure ClsAt (K : PySem.W.Frag) (mg : Str → Option Value) (cm : CM) (x : Str) (c : Nat) (f : Addr) : Prop where
  mg : mg x = some (.ref (cm.addr c))
  make : Mk K (cm.addr c) f
  mem : c ∈ cm.cls
section
variable {X : Cx} {cm : CM} {W : WH} {k n c : Nat} {f : Addr} {x m : Str} {p pos apos : Pos} {e o a b : Expr} {es : List Expr} {args : LS → R (List D)} {fo f1 g1 : LS → R D} {F : List D → R D} {G : List D → R (List D)} {dds : List D}
theorem e_callP (j : Nat) (h : DefP X.prog X.w X.K X.mg X.base cm k n f F dds) (A : At X.K X.mg x f) (tk : Takes X W.w) (hr : Room k X.A) (hj : j ≤ dds.length) (ha : PA X (e :: es) (EA X.K cm W args)) (hg : Gl X x := by rfl) (hdb : (x == ("__debug__" : Str)) = false := by decide)
    (he : starEach (e :: es) X.env = (false, eval e X.env) :: starEach es X.env := by rfl) (hpl : (backTo pos (starEach es X.env)).any (·.1) = false := by rfl) : PE X (.Call (.Name x p) (e :: es) [] pos) (E X.K cm W (callU (ar n F) (dds.drop j) args)) := by
  obtain ⟨fd, ps, dvs, h1, r, h2⟩ := h.ok
  obtain ⟨us, h3, h4⟩ := h2 j hj
  exact e_call h1 tk hr A.mg A.kp h4 h3 (fun S => (r S).drop j) ha hg hdb he hpl
theorem e_makeP (j : Nat) (h : IniP X.prog X.w X.K X.mg X.base cm k n c f G dds) (A : ClsAt X.K X.mg cm x c f) (tk : Takes X W.w) (hr : Room (k + 1) X.A) (hj : j ≤ dds.length) (ha : PA X (e :: es) (EA X.K cm W args)) (hg : Gl X x := by rfl) (hdb : (x == ("__debug__" : Str)) = false := by decide)
    (he : starEach (e :: es) X.env = (false, eval e X.env) :: starEach es X.env := by rfl) (hpl : (backTo pos (starEach es X.env)).any (·.1) = false := by rfl) : PE X (.Call (.Name x p) (e :: es) [] pos) (E X.K cm W (makeU c (arI n G) (dds.drop j) args)) := by
  obtain ⟨fd, ps, dvs, h1, r, h2⟩ := h.ok
  obtain ⟨us, h3, h4⟩ := h2 j hj
  exact e_make A.mem rfl A.make h1 tk hr A.mg h4 h3 (fun S => (r S).drop j) ha hg hdb he hpl
end
def fuel : Nat := 1000000000000
def dIAdd : D → D → Option D := dII fun i j => some (.int (i + j))
theorem d_ip {K : PySem.W.Frag} {cm : CM} {g : Int → Int → Int} : Op2 K cm (ipI g) (dII fun i j => some (.int (g i j))) := by
  intro S H x y d e z Q sh hx hy ho k
  cases d <;> cases e <;> try (cases ho; done)
  rw [hx.int, hy.int]
  cases ho
  exact ⟨_, _, rfl, rfl, k H S (Xt.refl sh) _ (.int _)⟩
theorem d_ipAdd {K : PySem.W.Frag} {cm : CM} : Op2 K cm (ipI fun i j => i + j) dIAdd := d_ip
/-- an empty tuple that stands -/
theorem rep_t0 {K : PySem.W.Frag} {cm : CM} {t : Addr} {o : Obj} {n : Nat} (h : K.lookup t = some o) (c : o.cls = .type "tuple") (d : o.data = .seq #[] n) : ∀ S, Rep K cm S (.ref t) (.tup []) := fun S => .tup (.inr ⟨o, #[], n, h, c, d, by decide, .nil⟩) .nil
/-! ### built-in names -/
theorem b_len : bootBuiltins "len" = some (.builtin "len") := by decide +kernel
theorem b_max : bootBuiltins "max" = some (.builtin "max") := by decide +kernel
theorem b_min : bootBuiltins "min" = some (.builtin "min") := by decide +kernel
theorem b_sum : bootBuiltins "sum" = some (.builtin "sum") := by decide +kernel
theorem b_sorted : bootBuiltins "sorted" = some (.builtin "sorted") := by decide +kernel
theorem b_int : bootBuiltins "int" = some (.type "int") := by decide +kernel
theorem b_bool : bootBuiltins "bool" = some (.type "bool") := by decide +kernel
theorem b_list : bootBuiltins "list" = some (.type "list") := by decide +kernel
theorem b_tuple : bootBuiltins "tuple" = some (.type "tuple") := by decide +kernel
/-! ### what stands at the top -/
theorem fa_nil {p : Nat → Prop} : ∀ c ∈ ([] : List Nat), p c := fun _ m => nomatch m
theorem fa_cons {p : Nat → Prop} {a : Nat} {l : List Nat} (h : p a) (t : ∀ c ∈ l, p c) : ∀ c ∈ a :: l, p c := fun c m => (List.mem_cons.mp m).elim (fun e => e ▸ h) (t c)
theorem fp_nil {p : Nat × Nat → Prop} : ∀ c ∈ ([] : List (Nat × Nat)), p c := fun _ m => nomatch m
theorem fp_cons {p : Nat × Nat → Prop} {a : Nat × Nat} {l : List (Nat × Nat)} (h : p a) (t : ∀ c ∈ l, p c) : ∀ c ∈ a :: l, p c := fun c m => (List.mem_cons.mp m).elim (fun e => e ▸ h) (t c)
/-! ### the law -/
/-- the law's promise, told without classes -/
def spLaw (K : PySem.W.Frag) : Sp := fun vs H Q _ => ∃ (a : Addr) (ns : List Int), vs = [.ref a] ∧ SqL K H a (ns.map V.int) ∧ ns.length ≤ 63 ∧ (∀ z ∈ ns, Builtin.Int.intBits z ≤ 1048576) ∧ ∀ H', Q (.bl true) H'
theorem law_sp {K : PySem.W.Frag} {cm : CM} {F : List D → R D} (h : ∀ ns : List Int, ns.length ≤ 63 → (∀ z ∈ ns, Builtin.Int.intBits z ≤ 1048576) → F [.scr (ns.map D.int)] = .ok (.bl true)) : ∀ vs H Q E, spLaw K vs H Q E → spD K cm 1 F vs H Q E := by
  rintro vs H Q E ⟨a, ns, rfl, hS, hl, hb, k⟩
  refine ⟨rfl, H, [.scr (ns.map D.int)], Same.refl H, .cons (.scr hS (RepL.ints ns)) .nil, ?_⟩
  show Fin K cm H H Q E (F [.scr (ns.map D.int)])
  rw [h ns hl hb]
  intro v H' S' x hv
  cases hv
  exact k H'
theorem cx_none {P : Program} {w : World} {H : Hp} {s : Shared} {e : Value} {s' : Shared} (h : L2.CX P w [] H s (fun _ _ _ => False) e s') : False := by
  obtain ⟨a, B, H', cls, d, rfl, fl, hok, ub, na, os, ag, hE⟩ := h
  exact hE
theorem walk {l : PySem.W.OpenLaw} {q : Program} {loose : List Str} {XP : (Str → Option Value) → Heap → Prop} {YP : World → Heap → Prop} {d : DefRec} {K : Params → PySem.W.Frag} {k : Nat} (hn : l.most = some 63) (hdf : d.params.defaults = []) (hr : Room k callerA)
    (hY : ∀ (w : World) (h : Heap), YP w h → (K w.params).In h)
    (F : ∀ (w : World) (mg : Str → Option Value) (fa : Addr) (h : Heap), (K w.params).In h → h.Ns mainGlobals mg → mg d.name = some (.ref fa) →
      ∃ fd : FuncData, (∀ (s : Shared) (u : Value), BindsTo s fd ⟨[u], []⟩ [("_law_script", u)]) ∧ ∀ base : Heap, (K w.params).In base → base.Ns mainGlobals mg → FnOk l.prog w (K w.params) mg base (L2.CX l.prog w) k fa fd ["_law_script"] (spLaw (K w.params))) :
    PySem.W.WalkO q loose XP YP l.row.toRowW d [] (fun f vs => PySem.call f vs) :=
  walk_ofB (n := 63) (k := k) (x := "_law_script") (CX := fun w => L2.CX l.prog w) (sp := fun w => spLaw (K w.params)) hn (by decide) hdf hr hY F (fun w H a ns hl hb _ hS => ⟨a, ns, rfl, hS, hl, hb, fun _ => rfl⟩) fun w H s e s' z => cx_none z
end DI
end
section
set_option Elab.async false
set_option linter.all false
set_option maxRecDepth 100000
set_option maxHeartbeats 2000000
/-! DI: reckoning with denotations. -/
namespace DI
open PySem L2
section
variable {st : LS} {F G : LS → Out} {f g : LS → R D} {a b : D} {d e : D} {o : Option (Option T)} {t : T} {i j : Int} {α β : Type} {k : α → Out} {kk : α → R β}
@[simp] theorem ev_get0 {x : Option T} {l : LS} : (x :: l)[0]? = some x := rfl
@[simp] theorem ev_getS {x : Option T} {l : LS} {n : Nat} : (x :: l)[n + 1]? = l[n]? := rfl
@[simp] theorem ev_put0 {x y : Option T} {l : LS} : (x :: l).set 0 y = y :: l := rfl
@[simp] theorem ev_putS {x y : Option T} {l : LS} {n : Nat} : (x :: l).set (n + 1) y = x :: l.set n y := rfl
@[simp] theorem ev_seq : seqS F G st = (F st).seq G := rfl
@[simp] theorem ev_seq_nx : (Out.nx st).seq G = G st := rfl
@[simp] theorem ev_seq_rt : (Out.rt d).seq G = .rt d := rfl
@[simp] theorem ev_seq_bk : (Out.bk st).seq G = .bk st := rfl
@[simp] theorem ev_seq_ct : (Out.ct st).seq G = .ct st := rfl
@[simp] theorem ev_seq_ex {x : Ex} : (Out.ex st x).seq G = .ex st x := rfl
theorem ev_seq_ite {c : Prop} [Decidable c] {x y : Out} : (if c then x else y).seq G = if c then x.seq G else y.seq G := by split <;> rfl
@[simp] theorem ev_end_rt : (Out.rt d).end = .ok d := rfl
@[simp] theorem ev_end_nx : (Out.nx st).end = .ok .non := rfl
@[simp] theorem ev_end_ex {x : Ex} : (Out.ex st x).end = .ex x := rfl
theorem ev_end_ite {c : Prop} [Decidable c] {x y : Out} : (if c then x else y).end = if c then x.end else y.end := by split <;> rfl
@[simp] theorem ev_nil : nilS st = .nx st := rfl
@[simp] theorem ev_ok {x : α} : (R.ok x).bind kk = kk x := rfl
@[simp] theorem ev_ex {x : Ex} : (R.ex x : R α).bind kk = .ex x := rfl
@[simp] theorem ev_out {x : α} : (R.ok x).out st k = k x := rfl
@[simp] theorem ev_outx {x : Ex} : (R.ex x : R α).out st k = .ex st x := rfl
@[simp] theorem ev_of {x : α} : R.of (some x) = .ok x := rfl
@[simp] theorem ev_bind_ite {c : Prop} [Decidable c] {x y : R α} : (if c then x else y).bind kk = if c then x.bind kk else y.bind kk := by split <;> rfl
@[simp] theorem ev_out_ite {c : Prop} [Decidable c] {x y : R α} : (if c then x else y).out st k = if c then x.out st k else y.out st k := by split <;> rfl
@[simp] theorem ev_imD : imD (some (some (.im d))) = some d := rfl
@[simp] theorem ev_vi {n : Nat} : vi n st = .of (imD st[n]?) := rfl
@[simp] theorem ev_vv {n : Nat} : vv n st = .of (viewD st[n]?) := rfl
@[simp] theorem ev_viewI : viewD (some (some (.im d))) = some d := rfl
@[simp] theorem ev_viewL {ts : List T} : viewD (some (some (.lst ts))) = (imms ts).map .lst := rfl
@[simp] theorem ev_imms {ds : List D} : imms (ds.map .im) = some ds := by
  induction ds with
  | nil => rfl
  | cons d ds ih => rw [List.map_cons]; unfold imms; rw [ih]; rfl
@[simp] theorem ev_cc : cc d st = .ok d := rfl
@[simp] theorem ev_bin {op : D → D → Option D} : bin op f g st = (f st).bind fun x => (g st).bind fun y => .of (op x y) := rfl
@[simp] theorem ev_un {op : D → Option D} : un op f st = (f st).bind fun x => .of (op x) := rfl
@[simp] theorem ev_tb : tb f st = (f st).bind fun x => .of (dB x) := rfl
@[simp] theorem ev_dB {b : Bool} : dB (.bl b) = some b := rfl
@[simp] theorem ev_chain {op op' : D → D → Option D} {h : LS → R D} : chain op op' f g h st = (f st).bind fun x => (g st).bind fun y => (R.of (op x y)).bind fun z => (R.of (dB z)).bind fun b => if b = true then (h st).bind fun u => .of (op' y u) else .ok (.bl false) := rfl
@[simp] theorem ev_andB {p q : LS → R Bool} : andB p q st = (p st).bind fun b => if b = true then q st else .ok false := rfl
@[simp] theorem ev_orB {p q : LS → R Bool} : orB p q st = (p st).bind fun b => if b = true then .ok true else q st := rfl
@[simp] theorem ev_notB {p : LS → R Bool} : notB p st = (p st).bind fun b => .ok (!b) := rfl
@[simp] theorem ev_andE : andE f g st = (f st).bind fun x => (R.of (dB x)).bind fun b => if b = true then g st else .ok (.bl false) := rfl
@[simp] theorem ev_orE : orE f g st = (f st).bind fun x => (R.of (dB x)).bind fun b => if b = true then .ok (.bl true) else g st := rfl
@[simp] theorem ev_notE : notE f st = (f st).bind fun x => .of (dNot x) := rfl
@[simp] theorem ev_dNot {b : Bool} : dNot (.bl b) = some (.bl (!b)) := rfl
@[simp] theorem ev_ifE {p : LS → R Bool} : ifE p f g st = (p st).bind fun b => if b = true then f st else g st := rfl
@[simp] theorem ev_nilA : nilA st = .ok [] := rfl
@[simp] theorem ev_consA {r : LS → R (List D)} : consA f r st = (f st).bind fun x => (r st).bind fun xs => .ok (x :: xs) := rfl
@[simp] theorem ev_tupE {r : LS → R (List D)} : tupE r st = (r st).bind fun ds => .of ((lineL ds).map .tup) := rfl
@[simp] theorem ev_lstE {r : LS → R (List D)} : lstE r st = (r st).bind fun ds => .of ((lineL ds).map .lst) := rfl
@[simp] theorem ev_lstF {r : LS → R (List D)} : lstF r st = (r st).bind fun ds => .of ((lineL ds).map imT) := rfl
@[simp] theorem ev_line0 : lineL [] = some [] := if_pos (Nat.zero_le _)
theorem ev_line {ds : List D} (h : ds.length ≤ 16777216) : lineL ds = some ds := if_pos h
@[simp] theorem ev_ret : retS f st = (f st).out st .rt := rfl
@[simp] theorem ev_set {n : Nat} : setS n f st = (f st).out st fun d => .nx (st.set n (some (.im d))) := rfl
@[simp] theorem ev_setF {n : Nat} {f : LS → R T} : setF n f st = (f st).out st fun t => .nx (st.set n (some t)) := rfl
@[simp] theorem ev_asg {gg : D → LS → Option LS} : asgS f gg st = (f st).out st fun d => .of (gg d st) := rfl
@[simp] theorem ev_Oof : Out.of (some st) = .nx st := rfl
theorem ev_if {c : LS → R Bool} : ifS c F G st = (c st).out st fun b => if b = true then F st else G st := rfl
@[simp] theorem ev_drop : dropS f st = (f st).out st fun _ => .nx st := rfl
@[simp] theorem ev_for {fi : LS → R (List D)} {gg : D → LS → Option LS} : forS fi gg F st = (fi st).out st fun ds => forL gg F ds st := rfl
@[simp] theorem ev_while {n : Nat} {c : LS → R Bool} : whileS n c F st = whileL c F n st := rfl
@[simp] theorem ev_frzS {n : Nat} : frzS n F st = F (frz n st) := rfl
@[simp] theorem ev_gN {n : Nat} : gN n d st = some (st.set n (some (.im d))) := rfl
@[simp] theorem ev_gsNil : gsNil [] st = some st := rfl
@[simp] theorem ev_gsCons {gg : D → LS → Option LS} {hh : List D → LS → Option LS} {ds : List D} : gsCons gg hh (d :: ds) st = (gg d st).bind fun s => hh ds s := rfl
@[simp] theorem ev_gT {n : Nat} {hh : List D → LS → Option LS} {ds : List D} : gT n hh (.tup ds) st = if ds.length = n then hh ds st else none := rfl
def oB {α : Type} (o : Option α) (k : α → Out) : Out := match o with
  | none => .bad
  | some a => k a
@[simp] theorem oB_some {α : Type} {a : α} {k : α → Out} : oB (some a) k = k a := rfl
@[simp] theorem ev_app {n : Nat} {f : LS → R T} : appS n f st = oB (ownL st[n]?) fun ts => (f st).out st fun t => if ts.length < sizeLine then .nx (st.set n (some (.lst (ts ++ [t])))) else .bad := by
  unfold appS
  cases ownL st[n]? <;> rfl
@[simp] theorem ev_frz0 {t : T} {l : LS} : frz 0 (some t :: l) = some (.im t.toD) :: l := rfl
@[simp] theorem ev_frzS' {n : Nat} {x : Option T} {l : LS} : frz (n + 1) (x :: l) = x :: frz n l := by
  unfold frz
  rw [ev_getS]
  split <;> rfl
@[simp] theorem ev_size : sizeLine = 16777216 := rfl
@[simp] theorem ev_imI {xs : List D} : (List.map T.im xs).length = xs.length := List.length_map ..
@[simp] theorem ev_ownL {ts : List T} : ownL (some (some (.lst ts))) = some ts := rfl
@[simp] theorem ev_callU {H : List D → R D} {dd : List D} {r : LS → R (List D)} : callU H dd r st = (r st).bind fun ds => H (ds ++ dd) := rfl
theorem ev_ar {n : Nat} {H : List D → R D} {ds : List D} (h : ds.length = n) : ar n H ds = H ds := if_pos h
theorem ev_arI {n : Nat} {H : List D → R (List D)} {ds : List D} (h : ds.length = n) : arI n H ds = H ds := if_pos h
@[simp] theorem ev_makeU {c : Nat} {H : List D → R (List D)} {dd : List D} {r : LS → R (List D)} : makeU c H dd r st = (r st).bind fun ds => (H (ds ++ dd)).bind fun fs => .ok (.ins c fs) := rfl
@[simp] theorem ev_callE {op : List D → Option D} {r : LS → R (List D)} : callE op r st = (r st).bind fun ds => .of (op ds) := rfl
@[simp] theorem ev_callF {op : List D → Option (List D)} {r : LS → R (List D)} : callF op r st = (r st).bind fun ds => .of ((op ds).map imT) := rfl
@[simp] theorem ev_callI {op : List D → Option (List D)} {r : LS → R (List D)} : callI op r st = (r st).bind fun ds => .of (op ds) := rfl
@[simp] theorem ev_items : items f st = (f st).bind fun d => .of (itemsD d) := rfl
@[simp] theorem ev_itL {ds : List D} : itemsD (.lst ds) = some ds := rfl
@[simp] theorem ev_itT {ds : List D} : itemsD (.tup ds) = some ds := rfl
@[simp] theorem ev_itS {ds : List D} : itemsD (.scr ds) = some ds := rfl
def enumX : List D → R (List D)
  | [d] => .of ((seqD d).map fun p => enumL 0 p.2)
  | _ => .bad
@[simp] theorem ev_enum {r : LS → R (List D)} : enumI r st = (r st).bind enumX := rfl
@[simp] theorem ev_enumT {ds : List D} : enumX [.tup ds] = .ok (enumL 0 ds) := rfl
@[simp] theorem ev_enumL {ds : List D} : enumX [.lst ds] = .ok (enumL 0 ds) := rfl
def zipX : List D → R (List D)
  | [d, e] => .of ((seqD d).bind fun p => (seqD e).map fun q => zipL p.2 q.2)
  | _ => .bad
@[simp] theorem ev_zip {r : LS → R (List D)} : zipI r st = (r st).bind zipX := rfl
@[simp] theorem ev_zipTT {ds es : List D} : zipX [.tup ds, .tup es] = .ok (zipL ds es) := rfl
@[simp] theorem ev_zipTL {ds es : List D} : zipX [.tup ds, .lst es] = .ok (zipL ds es) := rfl
@[simp] theorem ev_zipLT {ds es : List D} : zipX [.lst ds, .tup es] = .ok (zipL ds es) := rfl
@[simp] theorem ev_zipLL {ds es : List D} : zipX [.lst ds, .lst es] = .ok (zipL ds es) := rfl
@[simp] theorem ev_compE {fi : LS → R (List D)} {vs : List Nat} {gg : D → LS → Option LS} {c : LS → R Bool} : compE fi vs gg c f st = (compR fi vs gg c f st).bind fun ys => .ok (.lst ys) := rfl
@[simp] theorem ev_compF {fi : LS → R (List D)} {vs : List Nat} {gg : D → LS → Option LS} {c : LS → R Bool} : compF fi vs gg c f st = (compR fi vs gg c f st).bind fun ys => .ok (imT ys) := rfl
@[simp] theorem ev_compR {fi : LS → R (List D)} {vs : List Nat} {gg : D → LS → Option LS} {c : LS → R Bool} : compR fi vs gg c f st = (fi st).bind fun ds => if ds.length ≤ sizeLine then compL gg c f (wipeS st vs) ds else .bad := rfl
@[simp] theorem ev_yes : yesT st = .ok true := rfl
@[simp] theorem ev_noex {x : α} : (R.ok x).noex = .ok x := rfl
@[simp] theorem ev_wipe0 : wipeS st [] = st := rfl
@[simp] theorem ev_wipe1 {n : Nat} {ns : List Nat} : wipeS st (n :: ns) = (wipeS st ns).set n none := rfl
@[simp] theorem ev_op2R {op : D → D → R D} : op2R op f g st = (f st).bind fun x => (g st).bind fun y => op x y := rfl
@[simp] theorem ev_slE {lo hi : LS → R (Option Int)} : slE f lo hi st = (f st).bind fun d => (lo st).bind fun l => (hi st).bind fun h => .of (dSl d l h) := rfl
@[simp] theorem ev_partN : partN st = .ok none := rfl
@[simp] theorem ev_partI : partI f st = (f st).bind fun d => (R.of (dInt d)).bind fun i => .ok (some i) := rfl
@[simp] theorem ev_dInt : dInt (.int i) = some i := rfl
@[simp] theorem ev_den {m : Nat} {ds : List D} : den m F ds = (F (st0 m ds)).end := rfl
@[simp] theorem ev_st0_0 : st0 0 [] = [] := rfl
theorem ev_st0n {n : Nat} : st0 n [] = List.replicate n none := by unfold st0; simp
@[simp] theorem ev_st0 {n : Nat} {ds : List D} : st0 (n + 1) (d :: ds) = some (.im d) :: st0 n ds := by unfold st0; simp [Nat.add_sub_add_right]
/-! operators -/
@[simp] theorem ev_add : dAdd (.int i) (.int j) = some (.int (i + j)) := rfl
@[simp] theorem ev_sub : dSub (.int i) (.int j) = some (.int (i - j)) := rfl
@[simp] theorem ev_iadd : dIAdd (.int i) (.int j) = some (.int (i + j)) := rfl
@[simp] theorem ev_lt : dLt (.int i) (.int j) = some (.bl (decide (i < j))) := rfl
@[simp] theorem ev_le : dLe (.int i) (.int j) = some (.bl (decide (i ≤ j))) := rfl
@[simp] theorem ev_gt : dGt (.int i) (.int j) = some (.bl (decide (j < i))) := rfl
@[simp] theorem ev_ge : dGe (.int i) (.int j) = some (.bl (decide (j ≤ i))) := rfl
theorem ev_mod (h : 0 < j) : dMod (.int i) (.int j) = some (.int (i % j)) := by
  show (if decide (0 < j) = true then some (D.int (i % j)) else none) = _
  rw [if_pos (decide_eq_true h)]
theorem ev_div (h : 0 < j) (h2 : j < 1000000000000000000000000000000000000000000000000000000000000000000000000000) : dDiv (.int i) (.int j) = some (.int (i / j)) := by
  have : divC i j = true := by
    unfold divC
    rw [Bool.and_eq_true, decide_eq_true_eq, decide_eq_true_eq]
    refine ⟨h, ?_⟩
    have e : j.natAbs < 2 ^ 300 := Nat.lt_of_lt_of_le (show j.natAbs < 1000000000000000000000000000000000000000000000000000000000000000000000000000 by omega) (by decide)
    rcases Nat.eq_zero_or_pos j.natAbs with z | z
    · rw [z]; decide
    · have := (Nat.log2_lt (by omega)).mpr e
      omega
  show (if divC i j = true then some (D.int (i / j)) else none) = _
  rw [if_pos this]
theorem log_small {n : Nat} {k : Nat} (h : n < 2 ^ k) (hk : 0 < k) : n.log2 < k := by
  rcases Nat.eq_zero_or_pos n with z | z
  · rw [z]; exact hk
  · exact (Nat.log2_lt (by omega)).mpr h
theorem ev_mul (h1 : -1000000000000000000000000000000000000000000000000000000000000000000000000000 < i) (h2 : i < 1000000000000000000000000000000000000000000000000000000000000000000000000000) (h3 : -1000000000000000000000000000000000000000000000000000000000000000000000000000 < j) (h4 : j < 1000000000000000000000000000000000000000000000000000000000000000000000000000) : dMul (.int i) (.int j) = some (.int (i * j)) := by
  have a1 : i.natAbs < 2 ^ 300 := Nat.lt_of_lt_of_le (show i.natAbs < 1000000000000000000000000000000000000000000000000000000000000000000000000000 by omega) (by decide)
  have a2 : j.natAbs < 2 ^ 300 := Nat.lt_of_lt_of_le (show j.natAbs < 1000000000000000000000000000000000000000000000000000000000000000000000000000 by omega) (by decide)
  have b1 := log_small a1 (by decide)
  have b2 := log_small a2 (by decide)
  have : mulC i j = true := by
    unfold mulC
    rw [decide_eq_true_eq]
    omega
  show (if mulC i j = true then some (D.int (i * j)) else none) = _
  rw [if_pos this]
theorem ev_pow (h1 : 0 ≤ j) (h2 : j ≤ 1000000) (h3 : i.natAbs < 2 ^ 64) : dPow (.int i) (.int j) = some (.int (i ^ j.toNat)) := by
  have : powC i j = true := by
    unfold powC
    simp [h1, h2, h3]
  show (if powC i j = true then some (D.int (i ^ j.toNat)) else none) = _
  rw [if_pos this]
@[simp] theorem ev_toInt : dToInt [.int i] = some (.int i) := rfl
@[simp] theorem ev_toIntB {b : Bool} : dToInt [.bl b] = some (.int (if b = true then 1 else 0)) := rfl
@[simp] theorem ev_max2 : dMax2 [.int i, .int j] = some (.int (max i j)) := by
  show some (D.int (if j > i then j else i)) = _
  congr 2
  split <;> omega
@[simp] theorem ev_min2 : dMin2 [.int i, .int j] = some (.int (min i j)) := by
  show some (D.int (if j < i then j else i)) = _
  congr 2
  split <;> omega
@[simp] theorem ev_lenL {ds : List D} : dLen [.lst ds] = some (.int ds.length) := rfl
@[simp] theorem ev_lenT {ds : List D} : dLen [.tup ds] = some (.int ds.length) := rfl
@[simp] theorem ev_lenS {ds : List D} : dLen [.scr ds] = some (.int ds.length) := rfl
@[simp] theorem ev_tupL {ds : List D} : dTuple [.lst ds] = some (.tup ds) := rfl
@[simp] theorem ev_tupT {ds : List D} : dTuple [.tup ds] = some (.tup ds) := rfl
@[simp] theorem ev_listL {ds : List D} : dListF [.lst ds] = some ds := rfl
@[simp] theorem ev_listT {ds : List D} : dListF [.tup ds] = some ds := rfl
@[simp] theorem ev_dL {ds : List D} : dL (some ds) = some (.lst ds) := rfl
theorem ev_rng1 (h : i ≤ 1000000000) (h2 : -1000000000 ≤ i) : rng1 [.int i] = some (rangeD 0 i.toNat) := if_pos ⟨by omega, by omega⟩
theorem ev_rng2 (h : i ≤ 1000000000) (h2 : -1000000000 ≤ i) (h3 : j ≤ 1000000000) (h4 : -1000000000 ≤ j) : rng2 [.int i, .int j] = some (rangeD i (j - i).toNat) := if_pos ⟨by omega, by omega, by omega, by omega⟩
theorem ev_idx {ds : List D} (h : 0 ≤ i) (h2 : i.toNat < ds.length) : dIdx (.lst ds) (.int i) = ds[i.toNat]? := by
  show atI ds i = _
  unfold atI ixN
  rw [if_pos h, if_pos (by omega)]
  rfl
theorem ev_idxT {ds : List D} (h : 0 ≤ i) (h2 : i.toNat < ds.length) : dIdx (.tup ds) (.int i) = ds[i.toNat]? := by
  show atI ds i = _
  unfold atI ixN
  rw [if_pos h, if_pos (by omega)]
  rfl
theorem ev_idxS {ds : List D} (h : 0 ≤ i) (h2 : i.toNat < ds.length) : dIdx (.scr ds) (.int i) = ds[i.toNat]? := by
  show atI ds i = _
  unfold atI ixN
  rw [if_pos h, if_pos (by omega)]
  rfl
@[simp] theorem ev_ix0T {a : D} {ds : List D} : dIdx (.tup (a :: ds)) (.int 0) = some a := by rw [ev_idxT (by omega) (by simp)]; rfl
@[simp] theorem ev_ix1T {a b : D} {ds : List D} : dIdx (.tup (a :: b :: ds)) (.int 1) = some b := by rw [ev_idxT (by omega) (by simp)]; rfl
@[simp] theorem ev_ix2T {a b c : D} {ds : List D} : dIdx (.tup (a :: b :: c :: ds)) (.int 2) = some c := by rw [ev_idxT (by omega) (by simp)]; rfl
@[simp] theorem ev_ix0 {a : D} {ds : List D} : dIdx (.lst (a :: ds)) (.int 0) = some a := by rw [ev_idx (by omega) (by simp)]; rfl
@[simp] theorem ev_ix1 {a b : D} {ds : List D} : dIdx (.lst (a :: b :: ds)) (.int 1) = some b := by rw [ev_idx (by omega) (by simp)]; rfl
@[simp] theorem ev_ix2 {a b c : D} {ds : List D} : dIdx (.lst (a :: b :: c :: ds)) (.int 2) = some c := by rw [ev_idx (by omega) (by simp)]; rfl
@[simp] theorem ev_catL {xs ys : List D} (h : xs.length + ys.length ≤ 16777216) : dAdd (.lst xs) (.lst ys) = some (.lst (xs ++ ys)) := by
  show (lineC xs ys).map D.lst = _
  unfold lineC
  rw [if_pos (show xs.length + ys.length ≤ sizeLine from h)]
  rfl
@[simp] theorem ev_isN : dIsN .non .non = some (.bl true) := rfl
@[simp] theorem ev_isL {s : Nat → Nat → Bool} {ts : List TY} {ds : List D} : dIs s ts (.lst ds) = some (.bl (ts.any ((TY.b .list).sub s))) := rfl
@[simp] theorem ev_isT {s : Nat → Nat → Bool} {ts : List TY} {ds : List D} : dIs s ts (.tup ds) = some (.bl (ts.any ((TY.b .tuple).sub s))) := rfl
@[simp] theorem ev_isI {s : Nat → Nat → Bool} {ts : List TY} {i : Int} : dIs s ts (.int i) = some (.bl (ts.any ((TY.b .int).sub s))) := rfl
@[simp] theorem ev_isB {s : Nat → Nat → Bool} {ts : List TY} {b : Bool} : dIs s ts (.bl b) = some (.bl (ts.any ((TY.b .bool).sub s))) := rfl
@[simp] theorem ev_isNo {s : Nat → Nat → Bool} {ts : List TY} : dIs s ts .non = some (.bl (ts.any ((TY.b .non).sub s))) := rfl
@[simp] theorem ev_isC {s : Nat → Nat → Bool} {ts : List TY} {c : Nat} {ds : List D} : dIs s ts (.ins c ds) = some (.bl (ts.any ((TY.c c).sub s))) := rfl
@[simp] theorem ev_tyBB {s : Nat → Nat → Bool} {a b : BT} : (TY.b a).sub s (.b b) = a.sub b := rfl
@[simp] theorem ev_tyBC {s : Nat → Nat → Bool} {a : BT} {k : Nat} : (TY.b a).sub s (.c k) = false := rfl
@[simp] theorem ev_tyCB {s : Nat → Nat → Bool} {a : BT} {k : Nat} : (TY.c k).sub s (.b a) = false := rfl
@[simp] theorem ev_tyCC {s : Nat → Nat → Bool} {j k : Nat} : (TY.c k).sub s (.c j) = s k j := rfl
end
/-! ### an __init__ -/
theorem ev_denI {m c : Nat} {F : LS → Out} {ds : List D} : denI m c F ds = (F (stI m c ds)).endI c := rfl
theorem ev_stI {n c : Nat} {ds : List D} : stI n c ds = some (T.ins c []) :: st0 (n - 1) ds := rfl
theorem ev_slfS {i c j : Nat} {f : LS → R D} {st : LS} : slfS i c j f st = oB (insO c st[i]?) fun fs => (f st).out st fun d => oB (putD j d fs) fun fs' => .nx (st.set i (some (.ins c fs'))) := by
  unfold slfS
  cases insO c st[i]? with
  | none => rfl
  | some fs =>
    show (f st).out st _ = (f st).out st _
    congr 1
    funext d
    cases putD j d fs <;> rfl
theorem ev_slfE {i c j : Nat} {st : LS} : slfE i c j st = .of ((insO c st[i]?).bind fun fs => fs[j]?) := rfl
@[simp] theorem ev_insO {c : Nat} {fs : List D} : insO c (some (some (.ins c fs))) = some fs := if_pos rfl
@[simp] theorem ev_put0' {d : D} : putD 0 d [] = some [d] := rfl
@[simp] theorem ev_put1 {a d : D} : putD 1 d [a] = some [a, d] := rfl
@[simp] theorem ev_put2 {a b d : D} : putD 2 d [a, b] = some [a, b, d] := rfl
@[simp] theorem ev_put3 {a b c d : D} : putD 3 d [a, b, c] = some [a, b, c, d] := rfl
@[simp] theorem ev_endI {c : Nat} {fs : List D} {l : LS} : (Out.nx (some (.ins c fs) :: l)).endI c = .ok fs := if_pos rfl
/-! ### lists under construction, typed -/
section
variable {α : Type} {enc : α → D} {xs : List α}
def tE (enc : α → D) (xs : List α) : T := .lst (xs.map (T.im ∘ enc))
@[simp] theorem ev_ownE : ownL (some (some (tE enc xs))) = some (xs.map (T.im ∘ enc)) := rfl
theorem imms_enc : ∀ xs : List α, imms (xs.map (T.im ∘ enc)) = some (xs.map enc)
  | [] => rfl
  | x :: xs => by
    show (imms (xs.map (T.im ∘ enc))).map (enc x :: ·) = _
    rw [imms_enc xs]
    rfl
@[simp] theorem ev_viewE : viewD (some (some (tE enc xs))) = some (.lst (xs.map enc)) := by
  show (imms (xs.map (T.im ∘ enc))).map D.lst = _
  rw [imms_enc]
  rfl
theorem toDs_enc : ∀ xs : List α, T.toDs (xs.map (T.im ∘ enc)) = xs.map enc
  | [] => rfl
  | x :: xs => by
    show T.toDs ((T.im ∘ enc) x :: xs.map (T.im ∘ enc)) = _
    unfold T.toDs
    rw [toDs_enc xs]
    show T.toD (.im (enc x)) :: _ = _
    unfold T.toD
    rfl
@[simp] theorem ev_toDE : (tE enc xs).toD = .lst (xs.map enc) := by
  unfold tE T.toD
  rw [toDs_enc]
@[simp] theorem ev_toDim {d : D} : (T.im d).toD = d := by unfold T.toD; rfl
theorem tE_nil : imT [] = tE enc ([] : List α) := rfl
theorem tE_imT : imT (xs.map enc) = tE enc xs := by unfold imT tE; rw [List.map_map]
@[simp] theorem tE_snoc {y : α} : T.lst (xs.map (T.im ∘ enc) ++ [T.im (enc y)]) = tE enc (xs ++ [y]) := by unfold tE; simp
end
/-- pairs of numbers -/
def dP (p : Int × Int) : D := .tup [.int p.1, .int p.2]
@[simp] theorem tP_snoc {xs : List (Int × Int)} {a b : Int} : T.lst (xs.map (T.im ∘ dP) ++ [T.im (.tup [.int a, .int b])]) = tE dP (xs ++ [(a, b)]) := tE_snoc (enc := dP) (y := (a, b))
/-! ### lists of lists of numbers, under construction -/
def tN (rows : List (List Int)) : T := .lst (rows.map (tE D.int))
def apR (rows : List (List Int)) (j y : Int) : List (List Int) := rows.set j.toNat (rows.getD j.toNat [] ++ [y])
@[simp] theorem apR_len {rows : List (List Int)} {j y : Int} : (apR rows j y).length = rows.length := by unfold apR; rw [List.length_set]
theorem ev_appP {i : Nat} {g : LS → R D} {f : LS → R T} {st : LS} {rows : List (List Int)} {j y : Int} (h1 : st[i]? = some (some (tN rows))) (h2 : g st = .ok (.int j)) (h3 : f st = .ok (.im (.int y))) (h4 : 0 ≤ j) (h5 : j < rows.length) (h6 : ∀ r ∈ rows, r.length < 16777216) :
    appPS i g f st = .nx (st.set i (some (tN (apR rows j y)))) := by
  have hj : j.toNat < rows.length := by omega
  have e1 : ownL st[i]? = some (rows.map (tE D.int)) := by rw [h1]; rfl
  have e2 : placeD (rows.map (tE D.int)).length (.int j) = some j.toNat := by
    show ixN (rows.map (tE D.int)).length j = _
    unfold ixN
    rw [if_pos h4, if_pos (by rw [List.length_map]; exact h5)]
  have e3 : lstT (rows.map (tE D.int))[j.toNat]? = some ((rows[j.toNat]).map (T.im ∘ D.int)) := by
    rw [List.getElem?_map, List.getElem?_eq_getElem hj]
    rfl
  have hl : ((rows[j.toNat]).map (T.im ∘ D.int)).length < sizeLine := by
    rw [List.length_map]
    exact h6 _ (List.getElem_mem hj)
  have e4 : (rows.map (tE D.int)).set j.toNat (.lst ((rows[j.toNat]).map (T.im ∘ D.int) ++ [.im (.int y)])) = (apR rows j y).map (tE D.int) := by
    unfold apR
    rw [List.map_set, tE_snoc, List.getD_eq_getElem?_getD, List.getElem?_eq_getElem hj]
    rfl
  unfold appPS
  simp only [e1, h2, ev_out, e2, e3, h3, if_pos hl, e4]
  rfl
theorem toDs_tN : ∀ rows : List (List Int), T.toDs (rows.map (tE D.int)) = rows.map fun r => .lst (r.map .int)
  | [] => by rw [List.map_nil, List.map_nil]; unfold T.toDs; rfl
  | r :: rows => by
    rw [List.map_cons, List.map_cons]
    unfold T.toDs
    rw [toDs_tN rows, ev_toDE]
@[simp] theorem ev_toDN {rows : List (List Int)} : (tN rows).toD = .lst (rows.map fun r => .lst (r.map .int)) := by
  unfold tN T.toD
  rw [toDs_tN]
theorem ev_sort {xs : List Int} : dSortF [.lst (xs.map .int)] = some ((srtI xs).map .int) := by
  show (dInts (xs.map .int)).map (fun ns => (srtI ns).map D.int) = _
  rw [dInts_map]
  rfl
theorem cutL_take {α : Type} {xs : List α} {k : Int} (h : 0 ≤ k) : cutL xs none (some k) = xs.take k.toNat := by
  unfold cutL
  have e1 : HT.sIx xs.length 0 none = 0 := rfl
  have e2 : HT.sIx xs.length xs.length (some k) = min k.toNat xs.length := by
    show (if k < 0 then (k + (xs.length : Int)).toNat else min k.toNat xs.length) = _
    rw [if_neg (by omega)]
  rw [e1, e2, List.drop_zero, Nat.sub_zero, List.take_eq_take_iff]
  omega
theorem ev_slL {ds : List D} {k : Int} (h : 0 ≤ k) : dSl (.lst ds) none (some k) = some (.lst (ds.take k.toNat)) := by
  show some (D.lst (cutL ds none (some k))) = _
  rw [cutL_take h]
/-! ### equality -/
theorem eqv_ii (i j : Int) : PyData.eqv (.int i) (.int j) = (i == j) := by unfold PyData.eqv; rfl
@[simp] theorem sh_int (i : Int) : (D.int i).sh = some (.int i) := by
  have e : SeqAt.shaped (.int i) = true := by unfold SeqAt.shaped; simp [PyData.canLay0, PyData.depth]
  unfold D.sh D.py
  show (if SeqAt.shaped (.int i) = true then some (PyData.int i) else none) = _
  rw [if_pos e]
@[simp] theorem ev_eqI {i j : Int} : dEq (.int i) (.int j) = some (.bl (decide (i = j))) := by
  unfold dEq dEqB
  rw [sh_int, sh_int]
  show some (D.bl (PyData.eqv (.int i) (.int j))) = _
  rw [eqv_ii]
  rfl
@[simp] theorem ev_neI {i j : Int} : dNe (.int i) (.int j) = some (.bl (!decide (i = j))) := by
  unfold dNe dEqB
  rw [sh_int, sh_int]
  show some (D.bl (!PyData.eqv (.int i) (.int j))) = _
  rw [eqv_ii]
  rfl
mutual
theorem eqv_refl : ∀ p : PyData, p.canLay0 = true → PyData.eqv p p = true
  | .none, _ => by unfold PyData.eqv; rfl
  | .bool b, _ => by unfold PyData.eqv; cases b <;> rfl
  | .int i, _ => by unfold PyData.eqv; simp
  | .str x, _ => by unfold PyData.eqv; simp
  | .list xs, h => by unfold PyData.eqv; exact eqvAll_refl xs (by unfold PyData.canLay0 at h; exact h)
  | .tuple xs, h => by unfold PyData.eqv; exact eqvAll_refl xs (by unfold PyData.canLay0 at h; exact h)
  | .dict _, h => by unfold PyData.canLay0 at h; cases h
theorem eqvAll_refl : ∀ ps : List PyData, PyData.canLayAll0 ps = true → PyData.eqvAll ps ps = true
  | [], _ => by unfold PyData.eqvAll; rfl
  | p :: ps, h => by
    unfold PyData.canLayAll0 at h
    rw [Bool.and_eq_true] at h
    unfold PyData.eqvAll
    rw [eqv_refl p h.1, eqvAll_refl ps h.2]
    rfl
end
theorem sh_shaped {d : D} {p : PyData} (h : d.sh = some p) : p.canLay0 = true := SeqAt.canLay_of_shaped (D.sh_some h).2
theorem ev_neR {d : D} (h : d.sh.isSome = true) : dNe d d = some (.bl false) := by
  obtain ⟨p, hp⟩ := Option.isSome_iff_exists.mp h
  unfold dNe dEqB
  rw [hp]
  show some (D.bl (!PyData.eqv p p)) = _
  rw [eqv_refl p (sh_shaped hp)]
  rfl
/-- plain data of a depth -/
def D.plain : Nat → D → Bool
  | _, .non => true
  | _, .bl _ => true
  | _, .int _ => true
  | n + 1, .tup ds => ds.all (D.plain n)
  | n + 1, .lst ds => ds.all (D.plain n)
  | _, _ => false
theorem pys_of {n : Nat} (ih : ∀ d, D.plain n d = true → ∃ p, d.py = some p ∧ p.canLay0 = true ∧ p.depth ≤ n + 1) : ∀ ds : List D, ds.all (D.plain n) = true → ∃ ps, D.pys ds = some ps ∧ PyData.canLayAll0 ps = true ∧ PyData.depthAll ps ≤ n + 1
  | [], _ => ⟨[], by unfold D.pys; rfl, by unfold PyData.canLayAll0; rfl, by unfold PyData.depthAll; omega⟩
  | d :: ds, h => by
    rw [List.all_cons, Bool.and_eq_true] at h
    obtain ⟨p, e1, c1, d1⟩ := ih d h.1
    obtain ⟨ps, e2, c2, d2⟩ := pys_of ih ds h.2
    refine ⟨p :: ps, by unfold D.pys; rw [e1, e2], by unfold PyData.canLayAll0; rw [c1, c2]; rfl, by unfold PyData.depthAll; omega⟩
theorem py_of : ∀ (n : Nat) (d : D), D.plain n d = true → ∃ p, d.py = some p ∧ p.canLay0 = true ∧ p.depth ≤ n + 1
  | n, .non, _ => ⟨.none, by unfold D.py; rfl, by unfold PyData.canLay0; rfl, by unfold PyData.depth; omega⟩
  | n, .bl b, _ => ⟨.bool b, by unfold D.py; rfl, by unfold PyData.canLay0; rfl, by unfold PyData.depth; omega⟩
  | n, .int i, _ => ⟨.int i, by unfold D.py; rfl, by unfold PyData.canLay0; rfl, by unfold PyData.depth; omega⟩
  | n + 1, .tup ds, h => by
    obtain ⟨ps, e, c, dd⟩ := pys_of (py_of n) ds (by unfold D.plain at h; exact h)
    exact ⟨.tuple ps, by unfold D.py; rw [e]; rfl, by unfold PyData.canLay0; exact c, by unfold PyData.depth; omega⟩
  | n + 1, .lst ds, h => by
    obtain ⟨ps, e, c, dd⟩ := pys_of (py_of n) ds (by unfold D.plain at h; exact h)
    exact ⟨.list ps, by unfold D.py; rw [e]; rfl, by unfold PyData.canLay0; exact c, by unfold PyData.depth; omega⟩
  | 0, .tup _, h => by unfold D.plain at h; cases h
  | 0, .lst _, h => by unfold D.plain at h; cases h
  | n, .str _, h => by cases n <;> (unfold D.plain at h; cases h)
  | n, .ins _ _, h => by cases n <;> (unfold D.plain at h; cases h)
  | n, .scr _, h => by cases n <;> (unfold D.plain at h; cases h)
  | n, .tset _, h => by cases n <;> (unfold D.plain at h; cases h)
  | n, .dct _ _ _, h => by cases n <;> (unfold D.plain at h; cases h)
  | n, .rng _ _, h => by cases n <;> (unfold D.plain at h; cases h)
  | n, .nd _ _, h => by cases n <;> (unfold D.plain at h; cases h)
theorem sh_plain {n : Nat} {d : D} (h : D.plain n d = true) (hn : n ≤ 60) : ∃ p, d.py = some p ∧ d.sh = some p := by
  obtain ⟨p, e, c, dd⟩ := py_of n d h
  refine ⟨p, e, ?_⟩
  unfold D.sh
  rw [e]
  have : SeqAt.shaped p = true := by
    unfold SeqAt.shaped
    rw [c]
    simp
    omega
  show (if SeqAt.shaped p = true then some p else none) = _
  rw [if_pos this]
/-- x in xs answers something -/
theorem inP {n m : Nat} {d e : D} (h : D.plain n d = true) (h2 : D.plain m e = true) (hn : n ≤ 60) (hm : m ≤ 60) (hs : ∃ ds, e = .lst ds ∨ e = .tup ds) : ∃ b, dInB d e = some b := by
  obtain ⟨p, _, e1⟩ := sh_plain h hn
  obtain ⟨q, y, e2⟩ := sh_plain h2 hm
  obtain ⟨ds, rfl | rfl⟩ := hs
  · unfold D.py at y
    cases z : D.pys ds with
    | none => rw [z] at y; cases y
    | some ps =>
      rw [z] at y
      cases y
      unfold dInB
      rw [e1, e2]
      exact ⟨_, rfl⟩
  · unfold D.py at y
    cases z : D.pys ds with
    | none => rw [z] at y; cases y
    | some ps =>
      rw [z] at y
      cases y
      unfold dInB
      rw [e1, e2]
      exact ⟨_, rfl⟩
theorem ints_plain {n : Nat} (xs : List Int) : (xs.map D.int).all (D.plain n) = true := by
  rw [List.all_eq_true]
  intro d hd
  obtain ⟨x, _, rfl⟩ := List.mem_map.mp hd
  cases n <;> rfl
theorem pys_ints : ∀ xs : List Int, D.pys (xs.map D.int) = some (xs.map PyData.int)
  | [] => by unfold D.pys; rfl
  | x :: xs => by rw [List.map_cons]; unfold D.pys; rw [pys_ints xs]; unfold D.py; rfl
theorem any_ints (x : Int) (xs : List Int) : ((xs.map PyData.int).any fun z => PyData.eqv z (.int x)) = decide (x ∈ xs) := by
  rw [List.any_map]
  induction xs with
  | nil => rfl
  | cons y xs ih =>
    rw [List.any_cons, ih]
    show (PyData.eqv (.int y) (.int x) || _) = _
    rw [eqv_ii]
    by_cases h : x = y
    · subst h; simp
    · have : ¬ y = x := fun e => h e.symm
      simp [h, this]
theorem ev_inL {x : Int} {xs : List Int} : dIn (.int x) (.lst (xs.map .int)) = some (.bl (decide (x ∈ xs))) := by
  obtain ⟨p, y, e2⟩ := sh_plain (n := 1) (d := .lst (xs.map .int)) (by unfold D.plain; exact ints_plain xs) (by omega)
  unfold D.py at y
  rw [pys_ints] at y
  cases y
  unfold dIn dInB
  rw [sh_int, e2]
  show some (D.bl ((xs.map PyData.int).any fun z => PyData.eqv z (.int x))) = _
  rw [any_ints]
theorem ev_inT {x : Int} {xs : List Int} : dIn (.int x) (.tup (xs.map .int)) = some (.bl (decide (x ∈ xs))) := by
  obtain ⟨p, y, e2⟩ := sh_plain (n := 1) (d := .tup (xs.map .int)) (by unfold D.plain; exact ints_plain xs) (by omega)
  unfold D.py at y
  rw [pys_ints] at y
  cases y
  unfold dIn dInB
  rw [sh_int, e2]
  show some (D.bl ((xs.map PyData.int).any fun z => PyData.eqv z (.int x))) = _
  rw [any_ints]
theorem ev_notInT {x : Int} {xs : List Int} : dNotIn (.int x) (.tup (xs.map .int)) = some (.bl (!decide (x ∈ xs))) := by
  have h := ev_inT (x := x) (xs := xs)
  unfold dIn at h
  unfold dNotIn
  cases q : dInB (.int x) (.tup (xs.map .int)) with
  | none => rw [q] at h; cases h
  | some b =>
    rw [q] at h
    injection h with h
    injection h with h
    rw [← h]
    rfl
/-! ### comprehensions and loops -/
section
variable {α : Type} {enc : α → D} {g : D → LS → Option LS} {t : LS → R Bool} {f : LS → R D} {st : LS} {F : LS → Out}
theorem compL_eq {p : α → Bool} {φ : α → D} : ∀ {xs : List α}, (∀ x ∈ xs, ∃ st1, g (enc x) st = some st1 ∧ t st1 = .ok (p x) ∧ (p x = true → f st1 = .ok (φ x))) → compL g t f st (xs.map enc) = .ok ((xs.filter p).map φ)
  | [], _ => rfl
  | x :: xs, h => by
    obtain ⟨st1, h1, h2, h3⟩ := h x List.mem_cons_self
    have ih := compL_eq (p := p) (φ := φ) fun y m => h y (List.mem_cons_of_mem _ m)
    rw [List.map_cons]
    simp only [compL, h1, h2, ev_noex, ev_ok]
    cases q : p x with
    | false => simp [q, ih]
    | true => simp [q, ih, h3 q]
theorem compL_map {φ : α → D} {xs : List α} (h : ∀ x ∈ xs, ∃ st1, g (enc x) st = some st1 ∧ t st1 = .ok true ∧ f st1 = .ok (φ x)) : compL g t f st (xs.map enc) = .ok (xs.map φ) := by
  have := compL_eq (p := fun _ => true) (φ := φ) (xs := xs) (g := g) (t := t) (f := f) (st := st) (enc := enc) fun x m => by
    obtain ⟨st1, a, b, c⟩ := h x m
    exact ⟨st1, a, b, fun _ => c⟩
  rw [this, List.filter_eq_self.mpr fun _ _ => rfl]
theorem forL_inv (P : List α → LS → Prop) : ∀ {xs pre : List α} {st : LS}, P pre st → (∀ pr x po s, pre ++ xs = pr ++ x :: po → P pr s → ∃ s1 s2, g (enc x) s = some s1 ∧ F s1 = .nx s2 ∧ P (pr ++ [x]) s2) → ∃ s', forL g F (xs.map enc) st = .nx s' ∧ P (pre ++ xs) s'
  | [], pre, st, h0, _ => ⟨st, rfl, by rw [List.append_nil]; exact h0⟩
  | x :: xs, pre, st, h0, h => by
    obtain ⟨s1, s2, a, b, c⟩ := h pre x xs st rfl h0
    obtain ⟨s', d, e⟩ := forL_inv P (xs := xs) (pre := pre ++ [x]) c fun pr y po s q => h pr y po s (by rw [← q]; simp)
    refine ⟨s', ?_, by rw [List.append_assoc] at e; exact e⟩
    rw [List.map_cons]
    simp only [forL, a, b]
    exact d
theorem for_inv (P : List α → LS → Prop) {xs : List α} {st : LS} (h0 : P [] st) (h : ∀ pr x po s, xs = pr ++ x :: po → P pr s → ∃ s1 s2, g (enc x) s = some s1 ∧ F s1 = .nx s2 ∧ P (pr ++ [x]) s2) : ∃ s', forL g F (xs.map enc) st = .nx s' ∧ P xs s' := by
  obtain ⟨s', a, b⟩ := forL_inv (enc := enc) (g := g) (F := F) P (xs := xs) (pre := []) h0 (by simpa using h)
  exact ⟨s', a, by simpa using b⟩
/-- .. that may be left by return -/
theorem forL_ret (P : List α → LS → Prop) (Q : Out → Prop) : ∀ {xs pre : List α} {st : LS}, P pre st → (∀ pr x po s, pre ++ xs = pr ++ x :: po → P pr s → ∃ s1, g (enc x) s = some s1 ∧ ((∃ s2, F s1 = .nx s2 ∧ P (pr ++ [x]) s2) ∨ ∃ d, F s1 = .rt d ∧ Q (.rt d))) →
    (∃ s', forL g F (xs.map enc) st = .nx s' ∧ P (pre ++ xs) s') ∨ ∃ d, forL g F (xs.map enc) st = .rt d ∧ Q (.rt d)
  | [], pre, st, h0, _ => .inl ⟨st, rfl, by rw [List.append_nil]; exact h0⟩
  | x :: xs, pre, st, h0, h => by
    obtain ⟨s1, a, ⟨s2, b, c⟩ | ⟨d, b, c⟩⟩ := h pre x xs st rfl h0
    · rw [List.map_cons]
      simp only [forL, a, b]
      rcases forL_ret P Q (xs := xs) (pre := pre ++ [x]) c fun pr y po s q => h pr y po s (by rw [← q]; simp) with ⟨s', d, e⟩ | z
      · exact .inl ⟨s', d, by rw [List.append_assoc] at e; exact e⟩
      · exact .inr z
    · rw [List.map_cons]
      simp only [forL, a, b]
      exact .inr ⟨d, rfl, c⟩
end
theorem range_split {n i : Nat} {pr po : List Nat} (h : List.range n = pr ++ i :: po) : i = pr.length ∧ i < n ∧ pr = List.range i := by
  have hl : pr.length < n := by
    have := congrArg List.length h
    simp at this
    omega
  have e : (List.range n)[pr.length]? = some i := by rw [h]; simp
  rw [List.getElem?_range hl] at e
  have e := Option.some.inj e
  refine ⟨e.symm, by omega, ?_⟩
  have := congrArg (List.take pr.length) h
  rw [List.take_range, List.take_left] at this
  rw [← this, ← e]
  congr 1
  omega
/-- the number at a place -/
def nI (xs : List Int) (i : Int) : Int := xs.getD i.toNat 0
theorem nI_nat {xs : List Int} {i : Nat} (h : i < xs.length) : nI xs (i : Int) = xs[i] := by
  unfold nI
  rw [Int.toNat_natCast, List.getD_eq_getElem?_getD, List.getElem?_eq_getElem h]
  rfl
theorem nI_mem {xs : List Int} {i : Int} (h : 0 ≤ i) (h2 : i < xs.length) : nI xs i ∈ xs := by
  have e := nI_nat (xs := xs) (i := i.toNat) (by omega)
  rw [Int.toNat_of_nonneg h] at e
  rw [e]
  exact List.getElem_mem _
theorem ev_idxI {xs : List Int} {i : Int} (h : 0 ≤ i) (h2 : i < xs.length) : dIdx (.lst (xs.map D.int)) (.int i) = some (.int (nI xs i)) := by
  have h3 : i.toNat < xs.length := by omega
  unfold nI
  rw [ev_idx h (by rw [List.length_map]; exact h3), List.getElem?_map, List.getElem?_eq_getElem h3, List.getD_eq_getElem?_getD, List.getElem?_eq_getElem h3]
  rfl
theorem ev_idxIT {xs : List Int} {i : Int} (h : 0 ≤ i) (h2 : i < xs.length) : dIdx (.tup (xs.map D.int)) (.int i) = some (.int (nI xs i)) := by
  have h3 : i.toNat < xs.length := by omega
  unfold nI
  rw [ev_idxT h (by rw [List.length_map]; exact h3), List.getElem?_map, List.getElem?_eq_getElem h3, List.getD_eq_getElem?_getD, List.getElem?_eq_getElem h3]
  rfl
theorem ev_idxIS {xs : List Int} {i : Int} (h : 0 ≤ i) (h2 : i < xs.length) : dIdx (.scr (xs.map D.int)) (.int i) = some (.int (nI xs i)) := by
  have h3 : i.toNat < xs.length := by omega
  unfold nI
  rw [ev_idxS h (by rw [List.length_map]; exact h3), List.getElem?_map, List.getElem?_eq_getElem h3, List.getD_eq_getElem?_getD, List.getElem?_eq_getElem h3]
  rfl
/-- one at a place, of any list -/
theorem ev_idxE {α : Type} {enc : α → D} {xs : List α} {i : Int} {x : α} (h : 0 ≤ i) (h2 : xs[i.toNat]? = some x) : dIdx (.lst (xs.map enc)) (.int i) = some (enc x) := by
  have h3 := (List.getElem?_eq_some_iff.mp h2).1
  rw [ev_idx h (by rw [List.length_map]; exact h3), List.getElem?_map, h2]
  rfl
theorem ev_idxET {α : Type} {enc : α → D} {xs : List α} {i : Int} {x : α} (h : 0 ≤ i) (h2 : xs[i.toNat]? = some x) : dIdx (.tup (xs.map enc)) (.int i) = some (enc x) := by
  have h3 := (List.getElem?_eq_some_iff.mp h2).1
  rw [ev_idxT h (by rw [List.length_map]; exact h3), List.getElem?_map, h2]
  rfl
/-- one turn of a loop -/
def turn (g : D → LS → Option LS) (F : LS → Out) (d : D) (s : LS) : Out := match g d s with
  | none => .bad
  | some s1 => F s1
theorem turn_nx {g : D → LS → Option LS} {F : LS → Out} {d : D} {s s2 : LS} (h : turn g F d s = .nx s2) : ∃ s1, g d s = some s1 ∧ F s1 = .nx s2 := by
  unfold turn at h
  split at h
  · cases h
  · exact ⟨_, by assumption, h⟩
section
variable {F : LS → Out} {d a b c : D} {s : LS} {i j k : Nat}
@[simp] theorem turn_gN : turn (gN i) F d s = F (s.set i (some (.im d))) := rfl
@[simp] theorem turn_g2 : turn (gT 2 (gsCons (gN i) (gsCons (gN j) gsNil))) F (.tup [a, b]) s = F ((s.set i (some (.im a))).set j (some (.im b))) := rfl
@[simp] theorem turn_g12 : turn (gT 2 (gsCons (gN i) (gsCons (gT 2 (gsCons (gN j) (gsCons (gN k) gsNil))) gsNil))) F (.tup [a, .tup [b, c]]) s = F (((s.set i (some (.im a))).set j (some (.im b))).set k (some (.im c))) := rfl
end
section
variable {α : Type} {enc : α → D} {g : D → LS → Option LS} {st : LS} {F : LS → Out} {xs : List α} {o : Out}
theorem loop (hL : forL g F (xs.map enc) st = o) (P : List α → LS → Prop) (h0 : P [] st) (h : ∀ pr x po s, xs = pr ++ x :: po → P pr s → ∃ s2, turn g F (enc x) s = .nx s2 ∧ P (pr ++ [x]) s2) : ∃ s', o = .nx s' ∧ P xs s' := by
  obtain ⟨s', a, b⟩ := for_inv (enc := enc) (g := g) (F := F) (xs := xs) P h0 fun pr x po s q p => by
    obtain ⟨s2, c, d⟩ := h pr x po s q p
    obtain ⟨s1, e1, e2⟩ := turn_nx c
    exact ⟨s1, s2, e1, e2, d⟩
  exact ⟨s', hL.symm.trans a, b⟩
/-- each turn ends or leaves by return -/
theorem loopR (hL : forL g F (xs.map enc) st = o) (P : List α → LS → Prop) (Q : D → Prop) (h0 : P [] st)
    (h : ∀ pr x po s, xs = pr ++ x :: po → P pr s → (∃ s2, turn g F (enc x) s = .nx s2 ∧ P (pr ++ [x]) s2) ∨ ∃ d, turn g F (enc x) s = .rt d ∧ Q d) : (∃ s', o = .nx s' ∧ P xs s') ∨ ∃ d, o = .rt d ∧ Q d := by
  have := forL_ret (enc := enc) (g := g) (F := F) (xs := xs) (pre := []) (st := st) P (fun o => ∃ d, o = .rt d ∧ Q d) h0 fun pr x po s q p => by
    rcases h pr x po s (by simpa using q) p with ⟨s2, c, d⟩ | ⟨d, c, e⟩
    · obtain ⟨s1, e1, e2⟩ := turn_nx c
      exact ⟨s1, e1, .inl ⟨s2, e2, d⟩⟩
    · unfold turn at c
      split at c
      · cases c
      · exact ⟨_, by assumption, .inr ⟨d, c, d, rfl, e⟩⟩
  rcases this with ⟨s', a, b⟩ | ⟨d, a, d', b, c⟩
  · exact .inl ⟨s', hL.symm.trans a, by simpa using b⟩
  · cases b
    exact .inr ⟨d, hL.symm.trans a, c⟩
end
section
variable {α β : Type} {enc : α → D} {g : D → LS → Option LS} {t : LS → R Bool} {f : LS → R D} {ft : LS → R T} {st : LS} {xs : List α} {o : R (List D)} {ot : R (List T)}
theorem comp (hC : compL g t f st (xs.map enc) = o) (e : β → D) (ψ : α → β) (h : ∀ x ∈ xs, ∃ st1, g (enc x) st = some st1 ∧ t st1 = .ok true ∧ f st1 = .ok (e (ψ x))) : o = .ok ((xs.map ψ).map e) := by
  rw [← hC, compL_map (φ := fun x => e (ψ x)) h, List.map_map]
  rfl
theorem compP (hC : compL g t f st (xs.map enc) = o) (p : α → Bool) (e : β → D) (ψ : α → β) (h : ∀ x ∈ xs, ∃ st1, g (enc x) st = some st1 ∧ t st1 = .ok (p x) ∧ (p x = true → f st1 = .ok (e (ψ x)))) : o = .ok (((xs.filter p).map ψ).map e) := by
  rw [← hC, compL_eq (p := p) (φ := fun x => e (ψ x)) h, List.map_map]
  rfl
theorem compT (hC : compTL g t ft st (xs.map enc) = ot) (φ : α → T) (h : ∀ x ∈ xs, ∃ st1, g (enc x) st = some st1 ∧ t st1 = .ok true ∧ ft st1 = .ok (φ x)) : ot = .ok (xs.map φ) := by
  rw [← hC]
  clear hC
  induction xs with
  | nil => rfl
  | cons x xs ih =>
    obtain ⟨st1, h1, h2, h3⟩ := h x List.mem_cons_self
    have ih := ih fun y m => h y (List.mem_cons_of_mem _ m)
    rw [List.map_cons]
    simp only [compTL, h1, h2, h3, ev_noex, ev_ok, ih, if_true, List.map_cons]
end
@[simp] theorem ev_compTF {fi : LS → R (List D)} {vs : List Nat} {gg : D → LS → Option LS} {c : LS → R Bool} {f : LS → R T} {st : LS} : compTF fi vs gg c f st = (fi st).bind fun ds => if ds.length ≤ sizeLine then (compTL gg c f (wipeS st vs) ds).bind fun ts => .ok (.lst ts) else .bad := rfl
section
variable {α : Type} {enc : α → D} {g : D → LS → Option LS} {st : LS} {F : LS → Out} {xs : List α} {o : Out}
theorem enumL_map (e : α → D) : ∀ (c : Int) (xs : List α), enumL c (xs.map e) = (xs.zipIdx).map fun p => .tup [.int (c + (p.2 : Int)), e p.1]
  | c, [] => rfl
  | c, x :: xs => by
    rw [List.map_cons, List.zipIdx_cons, List.map_cons]
    show D.tup [.int c, e x] :: enumL (c + 1) (xs.map e) = _
    rw [enumL_map e (c + 1) xs, List.zipIdx_succ, List.map_map]
    congr 1
    · simp
    · apply List.map_congr_left
      intro p _
      show D.tup [.int (c + 1 + (p.2 : Int)), e p.1] = D.tup [.int (c + ((p.2 + 1 : Nat) : Int)), e p.1]
      have : c + 1 + (p.2 : Int) = c + ((p.2 + 1 : Nat) : Int) := by omega
      rw [this]
theorem zipIdx_split {p : α × Nat} {pr po : List (α × Nat)} (h : xs.zipIdx = pr ++ p :: po) : p.2 = pr.length ∧ xs = pr.map (·.1) ++ p.1 :: po.map (·.1) := by
  have e : xs = (pr ++ p :: po).map (·.1) := by rw [← h, List.zipIdx_map_fst]
  have g : xs.zipIdx[pr.length]? = some p := by rw [h]; simp
  rw [List.getElem?_zipIdx] at g
  cases q : xs[pr.length]? with
  | none => rw [q] at g; cases g
  | some x =>
    rw [q] at g
    have g := Option.some.inj g
    refine ⟨by rw [← g]; simp, by rw [e, List.map_append]; rfl⟩
/-- a loop over enumerate -/
theorem loopE (hL : forL g F (enumL 0 (xs.map enc)) st = o) (P : List α → LS → Prop) (h0 : P [] st) (h : ∀ pr x po s, xs = pr ++ x :: po → P pr s → ∃ s2, turn g F (.tup [.int (pr.length : Int), enc x]) s = .nx s2 ∧ P (pr ++ [x]) s2) : ∃ s', o = .nx s' ∧ P xs s' := by
  rw [enumL_map] at hL
  obtain ⟨s', a, b⟩ := loop hL (fun pr s => P (pr.map (·.1)) s) h0 fun pr p po s q hp => by
    obtain ⟨e1, e2⟩ := zipIdx_split q
    obtain ⟨s2, c, d⟩ := h _ p.1 _ s e2 hp
    refine ⟨s2, ?_, by rw [List.map_append]; exact d⟩
    rw [e1, Int.zero_add]
    rw [List.length_map] at c
    exact c
  exact ⟨s', a, by rw [List.zipIdx_map_fst] at b; exact b⟩
end
theorem rangeD_length (lo : Int) (n : Nat) : (rangeD lo n).length = n := rangeD_len
/-! ### sets of tuples of numbers -/
theorem keys_enc : ∀ ks : List (List Int), keysOf (ks.map fun k => .tup (k.map .int)) = some ks
  | [] => rfl
  | k :: ks => by
    rw [List.map_cons]
    have e : tupInts (.tup (k.map .int)) = some k := dInts_map k
    unfold keysOf
    rw [e, keys_enc ks]
theorem ev_setE {fi : LS → R (List D)} {vs : List Nat} {g : D → LS → Option LS} {t : LS → R Bool} {f : LS → R D} {st : LS} {ks : List (List Int)} (h : compR fi vs g t f st = .ok (ks.map fun k => .tup (k.map .int))) (hl : ks.length < 64) : setE fi vs g t f st = .ok (.tset (onceK ks)) := by
  unfold setE setR
  simp only [h, ev_ok, keys_enc, if_pos hl]
theorem onceK_nodup {ks : List (List Int)} (h : ks.Nodup) : onceK ks = ks := by
  have gen : ∀ (ks xs : List (List Int)), (xs ++ ks).Nodup → ks.foldl addK xs = xs ++ ks := by
    intro ks
    induction ks with
    | nil => intro xs _; simp
    | cons k ks ih =>
      intro xs hn
      have nk : k ∉ xs := fun m => by
        have := (List.nodup_append.mp hn).2.2 k m k List.mem_cons_self
        exact this rfl
      have e : addK xs k = xs ++ [k] := if_neg nk
      show ks.foldl addK (addK xs k) = _
      rw [e, ih (xs ++ [k]) (by rw [List.append_assoc]; exact hn), List.append_assoc]
      rfl
  exact gen ks [] (by simpa using h)
theorem srtT_up' {ks : List (List Int)} (h : ks.Pairwise fun a b => lexle a b = true) : srtT ks = ks := by
  induction ks with
  | nil => rfl
  | cons k ks ih =>
    obtain ⟨h1, h2⟩ := List.pairwise_cons.mp h
    show insT k (srtT ks) = _
    rw [ih h2]
    cases ks with
    | nil => rfl
    | cons m ms =>
      unfold insT
      rw [if_pos (h1 m List.mem_cons_self)]
theorem ev_sortU {ks : List (List Int)} (h : okT ks = true) : dSortU [.tset ks] = some ((srtT ks).map fun k => .tup (k.map .int)) := if_pos h
end DI
end
section
set_option Elab.async false
set_option linter.all false
set_option maxRecDepth 100000
set_option maxHeartbeats 2000000
/-! DI: f(a, k = b): keywords that fill the parameters behind the positional ones. -/
namespace DI
open PySem PySem.Spec PyProof.Rows L2
section
variable {X : Cx} {cm : CM} {W : WH} {k n m : Nat} {f : Addr} {fd : FuncData} {ps ks : List Str} {x : Str} {p pos kpos : Pos} {e : Expr} {es : List Expr} {kws : List Keyword} {a b r : LS → R (List D)} {f1 : LS → R D} {F : List D → R D} {g : List Value → List Value → List Value} {nm : Option Str}
/-- positional ones, then the keywords' ones -/
def callK (m j : Nat) (F : List D → R D) (a b : LS → R (List D)) : LS → R D := fun st => (a st).bind fun xs => (b st).bind fun ys => if xs.length = m ∧ ys.length = j then F (xs ++ ys) else .bad
end
@[simp] theorem ev_callK {m j : Nat} {F : List D → R D} {a b : LS → R (List D)} {st : LS} : callK m j F a b st = (a st).bind fun xs => (b st).bind fun ys => if xs.length = m ∧ ys.length = j then F (xs ++ ys) else .bad := rfl
end DI
end
section
set_option Elab.async false
set_option linter.all false
set_option maxRecDepth 100000
set_option maxHeartbeats 2000000
/-! DI: x.extend(e), e a list that stands. -/
namespace DI
open PySem PySem.Spec PyProof.Rows L2
variable {cm : CM}
theorem OwnL.app {K : PySem.W.Frag} {S H : Hp} {ts2 : List T} {vs2 : List V} {g : List Addr} (o : OwnL K cm S H ts2 vs2 g) : ∀ {ts : List T} {vs : List V} {f : List Addr}, OwnL K cm S H ts vs f → OwnL K cm S H (ts ++ ts2) (vs ++ vs2) (f ++ g)
  | _, _, _, .nil => o
  | _, _, _, .cons h hs => by
    rw [List.append_assoc]
    exact .cons h (OwnL.app o hs)
def extL (st : LS) (i : Nat) (ts : List T) : D → Out
  | .lst ds => if ts.length + ds.length ≤ sizeLine then .nx (st.set i (some (.lst (ts ++ ds.map .im)))) else .bad
  | _ => .bad
def extS (i : Nat) (f : LS → R D) : LS → Out := fun st => match ownL st[i]? with
  | none => .bad
  | some ts => (f st).out st fun d => extL st i ts d
section
variable {X : Cx} {W : WH} {c : Fr} {pos : Pos} {e : Expr} {i : Nat}
theorem s_ext {f : LS → R D} (h : PE X e (tBM X.K "list" rExtend (tVar i) (tCons (E X.K cm W f) tNil))) (hs : swapsWith e none pos.line X.env = pure false := by rfl) : PS X (.Expr e pos) (SX X.K cm W c (extS i f)) := (ps_expr h hs).imp fun D σ H ⟨st, S, fp, r, p⟩ => by
  replace p : Post X.K cm W c D S (match ownL st[i]? with
    | none => .bad
    | some ts => (f st).out st fun d => extL st i ts d) := p
  cases q : ownL st[i]? with
  | none => rw [q] at p; exact p.elim
  | some ts =>
    rw [q] at p
    obtain ⟨v, f1, h1, h2, h3, h4, h5⟩ := r.mut (ownL_some q)
    cases h2 with
    | @lst a vs _ f2 ha hts =>
      obtain ⟨n1, n2⟩ := List.nodup_cons.mp h3
      refine ⟨.ref a, h1, .inl ⟨rfl, vs, SqL.of ha⟩, st, S, fp, r.rx, Post.go r p fun d S' H' x q v hv => ?_⟩
      cases d <;> try (exact q.elim)
      case lst ds =>
        replace q : Post X.K cm W c D S' (if ts.length + ds.length ≤ sizeLine then .nx (st.set i (some (.lst (ts ++ ds.map .im)))) else .bad) := q
        cases hv with
        | @lst b zs _ hb hz =>
          split at q
          · rename_i hl
            refine ⟨a, b, vs, zs, rfl, rfl, x.hh _ _ ha, x.sh _ _ hb, by rw [hts.length, hz.length]; exact hl, ?_⟩
            have ow := OwnL.app (own_imT (H := upd H' a (.lst (vs ++ zs))) hz) (ownL_upd (o := .lst (vs ++ zs)) n1 (hts.ext x))
            rw [List.append_nil] at ow
            exact q σ _ (h5 S' H' _ _ _ x (fun b n => upd_ne fun z => n (z ▸ List.mem_cons_self)) (.lst upd_same ow) (List.nodup_cons.mpr ⟨n1, n2⟩) fun b m => .inl m)
          · exact q.elim
end
end DI
end
section
set_option Elab.async false
set_option linter.all false
set_option maxRecDepth 100000
set_option maxHeartbeats 2000000
/-! DI: a list under construction is lent to an expression whose datum holds no list. -/
namespace DI
open PySem PySem.Spec PyProof.Rows L2
variable {cm : CM}
/-- without the node a -/
def wo (S : Hp) (a : Addr) : Hp := fun b => if b = a then none else S b
end DI
end
section
set_option Elab.async false
set_option linter.all false
set_option maxRecDepth 100000
set_option maxHeartbeats 2000000
/-! DI: x //= j, x *= j. -/
namespace DI
open PySem PySem.Spec PyProof.Rows L2
end DI
end
section
set_option Elab.async false
set_option linter.all false
set_option maxRecDepth 100000
set_option maxHeartbeats 2000000
/-! DI: errors: raise C(..), try: .. except C as e: .., what the suite asks of e. -/
namespace DI
open PySem PySem.Spec PyProof.Rows L2
/-! ### the classes -/
def oexO (C : Addr) (cd : ClassData) (sl : Array (Option Value)) : Bool := match cd.mro, sl.toList with
  | .ref D :: bm, [_, _, _, _, some (.builtin n), _] => D == C && (n == "ValueError.__new__" && (!cd.hasDel && (cd.hasDict && PySem.HandSPX.refsVE bm)))
  | _, _ => false
theorem oexC_of {K : PySem.W.Frag} {C : Addr} {dd : Option Addr} {cd : ClassData} {sl : Array (Option Value)} (l : K.lookup C = some ⟨.type "type", dd, .cls cd, sl⟩) (ok : oexO C cd sl = true)
    (sa : PySem.W.findIn K (.ref C) "__setattr__" = some (some (.builtin "object.__setattr__"))) (ex : PySem.W.subIn K (.ref C) (.type "BaseException") = some true) (ty : PySem.W.typeIn K (.ref C) = some (.type "type")) (kp : PySem.W.keepIn K (.ref C) = true) : OexC K C := by
  refine ⟨?_, sa, ex, ty, kp⟩
  unfold oexO at ok
  split at ok
  · rename_i D bm k0 k1 k2 k3 n k5 hm hs
    simp only [Bool.and_eq_true, beq_iff_eq, Bool.not_eq_true'] at ok
    obtain ⟨rfl, rfl, hdel, hdct, hb⟩ := ok
    obtain ⟨nm, bs, mro, ns, qn, hd, sn, sub, ab, col, del⟩ := cd
    dsimp only at hm hdel hdct hb
    subst hm hdel hdct
    have hsl : sl = #[k0, k1, k2, k3, some (.builtin "ValueError.__new__"), k5] := by
      obtain ⟨l⟩ := sl
      simp only at hs
      rw [hs]
    subst hsl
    exact ⟨nm, qn, ns, bs, bm, sn, sub, ab, col, dd, k0, k1, k2, k3, k5, l, hb⟩
  · cases ok
structure XOk (K : PySem.W.Frag) (C : Addr) : Prop where
  oe : OexC K C
  xf : XfC K C
  ca : PySem.W.findIn K (.ref C) "__class__" = some (some (.builtin "object.__class__"))
  cn : PySem.W.specialIn K (.builtin "object.__class__") "__get__" = some (some (.builtin "getset_descriptor.__get__"))
  ct : PySem.W.takesIn K (.builtin "object.__class__") = some true
  mo : PySem.W.mroIn K C (.type "object") = some true
/-! ### __init__ -/
section
variable {P : Program} {w : World} {K : PySem.W.Frag} {mg : Str → Option Value} {base : Heap} {x qual f g s y z : Str} {params : Arguments} {body : List Stmt} {scope : Scope} {fI : Addr} {fd : FuncData} {k : Nat}
/-- THE PROMISE of an error's __init__ that keeps one value -/
def spX1 (K : PySem.W.Frag) (f : Str) : Sp := fun vs H Q _ => ∃ (a C : Addr) (v : V), vs = [.ref a, v] ∧ OexC K C ∧ PySem.W.findIn K (.ref C) f = some none ∧ H a = some (exo a C none) ∧ ∀ dx, H dx = none → dx ≠ a → Q .non (upd (upd H dx (exd dx [(f, v)])) a (exo a C (some dx)))
theorem xinit1 {n1 n2 : Str} (Fd : FunD K x qual params body scope [] [] fI fd) (Sc : FnScope [n1, n2] [n1, n2] scope)
    (hb : ∀ (cdv : Value) (A : Around) (outer : List Env) (s : Shared) (H : Hp) (E : XK), PSs (cxOf (L2.CX P w) P w K mg base [n1, n2] qual scope fI cdv A outer s H E) body (tOst K f (tVar 0) (tVar 1))) :
    FnOk P w K mg base (L2.CX P w) (k + 1) fI fd [n1, n2] (spX1 K f) := by
  refine Fd.ok Sc (fun vs H Q E h => by obtain ⟨a, C, v, rfl, _⟩ := h; rfl) fun cdv A outer s H vs Q E hr ⟨a, C, v, e, T, hno, ha, q⟩ => ?_
  subst e
  exact ⟨_, hb cdv A outer s H E, v, rfl, .ref a, rfl, a, C, rfl, T, hno, .inl ⟨ha, fun dx n ne => q dx n ne⟩⟩
end
/-- an error's class at its name -/
structure XAt (K : PySem.W.Frag) (mg : Str → Option Value) (cm : CM) (x : Str) (c : Nat) (fI : Addr) : Prop where
  hm : mg x = some (.ref (cm.addr c))
  ok : XOk K (cm.addr c)
  iC : PySem.W.findIn K (.ref (cm.addr c)) "__init__" = some (some (.ref fI))
  tI : PySem.W.typeIn K (.ref fI) = some (.type "function")
/-- its __init__, one value, two values -/
def XP1 (P : Program) (w : World) (K : PySem.W.Frag) (mg : Str → Option Value) (base : Heap) (k : Nat) (fI : Addr) (f : Str) : Prop := ∃ fd ps, ps.length = 2 ∧ FnOk P w K mg base (L2.CX P w) k fI fd ps (spX1 K f) ∧ Binds K fd ps []
/-! ### raise -/
section
variable {K : PySem.W.Frag} {cm : CM} {W W' : WH} {c : Fr} {S S' H H' : Hp} {st : LS} {fp : List Addr} {σ : Sg}
theorem RR.to [Free W'] (r : RR K cm W c st S fp σ H) : RR K cm W' c st S fp σ H := ⟨r.rx.to, r.xt, r.fr, r.fx⟩
theorem On.to [Free W'] (r : On K cm W c S st σ H) : On K cm W' c S st σ H := let ⟨S', fp, a, b⟩ := r; ⟨S', fp, a, b.to⟩
end
section
variable {X : Cx} {cm : CM} {W : WH} {c0 : Fr} {x f g : Str} {p pos pos' : Pos} {e e2 : Expr} {F G : LS → R D} {c k : Nat} {fI : Addr}
def raise1S (c : Nat) (F : LS → R D) : LS → Out := fun st => (F st).out st fun d => .ex st (c, [d])
theorem end_upd {H : Hp} {a dx : Addr} {o1 o2 o3 o4 : HO} (na : H a = none) (ne : dx ≠ a) : upd (del (upd (upd (upd H a o1) dx o2) a o3) a) dx o4 = upd H dx o4 := by
  funext b
  by_cases hb : b = dx
  · subst hb; rw [upd_same, upd_same]
  · rw [upd_ne hb, upd_ne hb]
    by_cases ha : b = a
    · subst ha; rw [del_same, na]
    · rw [del_ne ha, upd_ne ha, upd_ne hb, upd_ne ha]
theorem s_raise1 (G1 : XP1 X.prog X.w X.K X.mg X.base k fI f) (A : XAt X.K X.mg cm x c fI) (nm : cm.names c = [f]) (hno : PySem.W.findIn X.K (.ref (cm.addr c)) f = some none) (tk : Takes X W.w) (hr : Room (k + 1) X.A) (he : PE X e (E X.K cm W F))
    (hc : X.calm = true := by rfl) (hg : Gl X x := by rfl) (hdb : (x == ("__debug__" : Str)) = false := by decide) (hse : starEach (e :: []) X.env = (false, eval e X.env) :: starEach [] X.env := by rfl) (hpl : (backTo pos (starEach [] X.env)).any (·.1) = false := by rfl) :
    PS X (.Raise (some (.Call (.Name x p) [e] [] pos)) none pos') (SX X.K cm W c0 (raise1S c F)) := by
  obtain ⟨fd, ps, hl, G1, B⟩ := G1
  refine (ps_raise hc tk (pmk_oex A.ok.oe A.iC A.tI G1 hr B .nil (passes_call tk (fun _ _ _ _ h => h.elim)) hg A.hm (pa_cons he pa_nil hse) hdb hse hpl)).imp fun D σ H ⟨st, S, fp, r, p⟩ => ?_
  refine ⟨st, S, fp, r.rx, Post.go (k := fun d => .ex st (c, [d])) r p fun d S1 H1 x1 q v hv => ?_⟩
  refine ⟨by simp, fun a na => ⟨a, _, v, rfl, A.ok.oe, hno, upd_same, fun dx n ne => ⟨rfl, dx, [(f, v)], upd_same, by rw [upd_ne ne, upd_same], ?_, ?_⟩⟩⟩
  · rw [upd_ne ne] at n; exact n
  · rw [upd_ne ne] at n
    rw [end_upd na ne]
    have x2 : Xt S1 (upd S1 dx (.xd [(f, v)])) H1 (upd H1 dx (.xd [(f, v)])) := Xt.new x1.sh n
    exact q _ _ σ _ _ fp x2.ss ((r.ext x1).ext x2) ⟨rfl, .inr ⟨dx, [v], rfl, by rw [nm]; exact upd_same, .cons (hv.mono x2.ss) .nil⟩⟩
end
/-! ### try: .. except C as n: .. -/
def Out.gone (i : Nat) : Out → Out
  | .nx st => .nx (st.set i none)
  | .bk st => .bk (st.set i none)
  | .ct st => .ct (st.set i none)
  | .rt d => .rt d
  | .ex _ _ => .bad
  | .bad => .bad
/-- xs: the classes of errors that are known; j: the clause's one; i: the clause's name -/
def tryS (sub : Nat → Nat → Bool) (xs : List Nat) (j i : Nat) (F : LS → Out) (G : Ex → LS → Out) : LS → Out := fun st => match F st with
  | .ex st' e => if e.1 ∈ xs then (if sub e.1 j = true then (if i < st'.length then (G e (st'.set i none)).gone i else .bad) else .ex st' e) else .bad
  | o => o
/-- in the suite: slot i holds the error -/
def WS (a : Addr) (i : Nat) (S0 : Hp) : WH := ⟨fun _ _ _ _ => False, fun σ S => σ[i]? = some (some (V.ref a)) ∧ Same S0 S, fun s h => ⟨h.1, h.2.trans s⟩⟩
theorem xt_back {S0 F S1 H1 S3 H2 : Hp} (x1 : Xt S0 S1 F H1) (x3 : Xt S1 S3 F H2) : Xt S0 S3 F H2 := ⟨x1.ss.trans x3.ss, x3.sh, x3.hh, fun x o e n => by
  cases z : S1 x with
  | none => exact x3.fr x o e z
  | some u => exact x1.fr x u z n⟩
section
variable {X : Cx} {cm : CM} {W : WH} {c : Fr} {x n : Str} {cv : Addr} {i j : Nat} {xs : List Nat} {sub : Nat → Nat → Bool} {body suite : List Stmt} {b₀ : Stmt} {np pos pos' : Pos} {F : LS → Out} {G : Ex → LS → Out}
theorem s_try [Free W] (hs : X.stack = X.env :: X.outer) (hf : X.env.frame = some X.env.locals) (hN : X.N.Nodup) (hi : X.N[i]? = some n) (hln : X.env.kindOf n = some .local) (hc : Names X x (.ref cv)) (tk : Takes X W.w) (hfx : c.fix i = none)
    (ht : ∀ t ∈ xs, PySem.W.exmOne X.K (.ref (cm.addr t)) (.ref cv) = some (sub t j))
    (hb : ∀ (W' : WX) (pn : List (Addr × Obj)) (xe : Value → Shared → Prop), Takes (X.tr pn xe) W' → PassesOwn (model X.prog X.w) X.A X.env xe → PSs (X.tr pn xe) body (SX X.K cm (wt W') c F))
    (hsu : ∀ (a : Addr) (oe : Obj) (cls : Value) (d : Option Addr) (pn : List (Addr × Obj)) (e : Ex) (S0 : Hp) (c' : Fr), Zc cls d oe → (∃ vs, oe.data = .fields vs) → RepX X.K cm S0 cls d e → PSs (X.suite a ((a, oe) :: pn)) (b₀ :: suite) (SX X.K cm (WS a i S0) c' (G e))) :
    PS X (.Try body [.ExceptHandler (some (.Name x np)) (some n) (b₀ :: suite) pos'] [] [] pos) (SX X.K cm W c (tryS sub xs j i F G)) := by
  refine (ps_try_as (ts := fun a cls d D σ H => ∃ (e : Ex) (S0 : Hp) (c' : Fr), RepX X.K cm S0 cls d e ∧ SX X.K cm (WS a i S0) c' (G e) D σ H) (tb := fun W' => SX X.K cm (wt W') c F) hs hf hN hi hln hc tk hb
    (fun a oe cls d pn hz hd => ⟨fun pins s σ H D I ⟨e, S0, c', hx, q⟩ => (hsu a oe cls d pn e S0 c' hz hd hx).run pins s σ H D I q⟩)).imp fun D σ H ⟨st, S, fp, r, p⟩ => ?_
  refine ⟨st, S, fp, r.to, ?_⟩
  replace p : Post X.K cm W c D S (match F st with
    | .ex st' e => if e.1 ∈ xs then (if sub e.1 j = true then (if i < st'.length then (G e (st'.set i none)).gone i else .bad) else .ex st' e) else .bad
    | o => o) := p
  cases q : F st with
  | bad => rw [q] at p; exact p
  | nx st' => rw [q] at p; exact fun σ H o => p σ H o.to
  | bk st' => rw [q] at p; exact fun σ H o => p σ H o.to
  | ct st' => rw [q] at p; exact fun σ H o => p σ H o.to
  | rt d => rw [q] at p; exact p
  | ex st' e =>
    rw [q] at p
    intro cls od σ1 H1 S1 fp1 s1 r1 hx
    replace p : Post X.K cm W c D S (if e.1 ∈ xs then (if sub e.1 j = true then (if i < st'.length then (G e (st'.set i none)).gone i else .bad) else .ex st' e) else .bad) := p
    by_cases hm : e.1 ∈ xs
    · rw [if_pos hm] at p
      have hex : PySem.W.exmOne X.K cls (.ref cv) = some (sub e.1 j) := by rw [hx.1]; exact ht _ hm
      refine ⟨_, hex, fun hbt a na => ?_, fun hbf => ?_⟩
      · rw [if_pos hbt] at p
        by_cases hl : i < st'.length
        · rw [if_pos hl] at p
          have hl2 : i < σ1.length := by rw [r1.rx.sls.length]; exact hl
          obtain ⟨fp2, a1, b1, c1⟩ := r1.rx.sls.forget (o := some (V.ref a)) i
          refine ⟨e, S1, ⟨S1, c.F, fun k => if k = i then some (.ref a) else c.fix k⟩, hx, st'.set i none, S1, fp2, ⟨⟨r1.rx.sh, a1, b1 r1.rx.nd, fun x m => r1.rx.out x (c1 x m), by simp [hl2], Same.refl S1⟩, ⟨Same.refl S1, r1.rx.sh, r1.xt.hh, fun a o e n => by have n : S1 a = none := n; rw [n] at e; cases e⟩, fun x m => r1.fr x (c1 x m), fun k v z => ?_⟩, ?_⟩
          · replace z : (if k = i then some (V.ref a) else c.fix k) = some v := z
            by_cases hk : k = i
            · subst hk
              rw [if_pos rfl] at z
              cases z
              simp [hl2]
            · rw [if_neg hk] at z
              rw [List.getElem?_set_ne (Ne.symm hk)]
              exact r1.fx k v z
          · have back : ∀ {st2 : LS} {σ2 : Sg} {H2 : Hp}, On X.K cm (WS a i S1) ⟨S1, c.F, fun k => if k = i then some (.ref a) else c.fix k⟩ S1 st2 σ2 H2 → On X.K cm W c S (st2.set i none) (σ2.set i none) H2 := fun {st2 σ2 H2} ⟨S3, fp3, s3, r3⟩ => by
              obtain ⟨fp4, a4, b4⟩ := r3.rx.forget (W' := W) (o := none) i
              refine ⟨S3, fp4, s1.trans s3, a4, xt_back r1.xt r3.xt, fun x m => r3.fr x (b4 x m), fun k v z => ?_⟩
              have hk : k ≠ i := fun y => by rw [y, hfx] at z; cases z
              rw [List.getElem?_set_ne (Ne.symm hk)]
              exact r3.fx k v (by show (if k = i then some (V.ref a) else c.fix k) = some v; rw [if_neg hk]; exact z)
            cases qg : G e (st'.set i none) with
            | bad => rw [qg] at p; exact p
            | nx st2 => rw [qg] at p; exact fun σ2 H2 o => p _ H2 (back o)
            | bk st2 => rw [qg] at p; exact fun σ2 H2 o => p _ H2 (back o)
            | ct st2 => rw [qg] at p; exact fun σ2 H2 o => p _ H2 (back o)
            | rt d => rw [qg] at p; exact fun v H2 S3 s3 x3 hr => p v H2 S3 (s1.trans s3) (xt_back r1.xt x3) hr
            | ex st2 e2 => rw [qg] at p; exact p.elim
        · rw [if_neg hl] at p
          exact p.elim
      · rw [if_neg (by rw [hbf]; simp)] at p
        exact p cls od σ1 H1 S1 fp1 s1 r1.to hx
    · rw [if_neg hm] at p
      exact p.elim
end
/-! ### in the suite -/
theorem takesX {X : Cx} {a : Addr} {i : Nat} {S0 : Hp} : Takes X (WS a i S0).w := fun u s' ⟨a, B, sI, pins, σ, H, cls, d, e, I, nb, up, sky, na, os, ag, w⟩ => w.elim
/-- e.f -/
def xfE (tbl : List (Nat × Nat)) (e : Ex) : LS → R D := fun _ => .of ((tbl.lookup e.1).bind fun n => e.2[n]?)
structure XFld (K : PySem.W.Frag) (cm : CM) (f : Str) (c n : Nat) : Prop where
  xf : XfC K (cm.addr c)
  no : PySem.W.findIn K (.ref (cm.addr c)) f = some none
  ix : (cm.names c)[n]? = some f
  nd : (cm.names c).Nodup
theorem xlookup_mem {α : Type} : ∀ {l : List (Nat × α)} {k : Nat} {v : α}, l.lookup k = some v → (k, v) ∈ l
  | [], _, _, h => by simp at h
  | (a, b) :: l, k, v, h => by
    rw [List.lookup_cons] at h
    by_cases e : k = a
    · subst e
      simp at h
      subst h
      exact List.mem_cons_self
    · rw [show (k == a) = false from by simpa using e] at h
      exact List.mem_cons_of_mem _ (xlookup_mem h)
section
variable {X : Cx} {cm : CM} {a : Addr} {oe : Obj} {cls : Value} {d : Option Addr} {pn : List (Addr × Obj)} {e : Ex} {S0 : Hp} {i : Nat} {en f : Str} {p pos : Pos} {tbl : List (Nat × Nat)}
theorem e_xf (Fl : ∀ p ∈ tbl, XFld X.K cm f p.1 p.2) (hz : Zc cls d oe) (hd : ∃ vs, oe.data = .fields vs) (hx : RepX X.K cm S0 cls d e) (hN : X.N[i]? = some en := by rfl) (hv : Vis X.env.scope en := by first | exact Or.inl rfl | exact Or.inr (Or.inl rfl) | exact Or.inr (Or.inr rfl))
    (hdb : (en == ("__debug__" : Str)) = false := by decide) (hcd : (en == ("__classdict__" : Str)) = false := by decide) (hb : attributeBase (.Name en p) f X.env (eval (.Name en p) X.env) = eval (.Name en p) X.env := by rfl) :
    PE (X.suite a ((a, oe) :: pn)) (.Attribute (.Name en p) f pos) (E X.K cm (WS a i S0) (xfE tbl e)) := ⟨fun pins s σ H Q I ⟨st, S, fp, r, k⟩ => by
  obtain ⟨v, hv1, k2⟩ := k.of
  cases ql : tbl.lookup e.1 with
  | none => rw [ql] at hv1; cases hv1
  | some n =>
    rw [ql] at hv1
    have hv1 : e.2[n]? = some v := hv1
    have fl := Fl _ (xlookup_mem ql)
    obtain ⟨hc, hx | ⟨dx, vs, hod, hS, hl⟩⟩ := hx
    · rw [hx.1] at hv1; simp at hv1
    · obtain ⟨w, hw1, hw2⟩ := hl.get hv1
      have hS2 := r.sh _ _ (r.hd.2 _ _ hS)
      exact (pe_xf (X := X) (a := a) (cls := cls) (d := d) (pn := pn) fl.xf fl.no hz hd (pe_var (X := X.suite a ((a, oe) :: pn)) (i := i) hN hv hdb hcd) hb).run pins s σ H Q I
        ⟨.ref a, r.hd.1, rfl, hc, dx, _, w, hod, hS2, (zip_lookup fl.nd fl.ix).trans hw1, k2 H S (Xt.refl r.sh) w (hw2.mono r.hd.2)⟩⟩
/-! isinstance(e, ..) -/
/-- a class that is asked for -/
inductive XT where
  | c (k : Nat)
  | b (n : String)
def XT.v (cm : CM) : XT → V
  | .c k => .ref (cm.addr k)
  | .b n => .ty n
def XT.vl (cm : CM) : XT → Value
  | .c k => .ref (cm.addr k)
  | .b n => .type n
def XT.sub (sub : Nat → Nat → Bool) (t : Nat) : XT → Bool
  | .c k => sub t k
  | .b _ => true
theorem XT.clsv (cm : CM) : ∀ t : XT, ClsV (t.v cm) (t.vl cm)
  | .b _ => .ty _
  | .c _ => .own _
/-- what isinstance answers of an error of one of the classes xs -/
def XKit (K : PySem.W.Frag) (cm : CM) (sub : Nat → Nat → Bool) (xs : List Nat) (t : XT) : Prop := ∀ c ∈ xs, PySem.W.kitOne K (.ref (cm.addr c)) (t.vl cm) = some (t.sub sub c)
def xisE (sub : Nat → Nat → Bool) (xs : List Nat) (ts : List XT) (e : Ex) : LS → R D := fun _ => if e.1 ∈ xs then .ok (.bl (ts.any (XT.sub sub e.1))) else .bad
/-- the error's dict, where it has one -/
def XdAt (d : Option Addr) (H : Hp) : Prop := ∀ dx, d = some dx → ∃ fs, H dx = some (.xd fs)
def rXis (K : PySem.W.Frag) (a : Addr) (cls : Value) (d : Option Addr) : List V → Hp → VK → Prop := fun xs H Q => ∃ (c : V) (t : Value) (b : Bool), xs = [.ref a, c] ∧ ClsV c t ∧ PySem.W.kitOne K cls t = some b ∧ XdAt d H ∧ Q (.bl b) H
theorem xinst {pins : List (Addr × Obj)} {s : Shared} {σ : Sg} {H : Hp} {C : Addr} (I : Inv (X.suite a ((a, oe) :: pn)) pins σ H s) (hz : Zc (.ref C) d oe) (hd : ∃ vs, oe.data = .fields vs) (hx : XdAt d H) : ∃ od, PySem.W.InstAt s.heap a oe C od := by
  obtain ⟨ha, _⟩ := I.pin (a, oe) (List.mem_append_left _ List.mem_cons_self)
  obtain ⟨vs, hv⟩ := hd
  cases d with
  | none => exact ⟨none, ha, hz.1, by unfold PySem.W.notCls; rw [hv] <;> rfl, by rw [hz.2]; exact True.intro⟩
  | some dx =>
    obtain ⟨fs, hf⟩ := hx dx rfl
    obtain ⟨mA, hns, _⟩ := (show ObjOk X.prog X.w H s.heap dx (.xd fs) from I.hok dx _ hf)
    obtain ⟨od, ho, _⟩ := lookIn_ns hns
    exact ⟨some od, ha, hz.1, by unfold PySem.W.notCls; rw [hv] <;> rfl, by rw [hz.2]; exact ho⟩
theorem call_xis {C : Addr} (ok : XOk X.K C) (hz : Zc (.ref C) d oe) (hd : ∃ vs, oe.data = .fields vs) : CallR (X.suite a ((a, oe) :: pn)) (.builtin "isinstance") (rXis X.K a (.ref C) d) := by
  intro pins s σ H xs us Q I r h
  obtain ⟨c, t, b, rfl, k, e, hx, q⟩ := h
  obtain ⟨u1, u2, rfl, r1, r2⟩ := vals2 r
  have e2 := k.eq r2
  subst e2
  cases (show u1 = Value.ref a from r1)
  obtain ⟨od, J⟩ := xinst I hz hd hx
  obtain ⟨cd, hcd, _⟩ := PySem.W.any_some ok.xf.hdC
  exact PySem.W.kia_one (PySem.W.kitx_exc (by rw [hcd]; rfl) ok.xf.ga ok.xf.gg ok.xf.exC ok.ca ok.cn ok.ct ok.mo) I.kIn J e (fun z => nomatch z) fun tk => ⟨.bl b, H, I.tok tk, rfl, q⟩
theorem xdAt {K : PySem.W.Frag} {S H : Hp} (hx : RepX K cm S0 cls d e) (s1 : Same S0 S) (sh : Same S H) : XdAt d H := fun dx hd => by
  obtain ⟨_, ⟨_, h⟩ | ⟨dy, vs, hod, hS, _⟩⟩ := hx
  · rw [h] at hd; cases hd
  · rw [hod] at hd
    cases hd
    exact ⟨_, sh _ _ (s1 _ _ hS)⟩
variable {sub : Nat → Nat → Bool} {xs : List Nat} {t : XT} {ts : List XT} {ct : Expr} {es : List Expr} {kk : Nat} {p2 p3 tpos : Pos}
theorem e_xis (ok : ∀ c ∈ xs, XOk X.K (cm.addr c)) (kit : XKit X.K cm sub xs t) (hm : X.mg "isinstance" = none) (hz : Zc cls d oe) (hd : ∃ vs, oe.data = .fields vs) (hx : RepX X.K cm S0 cls d e) (hc : PE (X.suite a ((a, oe) :: pn)) ct (tC (t.v cm)))
    (hN : X.N[i]? = some en := by rfl) (hv : Vis X.env.scope en := by first | exact Or.inl rfl | exact Or.inr (Or.inl rfl) | exact Or.inr (Or.inr rfl))
    (hdb : (en == ("__debug__" : Str)) = false := by decide) (hcd : (en == ("__classdict__" : Str)) = false := by decide) (hg : Gl X "isinstance" := by rfl)
    (hs1 : starEach [.Name en p, ct] X.env = (false, eval (.Name en p) X.env) :: starEach [ct] X.env := by rfl) (hs2 : starEach [ct] X.env = (false, eval ct X.env) :: starEach [] X.env := by rfl) (hpl : (backTo pos (starEach [ct] X.env)).any (·.1) = false := by rfl) :
    PE (X.suite a ((a, oe) :: pn)) (.Call (.Name "isinstance" p2) [.Name en p, ct] [] pos) (E X.K cm (WS a i S0) (xisE sub xs [t] e)) := ⟨fun pins s σ H Q I ⟨st, S, fp, r, k⟩ => by
  by_cases hm2 : e.1 ∈ xs
  · have k2 : Go X.K cm (WS a i S0) _ (if e.1 ∈ xs then .ok (D.bl ([t].any (XT.sub sub e.1))) else .bad) S H σ := k
    rw [if_pos hm2] at k2
    have hc1 : cls = .ref (cm.addr e.1) := hx.1
    subst hc1
    refine (pe_callB (X := X.suite a ((a, oe) :: pn)) (call_xis (ok _ hm2) hz hd) hg hm PyProof.Rows.boot_isinstance (pa_cons (pe_var (X := X.suite a ((a, oe) :: pn)) (i := i) hN hv hdb hcd) (pa_cons hc pa_nil hs2) hs1) (by decide) (by decide) hs1 hpl).run pins s σ H Q I ?_
    refine ⟨.ref a, r.hd.1, t.v cm, t.vl cm, t.sub sub e.1, rfl, t.clsv cm, kit _ hm2, xdAt hx r.hd.2 r.sh, ?_⟩
    have := k2 H S (Xt.refl r.sh) (.bl ([t].any (XT.sub sub e.1))) (.bl _)
    simpa using this
  · have k2 : Go X.K cm (WS a i S0) _ (if e.1 ∈ xs then .ok (D.bl ([t].any (XT.sub sub e.1))) else .bad) S H σ := k
    rw [if_neg hm2] at k2
    exact k2.elim⟩
end
end DI
end
section
set_option Elab.async false
set_option linter.all false
set_option maxRecDepth 100000
set_option maxHeartbeats 2000000
/-! DI: a def that raises nothing and walks nothing, called in an except suite. -/
namespace DI
open PySem PySem.Spec PyProof.Rows L2 L2H
section
variable {P : Program} {w : World} {K : PySem.W.Frag} {mg : Str → Option Value} {base : Heap} {cm : CM} {x qual : Str} {params : Arguments} {body : List Stmt} {scope : Scope} {f : Addr} {fd : FuncData} {N ps : List Str} {k n : Nat}
/-- THE PROMISE of such a def, whatever is handled: p is an object that stands by -/
structure WarmP (P : Program) (w : World) (K : PySem.W.Frag) (mg : Str → Option Value) (base : Heap) (cm : CM) (n : Nat) (f : Addr) (F : List D → R D) : Prop where
  run : ∀ (A : Around) (outer : List Env) (s : Shared) (H : Hp) (us : List Value) (vs : List V) (Q : VK) (E : XK) (p : Addr × Obj), RoomH 1 A → PinOk outer H s p → Env0 P w K mg base A outer s H → Vals vs us → spD K cm n F vs H Q E →
    codeAny (model P w) A (.call (.ref f) ⟨us, []⟩) (CR (L2.CX P w) outer P w H s Q E) s
theorem warm_ok {F : LS → Out} (Fd : FunD K x qual params body scope [] [] f fd) (Sc : FnScope N ps scope) (B : Binds K fd ps [])
    (hb : ∀ (cdv : Value) (A : Around) (outer : List Env) (s : Shared) (H : Hp) (E : XK) (p : Addr × Obj) (W : WH) (c : Fr), PSs (cxH (L2.CX P w) P w K mg base N qual scope f cdv A outer s H E p) body (SX K cm W c F)) :
    WarmP P w K mg base cm ps.length f (den N.length F) := by
  refine ⟨fun A outer s H us vs Q E p hr hp e0 r ⟨hl, S, ds, sh, hv, fin⟩ => ?_⟩
  obtain ⟨oc, od, dV, kV, doc, pm, an, cdv, ct, osl, rfl, lk, hcd, _, _⟩ := Fd.ex
  have KX : K.In s.heap := e0.mod.kin.keeps fun b o e => (e0.bs b o e).1
  have lim : s.heap.NoLimit := e0.mod.nolimit.keeps fun b o e => (e0.bs b o e).1
  have lu : us.length = ps.length := r.length.symm.trans hl
  have bd := B s us KX (by rw [List.append_nil]; exact lu)
  rw [List.append_nil] at bd
  have names : ∀ y ∈ ps.zip us, scope.names.lookup y.1 = some .local ∨ (scope.names.lookup y.1 = some .cell ∧ ((cellsFrom (s.heap.objs.size + 1) scope.names []).lookup y.1).isSome = true) := fun ⟨m, v⟩ hy =>
    (Sc.par m (List.of_mem_zip hy).1).imp id fun q => ⟨q, PySem.W.cellsFrom_some _ _ _ (.inl q)⟩
  refine codeAny_call_function hr.depth (KX _ _ lk) rfl Sc.co Sc.gen rfl (PySem.W.codeRec_of KX hcd) (bd _ _ _ _ ?_)
  refine wpAny_newFunctionEnv_cells Sc.kind names fun env he s1 inside => ?_
  subst he
  refine ⟨lim.keeps inside.toInCall.keep, codeAny_func ?_⟩
  have I := inv_startH (CX := L2.CX P w) (E := E) Sc hp e0 hl r inside
  refine wpAny_mono ((hb cdv A outer s H E p (wt fun cls d _ H => E cls d H) ⟨S, H, noFix⟩).run [] s1 (L2.start N vs) H { nx := fun _ H' => Q .non H', rt := Q } I ⟨st0 N.length ds, S, [], ⟨⟨sh, ?_, List.nodup_nil, fun _ m => (nomatch m), trivial⟩, Xt.refl sh, fun _ m => (nomatch m), fun _ _ z => (nomatch z)⟩, ?_⟩) (fun fl s2 hs => ?_) fun e s2 hs => hs
  · unfold L2.start st0
    rw [hv.length]
    exact sls_start _ hv
  · replace fin : Fin K cm S H Q E (F (st0 N.length ds)).end := fin
    cases q : F (st0 N.length ds) with
    | bad => rw [q] at fin; exact fin
    | nx st => rw [q] at fin; exact fun σ H' ⟨S', fp, a, r⟩ => fin .non H' S' r.xt .non
    | rt d => rw [q] at fin; exact fun v H' S' a x r => fin v H' S' x r
    | bk st => rw [q] at fin; exact fin.elim
    | ct st => rw [q] at fin; exact fin.elim
    | ex st e => rw [q] at fin; exact fun cls od σ H' S' fp a r x => fin cls od H' S' r.xt x
  · cases fl with
    | ret u => obtain ⟨v, _, H', J, rv, q⟩ := hs; exact ⟨v, H', J.os, J.bare, J.base, J.hok, rv, q⟩
    | next => obtain ⟨_, H', J, q⟩ := hs; exact ⟨.non, H', J.os, J.bare, J.base, J.hok, rfl, q⟩
    | brk => exact hs.elim fun _ z => z.elim fun _ y => y.2.elim
    | cont => exact hs.elim fun _ z => z.elim fun _ y => y.2.elim
end
section
variable {X : Cx} {cm : CM} {a : Addr} {oe : Obj} {pn : List (Addr × Obj)} {S0 : Hp} {i k n : Nat} {f : Addr} {x : Str} {F : List D → R D} {args : LS → R (List D)} {e : Expr} {es : List Expr} {p pos : Pos}
theorem e_warm (G : WarmP X.prog X.w X.K X.mg X.base cm n f F) (At' : At X.K X.mg x f) (hr : Room (k + 1) X.A) (ha : PA (X.suite a ((a, oe) :: pn)) (e :: es) (EA X.K cm (WS a i S0) args)) (hg : Gl X x := by rfl) (hdb : (x == ("__debug__" : Str)) = false := by decide)
    (he : starEach (e :: es) X.env = (false, eval e X.env) :: starEach es X.env := by rfl) (hpl : (backTo pos (starEach es X.env)).any (·.1) = false := by rfl) :
    PE (X.suite a ((a, oe) :: pn)) (.Call (.Name x p) (e :: es) [] pos) (E X.K cm (WS a i S0) (callU (ar n F) [] args)) := ⟨fun pins s σ H Q I k0 => by
  obtain ⟨st, S, fp, r, k0⟩ := k0
  refine wpAny_Call_Name_kw (ld_glob (X := X.suite a ((a, oe) :: pn)) I hg At'.mg ?_ hdb)
  refine PySem.W.callWith_K (h₀ := X.base) I.ok.mod.kin At'.kp (thn (ha.run pos pins s σ H (fun vs H1 => spD X.K cm n F vs H1 Q (fun _ _ _ => False)) I ⟨st, S, fp, r, k0.bind.mono fun ds S1 H1 x1 k1 vs hv => ?_⟩) fun us s1 ⟨vs, H1, I1, rv, q⟩ => ⟨I1.kIn, ?_⟩) he hpl
  · refine spD_ar ⟨?_, S1, ds, x1.sh, hv, ?_⟩
    · rw [hv.length]
      refine ar_len (F := F) _ fun e => ?_
      rw [List.append_nil, e] at k1
      exact k1.elim
    · rw [List.append_nil] at k1
      exact R.Res.mono k1 (fun d q v H' S' x2 hr => q H' S' x2 v hr) fun e q => q
  · have P1 := I1.pin (a, oe) (List.mem_append_left _ List.mem_cons_self)
    have hpin : PinOk (X.suite a ((a, oe) :: pn)).stack H1 s1 (a, oe) := ⟨P1.1, P1.2.1, fun hm => (List.mem_cons.mp (I1.stkSub a hm)).elim P1.2.2.1 P1.2.2.2.1, P1.2.2.2.2⟩
    refine wpAny_call (codeAny_mono (G.run (X.A.mark (some (.ref a))) _ s1 H1 us vs Q _ (a, oe) ⟨by have := hr.dp; show X.A.depth + _ < _; omega, by have := hr.un; show X.A.units + _ < _; omega⟩ hpin I1.env0 rv q) fun r s2 hq => ?_)
    cases r with
    | error er => exact passes_call (X := X.suite a ((a, oe) :: pn)) (takesX (a := a) (i := i) (S0 := S0)) (fun _ _ _ _ h => h) pins σ H1 s1 er s2 I1 hq
    | ok fl =>
      cases fl with
      | ret u => exact I1.after hq
      | next => exact hq.elim
      | brk => exact hq.elim
      | cont => exact hq.elim⟩
end
/-! comparisons in a suite -/
section
variable {X : Cx} {a : Addr} {pn : List (Addr × Obj)} {k : Nat}
theorem or_neX (hr : Room k X.A) : OpR (X.suite a pn) (compareOp .NotEq) (rNeD X.K) := op_neD (X := X.suite a pn) (by have := hr.un; show X.A.units + _ < _; omega)
end
/-! C(..) with all its arguments -/
section
variable {X : Cx} {cm : CM} {W : WH} {k n c : Nat} {f : Addr} {x : Str} {p pos : Pos} {e : Expr} {es : List Expr} {args : LS → R (List D)} {G : List D → R (List D)} {dds : List D}
theorem e_makeF (h : IniP X.prog X.w X.K X.mg X.base cm k n c f G dds) (A : ClsAt X.K X.mg cm x c f) (tk : Takes X W.w) (hr : Room (k + 1) X.A) (ha : PA X (e :: es) (EA X.K cm W args)) (hg : Gl X x := by rfl) (hdb : (x == ("__debug__" : Str)) = false := by decide)
    (he : starEach (e :: es) X.env = (false, eval e X.env) :: starEach es X.env := by rfl) (hpl : (backTo pos (starEach es X.env)).any (·.1) = false := by rfl) : PE X (.Call (.Name x p) (e :: es) [] pos) (E X.K cm W (makeU c (arI n G) [] args)) := by
  have z := e_makeP (p := p) dds.length h A tk hr (Nat.le_refl _) ha hg hdb he hpl
  rw [List.drop_length] at z
  exact z
end
/-! C(e).f: an error that is made and asked at once -/
end DI
namespace DI
open PySem PySem.Spec PyProof.Rows L2
/-- the classes: l those whose instances are data, lx those of errors -/
def mkCMx (P : Program) (w : World) (l lx : List (Nat × Addr × List Str)) : CM where
  addr c := (((l ++ lx).lookup c).map (·.1)).getD 0
  names c := (((l ++ lx).lookup c).map (·.2)).getD []
  setO := SetTO P w
  nd := NDO P w
  cls := l.map (·.1)
end DI
end
section
set_option Elab.async false
set_option linter.all false
set_option maxRecDepth 100000
set_option maxHeartbeats 2000000
/-! DI: max, min of a list or a tuple of numbers. -/
namespace DI
open PySem PySem.Spec PyProof.Rows L2
/-! by values -/
end DI
end
section
set_option Elab.async false
set_option linter.all false
set_option maxRecDepth 100000
set_option maxHeartbeats 2000000
/-! DI: a list under construction is lent, locked, to an expression whose datum does not hold it. -/
namespace DI
open PySem PySem.Spec PyProof.Rows L2
/-! reckoning -/
end DI
end
section
set_option Elab.async false
set_option linter.all false
set_option maxRecDepth 100000
set_option maxHeartbeats 2000000
/-! DI: f(), C(), is True, is False. -/
namespace DI
open PySem PySem.Spec PyProof.Rows L2
/-! f(..) with all its arguments -/
/-! ### is True, is not False -/
def dIsBl : D → D → Option D
  | .bl a, .bl b => some (.bl (decide (a = b)))
  | _, _ => none
def dNotBl : D → D → Option D
  | .bl a, .bl b => some (.bl (!decide (a = b)))
  | _, _ => none
theorem d_isBl {K : PySem.W.Frag} {cm : CM} : Op2 K cm rIsB dIsBl := by
  intro S H x y d e z Q sh hx hy ho k
  cases d <;> cases e <;> try (cases ho; done)
  rw [hx.bl, hy.bl]
  cases ho
  exact ⟨_, _, rfl, rfl, k H S (Xt.refl sh) _ (.bl _)⟩
@[simp] theorem ev_isBT {a : Bool} : dIsBl (.bl a) (.bl true) = some (.bl a) := by cases a <;> rfl
@[simp] theorem ev_isBF {a : Bool} : dIsBl (.bl a) (.bl false) = some (.bl (!a)) := by cases a <;> rfl
@[simp] theorem ev_notBT {a : Bool} : dNotBl (.bl a) (.bl true) = some (.bl (!a)) := by cases a <;> rfl
@[simp] theorem ev_notBF {a : Bool} : dNotBl (.bl a) (.bl false) = some (.bl a) := by cases a <;> rfl
end DI
end
section
set_option Elab.async false
set_option linter.all false
set_option maxRecDepth 100000
set_option maxHeartbeats 3200000
/-! DI: set(t), t a tuple of tuples of numbers. -/
namespace DI
open PySem PySem.Spec PyProof.Rows L2
end DI
end
section
set_option Elab.async false
set_option linter.all false
set_option maxRecDepth 100000
set_option maxHeartbeats 2000000
/-! DI: dicts with keys that are numbers and texts. -/
namespace DI
open PySem PySem.Spec PyProof.Rows L2
/-! ### keys -/
def keyD : D → Option Key
  | .int i => some (.inl i)
  | .str x => some (.inr x)
  | _ => none
def kIx (ks : List Key) (k : Key) : Option Nat := ks.findIdx? fun j => decide (j = k)
def getA {α : Type} (ks : List Key) (xs : List α) (k : Key) : Option α := (kIx ks k).bind fun j => xs[j]?
def putKs (ks : List Key) (k : Key) : List Key := match kIx ks k with
  | some _ => ks
  | none => ks ++ [k]
def putXs {α : Type} (ks : List Key) (xs : List α) (k : Key) (x : α) : List α := match kIx ks k with
  | some j => xs.set j x
  | none => xs ++ [x]
theorem kIx_some {ks : List Key} {k : Key} {j : Nat} (h : kIx ks k = some j) : ks[j]? = some k ∧ j < ks.length := by
  obtain ⟨h1, h2, _⟩ := List.findIdx?_eq_some_iff_getElem.mp h
  have e : ks[j] = k := by simpa using h2
  exact ⟨by rw [List.getElem?_eq_getElem h1, e], h1⟩
theorem kIx_none {ks : List Key} {k : Key} (h : kIx ks k = none) : k ∉ ks := fun m => by
  have := List.findIdx?_eq_none_iff.mp h k m
  simp at this
theorem kIx_cons {ks : List Key} {k j : Key} : kIx (j :: ks) k = if j = k then some 0 else (kIx ks k).map (· + 1) := by
  unfold kIx
  rw [List.findIdx?_cons]
  by_cases e : j = k
  · simp [e]
  · simp [e]
theorem getA_cons {α : Type} {ks : List Key} {xs : List α} {k j : Key} {x : α} : getA (j :: ks) (x :: xs) k = if j = k then some x else getA ks xs k := by
  unfold getA
  rw [kIx_cons]
  by_cases e : j = k
  · rw [if_pos e, if_pos e]; rfl
  · rw [if_neg e, if_neg e]
    cases kIx ks k with
    | none => rfl
    | some i => simp
theorem valV_zip : ∀ {ks : List Key} {vs : List V} (k : Key), ks.length = vs.length → valV (ks.zip vs) k = getA ks vs k
  | [], vs, k, _ => by cases vs <;> rfl
  | j :: ks, [], k, h => by simp at h
  | j :: ks, v :: vs, k, h => by
    rw [getA_cons, List.zip_cons_cons]
    by_cases e : j = k
    · rw [if_pos e, valV_pos e]
    · rw [if_neg e, valV_neg e, valV_zip k (by simpa using h)]
theorem repl_not {ks : List Key} {vs : List V} {k : Key} {v : V} (h : k ∉ ks) : ((ks.zip vs).map fun kv => if kv.1 = k then (kv.1, v) else kv) = ks.zip vs := by
  have : ∀ p ∈ ks.zip vs, (if p.1 = k then (p.1, v) else p) = id p := fun p m => by
    have ne : p.1 ≠ k := fun e => h (e ▸ (List.of_mem_zip (a := p.1) (b := p.2) m).1)
    rw [if_neg ne]; rfl
  rw [List.map_congr_left this, List.map_id]
theorem repl_zip {k : Key} {v : V} : ∀ {ks : List Key} {vs : List V} {j : Nat}, ks.Nodup → ks.length = vs.length → kIx ks k = some j → ((ks.zip vs).map fun kv => if kv.1 = k then (kv.1, v) else kv) = ks.zip (vs.set j v)
  | [], vs, j, _, _, h => by simp [kIx] at h
  | i :: ks, [], j, _, h, _ => by simp at h
  | i :: ks, u :: vs, j, nd, hl, h => by
    obtain ⟨n1, n2⟩ := List.nodup_cons.mp nd
    rw [kIx_cons] at h
    rw [List.zip_cons_cons, List.map_cons]
    by_cases e : i = k
    · rw [if_pos e] at h
      cases h
      subst e
      rw [if_pos rfl, repl_not n1]
      rfl
    · rw [if_neg e] at h
      cases q : kIx ks k with
      | none => rw [q] at h; cases h
      | some j' =>
        rw [q] at h
        cases h
        rw [if_neg e, repl_zip n2 (by simpa using hl) q]
        rfl
theorem putK_zip {ks : List Key} {vs : List V} (k : Key) (v : V) (nd : ks.Nodup) (hl : ks.length = vs.length) : putK (ks.zip vs) k v = (putKs ks k).zip (putXs ks vs k v) := by
  have e := valV_zip k hl
  unfold putKs putXs
  cases q : kIx ks k with
  | none =>
    have : valV (ks.zip vs) k = none := by rw [e]; unfold getA; rw [q]; rfl
    rw [putK_new v this]
    simp only []
    rw [List.zip_append hl]
    rfl
  | some j =>
    obtain ⟨h1, h2⟩ := kIx_some q
    have hj : j < vs.length := by omega
    have : (valV (ks.zip vs) k).isSome = true := by
      rw [e]; unfold getA; rw [q]
      simp [hj]
    have hany : ((ks.zip vs).any fun kv => decide (kv.1 = k)) = true := by rw [valV_any]; exact this
    simp only []
    rw [← repl_zip (v := v) nd hl q]
    unfold putK
    rw [if_pos hany]
theorem putKs_nodup {ks : List Key} {k : Key} (h : ks.Nodup) : (putKs ks k).Nodup := by
  unfold putKs
  cases q : kIx ks k with
  | none =>
    have := kIx_none q
    exact List.nodup_append.mpr ⟨h, by simp, fun a ha b hb e => this (by rw [List.mem_singleton.mp hb] at e; exact e ▸ ha)⟩
  | some j => exact h
theorem put_len {α : Type} {ks : List Key} {xs : List α} {k : Key} {x : α} (h : ks.length = xs.length) : (putKs ks k).length = (putXs ks xs k x).length := by
  unfold putKs putXs
  cases q : kIx ks k with
  | none => simp [h]
  | some j => simp [h]
section
variable {K : PySem.W.Frag} {cm : CM} {S H : Hp}
theorem RepL.putXs {v : V} {d : D} (h : Rep K cm S v d) {ks : List Key} {vs : List V} {ds : List D} (k : Key) (hs : RepL K cm S vs ds) : RepL K cm S (DI.putXs ks vs k v) (DI.putXs ks ds k d) := by
  unfold DI.putXs
  cases kIx ks k with
  | none => exact hs.append (.cons h .nil)
  | some j => exact RepL.set h j hs
theorem getA_rep {ks : List Key} {vs : List V} {ds : List D} {k : Key} (hs : RepL K cm S vs ds) : (getA ks ds k = none ∧ getA ks vs k = none) ∨ ∃ v d, getA ks ds k = some d ∧ getA ks vs k = some v ∧ Rep K cm S v d := by
  unfold getA
  cases kIx ks k with
  | none => exact .inl ⟨rfl, rfl⟩
  | some j =>
    cases q : ds[j]? with
    | none =>
      have : ds.length ≤ j := List.getElem?_eq_none_iff.mp q
      exact .inl ⟨q, List.getElem?_eq_none (by rw [hs.length]; exact this)⟩
    | some d =>
      obtain ⟨v, e, r⟩ := hs.get q
      exact .inr ⟨v, d, q, e, r⟩
theorem keyD_kV {v : V} {d : D} {k : Key} (h : Rep K cm S v d) (e : keyD d = some k) : v = kV k := by
  cases d <;> cases e <;> cases h <;> rfl
end
/-! ### {} under construction -/
def dctO : Option (Option T) → Option (List Key × List T)
  | some (some (.dct ks ts)) => some (ks, ts)
  | _ => none
theorem dctO_some {o : Option (Option T)} {ks : List Key} {ts : List T} (h : dctO o = some (ks, ts)) : o = some (some (.dct ks ts)) := by
  unfold dctO at h
  split at h
  · cases h; rfl
  · cases h
end DI
end
section
set_option Elab.async false
set_option linter.all false
set_option maxRecDepth 100000
set_option maxHeartbeats 2000000
/-! DI: a dict locked for good, its items; dict comprehensions; d.get(k, x). -/
namespace DI
open PySem PySem.Spec PyProof.Rows L2
section
variable {X : Cx} {cm : CM} {W : WH} {c : Fr} {i : Nat} {s : Stmt} {F : LS → Out} {f g : LS → R D}
/-! ### d.items() -/
def keyT : Key → D
  | .inl i => .int i
  | .inr x => .str x
/-! ### {k: v for ..} -/
def pairE (fk fv : LS → R D) : LS → R D := fun st => (fk st).bind fun x => (fv st).bind fun y => .ok (.tup [x, y])
def foldD : List Key → List D → List D → Option (List Key × List D)
  | ks, ds, [] => some (ks, ds)
  | ks, ds, .tup [x, y] :: r => match keyD x with
    | some k => foldD (putKs ks k) (putXs ks ds k y) r
    | none => none
  | _, _, _ :: _ => none
variable {fi : LS → R (List D)} {vs : List Nat} {gg : D → LS → Option LS} {t : LS → R Bool} {fk fv : LS → R D}
theorem putKs_len {ks : List Key} {k : Key} : (putKs ks k).length ≤ ks.length + 1 := by
  unfold putKs
  cases kIx ks k <;> simp
variable {kx vx tg iter : Expr} {ifs : List Expr} {scope : Scope} {own : List (Str × Nat)} {pos : Pos}
/-! ### d.get(k, x), d a dict that stands -/
end
end DI
end
section
set_option Elab.async false
set_option linter.all false
set_option maxRecDepth 100000
set_option maxHeartbeats 2000000
/-! DI: x in o, o an instance with its own __contains__. -/
namespace DI
open PySem PySem.Spec PyProof.Rows L2
end DI
end
section
set_option Elab.async false
set_option linter.all false
set_option maxRecDepth 100000
set_option maxHeartbeats 2000000
/-! DI: len(o), o an instance with its own __len__. -/
namespace DI
open PySem PySem.Spec PyProof.Rows L2
end DI
end
section
set_option Elab.async false
set_option linter.all false
set_option maxRecDepth 100000
set_option maxHeartbeats 2000000
/-! DI: a range object as a value. -/
namespace DI
open PySem PySem.Spec PyProof.Rows L2
end DI
end
section
set_option Elab.async false
set_option linter.all false
set_option maxRecDepth 100000
set_option maxHeartbeats 2000000
/-! DI: a dict of data under construction: d[k] = v, k in d, d[k]. -/
namespace DI
open PySem PySem.Spec PyProof.Rows L2
section
variable {K : PySem.W.Frag} {cm : CM}
/-- the data of a dict under construction -/
def dctI (o : Option (Option T)) : Option (List Key × List D) := (dctO o).bind fun p => (imms p.2).map fun ds => (p.1, ds)
theorem dctI_some {o : Option (Option T)} {ks : List Key} {ds : List D} (h : dctI o = some (ks, ds)) : ∃ ts, o = some (some (.dct ks ts)) ∧ imms ts = some ds := by
  unfold dctI at h
  cases q : dctO o with
  | none => rw [q] at h; cases h
  | some p =>
    rw [q] at h
    obtain ⟨ks', ts⟩ := p
    replace h : (imms ts).map (fun ds => (ks', ds)) = some (ks, ds) := h
    cases q2 : imms ts with
    | none => rw [q2] at h; cases h
    | some ds' =>
      rw [q2] at h
      cases h
      exact ⟨ts, dctO_some q, q2⟩
end
section
variable {X : Cx} {cm : CM} {W : WH} {c : Fr} {pos pos' : Pos} {i k : Nat} {o key value : Expr} {f g : LS → R D}
/-- d[g] = f -/
def dputS (i : Nat) (g f : LS → R D) : LS → Out := fun st => match dctI st[i]? with
  | none => .bad
  | some (ks, ds) => (f st).out st fun d => (g st).out st fun y => match keyD y with
    | none => .bad
    | some kk => if ds.length < sizeLine then .nx (st.set i (some (.dct (putKs ks kk) ((putXs ks ds kk d).map .im)))) else .bad
theorem s_dput (hr : Room k X.A) (ho : PE X o (tVar i)) (hk : PE X key (E X.K cm W g)) (hv : PE X value (E X.K cm W f)) (hs : swapsWith value (some (.Subscript o key pos')) pos.line X.env = pure false := by rfl) :
    PS X (.Assign [.Subscript o key pos'] value pos) (SX X.K cm W c (dputS i g f)) := (ps_dput (by have := hr.un; omega) ho hk hv hs).imp fun D σ H ⟨st, S, fp, r, p⟩ => by
  unfold dputS at p
  split at p
  case h_1 => exact p.elim
  rename_i ks ds q
  obtain ⟨ts, q1, q2⟩ := dctI_some q
  obtain ⟨v, f1, h1, h2, h3, h4, h5⟩ := r.mut q1
  cases h2 with
  | @dct a _ vs _ f2 ha hl hnd hts =>
    have hds := own_imms hts q2
    refine ⟨st, S, fp, r.rx, Post.go r p fun d S1 H1 x1 p1 u hu => ?_⟩
    refine ⟨.ref a, h1, st, S1, fp, r.rx.ext x1, Post.go (r.ext x1) p1 fun y S2 H2 x2 p2 w hw => ?_⟩
    cases qk : keyD y with
    | none => rw [qk] at p2; exact p2.elim
    | some kk =>
      rw [qk] at p2
      replace p2 : Post X.K cm W c D S2 (if ds.length < sizeLine then .nx (st.set i (some (.dct (putKs ks kk) ((putXs ks ds kk d).map .im)))) else .bad) := p2
      split at p2
      case isFalse => exact p2.elim
      rename_i few
      have x := x1.trans x2
      have hw := keyD_kV hw qk
      subst hw
      have hlv : vs.length = ds.length := hds.length
      refine ⟨a, _, rfl, DPut.k (x.hh _ _ ha) (by rw [List.length_zip]; omega), ?_⟩
      have hrep : RepL X.K cm S2 (putXs ks vs kk u) (putXs ks ds kk d) := RepL.putXs (hu.mono x2.ss) kk (hds.mono x.ss)
      refine p2 σ _ (h5 S2 H2 _ _ [a] x (fun b n => upd_ne fun e => n (e ▸ List.mem_cons_self)) ?_ (nodup1 a) fun b m => .inl (by rw [List.mem_singleton.mp m]; exact List.mem_cons_self))
      rw [putK_zip kk u hnd hl]
      exact .dct upd_same (put_len hl) (putKs_nodup hnd) (own_imT hrep)
/-- f in d -/
def dinE (neg : Bool) (i : Nat) (f : LS → R D) : LS → R D := fun st => (f st).bind fun y => match dctI st[i]?, keyD y with
  | some (ks, _), some kk => .ok (.bl (if neg = true then !(kIx ks kk).isSome else (kIx ks kk).isSome))
  | _, _ => .bad
theorem getA_isSome {α : Type} {ks : List Key} {xs : List α} {kk : Key} (hl : ks.length = xs.length) : (getA ks xs kk).isSome = (kIx ks kk).isSome := by
  unfold getA
  cases q : kIx ks kk with
  | none => rfl
  | some j =>
    have hj := (kIx_some q).2
    show (xs[j]?).isSome = true
    rw [List.getElem?_eq_getElem (by omega)]
    rfl
theorem din_core {neg : Bool} {σ : Sg} {H : Hp} {Q : VK} (q : E X.K cm W (dinE neg i f) σ H Q) : E X.K cm W f σ H fun y H1 => tVar i σ H1 fun x H2 => ∃ a ov, x = .ref a ∧ DGet H2 a y ov ∧ Q (.bl (if neg = true then !ov.isSome else ov.isSome)) H2 := by
  obtain ⟨st, S, fp, r, g⟩ := q
  refine ⟨st, S, fp, r, g.bind.mono fun y S1 H1 x1 k1 u hu => ?_⟩
  cases q1 : dctI st[i]? with
  | none => rw [q1] at k1; exact k1.elim
  | some p =>
    obtain ⟨ks, ds⟩ := p
    cases qk : keyD y with
    | none => rw [q1, qk] at k1; exact k1.elim
    | some kk =>
      rw [q1, qk] at k1
      replace k1 : Go X.K cm W (fun z S' H' => ∀ v, Rep X.K cm S' v z → Q v H') (.ok (.bl (if neg = true then !(kIx ks kk).isSome else (kIx ks kk).isSome))) S1 H1 σ := k1
      obtain ⟨ts, e1, e2⟩ := dctI_some q1
      obtain ⟨v, f1, g1, h1, h2, h3, h4, h5, h6, h7⟩ := (r.ext x1).sls.split e1 (r.ext x1).nd
      cases h2 with
      | @dct a _ vs _ f2 ha hl hnd hts =>
        have hu := keyD_kV hu qk
        subst hu
        have hlv : vs.length = ts.length := OwnL.length hts
        refine ⟨.ref a, h1, a, _, rfl, DGet.k ha, ?_⟩
        rw [valV_zip kk hl, getA_isSome hl]
        exact k1 H1 S1 (Xt.refl x1.sh) _ (.bl _)
theorem t_dnin (hr : Room k X.A) (hk : PE X key (E X.K cm W f)) (ho : PE X o (tVar i)) (hm : behindInMarks .NotIn o = false := by rfl) : PT X (.Compare key [.NotIn] [o] pos) (TB X.K cm W (tb (dinE true i f))) :=
  (pt_cmp (pc_dnotin (by have := hr.un; omega) hk ho) hm).imp fun σ H Q q => din_core (TB.of q)
/-- d[f] -/
def dixE (i : Nat) (f : LS → R D) : LS → R D := fun st => match dctI st[i]? with
  | none => .bad
  | some (ks, ds) => (f st).bind fun y => match keyD y with
    | some kk => .of (getA ks ds kk)
    | none => .bad
theorem e_dix (hr : Room k X.A) (ho : PE X o (tVar i)) (hk : PE X key (E X.K cm W f)) (hs : NoSl key := by intro _ _; rfl) : PE X (.Subscript o key pos) (E X.K cm W (dixE i f)) :=
  (pe_dget (by have := hr.un; omega) ho hk hs).imp fun σ H Q ⟨st, S, fp, r, g⟩ => by
  unfold dixE at g
  cases q1 : dctI st[i]? with
  | none => rw [q1] at g; exact g.elim
  | some p =>
    obtain ⟨ks, ds⟩ := p
    rw [q1] at g
    obtain ⟨ts, e1, e2⟩ := dctI_some q1
    obtain ⟨v, f1, g1, h1, h2, h3, h4, h5, h6, h7⟩ := r.sls.split e1 r.nd
    cases h2 with
    | @dct a _ vs _ f2 ha hl hnd hts =>
      replace g : Go X.K cm W (fun z S' H' => ∀ v, Rep X.K cm S' v z → Q v H') ((f st).bind fun y => match keyD y with
        | some kk => .of (getA ks ds kk)
        | none => .bad) S H σ := g
      refine ⟨.ref a, h1, st, S, fp, r, g.bind.mono fun y S1 H1 x1 k1 u hu => ?_⟩
      cases qk : keyD y with
      | none => rw [qk] at k1; exact k1.elim
      | some kk =>
        rw [qk] at k1
        obtain ⟨res, hres, k2⟩ := k1.of
        have hu := keyD_kV hu qk
        subst hu
        have hds := (own_imms hts e2).mono x1.ss
        rcases getA_rep (k := kk) (ks := ks) hds with ⟨e3, e4⟩ | ⟨w, d, e3, e4, e5⟩
        · rw [e3] at hres; cases hres
        · rw [e3] at hres
          cases hres
          exact ⟨a, w, rfl, by rw [← e4, ← valV_zip kk hl]; exact DGet.k (x1.hh _ _ ha), k2 H1 S1 (Xt.refl x1.sh) _ e5⟩
end
end DI
end
section
set_option Elab.async false
set_option linter.all false
set_option maxRecDepth 100000
set_option maxHeartbeats 2000000
/-! DI: a dict made of one pair; d.get(k). -/
namespace DI
open PySem PySem.Spec PyProof.Rows L2
section
variable {X : Cx} {cm : CM} {W : WH} {pos : Pos} {i k : Nat} {o key val : Expr} {f g : LS → R D}
/-- {g: f} -/
def dlitF (g f : LS → R D) : LS → R T := fun st => (g st).bind fun y => (f st).bind fun d => match keyD y with
  | some kk => .ok (.dct [kk] [.im d])
  | none => .bad
theorem xt_wo {S S1 H H1 : Hp} {p : Addr} {u : HO} (sh : Same S H) (hp : H p = none) (x : Xt S S1 (upd H p u) H1) : Xt S S1 H (wo H1 p) := by
  have sp : S p = none := sh.free hp
  have s1p : S1 p = none := by
    cases q : S1 p with
    | none => rfl
    | some v =>
      have := x.fr p v q sp
      rw [upd_same] at this
      cases this
  refine ⟨x.ss, fun b v e => ?_, fun b v e => ?_, fun b v e n => ?_⟩
  · have : b ≠ p := fun z => by rw [z, s1p] at e; cases e
    unfold wo
    rw [if_neg this]
    exact x.sh _ _ e
  · have : b ≠ p := fun z => by rw [z, hp] at e; cases e
    unfold wo
    rw [if_neg this]
    exact x.hh _ _ (by rw [upd_ne this]; exact e)
  · have h := x.fr b v e n
    by_cases z : b = p
    · rw [z]; exact hp
    · rw [upd_ne z] at h; exact h
theorem upd_wo {H : Hp} {p : Addr} {u : HO} : upd (wo H p) p u = upd H p u := by
  funext b
  unfold upd wo
  by_cases z : b = p
  · rw [if_pos z, if_pos z]
  · rw [if_neg z, if_neg z, if_neg z]
theorem f_dlit (hk : PE X key (E X.K cm W g)) (hv : PE X val (E X.K cm W f)) : PE X (.Dict [some key] [val] pos) (EF X.K cm W (dlitF g f)) :=
  (pe_disp (pps_cons hk hv pps_nil) rfl rfl (by simp) (by simp)).imp fun σ H Q ⟨st, S, fp, r, k⟩ p hp => by
  have x0 : Xt S S H (upd H p (.dK [])) := Xt.own r.sh hp
  unfold dlitF at k
  cases qg : g st with
  | bad => rw [qg] at k; exact k.elim
  | ex e =>
    rw [qg] at k
    exact ⟨st, S, fp, r.ext x0, by rw [qg]; exact k.ext x0⟩
  | ok y =>
    refine ⟨st, S, fp, r.ext x0, ?_⟩
    rw [qg] at k ⊢
    intro H1 S1 x1 u hu
    cases qf : f st with
    | bad => rw [qf] at k; exact k.elim
    | ex e =>
      rw [qf] at k
      exact ⟨st, S1, fp, (r.ext x0).ext x1, by rw [qf]; exact k.ext (x0.trans x1)⟩
    | ok d =>
      refine ⟨st, S1, fp, (r.ext x0).ext x1, ?_⟩
      rw [qf] at k ⊢
      intro H2 S2 x2 w hw
      cases qk : keyD y with
      | none =>
        replace k : Go X.K cm W (fun t S' H' => ∀ v fn, Own X.K cm S' H' t v fn → fn.Nodup → (∀ a ∈ fn, H a = none ∧ S' a = none) → Q v H') (match keyD y with
          | some kk => .ok (.dct [kk] [.im d])
          | none => .bad) S H σ := k
        rw [qk] at k
        exact k.elim
      | some kk =>
        replace k : Go X.K cm W (fun t S' H' => ∀ v fn, Own X.K cm S' H' t v fn → fn.Nodup → (∀ a ∈ fn, H a = none ∧ S' a = none) → Q v H') (match keyD y with
          | some kk => .ok (.dct [kk] [.im d])
          | none => .bad) S H σ := k
        rw [qk] at k
        have x12 := x1.trans x2
        have xw := xt_wo r.sh hp x12
        have hw2 : wo H2 p p = none := by unfold wo; rw [if_pos rfl]
        have s2p : S2 p = none := xw.sh.free hw2
        have xf : Xt S S2 H (upd H2 p (.dK [(kk, w)])) := by
          rw [← upd_wo]
          exact xw.trans (Xt.own xw.sh hw2)
        have hu' := keyD_kV hu qk
        refine ⟨x12.hh _ _ upd_same, [(kk, w)], by rw [hu']; rfl, by simp, ?_⟩
        exact k _ S2 xf (.ref p) [p] (.dct (vs := [w]) upd_same rfl (by simp) (own_imT (ds := [d]) (.cons hw .nil))) (nodup1 p) fun a m => by
          have e : a = p := by simpa using m
          subst e
          exact ⟨hp, s2p⟩
end
end DI
end
section
set_option Elab.async false
set_option linter.all false
set_option maxRecDepth 100000
set_option maxHeartbeats 2000000
/-! DI: a dict comprehension as a fresh dict; d.get(k) of a dict under construction. -/
namespace DI
open PySem PySem.Spec PyProof.Rows L2
section
variable {X : Cx} {cm : CM} {W : WH} {c : Fr} {i k : Nat} {f g : LS → R D}
def dctOfT (ys : List D) : Option T := (foldD [] [] ys).map fun p => .dct p.1 (p.2.map .im)
def dctcF (fi : LS → R (List D)) (vs : List Nat) (g : D → LS → Option LS) (t : LS → R Bool) (fk fv : LS → R D) : LS → R T := fun st => (compR fi vs g t (pairE fk fv) st).bind fun ys => .of (dctOfT ys)
variable {fi : LS → R (List D)} {vs : List Nat} {gg : D → LS → Option LS} {t : LS → R Bool} {fk fv : LS → R D}
theorem dct_readsF {σ : Sg} {H : Hp} {Q : VK} (k : EF X.K cm W (dctcF fi vs gg t fk fv) σ H Q) : tDc (IV X.K cm W fi) (GX X.K cm vs gg) (TB X.K cm WF t) (E X.K cm WF fk) (E X.K cm WF fv) vs σ H Q := by
  obtain ⟨st, S, fp, r, k⟩ := k
  refine ⟨st, S, fp, r, ?_⟩
  cases qf : fi st with
  | bad => unfold dctcF compR at k; rw [qf] at k; exact k.elim
  | ex e => unfold dctcF compR at k; rw [qf] at k; exact k
  | ok its =>
    intro H1 S1 x1 J w L0 hL
    unfold dctcF compR at k
    rw [qf] at k
    replace k : Go X.K cm W (fun t S' H' => ∀ v fn, Own X.K cm S' H' t v fn → fn.Nodup → (∀ a ∈ fn, H a = none ∧ S' a = none) → Q v H') ((if its.length ≤ sizeLine then compL gg t (pairE fk fv) (wipeS st vs) its else .bad).bind fun ys => .of (dctOfT ys)) S H σ := k
    by_cases hlen : its.length ≤ sizeLine
    case neg => rw [if_neg hlen] at k; exact k.elim
    rw [if_pos hlen] at k
    obtain ⟨fp0, r0, b0⟩ := (r.ext x1).wipe (W' := WF) vs
    have s1L : S1 L0 = none := x1.sh.free hL
    rcases compL_ok (g := gg) (t := t) (f := pairE fk fv) (st := wipeS st vs) its with qz | ⟨zs, qz⟩
    · rw [qz] at k; exact k.elim
    rw [qz] at k
    obtain ⟨z, hz, k⟩ := Go.of (K := X.K) (cm := cm) (W := W) (o := dctOfT zs) k
    cases qd : foldD [] [] zs with
    | none => unfold dctOfT at hz; rw [qd] at hz; cases hz
    | some fin =>
    unfold dctOfT at hz
    rw [qd] at hz
    cases hz
    let Good : Nat → Hp → Prop := fun i H => ∃ S' ks us ds zs, Xt S1 S' H1 H ∧ S' L0 = none ∧ H L0 = some (.dK (ks.zip us)) ∧ ks.length = us.length ∧ ks.Nodup ∧ RepL X.K cm S' us ds ∧ ks.length ≤ i ∧ compL gg t (pairE fk fv) (wipeS st vs) (its.drop i) = .ok zs ∧ foldD ks ds zs = some fin
    refine ⟨fun i m H => m = its.length - i ∧ i ≤ its.length ∧ Good i H, ⟨_, rfl, Nat.zero_le _, S1, [], [], [], zs, Xt.own x1.sh hL, s1L, upd_same, rfl, List.nodup_nil, .nil, Nat.le_refl _, by rw [List.drop_zero]; exact qz, qd⟩, ?_⟩
    rintro i m H2 ⟨rfl, hi, S2, ks, us, ds, zs, x2, n2, hA, hlk, hnd, rA, lk, q2, qe⟩
    obtain ⟨w1, w2⟩ := w i S2 H2 x2.ss x2.sh x2.hh
    cases q3 : its[i]? with
    | none =>
      have hl : its.length ≤ i := List.getElem?_eq_none_iff.mp q3
      rw [List.drop_eq_nil_of_le hl] at q2
      cases q2
      cases qe
      refine .inl ⟨w2 (Nat.le_antisymm hl hi), k H2 S2 (x1.trans x2) (.ref L0) [L0] (.dct hA hlk hnd (own_imT rA)) (nodup1 L0) fun a m => ?_⟩
      have e : a = L0 := by simpa using m
      subst e
      exact ⟨x1.hh.free hL, n2⟩
    | some d =>
      have hl : i < its.length := (List.getElem?_eq_some_iff.mp q3).1
      obtain ⟨go, y⟩ := w1 d q3
      rw [drop_get q3] at q2
      refine .inr ⟨go, fun H => i + 1 ≤ its.length ∧ Good (i + 1) H, fun H' n => ⟨its.length - (i + 1), by omega, rfl, n⟩, fun v H3 hy => ?_⟩
      obtain ⟨S3, x3, hv⟩ := y v H3 hy
      replace q2 : (match gg d (wipeS st vs) with
        | none => .bad
        | some st1 => (t st1).noex.bind fun b => if b = true then (pairE fk fv st1).noex.bind fun y => (compL gg t (pairE fk fv) (wipeS st vs) (its.drop (i + 1))).bind fun ys => .ok (y :: ys) else compL gg t (pairE fk fv) (wipeS st vs) (its.drop (i + 1))) = R.ok zs := q2
      cases q4 : gg d (wipeS st vs) with
      | none => rw [q4] at q2; cases q2
      | some st4 =>
        rw [q4] at q2
        obtain ⟨b, q5, q6⟩ := R.noex_ok q2
        have x13 := x2.trans x3
        have keepL : ∀ {S' H' : Hp}, Xt S2 S' H2 H' → S' L0 = none ∧ H' L0 = some (.dK (ks.zip us)) := fun {S' H'} x => by
          refine ⟨?_, x.hh _ _ hA⟩
          cases q : S' L0 with
          | none => rfl
          | some o =>
            have z := x.fr L0 o q n2
            rw [hA] at z
            cases z
        refine ⟨wipeS st vs, S3, fp0, d, r0.ext x13, hv, st4, q4, fun σ4 fp4 r4 b4 k4 => ⟨?_, st4, S3, fp4, r4, ?_⟩⟩
        · have e1 := k4.wipe
          rw [e1]
          apply List.ext_getElem?
          intro j
          rw [wipe_get]
          split
          · rename_i hj
            rw [wipe_get, if_pos hj]
            cases σ[j]? <;> rfl
          · rfl
        · rw [q5]
          intro H5 S5 x5
          have s25 : Same S2 S5 := x3.ss.trans x5.ss
          cases b with
          | false =>
            obtain ⟨n5, hA5⟩ := keepL (x3.trans x5)
            exact ⟨hl, S5, ks, us, ds, zs, x13.trans x5, n5, hA5, hlk, hnd, rA.mono s25, by omega, q6, qe⟩
          | true =>
            obtain ⟨u, q7, q8⟩ := R.noex_ok q6
            obtain ⟨zs', q9, q10⟩ := R.bind_ok q8
            cases q10
            obtain ⟨kd, qk, q7⟩ := R.bind_ok q7
            obtain ⟨vd, qv, q7⟩ := R.bind_ok q7
            cases q7
            replace qe : (match keyD kd with
              | some k => foldD (putKs ks k) (putXs ks ds k vd) zs'
              | none => none) = some fin := qe
            cases qq : keyD kd with
            | none => rw [qq] at qe; cases qe
            | some ke =>
              rw [qq] at qe
              refine ⟨st4, S5, fp4, r4.ext x5, ?_⟩
              rw [qk]
              intro H6 S6 x6 uk huk
              refine ⟨st4, S6, fp4, (r4.ext x5).ext x6, ?_⟩
              rw [qv]
              intro H7 S7 x7 uv huv
              obtain ⟨n7, hA7⟩ := keepL (((x3.trans x5).trans x6).trans x7)
              have s27 : Same S2 S7 := (s25.trans x6.ss).trans x7.ss
              have e1 := putK_zip ke uv hnd hlk
              refine ⟨ks.zip us, ke, keyD_kV huk qq, hA7, by rw [List.length_zip]; omega, hl, S7, putKs ks ke, putXs ks us ke uv, putXs ks ds ke vd, zs', ?_, n7, by rw [upd_same, e1], put_len hlk, putKs_nodup hnd, RepL.putXs huv ke (rA.mono s27), ?_, q9, qe⟩
              · have xx := ((x13.trans x5).trans x6).trans x7
                exact ⟨xx.ss, same_upd2 xx.sh n7, fun b o e => by
                  have ne : b ≠ L0 := fun z => by rw [z, hL] at e; cases e
                  rw [upd_ne ne]
                  exact xx.hh b o e, xx.fr⟩
              · have := putKs_len (ks := ks) (k := ke)
                omega
variable {kx vx tg iter : Expr} {ifs : List Expr} {scope : Scope} {own : List (Str × Nat)} {pos : Pos}
end
end DI
end
section
set_option Elab.async false
set_option linter.all false
set_option maxRecDepth 100000
set_option maxHeartbeats 2000000
/-! DI: sorted(d) of a dict under construction with int keys; d.get(k) of a dict that stands. -/
namespace DI
open PySem PySem.Spec PyProof.Rows L2
end DI
end
section
set_option Elab.async false
set_option linter.all false
set_option maxRecDepth 100000
set_option maxHeartbeats 2000000
/-! DI: dicts whose keys are nested tuples, under construction: {}, {k: v}, k in d, d[k], d[k] = v (k new). -/
namespace DI
open PySem PySem.Spec PyProof.Rows L2
/-! ### keys -/
section
variable {X : Cx} {cm : CM} {S H : Hp} {pins : List (Addr × Obj)} {σ : Sg} {s : Shared}
mutual
theorem nest_of (I : Inv X pins σ H s) (sh : Same S H) : ∀ {v : V} {d : D} {k : NestedKey} {u : Value}, Rep X.K cm S v d → kN0 d = some k → RelV v u → NestedIs s.heap k u
  | _, _, k, u, .non, e, r => by
    unfold kN0 at e; cases e
    rw [show u = Value.none from r]
    exact .none
  | _, _, k, u, .bl b, e, r => by
    unfold kN0 at e; cases e
    rw [show u = Value.bool b from r]
    exact .bool rfl
  | _, _, k, u, .int i, e, r => by
    unfold kN0 at e; cases e
    obtain ⟨t, rfl⟩ := (show ∃ t, u = Value.int i t from r)
    exact .int i t
  | _, _, k, u, .str x, e, r => by
    unfold kN0 at e; cases e
    obtain ⟨t, rfl⟩ := (show ∃ t, u = Value.str x t from r)
    exact .text x t
  | _, _, k, u, .tup (a := a) (ds := ds) h hs, e, r => by
    have e : (kNs ds).map NestedKey.tup = some k := by unfold kN0 at e; exact e
    cases q : kNs ds with
    | none => rw [q] at e; cases e
    | some ks =>
      rw [q] at e
      cases e
      rw [show u = Value.ref a from r]
      obtain ⟨its, rv, ⟨o, ho, hc, n, hd⟩, _⟩ := I.tuple (same_sqT sh h)
      exact .tup ho hc hd (by simpa using nestL_of I sh hs q rv)
  | _, _, _, _, .lst _ _, e, _ => by unfold kN0 at e; cases e
  | _, _, _, _, .scr _ _, e, _ => by unfold kN0 at e; cases e
  | _, _, _, _, .ins _ _ _, e, _ => by unfold kN0 at e; cases e
  | _, _, _, _, .tset _ _ _, e, _ => by unfold kN0 at e; cases e
  | _, _, _, _, .dct _ _ _ _, e, _ => by unfold kN0 at e; cases e
  | _, _, _, _, .rng _, e, _ => by unfold kN0 at e; cases e
  | _, _, _, _, .nd _ _ _ _ _, e, _ => by unfold kN0 at e; cases e
theorem nestL_of (I : Inv X pins σ H s) (sh : Same S H) : ∀ {vs : List V} {ds : List D} {ks : List NestedKey} {us : List Value}, RepL X.K cm S vs ds → kNs ds = some ks → Vals vs us → NestedAll s.heap ks us
  | _, _, _, _, .nil, e, r => by
    unfold kNs at e; cases e; cases r; exact .nil
  | _, _, _, _, .cons (d := d) (ds := ds) h hs, e, r => by
    unfold kNs at e
    cases r with
    | cons r1 r2 =>
      cases q1 : kN0 d with
      | none => rw [q1] at e; cases e
      | some k =>
        cases q2 : kNs ds with
        | none => rw [q1, q2] at e; cases e
        | some ks =>
          rw [q1, q2] at e
          cases e
          exact .cons (nest_of I sh h q1 r1) (nestL_of I sh hs q2 r2)
end
/-- the tuple at b is the key k -/
def NKey (X : Cx) (H : Hp) (b : Addr) (k : NestedKey) : Prop := ∀ (pins : List (Addr × Obj)) (σ : Sg) (s : Shared), Inv X pins σ H s → (nestedKind X.prog X.w).is s.heap k b
theorem nkey_of (sh : Same S H) {b : Addr} {d : D} {k : NestedKey} (h : Rep X.K cm S (.ref b) d) (e : kN d = some k) : NKey X H b k := fun pins σ s I => by
  cases d <;> try (cases e; done)
  rename_i ds
  have e : (kN0 (.tup ds)).bind (fun k => if k.depth ≤ 8 then some k else none) = some k := e
  cases q : kN0 (.tup ds) with
  | none => rw [q] at e; cases e
  | some k' =>
    rw [q] at e
    replace e : (if k'.depth ≤ 8 then some k' else none) = some k := e
    split at e
    · cases e
      exact ⟨nest_of I sh h q rfl, by assumption⟩
    · cases e
theorem rep_key {v : V} {d : D} {k : NestedKey} (h : Rep X.K cm S v d) (e : kN d = some k) : ∃ b, v = .ref b := by
  cases h <;> first | exact ⟨_, rfl⟩ | (cases e; done)
end
/-! ### keys and values -/
def nIx (ks : List NestedKey) (k : NestedKey) : Option Nat := ks.findIdx? fun j => decide (j = k)
def getN {α : Type} (ks : List NestedKey) (xs : List α) (k : NestedKey) : Option α := (nIx ks k).bind fun j => xs[j]?
theorem nIx_cons {ks : List NestedKey} {k j : NestedKey} : nIx (j :: ks) k = if j = k then some 0 else (nIx ks k).map (· + 1) := by
  unfold nIx
  rw [List.findIdx?_cons]
  by_cases e : j = k
  · simp [e]
  · simp [e]
theorem getN_cons {α : Type} {ks : List NestedKey} {xs : List α} {k j : NestedKey} {x : α} : getN (j :: ks) (x :: xs) k = if j = k then some x else getN ks xs k := by
  unfold getN
  rw [nIx_cons]
  by_cases e : j = k
  · rw [if_pos e, if_pos e]; rfl
  · rw [if_neg e, if_neg e]
    cases nIx ks k with
    | none => rfl
    | some i => simp
theorem nIx_lt {ks : List NestedKey} {k : NestedKey} {j : Nat} (h : nIx ks k = some j) : j < ks.length := by
  obtain ⟨h1, _⟩ := List.findIdx?_eq_some_iff_getElem.mp h
  exact h1
abbrev NR : List (NestedKey × Addr × V) → List (NestedKey × Addr × Value) → Prop := Paired fun p q => p.1 = q.1 ∧ p.2.1 = q.2.1 ∧ RelV p.2.2 q.2.2
theorem nr_at : ∀ {ks : List NestedKey} {bs : List Addr} {vs : List V} {xs : List (NestedKey × Addr × Value)}, bs.length = vs.length → ks.length = vs.length → NR (ks.zip (bs.zip vs)) xs → ∀ k,
    (getN ks vs k = none ∧ atKey xs k = none) ∨ ∃ y c u, getN ks vs k = some y ∧ atKey xs k = some (c, u) ∧ RelV y u
  | [], bs, vs, xs, _, _, r, k => by
    rw [List.zip_nil_left] at r
    cases r
    exact .inl ⟨rfl, rfl⟩
  | j :: ks, b :: bs, v :: vs, xs, h1, h2, r, k => by
    rw [List.zip_cons_cons, List.zip_cons_cons] at r
    cases r with
    | @cons p q ps qs h t =>
      obtain ⟨e1, e2, e3⟩ := h
      simp only at e1 e2 e3
      rw [getN_cons]
      by_cases e : j = k
      · rw [if_pos e]
        refine .inr ⟨v, q.2.1, q.2.2, rfl, ?_, e3⟩
        have : q.1 = k := e1.symm.trans e
        simp [atKey, List.find?_cons, this]
      · rw [if_neg e]
        have ne : ¬ q.1 = k := fun z => e (e1.trans z)
        have b : atKey (q :: qs) k = atKey qs k := by simp [atKey, List.find?_cons, ne]
        rw [b]
        exact nr_at (by simpa using h1) (by simpa using h2) t k
  | j :: ks, [], v :: vs, xs, h1, _, _, _ => by simp at h1
  | j :: ks, _, [], xs, _, h2, _, _ => by simp at h2
theorem zip3_snoc {ks : List NestedKey} {bs : List Addr} {vs : List V} {k : NestedKey} {b : Addr} {v : V} (h1 : bs.length = vs.length) (h2 : ks.length = vs.length) : (ks ++ [k]).zip ((bs ++ [b]).zip (vs ++ [v])) = ks.zip (bs.zip vs) ++ [(k, b, v)] := by
  rw [List.zip_append h1, List.zip_append (by rw [List.length_zip]; omega)]
  rfl
/-- a dict with nested keys stands at a -/
structure NDAt (X : Cx) (H : Hp) (a : Addr) (ks : List NestedKey) (bs : List Addr) (vs : List V) : Prop where
  at_ : H a = some (NDO X.prog X.w a (ks.zip (bs.zip vs)))
  lb : bs.length = vs.length
  lk : ks.length = vs.length
  key : ∀ p ∈ ks.zip (bs.zip vs), NKey X H p.2.1 p.1
section
variable {X : Cx} {pins : List (Addr × Obj)} {σ : Sg} {H : Hp} {s : Shared} {a b : Addr} {ks : List NestedKey} {bs : List Addr} {vs : List V} {k : NestedKey}
theorem nd_of (I : Inv X pins σ H s) (d : NDAt X H a ks bs vs) : (a == sysModules) = false ∧ (ks.zip (bs.zip vs)).length ≤ sizeLine ∧ ∃ xs, NR (ks.zip (bs.zip vs)) xs ∧ s.heap.DictOfH (nestedKind X.prog X.w) a xs := by
  obtain ⟨⟨h1, h2, xs, r, o, es, ep, e1, e2, e3, e4, e5⟩, _⟩ := (show ObjOk X.prog X.w H s.heap a (NDO X.prog X.w a (ks.zip (bs.zip vs))) from I.hok a _ d.at_)
  refine ⟨h1, h2, xs, r, o, es, ep, e1, e2, e3, e4, fun x hx => ?_, e5⟩
  have all : ∀ {l : List (NestedKey × Addr × V)} {m : List (NestedKey × Addr × Value)}, NR l m → (∀ p ∈ l, NKey X H p.2.1 p.1) → ∀ x ∈ m, (nestedKind X.prog X.w).is s.heap x.1 x.2.1 := by
    intro l m q
    induction q with
    | nil => intro _ x hx; exact nomatch hx
    | @cons p q ps qs hq t ih =>
      intro hk x hx
      rcases List.mem_cons.mp hx with e | hx
      · subst e
        rw [← hq.1, ← hq.2.1]
        exact hk p List.mem_cons_self _ _ _ I
      · exact ih (fun p m => hk p (List.mem_cons_of_mem _ m)) x hx
  exact all r d.key x hx
theorem ndo_new {P : Program} {w : World} {H' : Hp} {h' : Heap} {ps : List (NestedKey × Addr × V)} {xs : List (NestedKey × Addr × Value)} (hd : (a == sysModules) = false) (z : ps.length ≤ sizeLine) (r : NR ps xs) (dd : h'.DictOfH (nestedKind P w) a xs) : ObjOk P w H' h' a (NDO P w a ps) := by
  obtain ⟨o, es, ep, e1, e2, e3, e4, _, e5⟩ := dd
  refine ⟨⟨hd, z, xs, r, o, es, ep, e1, e2, e3, e4, e5⟩, ⟨o, e1⟩, fun h1 h2 x k => ?_⟩
  obtain ⟨y1, y2, ys, y3, o', es', ep', f1, f2⟩ := x
  exact ⟨y1, y2, ys, y3, o', es', ep', k o' f1, f2⟩
variable {A : Around} {E : Value → Shared → Prop}
theorem nd_room {A : Around} {w : World} {P : Program} (hu : A.units + 9 < cLine) : (nestedKind P w).room A.in1 := by
  show A.in1.units + 8 < cLine
  have : A.in1.units = A.units + 1 := rfl
  omega
end
/-! ### readings and rules -/
section
variable {X : Cx} {o i value key val : Expr} {pos pos' : Pos} {td ty tv : TE}
def tNGet (X : Cx) (td ty : TE) : TE := fun σ H Q => td σ H fun x H1 => ty σ H1 fun y H2 => ∃ a b k ks bs vs v, x = .ref a ∧ y = .ref b ∧ NKey X H2 b k ∧ NDAt X H2 a ks bs vs ∧ getN ks vs k = some v ∧ Q v H2
def tNIn (X : Cx) (ty td : TE) : TE := fun σ H Q => ty σ H fun y H1 => td σ H1 fun x H2 => ∃ a b k ks bs vs, x = .ref a ∧ y = .ref b ∧ NKey X H2 b k ∧ NDAt X H2 a ks bs vs ∧ Q (.bl (getN ks vs k).isSome) H2
def sNPut (X : Cx) (td ty tv : TE) : TS := fun D σ H => tv σ H fun v H1 => td σ H1 fun x H2 => ty σ H2 fun y H3 => ∃ a b k ks bs vs, x = .ref a ∧ y = .ref b ∧ NKey X H3 b k ∧ NDAt X H3 a ks bs vs ∧ getN ks vs k = none ∧ vs.length < sizeLine ∧
  D.nx σ (upd H3 a (NDO X.prog X.w a ((ks ++ [k]).zip ((bs ++ [b]).zip (vs ++ [v])))))
theorem pe_nget (hu : X.A.units + 9 < cLine) (ho : PE X o td) (hi : PE X i ty) (hs : NoSl i) : PE X (.Subscript o i pos) (tNGet X td ty) := by
  refine ⟨fun pins s σ H Q I h => ?_⟩
  refine subD_of PySem.F.slot_dict_getitem.lookup hs (thn (ho.run pins s σ H _ I h) fun u s1 ⟨x, H1, I1, rx, q1⟩ => thn (hi.run pins s1 σ H1 _ I1 q1) fun iv s2 ⟨y, H2, I2, ry, a, b, k, ks, bs, vs, v, ex, ey, hk, d, g, q2⟩ => ?_)
  subst ex ey
  obtain rfl : u = Value.ref a := rx
  obtain rfl : iv = Value.ref b := ry
  obtain ⟨hd, z, xs, r, dd⟩ := nd_of I2 d
  refine ⟨dd.typeIs, ?_⟩
  rcases nr_at d.lb d.lk r k with ⟨e, _⟩ | ⟨y, c, u, e1, e2, e3⟩
  · rw [e] at g; cases g
  · rw [e1] at g
    cases g
    exact wpAny_getItem_heap (nd_room hu) (hk _ _ _ I2) dd e2 ⟨_, H2, I2.tok _, e3, q2⟩
theorem pc_nin (hu : X.A.units + 9 < cLine) (hi : PE X i ty) (ho : PE X o td) : PC X .In i o (tNIn X ty td) := by
  refine ⟨fun pins s σ H Q I h => ?_⟩
  refine thn (hi.run pins s σ H _ I h) fun iv s1 ⟨y, H1, I1, ry, q1⟩ => thn (ho.run pins s1 σ H1 _ I1 q1) fun u s2 ⟨x, H2, I2, rx, a, b, k, ks, bs, vs, ex, ey, hk, d, q2⟩ => ?_
  subst ex ey
  obtain rfl : u = Value.ref a := rx
  obtain rfl : iv = Value.ref b := ry
  obtain ⟨hd, z, xs, r, dd⟩ := nd_of I2 d
  have e : (atKey xs k).isSome = (getN ks vs k).isSome := by
    rcases nr_at d.lb d.lk r k with ⟨e1, e2⟩ | ⟨y, c, u, e1, e2, _⟩ <;> rw [e1, e2] <;> rfl
  refine wpAny_in_heap (nd_room hu) (hk _ _ _ I2) hd dd ?_
  rw [e]
  exact ⟨.bl _, H2, I2.tok _, rfl, q2⟩
theorem ps_nput (hu : X.A.units + 9 < cLine) (ho : PE X o td) (hi : PE X i ty) (hv : PE X value tv) (hs : swapsWith value (some (.Subscript o i pos')) pos.line X.env = pure false) :
    PS X (.Assign [.Subscript o i pos'] value pos) (sNPut X td ty tv) := by
  refine ⟨fun pins s σ H D I h => ?_⟩
  refine wpAny_Assign_Subscript (thn (hv.run pins s σ H _ I h) fun r s1 ⟨v, H1, I1, rv, q1⟩ => thn (ho.run pins s1 σ H1 _ I1 q1) fun u s2 ⟨x, H2, I2, rx, q2⟩ => thn (hi.run pins s2 σ H2 _ I2 q2) fun iv s3 ⟨y, H3, I3, ry, a, b, k, ks, bs, vs, ex, ey, hk, d, g, few, q3⟩ => ?_) hs
  subst ex ey
  obtain rfl : u = Value.ref a := rx
  obtain rfl : iv = Value.ref b := ry
  obtain ⟨hd, z, xs, r0, dd⟩ := nd_of I3 d
  have hz : xs.length ≤ sizeLine := by rw [← Paired.length r0]; exact z
  have g' : atKey xs k = none := by
    rcases nr_at d.lb d.lk r0 k with ⟨_, e⟩ | ⟨y, c, u, e1, _, _⟩
    · exact e
    · rw [g] at e1; cases e1
  have lz : (ks.zip (bs.zip vs)).length = vs.length := by
    rw [List.length_zip, List.length_zip, d.lb, d.lk]
    omega
  refine wpAny_setItem_heap (hsz := hz) (nd_room hu) (hk _ _ _ I3) dd fun h' dd' hs => ⟨σ, _, ?_, q3⟩
  rw [storedH_new g'] at dd'
  have he : ∃ q, h'.get? a = some q := let ⟨q, _, _, hq, _⟩ := dd'; ⟨q, hq⟩
  refine d_write I3 (by rw [d.at_]; exact True.intro) hs he (ndo_new hd ?_ ?_ dd')
  · rw [zip3_snoc d.lb d.lk, List.length_append, List.length_singleton, lz]
    omega
  · rw [zip3_snoc d.lb d.lk]
    exact Paired.snoc r0 ⟨rfl, rfl, rv⟩
theorem nd_empty {P : Program} {w : World} {H : Hp} (h : Heap) (hb : sysModules < h.objs.size) : ObjOk P w H (h.push { cls := .type "dict", data := .dict #[] }) h.objs.size (NDO P w h.objs.size []) :=
  ndo_new (xs := []) (beq_eq_false_iff_ne.mpr (Ne.symm (Nat.ne_of_lt hb))) (Nat.zero_le _) .nil (Heap.DictOfH.new h)
/-- {k: v} -/
def tNLit (X : Cx) (tk tv : TE) : TE := fun σ H Q => ∀ p, H p = none → tk σ (upd H p (NDO X.prog X.w p [])) fun x H1 => tv σ H1 fun y H2 => H2 p = some (NDO X.prog X.w p []) ∧ ∃ b k, x = .ref b ∧ NKey X H2 b k ∧ Q (.ref p) (upd H2 p (NDO X.prog X.w p [(k, b, y)]))
theorem pe_nlit (hu : X.A.units + 9 < cLine) (hk : PE X key ty) (hv : PE X val tv) : PE X (.Dict [some key] [val] pos) (tNLit X ty tv) := by
  refine ⟨fun pins s σ H Q I q => ?_⟩
  have hn := I.hok.fresh (Nat.le_refl s.heap.objs.size)
  have I1 := I.laid (a := s.heap.objs.size) (o := NDO X.prog X.w s.heap.objs.size []) (h' := s.heap.push { cls := .type "dict", data := .dict #[] }) (t' := s.toks) (fun _ _ q => Heap.get?_push_of_some _ q) (Nat.le_refl _) (nd_empty s.heap I.big)
  have PP := pps_cons (pos := pos) hk hv pps_nil
  have hz := zip_pairTrees [some key] [val] X.env pos rfl rfl
  have hlen := pairTrees_length [some key] [val] X.env pos rfl rfl
  rw [arm_eval_Dict, hz, dictDisplay_pairs _ (fun e => by rw [e] at hlen; cases hlen) (by rw [hlen]; show (1 : Nat) < 17; decide)]
  refine wpAny_bind (wpAny_standAt (wpAny_bind (wpAny_subDictH (knd := nestedKind X.prog X.w) (Q := fun d s' => wpAny (model X.prog X.w) X.A (pure (Value.ref d)) (EP X pins σ Q) X.xe s') (by show X.A.units + 8 < cLine; omega) (by rw [hlen]; show (1 : Nat) ≤ 15; decide) ?_)))
  refine thn (PP.run pins _ σ _ (fun ps H2 => match ps with
    | [(x, y)] => H2 s.heap.objs.size = some (NDO X.prog X.w s.heap.objs.size []) ∧ ∃ b k, x = .ref b ∧ NKey X H2 b k ∧ Q (.ref s.heap.objs.size) (upd H2 s.heap.objs.size (NDO X.prog X.w s.heap.objs.size [(k, b, y)]))
    | _ => False) I1 (q _ hn)) fun ws s2 ⟨ps, H2, I2, rel, q2⟩ => ?_
  match ps, rel, q2 with
  | [(x, y)], rel, q2 =>
    obtain ⟨e, b, k, ex, nk, q3⟩ := q2
    subst ex
    cases rel with
    | @cons p w ps' ws' r1 r2 =>
      cases r2
      obtain ⟨w1, w2⟩ := w
      obtain ⟨r1, r3⟩ := r1
      simp only at r1 r3
      obtain rfl : w1 = Value.ref b := r1
      have d : NDAt X H2 s.heap.objs.size [] [] [] := ⟨e, rfl, rfl, fun _ m => nomatch m⟩
      obtain ⟨hd, z, xs, r0, dd⟩ := nd_of I2 d
      cases r0
      refine ⟨[(k, b, w2)], ⟨rfl, rfl, nk _ _ _ I2, True.intro⟩, dd, fun h' tk dd' hs => wpAny_pure ⟨.ref s.heap.objs.size, _, ?_, rfl, q3⟩⟩
      have he : ∃ q, h'.get? s.heap.objs.size = some q := let ⟨q, _, _, hq, _⟩ := dd'; ⟨q, hq⟩
      exact d_write I2 (by rw [e]; exact True.intro) hs he (ndo_new hd (by show 1 ≤ sizeLine; decide) (.cons ⟨rfl, rfl, r3⟩ .nil) dd')
end
/-! ### over data -/
def ndI (o : Option (Option T)) : Option (List NestedKey × List D) := match o with
  | some (some (.nd ks ds)) => some (ks, ds)
  | _ => none
theorem ndI_some {o : Option (Option T)} {ks : List NestedKey} {ds : List D} (h : ndI o = some (ks, ds)) : o = some (some (.nd ks ds)) := by
  unfold ndI at h
  split at h
  · cases h; rfl
  · cases h
section
variable {X : Cx} {cm : CM} {W : WH} {c : Fr} {pos pos' : Pos} {i k : Nat} {o key value val : Expr} {f g : LS → R D} {S H : Hp}
theorem kds_len {bs : List Addr} {kds : List D} {ks : List NestedKey} (h : RepL X.K cm S (bs.map V.ref) kds) (e : kds.map kN = ks.map some) : bs.length = ks.length := by
  have e1 := h.length
  have e2 := congrArg List.length e
  simp at e1 e2
  omega
theorem nkeys_of (sh : Same S H) : ∀ {bs : List Addr} {kds : List D} {ks : List NestedKey} {vs : List V}, RepL X.K cm S (bs.map V.ref) kds → kds.map kN = ks.map some → ∀ p ∈ ks.zip (bs.zip vs), NKey X H p.2.1 p.1
  | [], _, ks, vs, _, _, p, m => by simp at m
  | b :: bs, kds, ks, vs, h, e, p, m => by
    rw [List.map_cons] at h
    cases h with
    | @cons _ _ d ds h hs =>
      cases ks with
      | nil => simp at m
      | cons k ks =>
        cases vs with
        | nil => simp at m
        | cons v vs =>
          rw [List.map_cons, List.map_cons] at e
          injection e with e1 e2
          rw [List.zip_cons_cons, List.zip_cons_cons] at m
          rcases List.mem_cons.mp m with rfl | m
          · exact nkey_of sh h e1
          · exact nkeys_of sh hs e2 p m
theorem ndAt_of (hnd : cm.nd = NDO X.prog X.w) (sh : Same S H) {a : Addr} {bs : List Addr} {kds : List D} {ks : List NestedKey} {vs : List V} (ha : H a = some (cm.nd a (ks.zip (bs.zip vs)))) (hk : RepL X.K cm S (bs.map V.ref) kds) (e : kds.map kN = ks.map some) (hl : ks.length = vs.length) : NDAt X H a ks bs vs :=
  ⟨by rw [← hnd]; exact ha, by have := kds_len hk e; omega, hl, nkeys_of sh hk e⟩
theorem getN_rep {ks : List NestedKey} {vs : List V} {ds : List D} {k : NestedKey} (hs : RepL X.K cm S vs ds) : (getN ks ds k = none ∧ getN ks vs k = none) ∨ ∃ v d, getN ks ds k = some d ∧ getN ks vs k = some v ∧ Rep X.K cm S v d := by
  unfold getN
  cases nIx ks k with
  | none => exact .inl ⟨rfl, rfl⟩
  | some j =>
    cases q : ds[j]? with
    | none =>
      have : ds.length ≤ j := List.getElem?_eq_none_iff.mp q
      exact .inl ⟨q, List.getElem?_eq_none (by rw [hs.length]; exact this)⟩
    | some d =>
      obtain ⟨v, e, r⟩ := hs.get q
      exact .inr ⟨v, d, q, e, r⟩
/-- {g: f} -/
def nlitF (g f : LS → R D) : LS → R T := fun st => (g st).bind fun y => (f st).bind fun d => match kN y with
  | some kk => .ok (.nd [kk] [d])
  | none => .bad
theorem f_nlit (hnd : cm.nd = NDO X.prog X.w) (hr : Room k X.A) (hk : PE X key (E X.K cm W g)) (hv : PE X val (E X.K cm W f)) : PE X (.Dict [some key] [val] pos) (EF X.K cm W (nlitF g f)) :=
  (pe_nlit (by have := hr.un; omega) hk hv).imp fun σ H Q ⟨st, S, fp, r, k⟩ p hp => by
  have x0 : Xt S S H (upd H p (NDO X.prog X.w p [])) := Xt.own r.sh hp
  unfold nlitF at k
  cases qg : g st with
  | bad => rw [qg] at k; exact k.elim
  | ex e =>
    rw [qg] at k
    exact ⟨st, S, fp, r.ext x0, by rw [qg]; exact k.ext x0⟩
  | ok y =>
    refine ⟨st, S, fp, r.ext x0, ?_⟩
    rw [qg] at k ⊢
    intro H1 S1 x1 u hu
    cases qf : f st with
    | bad => rw [qf] at k; exact k.elim
    | ex e =>
      rw [qf] at k
      exact ⟨st, S1, fp, (r.ext x0).ext x1, by rw [qf]; exact k.ext (x0.trans x1)⟩
    | ok d =>
      refine ⟨st, S1, fp, (r.ext x0).ext x1, ?_⟩
      rw [qf] at k ⊢
      intro H2 S2 x2 w hw
      cases qk : kN y with
      | none =>
        replace k : Go X.K cm W (fun t S' H' => ∀ v fn, Own X.K cm S' H' t v fn → fn.Nodup → (∀ a ∈ fn, H a = none ∧ S' a = none) → Q v H') (match kN y with
          | some kk => .ok (.nd [kk] [d])
          | none => .bad) S H σ := k
        rw [qk] at k
        exact k.elim
      | some kk =>
        replace k : Go X.K cm W (fun t S' H' => ∀ v fn, Own X.K cm S' H' t v fn → fn.Nodup → (∀ a ∈ fn, H a = none ∧ S' a = none) → Q v H') (match kN y with
          | some kk => .ok (.nd [kk] [d])
          | none => .bad) S H σ := k
        rw [qk] at k
        have x12 := x1.trans x2
        have xw := xt_wo r.sh hp x12
        have hw2 : wo H2 p p = none := by unfold wo; rw [if_pos rfl]
        have s2p : S2 p = none := xw.sh.free hw2
        have hu2 := hu.mono x2.ss
        obtain ⟨b, rfl⟩ := rep_key hu2 qk
        have xf : Xt S S2 H (upd H2 p (NDO X.prog X.w p [(kk, b, w)])) := by
          rw [← upd_wo]
          exact xw.trans (Xt.own xw.sh hw2)
        refine ⟨x12.hh _ _ upd_same, b, kk, rfl, nkey_of x2.sh hu2 qk, ?_⟩
        exact k _ S2 xf (.ref p) [p] (.nd (bs := [b]) (kds := [y]) (ks := [kk]) (vs := [w]) (by rw [upd_same, hnd]; rfl) (.cons hu2 .nil) (by rw [List.map_cons, qk]; rfl) rfl (.cons hw .nil)) (nodup1 p) fun a m => by
          have e : a = p := by simpa using m
          subst e
          exact ⟨hp, s2p⟩
/-- f in d -/
def ninE (neg : Bool) (i : Nat) (f : LS → R D) : LS → R D := fun st => (f st).bind fun y => match ndI st[i]?, kN y with
  | some (ks, _), some kk => .ok (.bl (if neg = true then !(nIx ks kk).isSome else (nIx ks kk).isSome))
  | _, _ => .bad
theorem getN_isSome {α : Type} {ks : List NestedKey} {xs : List α} {kk : NestedKey} (hl : ks.length = xs.length) : (getN ks xs kk).isSome = (nIx ks kk).isSome := by
  unfold getN
  cases q : nIx ks kk with
  | none => rfl
  | some j =>
    have hj := nIx_lt q
    show (xs[j]?).isSome = true
    rw [List.getElem?_eq_getElem (by omega)]
    rfl
theorem nin_core (hnd : cm.nd = NDO X.prog X.w) {neg : Bool} {σ : Sg} {H : Hp} {Q : VK} (q : E X.K cm W (ninE neg i f) σ H Q) : E X.K cm W f σ H fun y H1 => tVar i σ H1 fun x H2 => ∃ a b k ks bs vs, x = .ref a ∧ y = .ref b ∧ NKey X H2 b k ∧ NDAt X H2 a ks bs vs ∧ Q (.bl (if neg = true then !(getN ks vs k).isSome else (getN ks vs k).isSome)) H2 := by
  obtain ⟨st, S, fp, r, g⟩ := q
  refine ⟨st, S, fp, r, g.bind.mono fun y S1 H1 x1 k1 u hu => ?_⟩
  cases q1 : ndI st[i]? with
  | none => rw [q1] at k1; exact k1.elim
  | some p =>
    obtain ⟨ks, ds⟩ := p
    cases qk : kN y with
    | none => rw [q1, qk] at k1; exact k1.elim
    | some kk =>
      rw [q1, qk] at k1
      replace k1 : Go X.K cm W (fun z S' H' => ∀ v, Rep X.K cm S' v z → Q v H') (.ok (.bl (if neg = true then !(nIx ks kk).isSome else (nIx ks kk).isSome))) S1 H1 σ := k1
      have e1 := ndI_some q1
      obtain ⟨v, f1, g1, h1, h2, h3, h4, h5, h6, h7⟩ := (r.ext x1).sls.split e1 (r.ext x1).nd
      cases h2 with
      | @nd a bs kds _ vs _ ha hk he hl hs =>
        obtain ⟨b, rfl⟩ := rep_key hu qk
        refine ⟨.ref a, h1, a, b, kk, ks, bs, vs, rfl, rfl, nkey_of x1.sh hu qk, ndAt_of hnd x1.sh ha hk he hl, ?_⟩
        rw [getN_isSome hl]
        exact k1 H1 S1 (Xt.refl x1.sh) _ (.bl _)
theorem t_nin (hnd : cm.nd = NDO X.prog X.w) (hr : Room k X.A) (hk : PE X key (E X.K cm W f)) (ho : PE X o (tVar i)) (hm : behindInMarks .In o = false := by rfl) : PT X (.Compare key [.In] [o] pos) (TB X.K cm W (tb (ninE false i f))) :=
  (pt_cmp (pc_nin (by have := hr.un; omega) hk ho) hm).imp fun σ H Q q => nin_core hnd (TB.of q)
/-- d[f] -/
def nixE (i : Nat) (f : LS → R D) : LS → R D := fun st => match ndI st[i]? with
  | none => .bad
  | some (ks, ds) => (f st).bind fun y => match kN y with
    | some kk => .of (getN ks ds kk)
    | none => .bad
theorem e_nix (hnd : cm.nd = NDO X.prog X.w) (hr : Room k X.A) (ho : PE X o (tVar i)) (hk : PE X key (E X.K cm W f)) (hs : NoSl key := by intro _ _; rfl) : PE X (.Subscript o key pos) (E X.K cm W (nixE i f)) :=
  (pe_nget (by have := hr.un; omega) ho hk hs).imp fun σ H Q ⟨st, S, fp, r, g⟩ => by
  unfold nixE at g
  cases q1 : ndI st[i]? with
  | none => rw [q1] at g; exact g.elim
  | some p =>
    obtain ⟨ks, ds⟩ := p
    rw [q1] at g
    have e1 := ndI_some q1
    obtain ⟨v, f1, g1, h1, h2, h3, h4, h5, h6, h7⟩ := r.sls.split e1 r.nd
    cases h2 with
    | @nd a bs kds _ vs _ ha hk he hl hs =>
      replace g : Go X.K cm W (fun z S' H' => ∀ v, Rep X.K cm S' v z → Q v H') ((f st).bind fun y => match kN y with
        | some kk => .of (getN ks ds kk)
        | none => .bad) S H σ := g
      refine ⟨.ref a, h1, st, S, fp, r, g.bind.mono fun y S1 H1 x1 k1 u hu => ?_⟩
      cases qk : kN y with
      | none => rw [qk] at k1; exact k1.elim
      | some kk =>
        rw [qk] at k1
        obtain ⟨res, hres, k2⟩ := k1.of
        obtain ⟨b, rfl⟩ := rep_key hu qk
        rcases getN_rep (k := kk) (ks := ks) (hs.mono x1.ss) with ⟨e3, e4⟩ | ⟨w, d, e3, e4, e5⟩
        · rw [e3] at hres; cases hres
        · rw [e3] at hres
          cases hres
          exact ⟨a, b, kk, ks, bs, vs, w, rfl, rfl, nkey_of x1.sh hu qk, ndAt_of hnd x1.sh (x1.hh _ _ ha) (hk.mono x1.ss) he hl, e4, k2 H1 S1 (Xt.refl x1.sh) _ e5⟩
/-- d[g] = f, the key new -/
def nputS (i : Nat) (g f : LS → R D) : LS → Out := fun st => match ndI st[i]? with
  | none => .bad
  | some (ks, ds) => (f st).out st fun d => (g st).out st fun y => match kN y with
    | none => .bad
    | some kk => if (nIx ks kk).isSome = false ∧ ds.length < sizeLine then .nx (st.set i (some (.nd (ks ++ [kk]) (ds ++ [d])))) else .bad
theorem s_nput (hnd : cm.nd = NDO X.prog X.w) (hr : Room k X.A) (ho : PE X o (tVar i)) (hk : PE X key (E X.K cm W g)) (hv : PE X value (E X.K cm W f)) (hs : swapsWith value (some (.Subscript o key pos')) pos.line X.env = pure false := by rfl) :
    PS X (.Assign [.Subscript o key pos'] value pos) (SX X.K cm W c (nputS i g f)) := (ps_nput (by have := hr.un; omega) ho hk hv hs).imp fun D σ H ⟨st, S, fp, r, p⟩ => by
  unfold nputS at p
  split at p
  case h_1 => exact p.elim
  rename_i ks ds q
  have q1 := ndI_some q
  obtain ⟨v, f1, h1, h2, h3, h4, h5⟩ := r.mut q1
  cases h2 with
  | @nd a bs kds _ vs _ ha hkk he hl hds =>
    refine ⟨st, S, fp, r.rx, Post.go r p fun d S1 H1 x1 p1 u hu => ?_⟩
    refine ⟨.ref a, h1, st, S1, fp, r.rx.ext x1, Post.go (r.ext x1) p1 fun y S2 H2 x2 p2 w hw => ?_⟩
    cases qk : kN y with
    | none => rw [qk] at p2; exact p2.elim
    | some kk =>
      rw [qk] at p2
      replace p2 : Post X.K cm W c D S2 (if (nIx ks kk).isSome = false ∧ ds.length < sizeLine then .nx (st.set i (some (.nd (ks ++ [kk]) (ds ++ [d])))) else .bad) := p2
      split at p2
      case isFalse => exact p2.elim
      rename_i few
      have x := x1.trans x2
      obtain ⟨b, rfl⟩ := rep_key hw qk
      have hlv : vs.length = ds.length := hds.length
      have gn : getN ks vs kk = none := by
        have := getN_isSome (ks := ks) (xs := vs) (kk := kk) hl
        rw [few.1] at this
        cases z : getN ks vs kk with
        | none => rfl
        | some _ => rw [z] at this; cases this
      refine ⟨a, b, kk, ks, bs, vs, rfl, rfl, nkey_of x2.sh hw qk, ndAt_of hnd x2.sh (x.hh _ _ ha) (hkk.mono x.ss) he hl, gn, by omega, ?_⟩
      have hrep : RepL X.K cm S2 (vs ++ [u]) (ds ++ [d]) := (hds.mono x.ss).append (.cons (hu.mono x2.ss) .nil)
      have hkeys : RepL X.K cm S2 ((bs ++ [b]).map V.ref) (kds ++ [y]) := by
        rw [List.map_append]
        exact (hkk.mono x.ss).append (.cons hw .nil)
      refine p2 σ _ (h5 S2 H2 _ _ [a] x (fun b n => upd_ne fun e => n (e ▸ List.mem_cons_self)) ?_ (nodup1 a) fun b m => .inl (by rw [List.mem_singleton.mp m]; exact List.mem_cons_self))
      exact .nd (by rw [upd_same, hnd]) hkeys (by rw [List.map_append, List.map_append, he, List.map_cons, qk]; rfl) (by rw [List.length_append, List.length_append, hl]; rfl) hrep
end
end DI
end
section
set_option Elab.async false
set_option linter.all false
set_option maxRecDepth 100000
set_option maxHeartbeats 4000000
/-! DI: zip over three lists or tuples. -/
namespace DI
open PySem PySem.Spec PyProof.Rows L2
end DI
end
section
set_option Elab.async false
set_option linter.all false
set_option maxRecDepth 100000
set_option maxHeartbeats 4000000
/-! DI: l.index(x), gcd, divmod. -/
namespace DI
open PySem PySem.Spec PyProof.Rows L2
/-- the place of the first item that holds -/
def fstIx {α : Type} (p : α → Bool) : List α → Option Nat
  | [] => none
  | x :: xs => if p x = true then some 0 else (fstIx p xs).map (· + 1)
theorem fstIx_some {α : Type} {p : α → Bool} : ∀ {xs : List α} {j : Nat}, fstIx p xs = some j → (∃ z, xs[j]? = some z ∧ p z = true) ∧ ∀ (m : Nat) (z : α), m < j → xs[m]? = some z → p z = false
  | [], j, h => by cases h
  | x :: xs, j, h => by
    unfold fstIx at h
    by_cases q : p x = true
    · rw [if_pos q] at h
      cases h
      exact ⟨⟨x, rfl, q⟩, fun m z l => absurd l (Nat.not_lt_zero m)⟩
    · rw [if_neg q] at h
      cases e : fstIx p xs with
      | none => rw [e] at h; cases h
      | some i =>
        rw [e] at h
        cases h
        obtain ⟨⟨z, h1, h2⟩, h3⟩ := fstIx_some e
        refine ⟨⟨z, h1, h2⟩, fun m y l hm => ?_⟩
        cases m with
        | zero => cases hm; simpa using q
        | succ m => exact h3 m y (Nat.lt_of_succ_lt_succ l) hm
def dFst (d e : D) : Option D := match d.sh, e.sh with
  | some (.list ps), some p => (fstIx (fun z => PyData.eqv z p) ps).map fun j => .int (j : Nat)
  | _, _ => none
def isLst : D → Bool
  | .lst _ => true
  | _ => false
theorem isLst_some {d : D} (h : isLst d = true) : ∃ ds, d = .lst ds := by
  cases d <;> first | exact ⟨_, rfl⟩ | cases h
def idxE (fo fa : LS → R D) : LS → R D := fun st => (fo st).bind fun d => if isLst d = true then (fa st).bind fun e => .of (dFst d e) else .bad
section
variable {X : Cx} {cm : CM} {W : WH} {o e : Expr} {apos pos : Pos} {fo fa : LS → R D} {k : Nat}
theorem dFst_some {d e z : D} (h : dFst d e = some z) : ∃ ds ps p j, d = .lst ds ∧ (D.lst ds).py = some (.list ps) ∧ SeqAt.shaped (.list ps) = true ∧ e.py = some p ∧ SeqAt.shaped p = true ∧ fstIx (fun z => PyData.eqv z p) ps = some j ∧ z = .int (j : Nat) := by
  unfold dFst at h
  cases q1 : d.sh with
  | none => rw [q1] at h; cases h
  | some r =>
    cases q2 : e.sh with
    | none => rw [q1, q2] at h; cases r <;> cases h
    | some p =>
      rw [q1, q2] at h
      cases r <;> try (cases h; done)
      case list ps =>
        replace h : (fstIx (fun z => PyData.eqv z p) ps).map (fun j => D.int (j : Nat)) = some z := h
        cases q3 : fstIx (fun z => PyData.eqv z p) ps with
        | none => rw [q3] at h; cases h
        | some j =>
          rw [q3] at h
          cases h
          obtain ⟨a1, a2⟩ := D.sh_some q1
          obtain ⟨b1, b2⟩ := D.sh_some q2
          cases d <;> try (unfold D.py at a1; cases a1; done)
          case tup ds =>
            unfold D.py at a1
            cases q : D.pys ds with
            | none => rw [q] at a1; cases a1
            | some x => rw [q] at a1; cases a1
          case lst ds => exact ⟨ds, ps, p, j, rfl, a1, a2, b1, b2, q3, rfl⟩
theorem e_index (hr : Room k X.A) (ho : PE X o (VE X.K cm W fo)) (ha : PE X e (VE X.K cm W fa))
    (hbase : attributeBase o "index" X.env (eval o X.env) = eval o X.env := by rfl)
    (hfew : ((backTo pos (starEach [e] X.env)).all (fun x => !x.1) && (backToKw pos (keywordEach [] X.env)).all (fun x => x.1.isSome)
      && decide ([e].length + ([] : List Keyword).length + (if ([] : List Keyword).isEmpty then 0 else 1) < 30)) = true := by rfl)
    (hline : (apos.endLine == pos.line) = true := by rfl) (hs : starEach [e] X.env = (false, eval e X.env) :: starEach [] X.env := by rfl) (hplain : (backTo pos (starEach [] X.env)).any (·.1) = false := by rfl) :
    PE X (.Call (.Attribute o "index" apos) [e] [] pos) (E X.K cm W (idxE fo fa)) :=
  (pe_bm PySem.F.plainAttrs_list PySem.F.slot_list_index PySem.F.type_list_index (mt_indexD (by have := hr.un; omega)) ho (pa_cons ha pa_nil hs) hbase hfew hline hs hplain).imp fun σ H Q ⟨st, S, fp, rx, g⟩ => by
    refine ⟨st, S, fp, rx, g.bind.mono fun d S1 H1 x1 k1 v hv => ?_⟩
    replace k1 : Go X.K cm W (fun d S' H' => ∀ v, Rep X.K cm S' v d → Q v H') (if isLst d = true then (fa st).bind fun e => .of (dFst d e) else .bad) S1 H1 σ := k1
    split at k1
    · rename_i il
      obtain ⟨ds, rfl⟩ := isLst_some il
      have hv0 := hv
      obtain ⟨a, us, rfl, hl, ra⟩ := hv.lst x1.sh
      refine ⟨.inl ⟨rfl, us, SqL.of hl⟩, st, S1, fp, rx.ext x1, k1.bind.mono fun y S2 H2 x2 k2 u hu => ?_⟩
      obtain ⟨z, hz, k3⟩ := k2.of
      obtain ⟨ds', ps, p, j, e1, a1, a2, b1, b2, q3, rfl⟩ := dFst_some hz
      cases e1
      obtain ⟨⟨w, w1, w2⟩, w3⟩ := fstIx_some q3
      exact ⟨a, u, p, ps, j, w, rfl, rfl, (hv0.ext x2).dp x2.sh a1, hu.dp x2.sh b1, a2, b2, w1, w2, w3, k3 H2 S2 (Xt.refl x2.sh) _ (.int _)⟩
    · exact k1.elim
/-! ### gcd, divmod -/
end
end DI
namespace DI
open PySem PySem.Spec PyProof.Rows L2
end DI
end
section
set_option Elab.async false
set_option linter.all false
set_option maxRecDepth 100000
set_option maxHeartbeats 4000000
/-! DI: sorted(l), l a list of pairs of whole numbers. -/
namespace DI
open PySem PySem.Spec PyProof.Rows L2
/-! ### of data -/
end DI
end
section
set_option Elab.async false
set_option linter.all false
set_option maxRecDepth 100000
set_option maxHeartbeats 4000000
/-! DI: a name that holds a zip of three, walked at once behind it. -/
namespace DI
open PySem PySem.Spec PyProof.Rows L2
/-! ### cells that stand as they were made -/
/-! ### zip(..) as a value -/
/-! ### x = zip(..); return tuple([.. for .. in x]) -/
end DI
end
section
set_option Elab.async false
set_option linter.all false
set_option maxRecDepth 100000
set_option maxHeartbeats 3200000
/-! DI: sorted(set(t)), t a tuple of ints. -/
namespace DI
open PySem PySem.Spec PyProof.Rows L2
end DI
end
section
set_option Elab.async false
set_option linter.all false
set_option maxRecDepth 100000
set_option maxHeartbeats 2000000
/-! DI: name = {k: v for ..} on one line, the name a local. -/
namespace DI
open PySem PySem.Spec PyProof.Rows L2
section
variable {X : Cx} {cm : CM} {W : WH} {c : Fr}
theorem ps_setDc {i : Nat} {y : Str} {py : Pos} {kx vx tg iter : Expr} {ifs : List Expr} {scope : Scope} {own : List (Str × Nat)} {pos spos : Pos} {wi : TI} {g : TG} {tt : TT} {tk tv : TE} (hc : X.calm = true) (hN : X.N.Nodup) (hy : X.N[i]? = some y) (hyl : X.env.scope.names.lookup y = some .local)
    (hsw : swapsWith (.DictComp kx vx [⟨tg, iter, ifs, 0⟩] scope pos) (some (.Name y py)) spos.line X.env = pure true) (hi : PI X tg iter wi) (ok : BlkOk X.N X.env.scope scope own)
    (hg : BX X scope fun Y => PG Y tg g) (ht : BX X scope fun Y => PTs Y ifs tt) (hk : BX X scope fun Y => PE Y kx tk) (he : BX X scope fun Y => PE Y vx tv) (hs : ∀ x, foldedSetIterable iter X.env x = pure x := by intro _; rfl) :
    PS X (.Assign [.Name y py] (.DictComp kx vx [⟨tg, iter, ifs, 0⟩] scope pos) spos) (tAsg (tDc wi g tt tk tv (own.map (·.2))) (gName i)) := by
  refine ⟨fun pins s σ H D I h => ?_⟩
  rw [exec_Assign_Name_used _ _ _ _ hsw]
  refine wpAny_bind (wpAny_standAt (wpAny_bind ?_))
  show wpAny _ X.A (do let _ ← comprehension (.DictComp kx vx [⟨tg, iter, ifs, 0⟩] scope pos) scope X.env (firstIterPos [⟨tg, iter, ifs, 0⟩] pos) newDict false (eval iter X.env) (some (assign (.Name y py) X.env))) _ _ s
  have h : tDc wi g tt tk tv (own.map (·.2)) σ H (fun x H1 => gName i x σ H1 D.nx) := h
  refine wpAny_bind (thn (dc_core (Qf := fun _ s' => SP X pins D .next s') hc hN I hi ok hg ht hk he hs h fun L C s' m H' I' q hn f => ?_) fun _ s' hq => wpAny_pure (wpAny_pure hq))
  show wpAny _ _ (assign (.Name y py) X.env (.ref L)) _ _ _
  refine wpAny_assign_Name (store_ok2 (v := V.ref L) I' hN hy (.inl hyl) rfl (fun s2 I2 ⟨a, sb, ha⟩ => ?_) (.inr hyl))
  obtain ⟨f0, f1, f2, f3, f4, f5⟩ := f
  have haC : C ≠ a := by
    rcases ha with z | z
    · rw [z]; exact f1
    · exact fun e => f4 y a z e.symm
  refine ⟨m, hn.sameBut sb haC, fun h3 sb3 => ?_⟩
  exact ⟨_, H', I2.turned (t' := s2.toks) (fun b o hb e => (sb3.2 b hb).trans e) f0 f1 f3 f4 f5, q⟩
variable {fi : LS → R (List D)} {gg : D → LS → Option LS} {t : LS → R Bool} {fk fv : LS → R D} {kx vx tg iter : Expr} {ifs : List Expr} {scope : Scope} {own : List (Str × Nat)} {pos spos : Pos}
theorem s_setDcF [Free W] {i : Nat} {y : Str} {py : Pos} (hN : X.N.Nodup) (hy : X.N[i]? = some y) (hyl : X.env.scope.names.lookup y = some .local) (hsw : swapsWith (.DictComp kx vx [⟨tg, iter, ifs, 0⟩] scope pos) (some (.Name y py)) spos.line X.env = pure true)
    (hi : PI X tg iter (IV X.K cm W fi)) (ok : BlkOk X.N X.env.scope scope own) (hg : BX X scope fun Y => PG Y tg (GX X.K cm (own.map (·.2)) gg)) (ht : BX X scope fun Y => PTs Y ifs (TB X.K cm WF t)) (hk : BX X scope fun Y => PE Y kx (E X.K cm WF fk)) (he : BX X scope fun Y => PE Y vx (E X.K cm WF fv))
    (hc : X.calm = true := by rfl) (hs : ∀ x, foldedSetIterable iter X.env x = pure x := by intro _; rfl) (hfx : c.fix i = none := by rfl) : PS X (.Assign [.Name y py] (.DictComp kx vx [⟨tg, iter, ifs, 0⟩] scope pos) spos) (SX X.K cm W c (setF i (dctcF fi (own.map (·.2)) gg t fk fv))) :=
  (ps_setDc hc hN hy hyl hsw hi ok hg ht hk he hs).imp fun D σ H ⟨st, S, fp, r, p⟩ => dct_readsF ⟨st, S, fp, r.rx, Post.go r p fun t S' H' x q v fn hv nd fo => by
    have r2 := r.ext x
    obtain ⟨fp', a, b⟩ := r2.rx.set_ow hv nd (fun a m1 m2 => r.rx.sls.there a m2 (fo a m1).1) (fun a m => (fo a m).2) i
    refine q _ H' (RR.on ⟨a, r2.xt, fun y m => ?_, fx_set r2.fx hfx⟩)
    rcases b y m with m | m
    · exact r2.fr y m
    · exact r.xt.hh.free (fo y m).1⟩
end
end DI
end
section
set_option Elab.async false
set_option linter.all false
set_option maxRecDepth 100000
set_option maxHeartbeats 2000000
namespace FR
open PySem PySem.Spec PyProof.Rows L2 DI
def fl_around : List (Nat × Nat) := [(46, 2)]
def fl_lines : List (Nat × Nat) := [(32, 5), (35, 5), (45, 2), (46, 1)]
def fl_picture : List (Nat × Nat) := [(39, 1)]
def fl_size : List (Nat × Nat) := [(42, 1), (46, 0)]
def fl_web : List (Nat × Nat) := [(39, 0)]
def subL : List (Nat × Nat) := [(0, 0), (1, 1), (2, 2), (3, 3), (4, 4), (5, 5), (6, 6), (6, 5), (7, 7), (7, 5), (8, 8), (8, 5), (9, 9), (9, 5), (10, 10), (10, 5), (11, 11), (11, 5), (12, 12), (12, 5), (13, 13), (13, 5), (14, 14), (14, 5), (15, 15), (15, 5), (16, 16), (16, 5), (17, 17), (17, 5), (18, 18), (18, 5), (19, 19), (19, 5), (20, 20), (20, 5), (21, 21), (21, 5), (22, 22), (22, 21), (22, 5), (23, 23), (23, 21), (23, 5), (24, 24), (24, 21), (24, 5), (25, 25), (25, 21), (25, 5), (26, 26), (26, 21), (26, 5), (27, 27), (27, 21), (27, 5), (28, 28), (28, 21), (28, 5), (29, 29), (29, 21), (29, 5), (30, 30), (30, 21), (30, 5), (31, 31), (31, 21), (31, 5), (32, 32), (32, 35), (33, 33), (34, 34), (35, 35), (36, 36), (37, 37), (38, 38), (39, 39), (40, 40), (41, 41), (42, 42), (43, 43), (44, 44), (45, 45), (46, 46), (47, 47), (48, 48)]
def subC (a b : Nat) : Bool := subL.contains (a, b)
def xsL : List Nat := [10, 7, 12, 6]
def xl_place : List (Nat × Nat) := [(6, 0)]
def d__law_web : List D → R D := den 9 (seqS (setS 2 (callE dMin2 (consA (vi 1) (consA (bin dIdx (lstE (consA (cc (.int 5)) (consA (cc (.int 4)) (consA (cc (.int 6)) (consA (cc (.int 3)) (consA (cc (.int 5)) (consA (cc (.int 7)) (consA (cc (.int 4)) (consA (cc (.int 6)) (consA (cc (.int 2)) (consA (cc (.int 5)) (consA (cc (.int 1)) (consA (cc (.int 6)) (nilA)))))))))))))) (bin dIdx (vi 0) (cc (.int 0)))) (nilA)))))
  (seqS (setF 3 (lstF (nilA)))
  (seqS (forS (callI rng2 (consA (cc (.int 1)) (consA (vi 2) (nilA)))) (gN 4)
  (seqS (setS 5 (bin dIdx (lstE (consA (bin dSub (vi 4) (cc (.int 1))) (consA (bin dSub (vi 4) (cc (.int 1))) (consA (bin dSub (vi 4) (cc (.int 1))) (consA (cc (.int 0)) (consA (bin dDiv (vi 4) (cc (.int 2))) (consA (cc (.int 0)) (nilA)))))))) (bin dIdx (vi 0) (bin dMul (cc (.int 2)) (vi 4)))))
  (seqS (ifS (tb (bin dLt (bin dIdx (vi 0) (cc (.int 13))) (cc (.int 4))))
  (setS 5 (bin dSub (vi 4) (cc (.int 1))))
  (nilS))
  (ifS (tb (bin dLt (bin dIdx (vi 0) (bin dSub (bin dMul (cc (.int 2)) (vi 4)) (cc (.int 1)))) (cc (.int 19))))
  (appS 3 (fun st => ((tupE (consA (vi 5) (consA (vi 4) (nilA)))) st).bind fun d => .ok (.im d)))
  (nilS)))))
  (seqS (ifS (andB (tb (bin dGt (vi 2) (cc (.int 2)))) (tb (bin dLt (bin dIdx (vi 0) (cc (.int 13))) (cc (.int 6)))))
  (appS 3 (fun st => ((tupE (consA (cc (.int 0)) (consA (bin dSub (vi 2) (cc (.int 1))) (nilA)))) st).bind fun d => .ok (.im d)))
  (nilS))
  (seqS (forS (callI rng1 (consA (cc (.int 3)) (nilA))) (gN 4)
  (seqS (setS 6 (bin dMod (bin dIdx (vi 0) (bin dAdd (cc (.int 14)) (bin dMul (cc (.int 2)) (vi 4)))) (vi 2)))
  (seqS (setS 7 (bin dMod (bin dIdx (vi 0) (bin dAdd (cc (.int 15)) (bin dMul (cc (.int 2)) (vi 4)))) (vi 2)))
  (ifS (andB (tb (bin dLt (vi 6) (vi 7))) (tb (bin dGt (bin dIdx (vi 0) (bin dAdd (cc (.int 15)) (bin dMul (cc (.int 2)) (vi 4)))) (cc (.int 2)))))
  (appS 3 (fun st => ((tupE (consA (vi 6) (consA (vi 7) (nilA)))) st).bind fun d => .ok (.im d)))
  (nilS)))))
  (seqS (setF 8 (lstF (nilA)))
  (seqS (forS (callI rng1 (consA (vi 2) (nilA))) (gN 6)
  (forS (callI rng2 (consA (bin dAdd (vi 6) (cc (.int 1))) (consA (vi 2) (nilA)))) (gN 7)
  (frzS 3 (ifS (tb (bin dIn (tupE (consA (vi 6) (consA (vi 7) (nilA)))) (vi 3)))
  (appS 8 (fun st => ((tupE (consA (vi 6) (consA (vi 7) (nilA)))) st).bind fun d => .ok (.im d)))
  (nilS)))))
  (frzS 8 (retS (lstE (consA (vi 2) (consA (vi 8) (nilA)))))))))))))
def d__law_digits : List D → R D := den 8 (seqS (setF 2 (lstF (nilA)))
  (seqS (setS 3 (callE dToInt (consA (vi 0) (nilA))))
  (seqS (ifS (tb (bin dGe (vi 3) (bin dPow (cc (.int 10)) (cc (.int 18)))))
  (seqS (setS 3 (bin dSub (vi 3) (bin dPow (cc (.int 10)) (cc (.int 18)))))
  (seqS (forS (items (vi 1)) (gN 4)
  (seqS (appS 2 (fun st => ((bin dMod (callE dToInt (consA (vi 3) (nilA))) (vi 4)) st).bind fun d => .ok (.im d)))
  (setS 3 (bin dDiv (callE dToInt (consA (vi 3) (nilA))) (vi 4)))))
  (frzS 2 (retS (vi 2)))))
  (nilS))
  (seqS (setS 5 (bin dMod (callE dToInt (consA (vi 3) (nilA))) (cc (.int 2147483629))))
  (seqS (forS (callI rng1 (consA (callE dLen (consA (vi 1) (nilA))) (nilA))) (gN 6)
  (seqS (setS 5 (bin dMod (callE dToInt (consA (bin dAdd (bin dAdd (bin dMul (vi 5) (cc (.int 48271))) (bin dMul (cc (.int 974711)) (vi 6))) (cc (.int 12345))) (nilA))) (cc (.int 2147483647))))
  (seqS (setS 7 (bin dMod (callE dToInt (consA (bin dMul (vi 5) (bin dAdd (bin dDiv (vi 5) (cc (.int 65537))) (cc (.int 3)))) (nilA))) (cc (.int 2147483629))))
  (appS 2 (fun st => ((bin dMod (bin dDiv (vi 7) (cc (.int 19))) (bin dIdx (vi 1) (vi 6))) st).bind fun d => .ok (.im d))))))
  (frzS 2 (retS (vi 2))))))))
def d__law_cell : List D → R D := den 4 (seqS (ifS (tb (bin dLt (vi 1) (callE dLen (consA (vi 0) (nilA)))))
  (retS (bin dIdx (vi 0) (vi 1)))
  (nilS))
  (seqS (setS 2 (cc (.int 17)))
  (seqS (forS (items (vi 0)) (gN 3)
  (setS 2 (bin dMod (callE dToInt (consA (bin dAdd (bin dMul (vi 2) (cc (.int 31))) (bin dMod (callE dToInt (consA (vi 3) (nilA))) (cc (.int 1000003)))) (nilA))) (cc (.int 1000003)))))
  (retS (bin dMod (callE dToInt (consA (bin dMul (bin dMul (bin dAdd (vi 2) (cc (.int 7))) (bin dAdd (vi 1) (cc (.int 3)))) (cc (.int 69621))) (nilA))) (cc (.int 2147483647)))))))
def d__law_picture : List D → R D := den 3 (seqS (ifS (andB (tb (bin dGe (bin dIdx (vi 0) (cc (.int 0))) (cc (.int 4)))) (tb (bin dLe (bin dIdx (vi 0) (cc (.int 0))) (cc (.int 7)))))
  (retS (callE dTuple (consA (compE (callI rng1 (consA (vi 1) (nilA))) [2] (gN 2) (yesT) (bin dMod (callE dToInt (consA (bin dAdd (vi 2) (bin dIdx (vi 0) (cc (.int 1)))) (nilA))) (cc (.int 3)))) (nilA))))
  (nilS))
  (seqS (ifS (tb (bin dEq (bin dIdx (vi 0) (cc (.int 0))) (cc (.int 8))))
  (retS (callE dTuple (consA (compE (callI rng1 (consA (vi 1) (nilA))) [2] (gN 2) (yesT) (bin dMul (bin dMod (callE dToInt (consA (bin dAdd (vi 2) (bin dIdx (vi 0) (cc (.int 1)))) (nilA))) (cc (.int 3))) (callE dToInt (consA (bin dNe (vi 2) (bin dAdd (bin dIdx (vi 0) (cc (.int 2))) (cc (.int 1)))) (nilA))))) (nilA))))
  (nilS))
  (seqS (ifS (tb (bin dEq (bin dIdx (vi 0) (cc (.int 0))) (cc (.int 9))))
  (retS (callE dTuple (consA (compE (callI rng1 (consA (vi 1) (nilA))) [2] (gN 2) (yesT) (callE dToInt (consA (bin dEq (vi 2) (bin dIdx (vi 0) (cc (.int 1)))) (nilA)))) (nilA))))
  (nilS))
  (retS (callE dTuple (consA (compE (callI rng1 (consA (vi 1) (nilA))) [2] (gN 2) (yesT) (bin dIdx (vi 0) (bin dAdd (cc (.int 2)) (vi 2)))) (nilA)))))))
def d__law_scene : List D → R D := den 5 (seqS (setS 3 (callU (ar 2 d__law_web) [] (consA (callU (ar 2 d__law_digits) [] (consA (callU (ar 2 d__law_cell) [] (consA (vi 0) (consA (vi 1) (nilA)))) (consA (bin dAdd (bin dAdd (bin dAdd (lstE (consA (cc (.int 12)) (nilA))) (bin dMul (lstE (consA (cc (.int 20)) (consA (cc (.int 6)) (nilA)))) (cc (.int 6)))) (lstE (consA (cc (.int 8)) (nilA)))) (bin dMul (lstE (consA (cc (.int 8)) (consA (cc (.int 8)) (nilA)))) (cc (.int 3)))) (nilA)))) (consA (vi 2) (nilA)))))
  (seqS (setS 4 (callU (ar 2 d__law_picture) [] (consA (callU (ar 2 d__law_digits) [] (consA (callU (ar 2 d__law_cell) [] (consA (vi 0) (consA (bin dAdd (vi 1) (cc (.int 1))) (nilA)))) (consA (bin dAdd (lstE (consA (cc (.int 10)) (consA (cc (.int 3)) (nilA)))) (bin dMul (lstE (consA (cc (.int 3)) (nilA))) (cc (.int 7)))) (nilA)))) (consA (bin dIdx (vi 3) (cc (.int 0))) (nilA)))))
  (retS (lstE (consA (bin dIdx (vi 3) (cc (.int 0))) (consA (bin dIdx (vi 3) (cc (.int 1))) (consA (vi 4) (nilA))))))))
def d__law_near : List D → R D := den 6 (seqS (setF 3 (compTF (callI rng1 (consA (vi 0) (nilA))) [2] (gN 2) (yesT) (lstF (nilA))))
  (seqS (forS (items (vi 1)) (gN 4)
  (seqS (appPS 3 (bin dIdx (vi 4) (cc (.int 0))) (fun st => ((bin dIdx (vi 4) (cc (.int 1))) st).bind fun d => .ok (.im d)))
  (appPS 3 (bin dIdx (vi 4) (cc (.int 1))) (fun st => ((bin dIdx (vi 4) (cc (.int 0))) st).bind fun d => .ok (.im d)))))
  (frzS 3 (retS (compE (items (vi 3)) [5] (gN 5) (yesT) (callE (fun ds => dL (dSortF ds)) (consA (vi 5) (nilA))))))))
def d_frozen : Nat → List D → R D
  | 0 => fun _ => .bad
  | k + 1 => den 2 (seqS (ifS (tb (un (dIs subC [.b .list, .b .tuple]) (vi 0)))
  (retS (callE dTuple (consA (compE (items (vi 0)) [1] (gN 1) (yesT) (callU (ar 1 (d_frozen k)) [] (consA (vi 1) (nilA)))) (nilA))))
  (nilS))
  (retS (vi 0)))
def d_Scene___init__ : List D → R (List D) := denI 5 39 (seqS (setS 3 (callU (ar 1 (d_frozen 6)) [] (consA (vi 2) (nilA))))
  (seqS (forS (callI rng1 (consA (callE dMax2 (consA (un (dFld fl_size) (vi 1)) (consA (callE dLen (consA (vi 3) (nilA))) (nilA)))) (nilA))) (gN 4)
  (ifS (orB (tb (bin dGe (vi 4) (un (dFld fl_size) (vi 1)))) (orB (tb (bin dGe (vi 4) (callE dLen (consA (vi 3) (nilA))))) (tb (bin dNotIn (bin dIdx (vi 3) (vi 4)) (tupE (consA (cc (.int 0)) (consA (cc (.int 1)) (consA (cc (.int 2)) (nilA)))))))))
  (raise1S 10 (vi 4))
  (nilS)))
  (seqS (slfS 0 39 0 (vi 1))
  (slfS 0 39 1 (vi 3)))))
def d_checked_lines : List D → R D := den 5 (seqS (forS (enumI (consA (vi 1) (nilA))) (gT 2 (gsCons (gN 2) (gsCons (gT 2 (gsCons (gN 3) (gsCons (gN 4) (gsNil)))) (gsNil))))
  (ifS (orB (tb (bin dEq (vi 3) (vi 4))) (orB (notB (tb (chain dLe dLt (cc (.int 0)) (vi 3) (vi 0)))) (notB (tb (chain dLe dLt (cc (.int 0)) (vi 4) (vi 0))))))
  (raise1S 7 (vi 2))
  (nilS)))
  (retS (callE dTuple (consA (callE (fun ds => dL (dSortU ds)) (consA (setE (items (vi 1)) [3, 4] (gT 2 (gsCons (gN 3) (gsCons (gN 4) (gsNil)))) (yesT) (tupE (consA (callE dMin2 (consA (vi 3) (consA (vi 4) (nilA)))) (consA (callE dMax2 (consA (vi 3) (consA (vi 4) (nilA)))) (nilA))))) (nilA))) (nilA)))))
def d_neighbour_rows : List D → R D := den 7 (seqS (setF 3 (compTF (callI rng1 (consA (vi 0) (nilA))) [2] (gN 2) (yesT) (lstF (nilA))))
  (seqS (forS (items (vi 1)) (gT 2 (gsCons (gN 4) (gsCons (gN 5) (gsNil))))
  (seqS (appPS 3 (vi 4) (fun st => ((vi 5) st).bind fun d => .ok (.im d)))
  (appPS 3 (vi 5) (fun st => ((vi 4) st).bind fun d => .ok (.im d)))))
  (frzS 3 (retS (callE dTuple (consA (compE (items (vi 3)) [6] (gN 6) (yesT) (callE dTuple (consA (callE (fun ds => dL (dSortF ds)) (consA (vi 6) (nilA))) (nilA)))) (nilA)))))))
def d_Web___init__ : List D → R (List D) := denI 3 46 (seqS (slfS 0 46 0 (vi 1))
  (seqS (slfS 0 46 1 (callU (ar 2 d_checked_lines) [] (consA (vi 1) (consA (callU (ar 1 (d_frozen 6)) [] (consA (vi 2) (nilA))) (nilA)))))
  (slfS 0 46 2 (callU (ar 2 d_neighbour_rows) [] (consA (vi 1) (consA (slfE 0 46 1) (nilA)))))))
def d__law_pieces : List D → R D := den 7 (seqS (setF 1 (lstF (nilA)))
  (seqS (setF 2 (lstF (nilA)))
  (seqS (forS (callI rng1 (consA (callE dLen (consA (vi 0) (nilA))) (nilA))) (gN 3)
  (ifS (tb (bin dNotIn (vi 3) (vv 2)))
  (seqS (setF 4 (lstF (consA (vi 3) (nilA))))
  (seqS (forS (callI rng1 (consA (callE dLen (consA (vi 0) (nilA))) (nilA))) (gN 5)
  (ifS (tb (bin dLt (vi 5) (callE dLen (consA (vv 4) (nilA)))))
  (extS 4 (compE (items (bin dIdx (vi 0) (bin dIdx (vv 4) (vi 5)))) [6] (gN 6) (tb (bin dNotIn (vi 6) (vv 4))) (vi 6)))
  (nilS)))
  (seqS (frzS 4 (extS 2 (vi 4)))
  (appS 1 (fun st => ((callE (fun ds => dL (dSortF ds)) (consA (vi 4) (nilA))) st).bind fun d => .ok (.im d))))))
  (nilS)))
  (frzS 1 (retS (vi 1))))))
def d__law_step : List D → R D := den 8 (seqS (setF 3 (lstF (nilA)))
  (seqS (forS (callI rng1 (consA (callE dLen (consA (vi 1) (nilA))) (nilA))) (gN 4)
  (seqS (setS 5 (bin dIdx (vi 1) (vi 4)))
  (ifS (tb (bin dGt (vi 5) (cc (.int 0))))
  (appS 3 (fun st => ((bin dIdx (lstE (consA (cc (.int 0)) (consA (cc (.int 2)) (consA (cc (.int 0)) (nilA))))) (vi 5)) st).bind fun d => .ok (.im d)))
  (seqS (setS 7 (compE (items (bin dIdx (vi 0) (vi 4))) [6] (gN 6) (tb (bin dEq (bin dIdx (vi 1) (vi 6)) (cc (.int 1)))) (vi 6)))
  (appS 3 (fun st => ((callE dToInt (consA (orE (bin dGt (callE dLen (consA (vi 7) (nilA))) (cc (.int 0))) (bin dIn (vi 4) (vi 2))) (nilA))) st).bind fun d => .ok (.im d)))))))
  (frzS 3 (retS (callE dTuple (consA (vi 3) (nilA)))))))
def d__law_round : List D → R D := den 10 (seqS (setF 4 (lstF (consA (callE dTuple (consA (vi 1) (nilA))) (nilA))))
  (seqS (setF 5 (nlitF (tupE (consA (callE dTuple (consA (vi 1) (nilA))) (consA (cc (.int 0)) (nilA)))) (cc (.int 0))))
  (seqS (forS (callI rng1 (consA (cc (.int 20000)) (nilA))) (gN 6)
  (seqS (setS 8 (callU (ar 3 d__law_step) [] (consA (vi 0) (consA (bin dIdx (vv 4) (vi 6)) (consA (compE (items (vi 3)) [7] (gN 7) (tb (bin dEq (bin dIdx (vi 7) (cc (.int 0))) (bin dMod (vi 6) (vi 2)))) (bin dIdx (vi 7) (cc (.int 1)))) (nilA))))))
  (seqS (setS 9 (tupE (consA (vi 8) (consA (bin dMod (callE dToInt (consA (bin dAdd (vi 6) (cc (.int 1))) (nilA))) (vi 2)) (nilA)))))
  (seqS (ifS (tb (ninE false 5 (vi 9)))
  (frzS 4 (retS (lstE (consA (nixE 5 (vi 9)) (consA (bin dSub (bin dAdd (vi 6) (cc (.int 1))) (nixE 5 (vi 9))) (consA (vi 4) (nilA)))))))
  (nilS))
  (seqS (nputS 5 (vi 9) (bin dAdd (vi 6) (cc (.int 1))))
  (appS 4 (fun st => ((vi 8) st).bind fun d => .ok (.im d))))))))
  (frzS 4 (retS (lstE (consA (cc (.int 0)) (consA (cc (.int 0)) (consA (vi 4) (nilA))))))))))
def d__law_lowest : List D → R D := den 6 (seqS (setS 2 (vi 1))
  (seqS (setS 3 (vi 0))
  (seqS (forS (callI rng1 (consA (cc (.int 400)) (nilA))) (gN 4)
  (ifS (tb (bin dGt (vi 3) (cc (.int 0))))
  (seqS (setS 5 (bin dMod (callE dToInt (consA (vi 2) (nilA))) (vi 3)))
  (seqS (setS 2 (vi 3))
  (setS 3 (vi 5))))
  (nilS)))
  (retS (tupE (consA (bin dDiv (vi 0) (vi 2)) (consA (bin dDiv (vi 1) (vi 2)) (nilA))))))))
def d__law_counts : List D → R D := den 3 (retS (compE (callI rng1 (consA (callE dLen (consA (bin dIdx (vi 0) (cc (.int 0))) (nilA))) (nilA))) [1] (gN 1) (yesT) (callE dLen (consA (compE (items (slE (vi 0) (partI (cc (.int 1))) (partN))) [2] (gN 2) (tb (bin dEq (bin dIdx (vi 2) (vi 1)) (cc (.int 1)))) (vi 2)) (nilA)))))
def d__law_gains : List D → R D := den 4 (seqS (setS 1 (callU (ar 1 d__law_counts) [] (consA (slE (bin dIdx (vi 0) (cc (.int 2))) (partN) (partI (bin dAdd (bin dIdx (vi 0) (cc (.int 0))) (cc (.int 1))))) (nilA))))
  (seqS (setS 2 (callU (ar 1 d__law_counts) [] (consA (bin dAdd (bin dIdx (vi 0) (cc (.int 2))) (lstE (consA (bin dIdx (bin dIdx (vi 0) (cc (.int 2))) (bin dIdx (vi 0) (cc (.int 0)))) (nilA)))) (nilA))))
  (retS (compE (callI rng1 (consA (callE dLen (consA (vi 1) (nilA))) (nilA))) [3] (gN 3) (yesT) (bin dSub (bin dIdx (vi 2) (vi 3)) (bin dIdx (vi 1) (vi 3)))))))
def d__law_share : List D → R D := den 8 (seqS (setS 5 (compE (items (vi 2)) [3] (gN 3) (yesT) (compE (items (bin dIdx (vi 0) (vi 3))) [4] (gN 4) (yesT) (idxE (vi 2) (vi 4)))))
  (seqS (setS 7 (callU (ar 4 d__law_round) [] (consA (vi 5) (consA (compE (items (vi 2)) [6] (gN 6) (yesT) (bin dIdx (vi 1) (vi 6))) (consA (cc (.int 1)) (consA (lstE (nilA)) (nilA)))))))
  (retS (callU (ar 2 d__law_lowest) [] (consA (bin dIdx (callU (ar 1 d__law_gains) [] (consA (vi 7) (nilA))) (cc (.int 0))) (consA (bin dIdx (vi 7) (cc (.int 1))) (nilA)))))))
def d__law_rings : List D → R D := den 11 (seqS (setS 1 (callE dLen (consA (vi 0) (nilA))))
  (seqS (setF 3 (lstF (consA (bin dAdd (compE (callI rng1 (consA (vi 1) (nilA))) [2] (gN 2) (yesT) (vi 2)) (lstE (consA (cc (.int 0)) (nilA)))) (consA (bin dAdd (compE (callI rng1 (consA (vi 1) (nilA))) [2] (gN 2) (yesT) (bin dSub (bin dSub (vi 1) (cc (.int 1))) (vi 2))) (lstE (consA (bin dSub (vi 1) (cc (.int 1))) (nilA)))) (nilA)))))
  (seqS (forS (callI rng1 (consA (vi 1) (nilA))) (gN 4)
  (forS (items (slE (bin dIdx (vi 0) (vi 4)) (partN) (partI (cc (.int 2))))) (gN 5)
  (seqS (appS 3 (fun st => ((lstE (consA (vi 4) (consA (vi 5) (consA (vi 4) (nilA))))) st).bind fun d => .ok (.im d)))
  (extS 3 (compE (items (bin dIdx (vi 0) (vi 5))) [6] (gN 6) (tb (bin dIn (vi 4) (bin dIdx (vi 0) (vi 6)))) (lstE (consA (vi 4) (consA (vi 5) (consA (vi 6) (consA (vi 4) (nilA)))))))))))
  (seqS (frzS 3 (setF 7 (callF dListF (consA (slE (vi 3) (partN) (partI (cc (.int 12)))) (nilA)))))
  (seqS (forS (items (bin dAdd (slE (compE (items (vi 3)) [8] (gN 8) (tb (bin dGt (callE dLen (consA (vi 8) (nilA))) (cc (.int 3)))) (vi 8)) (partN) (partI (cc (.int 4)))) (slE (vi 3) (partI (cc (.int 2))) (partI (cc (.int 4)))))) (gN 9)
  (seqS (extS 7 (lstE (consA (bin dAdd (vi 9) (slE (vi 9) (partI (cc (.int 1))) (partN))) (consA (slE (vi 9) (partN) (partI (bin dSub (callE dLen (consA (vi 9) (nilA))) (cc (.int 1))))) (consA (compE (items (vi 9)) [10] (gN 10) (yesT) (bin dSub (vi 10) (bin dMul (vi 1) (callE dToInt (consA (bin dEq (vi 10) (bin dIdx (vi 9) (cc (.int 0)))) (nilA)))))) (nilA))))))
  (seqS (appS 7 (fun st => ((compE (items (vi 9)) [10] (gN 10) (yesT) (bin dAdd (vi 10) (bin dMul (vi 1) (callE dToInt (consA (bin dEq (vi 10) (bin dIdx (vi 9) (cc (.int 1)))) (nilA)))))) st).bind fun d => .ok (.im d)))
  (extS 7 (compE (items (slE (bin dIdx (vi 0) (bin dIdx (vi 9) (cc (.int 0)))) (partN) (partI (cc (.int 1))))) [5] (gN 5) (yesT) (bin dAdd (vi 9) (lstE (consA (vi 5) (consA (bin dIdx (vi 9) (cc (.int 0))) (nilA))))))))))
  (frzS 7 (retS (bin dAdd (vi 7) (lstE (consA (lstE (nilA)) (consA (lstE (consA (cc (.int 0)) (nilA))) (consA (lstE (consA (cc (.int 0)) (consA (cc (.int 9)) (consA (cc (.int 0)) (nilA))))) (consA (lstE (consA (bin dSub (cc (.int 0)) (cc (.int 1))) (consA (cc (.int 0)) (consA (bin dSub (cc (.int 0)) (cc (.int 1))) (nilA))))) (consA (lstE (consA (cc (.int 0)) (consA (bin dPow (cc (.int 10)) (cc (.int 30))) (consA (cc (.int 0)) (nilA))))) (nilA)))))))))))))))
def d__law_whole : List D → R D := den 1 (retS (andE (un (dIs subC [.b .int]) (vi 0)) (notE (un (dIs subC [.b .bool]) (vi 0)))))
def d__law_is_walk : List D → R D := den 3 (seqS (ifS (orB (notB (tb (un (dIs subC [.b .tuple]) (vi 1)))) (tb (bin dEq (callE dLen (consA (vi 1) (nilA))) (cc (.int 0)))))
  (retS (cc (.bl false)))
  (nilS))
  (seqS (forS (callI rng1 (consA (callE dLen (consA (vi 1) (nilA))) (nilA))) (gN 2)
  (seqS (ifS (orB (notB (tb (callU (ar 1 d__law_whole) [] (consA (bin dIdx (vi 1) (vi 2)) (nilA))))) (orB (tb (bin dLt (bin dIdx (vi 1) (vi 2)) (cc (.int 0)))) (tb (bin dGe (bin dIdx (vi 1) (vi 2)) (callE dLen (consA (vi 0) (nilA)))))))
  (retS (cc (.bl false)))
  (nilS))
  (ifS (andB (tb (bin dGt (vi 2) (cc (.int 0)))) (tb (bin dNotIn (bin dIdx (vi 1) (vi 2)) (bin dIdx (vi 0) (bin dIdx (vi 1) (bin dSub (vi 2) (cc (.int 1))))))))
  (retS (cc (.bl false)))
  (nilS))))
  (retS (cc (.bl true)))))
def d__law_sum : List D → R D := den 3 (retS (callE dSum (consA (compE (callI rng1 (consA (bin dSub (callE dLen (consA (vi 1) (nilA))) (cc (.int 1))) (nilA))) [2] (gN 2) (yesT) (bin dIdx (bin dIdx (vi 0) (bin dIdx (vi 1) (vi 2))) (bin dIdx (vi 1) (bin dAdd (vi 2) (cc (.int 1)))))) (nilA))))
def d__law_lead : List D → R D := den 2 (retS (bin dSub (callE dToInt (consA (andE (bin dEq (vi 0) (cc (.int 0))) (bin dEq (vi 1) (cc (.int 1)))) (nilA))) (callE dToInt (consA (andE (bin dEq (vi 0) (cc (.int 1))) (bin dEq (vi 1) (cc (.int 0)))) (nilA)))))
def d__law_lead_rows : List D → R D := den 3 (retS (compE (items (vi 0)) [1] (gN 1) (yesT) (compE (items (vi 0)) [2] (gN 2) (yesT) (callU (ar 2 d__law_lead) [] (consA (vi 1) (consA (vi 2) (nilA)))))))
def d__law_own_pairs : List D → R D := den 5 (seqS (setS 3 (callE dMax2 (consA (cc (.int 1)) (consA (bin dSub (callE dLen (consA (vi 2) (nilA))) (cc (.int 1))) (nilA)))))
  (seqS (ifS (orB (notB (tb (callU (ar 2 d__law_is_walk) [] (consA (vi 0) (consA (callE dTuple (consA (vi 2) (nilA))) (nilA)))))) (tb (bin dLt (callE dLen (consA (vi 2) (nilA))) (cc (.int 2)))))
  (retS (lstE (consA (tupE (consA (cc (.int 0)) (consA (vi 3) (nilA)))) (consA (tupE (consA (cc (.int 1)) (consA (vi 3) (nilA)))) (consA (tupE (consA (cc (.int 2)) (consA (vi 3) (nilA)))) (nilA))))))
  (nilS))
  (seqS (setS 4 (callU (ar 2 d__law_sum) [] (consA (callU (ar 1 d__law_lead_rows) [] (consA (vi 1) (nilA))) (consA (vi 2) (nilA)))))
  (seqS (ifS (tb (bin dLt (vi 4) (cc (.int 0))))
  (retS (lstE (consA (tupE (consA (bin dSub (cc (.int 0)) (vi 4)) (consA (vi 3) (nilA)))) (nilA))))
  (nilS))
  (retS (lstE (consA (tupE (consA (vi 4) (consA (vi 3) (nilA)))) (consA (tupE (consA (bin dMul (cc (.int 2)) (vi 4)) (consA (bin dMul (cc (.int 2)) (vi 3)) (nilA)))) (consA (tupE (consA (bin dAdd (vi 4) (cc (.int 1))) (consA (vi 3) (nilA)))) (nilA))))))))))
def d__law_has_share : List D → R D := den 5 (seqS (ifS (orB (notB (tb (callU (ar 2 d__law_is_walk) [] (consA (vi 0) (consA (vi 2) (nilA)))))) (orB (tb (bin dLt (callE dLen (consA (vi 2) (nilA))) (cc (.int 2)))) (tb (bin dNe (bin dIdx (vi 2) (cc (.int 0))) (bin dIdx (vi 2) (bin dSub (callE dLen (consA (vi 2) (nilA))) (cc (.int 1))))))))
  (retS (cc (.bl false)))
  (nilS))
  (retS (bin dEq (bin dMul (vi 4) (callU (ar 2 d__law_sum) [] (consA (callU (ar 1 d__law_lead_rows) [] (consA (vi 1) (nilA))) (consA (vi 2) (nilA))))) (bin dMul (vi 3) (bin dSub (callE dLen (consA (vi 2) (nilA))) (cc (.int 1)))))))
def d__law_agree : List D → R D := den 2 (retS (orE (andE (bin dIsBl (vi 0) (cc (.bl true))) (vi 1)) (andE (bin dIsBl (vi 0) (cc (.bl false))) (notE (vi 1)))))
def d_is_walk : List D → R D := den 4 (seqS (forS (enumI (consA (vi 1) (nilA))) (gT 2 (gsCons (gN 2) (gsCons (gN 3) (gsNil))))
  (seqS (ifS (notB (tb (chain dLe dLt (cc (.int 0)) (vi 3) (un (dFld fl_size) (vi 0)))))
  (retS (cc (.bl false)))
  (nilS))
  (ifS (andB (tb (bin dGt (vi 2) (cc (.int 0)))) (tb (bin dNotIn (vi 3) (bin dIdx (un (dFld fl_around) (vi 0)) (bin dIdx (vi 1) (bin dSub (vi 2) (cc (.int 1))))))))
  (retS (cc (.bl false)))
  (nilS))))
  (retS (bin dGt (callE dLen (consA (vi 1) (nilA))) (cc (.int 0)))))
def d_is_ring : List D → R D := den 2 (retS (andE (callU (ar 2 d_is_walk) [] (consA (vi 0) (consA (vi 1) (nilA)))) (andE (bin dGt (callE dLen (consA (vi 1) (nilA))) (cc (.int 1))) (bin dEq (bin dIdx (vi 1) (cc (.int 0))) (bin dIdx (vi 1) (un dNeg (cc (.int 1))))))))
def d_check_walk : List D → R D := den 4 (seqS (ifS (tb (bin dEq (callE dLen (consA (vi 1) (nilA))) (cc (.int 0))))
  (raise1S 12 (cc (.int 0)))
  (nilS))
  (forS (enumI (consA (vi 1) (nilA))) (gT 2 (gsCons (gN 2) (gsCons (gN 3) (gsNil))))
  (seqS (ifS (notB (tb (chain dLe dLt (cc (.int 0)) (vi 3) (un (dFld fl_size) (vi 0)))))
  (raise1S 12 (vi 2))
  (nilS))
  (ifS (andB (tb (bin dGt (vi 2) (cc (.int 0)))) (tb (bin dNotIn (vi 3) (bin dIdx (un (dFld fl_around) (vi 0)) (bin dIdx (vi 1) (bin dSub (vi 2) (cc (.int 1))))))))
  (raise1S 12 (vi 2))
  (nilS)))))
def d_state_lead : List D → R D := den 2 (seqS (ifS (andB (tb (bin dEq (vi 0) (cc (.int 0)))) (tb (bin dEq (vi 1) (cc (.int 1)))))
  (retS (cc (.int 1)))
  (nilS))
  (seqS (ifS (andB (tb (bin dEq (vi 0) (cc (.int 1)))) (tb (bin dEq (vi 1) (cc (.int 0)))))
  (retS (un dNeg (cc (.int 1))))
  (nilS))
  (retS (cc (.int 0)))))
def d_lead_sum : List D → R D := den 6 (seqS (dropS (callU (ar 2 d_check_walk) [] (consA (un (dFld fl_web) (vi 0)) (consA (vi 1) (nilA)))))
  (seqS (setS 3 (compE (items (vi 1)) [2] (gN 2) (yesT) (bin dIdx (un (dFld fl_picture) (vi 0)) (vi 2))))
  (retS (callE dSum (consA (compE (zipI (consA (vi 3) (consA (slE (vi 3) (partI (cc (.int 1))) (partN)) (nilA)))) [4, 5] (gT 2 (gsCons (gN 4) (gsCons (gN 5) (gsNil)))) (yesT) (callU (ar 2 d_state_lead) [] (consA (vi 4) (consA (vi 5) (nilA))))) (nilA))))))
def d_is_share_ring : List D → R D := den 3 (seqS (ifS (notB (tb (callU (ar 2 d_is_ring) [] (consA (un (dFld fl_web) (vi 0)) (consA (vi 2) (nilA))))))
  (retS (cc (.bl false)))
  (nilS))
  (retS (bin dEq (bin dMul (bin dIdx (vi 1) (cc (.int 1))) (callU (ar 2 d_lead_sum) [] (consA (vi 0) (consA (vi 2) (nilA))))) (bin dMul (bin dIdx (vi 1) (cc (.int 0))) (bin dSub (callE dLen (consA (vi 2) (nilA))) (cc (.int 1)))))))
def d__law_rings_asked : List D → R D := den 8 (seqS (setS 4 (callU (ar 1 d__law_rings) [] (consA (vi 1) (nilA))))
  (seqS (forS (items (vi 4)) (gN 5)
  (forS (items (bin dAdd (vi 3) (callU (ar 3 d__law_own_pairs) [] (consA (vi 1) (consA (vi 2) (consA (vi 5) (nilA))))))) (gN 6)
  (seqS (setS 7 (callU (ar 5 d__law_has_share) [] (consA (vi 1) (consA (vi 2) (consA (callE dTuple (consA (vi 5) (nilA))) (consA (bin dIdx (vi 6) (cc (.int 0))) (consA (bin dIdx (vi 6) (cc (.int 1))) (nilA))))))))
  (seqS (ifS (notB (tb (callU (ar 2 d__law_agree) [] (consA (callU (ar 3 d_is_share_ring) [] (consA (vi 0) (consA (vi 6) (consA (vi 5) (nilA))))) (consA (vi 7) (nilA))))))
  (retS (cc (.bl false)))
  (nilS))
  (ifS (notB (tb (callU (ar 2 d__law_agree) [] (consA (callU (ar 3 d_is_share_ring) [] (consA (vi 0) (consA (callE (fun ds => dL (dListF ds)) (consA (vi 6) (nilA))) (consA (callE dTuple (consA (vi 5) (nilA))) (nilA))))) (consA (vi 7) (nilA))))))
  (retS (cc (.bl false)))
  (nilS))))))
  (retS (bin dEq (vi 4) (callU (ar 1 d__law_rings) [] (consA (vi 1) (nilA)))))))
def d__law_grown : List D → R D := den 11 (seqS (setF 6 (compF (items (vi 2)) [5] (gN 5) (yesT) (cc (.int 0))))
  (seqS (forS (callI rng1 (consA (callE dLen (consA (vi 2) (nilA))) (nilA))) (gN 7)
  (forS (callI rng1 (consA (callE dLen (consA (vi 2) (nilA))) (nilA))) (gN 8)
  (forS (items (bin dIdx (vi 0) (bin dIdx (vi 2) (vi 8)))) (gN 9)
  (seqS (setS 10 (bin dAdd (bin dSub (bin dMul (vi 4) (callU (ar 2 d__law_lead) [] (consA (bin dIdx (vi 1) (bin dIdx (vi 2) (vi 8))) (consA (bin dIdx (vi 1) (vi 9)) (nilA))))) (vi 3)) (bin dIdx (vv 6) (idxE (vi 2) (vi 9)))))
  (setIS 6 (fun st => ((callE dMax2 (consA (bin dIdx (vv 6) (vi 8)) (consA (vi 10) (nilA)))) st).bind fun d => .ok (.im d)) (vi 8))))))
  (frzS 6 (retS (vi 6)))))
def d__law_slope : List D → R D := den 9 (seqS (ifS (tb (bin dNe (callE dLen (consA (vi 3) (nilA))) (callE dLen (consA (vi 2) (nilA)))))
  (retS (cc (.bl false)))
  (nilS))
  (seqS (forS (items (vi 2)) (gN 6)
  (forS (items (bin dIdx (vi 0) (vi 6))) (gN 7)
  (seqS (setS 8 (bin dSub (bin dIdx (vi 3) (idxE (vi 2) (vi 6))) (bin dIdx (vi 3) (idxE (vi 2) (vi 7)))))
  (ifS (tb (bin dGt (bin dSub (bin dMul (vi 5) (callU (ar 2 d__law_lead) [] (consA (bin dIdx (vi 1) (vi 6)) (consA (bin dIdx (vi 1) (vi 7)) (nilA))))) (vi 4)) (vi 8)))
  (retS (cc (.bl false)))
  (nilS)))))
  (retS (cc (.bl true)))))
def d_check_place : List D → R D := den 2 (ifS (notB (tb (chain dLe dLt (cc (.int 0)) (vi 1) (un (dFld fl_size) (vi 0)))))
  (raise1S 6 (vi 1))
  (nilS))
def d_piece_of : List D → R D := den 6 (seqS (dropS (callU (ar 2 d_check_place) [] (consA (vi 0) (consA (vi 1) (nilA)))))
  (seqS (setF 2 (lstF (consA (vi 1) (nilA))))
  (seqS (setF 3 (dlitF (vi 1) (cc (.bl true))))
  (seqS (setS 4 (cc (.int 0)))
  (seqS (whileS fuel (tb (bin dLt (vi 4) (callE dLen (consA (vv 2) (nilA)))))
  (seqS (forS (items (bin dIdx (un (dFld fl_around) (vi 0)) (bin dIdx (vv 2) (vi 4)))) (gN 5)
  (ifS (tb (dinE true 3 (vi 5)))
  (seqS (dputS 3 (vi 5) (cc (.bl true)))
  (appS 2 (fun st => ((vi 5) st).bind fun d => .ok (.im d))))
  (nilS)))
  (augS 4 dIAdd (cc (.int 1)))))
  (frzS 2 (retS (callE dTuple (consA (callE (fun ds => dL (dSortF ds)) (consA (vi 2) (nilA))) (nilA))))))))))
def d_step_lead : List D → R D := den 3 (retS (callU (ar 2 d_state_lead) [] (consA (bin dIdx (un (dFld fl_picture) (vi 0)) (vi 1)) (consA (bin dIdx (un (dFld fl_picture) (vi 0)) (vi 2)) (nilA)))))
def d_are_slopes : List D → R D := den 11 (seqS (dropS (callU (ar 2 d_check_place) [] (consA (un (dFld fl_web) (vi 0)) (consA (vi 1) (nilA)))))
  (seqS (setS 4 (callU (ar 2 d_piece_of) [] (consA (un (dFld fl_web) (vi 0)) (consA (vi 1) (nilA)))))
  (seqS (setS 5 (callU (ar 1 (d_frozen 6)) [] (consA (vi 3) (nilA))))
  (seqS (ifS (tb (bin dNe (callE dLen (consA (vi 5) (nilA))) (callE dLen (consA (vi 4) (nilA)))))
  (retS (cc (.bl false)))
  (nilS))
  (seqS (setF 8 (dctcF (enumI (consA (vi 5) (nilA))) [6, 7] (gT 2 (gsCons (gN 6) (gsCons (gN 7) (gsNil)))) (yesT) (bin dIdx (vi 4) (vi 6)) (vi 7)))
  (seqS (forS (items (vi 4)) (gN 9)
  (forS (items (bin dIdx (un (dFld fl_around) (un (dFld fl_web) (vi 0))) (vi 9))) (gN 10)
  (ifS (tb (bin dGt (bin dSub (bin dMul (bin dIdx (vi 2) (cc (.int 1))) (callU (ar 3 d_step_lead) [] (consA (vi 0) (consA (vi 9) (consA (vi 10) (nilA)))))) (bin dIdx (vi 2) (cc (.int 0)))) (bin dSub (dixE 8 (vi 9)) (dixE 8 (vi 10)))))
  (retS (cc (.bl false)))
  (nilS))))
  (retS (cc (.bl true)))))))))
def d__law_refused : List D → R D := den 3 (tryS subC xsL 6 2 (seqS (dropS (callU (ar 4 d_are_slopes) [] (consA (vi 0) (consA (vi 1) (consA (tupE (consA (cc (.int 0)) (consA (cc (.int 1)) (nilA)))) (consA (tupE (consA (cc (.int 0)) (nilA))) (nilA)))))))
  (retS (cc (.bl false))))
  (fun e => seqS (ifS (orB (notB (tb (callU (ar 1 d__law_whole) [] (consA (xfE xl_place e) (nilA))))) (orB (tb (bin dNe (xfE xl_place e) (vi 1))) (tb (xisE subC xsL [.c 9] e))))
  (retS (cc (.bl false)))
  (nilS))
  (retS (andE (xisE subC xsL [.c 5] e) (xisE subC xsL [.b "ValueError"] e)))))
def d_law : List D → R D := den 24 (seqS (setS 1 (callU (ar 3 d__law_scene) [] (consA (vi 0) (consA (cc (.int 0)) (consA (cc (.int 6)) (nilA))))))
  (seqS (setS 2 (bin dIdx (vi 1) (cc (.int 0))))
  (seqS (setS 3 (bin dIdx (vi 1) (cc (.int 2))))
  (seqS (setS 4 (callU (ar 2 d__law_near) [] (consA (vi 2) (consA (bin dIdx (vi 1) (cc (.int 1))) (nilA)))))
  (seqS (setS 5 (callU (ar 2 d__law_digits) [] (consA (callU (ar 2 d__law_cell) [] (consA (vi 0) (consA (cc (.int 2)) (nilA)))) (consA (lstE (consA (cc (.int 7)) (consA (cc (.int 4)) (consA (cc (.int 9)) (consA (cc (.int 3)) (consA (cc (.int 7)) (consA (cc (.int 9)) (nilA)))))))) (nilA)))))
  (seqS (setS 6 (makeU 39 (arI 2 d_Scene___init__) [] (consA (makeU 46 (arI 2 d_Web___init__) [] (consA (vi 2) (consA (bin dIdx (vi 1) (cc (.int 1))) (nilA)))) (consA (vi 3) (nilA)))))
  (seqS (setS 7 (bin dMod (bin dIdx (vi 5) (cc (.int 0))) (vi 2)))
  (seqS (setS 9 (bin dIdx (compE (items (callU (ar 1 d__law_pieces) [] (consA (vi 4) (nilA)))) [8] (gN 8) (tb (bin dIn (vi 7) (vi 8))) (vi 8)) (cc (.int 0))))
  (seqS (setS 10 (callU (ar 3 d__law_share) [] (consA (vi 4) (consA (vi 3) (consA (vi 9) (nilA))))))
  (seqS (setS 11 (lstE (consA (vi 10) (consA (tupE (consA (bin dMul (cc (.int 2)) (bin dIdx (vi 10) (cc (.int 0)))) (consA (bin dMul (cc (.int 2)) (bin dIdx (vi 10) (cc (.int 1)))) (nilA)))) (consA (tupE (consA (cc (.int 1)) (consA (cc (.int 3)) (nilA)))) (consA (tupE (consA (cc (.int 0)) (consA (cc (.int 1)) (nilA)))) (consA (tupE (consA (bin dIdx (vi 5) (cc (.int 1))) (consA (bin dAdd (cc (.int 4)) (bin dIdx (vi 5) (cc (.int 2)))) (nilA)))) (nilA))))))))
  (seqS (ifS (notB (tb (callU (ar 4 d__law_rings_asked) [] (consA (vi 6) (consA (vi 4) (consA (vi 3) (consA (vi 11) (nilA))))))))
  (retS (cc (.bl false)))
  (nilS))
  (seqS (setS 12 (callU (ar 5 d__law_grown) [] (consA (vi 4) (consA (vi 3) (consA (vi 9) (consA (bin dIdx (vi 10) (cc (.int 0))) (consA (bin dIdx (vi 10) (cc (.int 1))) (nilA))))))))
  (seqS (setF 13 (callF dListF (consA (vi 12) (nilA))))
  (seqS (setIS 13 (fun st => ((bin dSub (bin dAdd (bin dIdx (vv 13) (bin dMod (bin dIdx (vi 5) (cc (.int 4))) (callE dLen (consA (vi 9) (nilA))))) (bin dIdx (vi 5) (cc (.int 3)))) (cc (.int 1))) st).bind fun d => .ok (.im d)) (bin dMod (bin dIdx (vi 5) (cc (.int 4))) (callE dLen (consA (vi 9) (nilA)))))
  (seqS (setS 14 (callU (ar 5 d__law_grown) [] (consA (vi 4) (consA (vi 3) (consA (vi 9) (consA (cc (.int 1)) (consA (cc (.int 3)) (nilA))))))))
  (seqS (setS 16 (compE (items (vi 12)) [15] (gN 15) (yesT) (bin dMul (cc (.int 2)) (vi 15))))
  (seqS (setS 18 (compE (callI rng1 (consA (callE dLen (consA (vi 9) (nilA))) (nilA))) [17] (gN 17) (yesT) (bin dIdx (vi 12) (bin dSub (bin dSub (callE dLen (consA (vi 9) (nilA))) (cc (.int 1))) (vi 17)))))
  (seqS (frzS 13 (setF 19 (lstF (consA (vi 12) (consA (vi 13) (consA (vi 14) (consA (vi 16) (consA (vi 18) (consA (bin dAdd (vi 12) (lstE (consA (cc (.int 0)) (nilA)))) (consA (slE (vi 12) (partI (cc (.int 1))) (partN)) (consA (compE (items (vi 12)) [15] (gN 15) (yesT) (bin dSub (vi 15) (cc (.int 7)))) (nilA))))))))))))
  (seqS (extS 19 (lstE (consA (compE (items (vi 13)) [15] (gN 15) (yesT) (bin dAdd (vi 15) (bin dPow (cc (.int 10)) (cc (.int 30))))) (consA (compE (items (vi 12)) [15] (gN 15) (yesT) (cc (.int 0))) (consA (lstE (nilA)) (nilA))))))
  (seqS (forS (items (vi 11)) (gN 20)
  (frzS 19 (forS (items (vi 19)) (gN 21)
  (seqS (setS 22 (callU (ar 6 d__law_slope) [] (consA (vi 4) (consA (vi 3) (consA (vi 9) (consA (vi 21) (consA (bin dIdx (vi 20) (cc (.int 0))) (consA (bin dIdx (vi 20) (cc (.int 1))) (nilA)))))))))
  (seqS (setS 23 (callE (fun ds => dL (dListF ds)) (consA (vi 21) (nilA))))
  (seqS (ifS (orB (notB (tb (callU (ar 2 d__law_agree) [] (consA (callU (ar 4 d_are_slopes) [] (consA (vi 6) (consA (vi 7) (consA (vi 20) (consA (vi 23) (nilA)))))) (consA (vi 22) (nilA)))))) (tb (bin dNe (vi 23) (vi 21))))
  (retS (cc (.bl false)))
  (nilS))
  (ifS (notB (tb (callU (ar 2 d__law_agree) [] (consA (callU (ar 4 d_are_slopes) [] (consA (vi 6) (consA (vi 7) (consA (callE (fun ds => dL (dListF ds)) (consA (vi 20) (nilA))) (consA (callE dTuple (consA (vi 21) (nilA))) (nilA)))))) (consA (vi 22) (nilA))))))
  (retS (cc (.bl false)))
  (nilS))))))))
  (retS (andE (callU (ar 2 d__law_refused) [] (consA (vi 6) (consA (bin dSub (cc (.int 0)) (cc (.int 1))) (nilA)))) (callU (ar 2 d__law_refused) [] (consA (vi 6) (consA (bin dAdd (vi 2) (bin dIdx (vi 5) (cc (.int 5)))) (nilA))))))))))))))))))))))))))
end FR
end
section
set_option Elab.async false
set_option linter.all false
set_option maxRecDepth 100000
namespace FR
open PySem L2 DI
/-- lines of a web of n places: each a < b < n, in rising order -/
def ltP (p q : Int × Int) : Prop := p.1 < q.1 ∨ (p.1 = q.1 ∧ p.2 < q.2)
structure Lines (n : Int) (ls : List (Int × Int)) : Prop where
  ok : ∀ p ∈ ls, 0 ≤ p.1 ∧ p.1 < p.2 ∧ p.2 < n
  up : ls.Pairwise ltP
/-- the neighbours, as they come along the lines -/
def nb1 (rows : List (List Int)) (p : Int × Int) : List (List Int) := apR (apR rows p.1 p.2) p.2 p.1
def nbr (n : Int) (ls : List (Int × Int)) : List (List Int) := ls.foldl nb1 (List.replicate n.toNat [])
def arnd (n : Int) (ls : List (Int × Int)) : List (List Int) := (nbr n ls).map srtI
theorem nbr_snoc {n : Int} {ls : List (Int × Int)} {p : Int × Int} : nbr n (ls ++ [p]) = nb1 (nbr n ls) p := by unfold nbr; rw [List.foldl_append]; rfl
theorem nb1_len {rows : List (List Int)} {p : Int × Int} : (nb1 rows p).length = rows.length := by unfold nb1; rw [apR_len, apR_len]
theorem nbr_len {n : Int} {ls : List (Int × Int)} : (nbr n ls).length = n.toNat := by
  unfold nbr
  have : ∀ (ls : List (Int × Int)) (rows : List (List Int)), (ls.foldl nb1 rows).length = rows.length := by
    intro ls
    induction ls with
    | nil => intro rows; rfl
    | cons p ls ih => intro rows; rw [List.foldl_cons, ih, nb1_len]
  rw [this, List.length_replicate]
theorem apR_bound {rows : List (List Int)} {j y : Int} {b : Nat} (h : ∀ r ∈ rows, r.length ≤ b) : ∀ r ∈ apR rows j y, r.length ≤ b + 1 := fun r hr => by
  unfold apR at hr
  rcases List.mem_or_eq_of_mem_set hr with m | e
  · have := h r m; omega
  · rw [e, List.length_append, List.length_singleton, List.getD_eq_getElem?_getD]
    cases q : rows[j.toNat]? with
    | none => simp
    | some x =>
      have := h x (List.mem_of_getElem? q)
      simp
      omega
theorem nbr_bound {n : Int} (ls : List (Int × Int)) : ∀ r ∈ nbr n ls, r.length ≤ 2 * ls.length := by
  have gen : ∀ (ls : List (Int × Int)) (rows : List (List Int)) (b : Nat), (∀ r ∈ rows, r.length ≤ b) → ∀ r ∈ ls.foldl nb1 rows, r.length ≤ b + 2 * ls.length := by
    intro ls
    induction ls with
    | nil => intro rows b h r hr; exact h r hr
    | cons p ls ih =>
      intro rows b h r hr
      have := ih (nb1 rows p) (b + 2) (fun r hr => by unfold nb1 at hr; exact apR_bound (apR_bound h) r hr) r hr
      simp only [List.length_cons]
      omega
  intro r hr
  have := gen ls _ 0 (fun r hr => by rw [List.eq_of_mem_replicate hr]; exact Nat.le_refl 0) r hr
  omega
/-- rows of neighbours: as lists of a list, as tuples of a tuple -/
def rowsL (rows : List (List Int)) : D := .lst (rows.map fun r => .lst (r.map .int))
def rowsT (rows : List (List Int)) : D := .tup (rows.map fun r => .tup (r.map .int))
theorem compTL_rep {n : Nat} {st : LS} : compTL (gN 2) yesT (lstF nilA) st (rangeD 0 n) = .ok (List.replicate n (tE D.int [])) := by
  generalize hC : compTL _ _ _ _ _ = o
  have := compT hC (fun _ => tE D.int []) fun x _ => ⟨_, rfl, rfl, by rw [tE_nil.symm]; simp -implicitDefEqProofs (disch := first | omega | (simp -implicitDefEqProofs; done) | (simp -implicitDefEqProofs; omega)) [-List.map_map, BT.sub, ev_denI, ev_stI, ev_slfS, ev_slfE, ev_st0n, ev_mod, ev_div, ev_mul, ev_pow, ev_line, ev_rng1, ev_rng2, ev_ar, ev_arI, rangeD_length]⟩
  rw [this]
  congr 1
  rw [List.map_const', List.length_range]
theorem tN_rep {n : Nat} : T.lst (List.replicate n (tE D.int [])) = tN (List.replicate n []) := by unfold tN; rw [List.map_replicate]
theorem near_okG (n : Int) (ls : List (Int × Int)) (hn : 0 ≤ n) (hn2 : n ≤ 1000) (hl : ∀ p ∈ ls, 0 ≤ p.1 ∧ p.1 < n ∧ 0 ≤ p.2 ∧ p.2 < n) (hlen : ls.length ≤ 10000) : d__law_near [.int n, .lst (ls.map dP)] = .ok (rowsL (arnd n ls)) := by
  unfold d__law_near
  have h1 : n.toNat ≤ 16777216 := by omega
  simp -implicitDefEqProofs (disch := first | omega | (simp -implicitDefEqProofs; done) | (simp -implicitDefEqProofs; omega)) [-List.map_map, BT.sub, ev_denI, ev_stI, ev_slfS, ev_slfE, ev_st0n, ev_mod, ev_div, ev_mul, ev_pow, ev_line, ev_rng1, ev_rng2, ev_ar, ev_arI, rangeD_length, rangeD_length, h1, compTL_rep, tN_rep]
  generalize hL : forL _ _ _ _ = o
  obtain ⟨s', rfl, j, rfl⟩ := loop hL (fun pr s => ∃ j, s = [some (.im (.int n)), some (.im (.lst (ls.map dP))), none, some (tN (nbr n pr)), j, none]) ⟨_, rfl⟩ (by
    rintro pr p po s q ⟨j, rfl⟩
    obtain ⟨a1, a2, a3, a4⟩ := hl p (by rw [q]; simp)
    have hb := nbr_bound (n := n) pr
    have hlq : pr.length ≤ ls.length := by rw [q]; simp
    simp -implicitDefEqProofs (disch := first | omega | (simp -implicitDefEqProofs; done) | (simp -implicitDefEqProofs; omega)) [-List.map_map, BT.sub, ev_denI, ev_stI, ev_slfS, ev_slfE, ev_st0n, ev_mod, ev_div, ev_mul, ev_pow, ev_line, ev_rng1, ev_rng2, ev_ar, ev_arI, rangeD_length, dP]
    rw [ev_appP rfl (j := p.1) (y := p.2) (by simp -implicitDefEqProofs (disch := first | omega | (simp -implicitDefEqProofs; done) | (simp -implicitDefEqProofs; omega)) [-List.map_map, BT.sub, ev_denI, ev_stI, ev_slfS, ev_slfE, ev_st0n, ev_mod, ev_div, ev_mul, ev_pow, ev_line, ev_rng1, ev_rng2, ev_ar, ev_arI, rangeD_length, ev_idx]) (by simp -implicitDefEqProofs (disch := first | omega | (simp -implicitDefEqProofs; done) | (simp -implicitDefEqProofs; omega)) [-List.map_map, BT.sub, ev_denI, ev_stI, ev_slfS, ev_slfE, ev_st0n, ev_mod, ev_div, ev_mul, ev_pow, ev_line, ev_rng1, ev_rng2, ev_ar, ev_arI, rangeD_length, ev_idx]) a1 (by rw [nbr_len]; omega) (fun r hr => by have := hb r hr; omega)]
    simp -implicitDefEqProofs (disch := first | omega | (simp -implicitDefEqProofs; done) | (simp -implicitDefEqProofs; omega)) [-List.map_map, BT.sub, ev_denI, ev_stI, ev_slfS, ev_slfE, ev_st0n, ev_mod, ev_div, ev_mul, ev_pow, ev_line, ev_rng1, ev_rng2, ev_ar, ev_arI, rangeD_length]
    rw [ev_appP rfl (j := p.2) (y := p.1) (by simp -implicitDefEqProofs (disch := first | omega | (simp -implicitDefEqProofs; done) | (simp -implicitDefEqProofs; omega)) [-List.map_map, BT.sub, ev_denI, ev_stI, ev_slfS, ev_slfE, ev_st0n, ev_mod, ev_div, ev_mul, ev_pow, ev_line, ev_rng1, ev_rng2, ev_ar, ev_arI, rangeD_length, ev_idx]) (by simp -implicitDefEqProofs (disch := first | omega | (simp -implicitDefEqProofs; done) | (simp -implicitDefEqProofs; omega)) [-List.map_map, BT.sub, ev_denI, ev_stI, ev_slfS, ev_slfE, ev_st0n, ev_mod, ev_div, ev_mul, ev_pow, ev_line, ev_rng1, ev_rng2, ev_ar, ev_arI, rangeD_length, ev_idx]) (by omega) (by rw [apR_len, nbr_len]; omega) (fun r hr => by have := apR_bound hb r hr; omega)]
    simp -implicitDefEqProofs (disch := first | omega | (simp -implicitDefEqProofs; done) | (simp -implicitDefEqProofs; omega)) [-List.map_map, BT.sub, ev_denI, ev_stI, ev_slfS, ev_slfE, ev_st0n, ev_mod, ev_div, ev_mul, ev_pow, ev_line, ev_rng1, ev_rng2, ev_ar, ev_arI, rangeD_length]
    rw [nbr_snoc]
    rfl)
  simp -implicitDefEqProofs (disch := first | omega | (simp -implicitDefEqProofs; done) | (simp -implicitDefEqProofs; omega)) [-List.map_map, BT.sub, ev_denI, ev_stI, ev_slfS, ev_slfE, ev_st0n, ev_mod, ev_div, ev_mul, ev_pow, ev_line, ev_rng1, ev_rng2, ev_ar, ev_arI, rangeD_length, nbr_len, h1]
  generalize hC : compL _ _ _ _ _ = oc
  have q := comp hC (fun r : List Int => D.lst (r.map .int)) srtI fun r _ => ⟨_, rfl, rfl, by simp -implicitDefEqProofs (disch := first | omega | (simp -implicitDefEqProofs; done) | (simp -implicitDefEqProofs; omega)) [-List.map_map, BT.sub, ev_denI, ev_stI, ev_slfS, ev_slfE, ev_st0n, ev_mod, ev_div, ev_mul, ev_pow, ev_line, ev_rng1, ev_rng2, ev_ar, ev_arI, rangeD_length, ev_sort]⟩
  rw [q]
  rfl
theorem near_ok (n : Int) (ls : List (Int × Int)) (hn : 0 ≤ n) (hn2 : n ≤ 1000) (hl : Lines n ls) (hlen : ls.length ≤ 10000) : d__law_near [.int n, .lst (ls.map dP)] = .ok (rowsL (arnd n ls)) :=
  near_okG n ls hn hn2 (fun p m => by have := hl.ok p m; omega) hlen
theorem rows_ok (n : Int) (ls : List (Int × Int)) (hn : 0 ≤ n) (hn2 : n ≤ 1000) (hl : Lines n ls) (hlen : ls.length ≤ 10000) : d_neighbour_rows [.int n, .tup (ls.map dP)] = .ok (rowsT (arnd n ls)) := by
  unfold d_neighbour_rows
  have h1 : n.toNat ≤ 16777216 := by omega
  simp -implicitDefEqProofs (disch := first | omega | (simp -implicitDefEqProofs; done) | (simp -implicitDefEqProofs; omega)) [-List.map_map, BT.sub, ev_denI, ev_stI, ev_slfS, ev_slfE, ev_st0n, ev_mod, ev_div, ev_mul, ev_pow, ev_line, ev_rng1, ev_rng2, ev_ar, ev_arI, rangeD_length, rangeD_length, h1, compTL_rep, tN_rep]
  generalize hL : forL _ _ _ _ = o
  obtain ⟨s', rfl, j, j2, rfl⟩ := loop hL (fun pr s => ∃ j j2, s = [some (.im (.int n)), some (.im (.tup (ls.map dP))), none, some (tN (nbr n pr)), j, j2, none]) ⟨_, _, rfl⟩ (by
    rintro pr p po s q ⟨j, j2, rfl⟩
    obtain ⟨a1, a2, a3⟩ := hl.ok p (by rw [q]; simp)
    have hb := nbr_bound (n := n) pr
    have hlq : pr.length ≤ ls.length := by rw [q]; simp
    simp -implicitDefEqProofs (disch := first | omega | (simp -implicitDefEqProofs; done) | (simp -implicitDefEqProofs; omega)) [-List.map_map, BT.sub, ev_denI, ev_stI, ev_slfS, ev_slfE, ev_st0n, ev_mod, ev_div, ev_mul, ev_pow, ev_line, ev_rng1, ev_rng2, ev_ar, ev_arI, rangeD_length, dP]
    rw [ev_appP rfl (j := p.1) (y := p.2) (by simp -implicitDefEqProofs (disch := first | omega | (simp -implicitDefEqProofs; done) | (simp -implicitDefEqProofs; omega)) [-List.map_map, BT.sub, ev_denI, ev_stI, ev_slfS, ev_slfE, ev_st0n, ev_mod, ev_div, ev_mul, ev_pow, ev_line, ev_rng1, ev_rng2, ev_ar, ev_arI, rangeD_length]) (by simp -implicitDefEqProofs (disch := first | omega | (simp -implicitDefEqProofs; done) | (simp -implicitDefEqProofs; omega)) [-List.map_map, BT.sub, ev_denI, ev_stI, ev_slfS, ev_slfE, ev_st0n, ev_mod, ev_div, ev_mul, ev_pow, ev_line, ev_rng1, ev_rng2, ev_ar, ev_arI, rangeD_length]) a1 (by rw [nbr_len]; omega) (fun r hr => by have := hb r hr; omega)]
    simp -implicitDefEqProofs (disch := first | omega | (simp -implicitDefEqProofs; done) | (simp -implicitDefEqProofs; omega)) [-List.map_map, BT.sub, ev_denI, ev_stI, ev_slfS, ev_slfE, ev_st0n, ev_mod, ev_div, ev_mul, ev_pow, ev_line, ev_rng1, ev_rng2, ev_ar, ev_arI, rangeD_length]
    rw [ev_appP rfl (j := p.2) (y := p.1) (by simp -implicitDefEqProofs (disch := first | omega | (simp -implicitDefEqProofs; done) | (simp -implicitDefEqProofs; omega)) [-List.map_map, BT.sub, ev_denI, ev_stI, ev_slfS, ev_slfE, ev_st0n, ev_mod, ev_div, ev_mul, ev_pow, ev_line, ev_rng1, ev_rng2, ev_ar, ev_arI, rangeD_length]) (by simp -implicitDefEqProofs (disch := first | omega | (simp -implicitDefEqProofs; done) | (simp -implicitDefEqProofs; omega)) [-List.map_map, BT.sub, ev_denI, ev_stI, ev_slfS, ev_slfE, ev_st0n, ev_mod, ev_div, ev_mul, ev_pow, ev_line, ev_rng1, ev_rng2, ev_ar, ev_arI, rangeD_length]) (by omega) (by rw [apR_len, nbr_len]; omega) (fun r hr => by have := apR_bound hb r hr; omega)]
    simp -implicitDefEqProofs (disch := first | omega | (simp -implicitDefEqProofs; done) | (simp -implicitDefEqProofs; omega)) [-List.map_map, BT.sub, ev_denI, ev_stI, ev_slfS, ev_slfE, ev_st0n, ev_mod, ev_div, ev_mul, ev_pow, ev_line, ev_rng1, ev_rng2, ev_ar, ev_arI, rangeD_length]
    rw [nbr_snoc]
    rfl)
  simp -implicitDefEqProofs (disch := first | omega | (simp -implicitDefEqProofs; done) | (simp -implicitDefEqProofs; omega)) [-List.map_map, BT.sub, ev_denI, ev_stI, ev_slfS, ev_slfE, ev_st0n, ev_mod, ev_div, ev_mul, ev_pow, ev_line, ev_rng1, ev_rng2, ev_ar, ev_arI, rangeD_length, nbr_len, h1]
  generalize hC : compL _ _ _ _ _ = oc
  have q := comp hC (fun r : List Int => D.tup (r.map .int)) srtI fun r _ => ⟨_, rfl, rfl, by simp -implicitDefEqProofs (disch := first | omega | (simp -implicitDefEqProofs; done) | (simp -implicitDefEqProofs; omega)) [-List.map_map, BT.sub, ev_denI, ev_stI, ev_slfS, ev_slfE, ev_st0n, ev_mod, ev_div, ev_mul, ev_pow, ev_line, ev_rng1, ev_rng2, ev_ar, ev_arI, rangeD_length, ev_sort]⟩
  rw [q]
  rfl
/-! frozen -/
theorem frozen_int (k : Nat) (i : Int) : d_frozen (k + 1) [.int i] = .ok (.int i) := by
  unfold d_frozen
  simp -implicitDefEqProofs (disch := first | omega | (simp -implicitDefEqProofs; done) | (simp -implicitDefEqProofs; omega)) [-List.map_map, BT.sub, ev_denI, ev_stI, ev_slfS, ev_slfE, ev_st0n, ev_mod, ev_div, ev_mul, ev_pow, ev_line, ev_rng1, ev_rng2, ev_ar, ev_arI, rangeD_length, ev_if]
theorem frozen_lst {α : Type} {enc enc2 : α → D} (k : Nat) (xs : List α) (h : ∀ x ∈ xs, d_frozen k [enc x] = .ok (enc2 x)) (hl : xs.length ≤ 10000) : d_frozen (k + 1) [.lst (xs.map enc)] = .ok (.tup (xs.map enc2)) := by
  unfold d_frozen
  have h1 : xs.length ≤ 16777216 := by omega
  simp -implicitDefEqProofs (disch := first | omega | (simp -implicitDefEqProofs; done) | (simp -implicitDefEqProofs; omega)) [-List.map_map, BT.sub, ev_denI, ev_stI, ev_slfS, ev_slfE, ev_st0n, ev_mod, ev_div, ev_mul, ev_pow, ev_line, ev_rng1, ev_rng2, ev_ar, ev_arI, rangeD_length, ev_if, h1]
  generalize hC : compL _ _ _ _ _ = oc
  have q := comp hC enc2 id fun x m => ⟨_, rfl, rfl, by simp -implicitDefEqProofs (disch := first | omega | (simp -implicitDefEqProofs; done) | (simp -implicitDefEqProofs; omega)) [-List.map_map, BT.sub, ev_denI, ev_stI, ev_slfS, ev_slfE, ev_st0n, ev_mod, ev_div, ev_mul, ev_pow, ev_line, ev_rng1, ev_rng2, ev_ar, ev_arI, rangeD_length, h x m]⟩
  rw [q, List.map_id]
  rfl
theorem frozen_tup {α : Type} {enc enc2 : α → D} (k : Nat) (xs : List α) (h : ∀ x ∈ xs, d_frozen k [enc x] = .ok (enc2 x)) (hl : xs.length ≤ 10000) : d_frozen (k + 1) [.tup (xs.map enc)] = .ok (.tup (xs.map enc2)) := by
  unfold d_frozen
  have h1 : xs.length ≤ 16777216 := by omega
  simp -implicitDefEqProofs (disch := first | omega | (simp -implicitDefEqProofs; done) | (simp -implicitDefEqProofs; omega)) [-List.map_map, BT.sub, ev_denI, ev_stI, ev_slfS, ev_slfE, ev_st0n, ev_mod, ev_div, ev_mul, ev_pow, ev_line, ev_rng1, ev_rng2, ev_ar, ev_arI, rangeD_length, ev_if, h1]
  generalize hC : compL _ _ _ _ _ = oc
  have q := comp hC enc2 id fun x m => ⟨_, rfl, rfl, by simp -implicitDefEqProofs (disch := first | omega | (simp -implicitDefEqProofs; done) | (simp -implicitDefEqProofs; omega)) [-List.map_map, BT.sub, ev_denI, ev_stI, ev_slfS, ev_slfE, ev_st0n, ev_mod, ev_div, ev_mul, ev_pow, ev_line, ev_rng1, ev_rng2, ev_ar, ev_arI, rangeD_length, h x m]⟩
  rw [q, List.map_id]
  rfl
theorem frozen_dP (k : Nat) (p : Int × Int) : d_frozen (k + 2) [dP p] = .ok (dP p) :=
  frozen_tup (enc := D.int) (enc2 := D.int) (k + 1) [p.1, p.2] (fun x _ => frozen_int k x) (by simp)
theorem frozen_ints (k : Nat) (xs : List Int) (hl : xs.length ≤ 10000) : d_frozen (k + 2) [.lst (xs.map .int)] = .ok (.tup (xs.map .int)) := frozen_lst (k + 1) xs (fun x _ => frozen_int k x) hl
theorem frozen_intsT (k : Nat) (xs : List Int) (hl : xs.length ≤ 10000) : d_frozen (k + 2) [.tup (xs.map .int)] = .ok (.tup (xs.map .int)) := frozen_tup (k + 1) xs (fun x _ => frozen_int k x) hl
theorem frozen_dPs (k : Nat) (ls : List (Int × Int)) (hl : ls.length ≤ 10000) : d_frozen (k + 3) [.lst (ls.map dP)] = .ok (.tup (ls.map dP)) := frozen_lst (k + 2) ls (fun p _ => frozen_dP k p) hl
/-! checked_lines -/
def kP (p : Int × Int) : List Int := [p.1, p.2]
theorem kP_inj {p q : Int × Int} (h : kP p = kP q) : p = q := by
  unfold kP at h
  injection h with h1 h2
  injection h2 with h2
  exact Prod.ext h1 h2
theorem lexle_lt {p q : Int × Int} (h : ltP p q) : lexle (kP p) (kP q) = true := by
  unfold kP lexle lexle lexle
  rcases h with h | ⟨h, g⟩
  · simp [h]
  · simp [h, g]
theorem Lines.keys {n : Int} {ls : List (Int × Int)} (h : Lines n ls) : (ls.map kP).Nodup ∧ (ls.map kP).Pairwise (fun a b => lexle a b = true) ∧ okT (ls.map kP) = true := by
  refine ⟨?_, ?_, ?_⟩
  · unfold List.Nodup
    rw [List.pairwise_map]
    refine h.up.imp fun {p q} hl e => ?_
    have e := kP_inj e
    subst e
    unfold ltP at hl
    omega
  · rw [List.pairwise_map]
    exact h.up.imp fun {p q} hl => lexle_lt hl
  · cases ls with
    | nil => rfl
    | cons p ls =>
      unfold okT
      rw [List.map_cons]
      simp only [Bool.and_eq_true, decide_eq_true_eq, List.all_eq_true]
      refine ⟨by simp [kP], fun k hk => ?_⟩
      rw [← List.map_cons (f := kP)] at hk
      obtain ⟨q, m, rfl⟩ := List.mem_map.mp hk
      have := h.ok q m
      exact ⟨rfl, fun x hx => by
        unfold kP at hx
        rcases List.mem_cons.mp hx with e | hx
        · rw [e]; omega
        · rw [List.mem_singleton.mp hx]; omega⟩
theorem checked_ok (n : Int) (ls : List (Int × Int)) (hl : Lines n ls) (hlen : ls.length < 64) : d_checked_lines [.int n, .tup (ls.map dP)] = .ok (.tup (ls.map dP)) := by
  unfold d_checked_lines
  simp -implicitDefEqProofs (disch := first | omega | (simp -implicitDefEqProofs; done) | (simp -implicitDefEqProofs; omega)) [-List.map_map, BT.sub, ev_denI, ev_stI, ev_slfS, ev_slfE, ev_st0n, ev_mod, ev_div, ev_mul, ev_pow, ev_line, ev_rng1, ev_rng2, ev_ar, ev_arI, rangeD_length]
  generalize hL : forL _ _ _ _ = o
  obtain ⟨s', rfl, j2, j3, j4, rfl⟩ := loopE hL (fun pr s => ∃ j2 j3 j4, s = [some (.im (.int n)), some (.im (.tup (ls.map dP))), j2, j3, j4]) ⟨_, _, _, rfl⟩ (by
    rintro pr p po s q ⟨j2, j3, j4, rfl⟩
    obtain ⟨a1, a2, a3⟩ := hl.ok p (by rw [q]; simp)
    have b1 : ¬ p.1 = p.2 := by omega
    have b2 : p.1 < n := by omega
    have b3 : 0 ≤ p.2 := by omega
    simp -implicitDefEqProofs (disch := first | omega | (simp -implicitDefEqProofs; done) | (simp -implicitDefEqProofs; omega)) [-List.map_map, BT.sub, ev_denI, ev_stI, ev_slfS, ev_slfE, ev_st0n, ev_mod, ev_div, ev_mul, ev_pow, ev_line, ev_rng1, ev_rng2, ev_ar, ev_arI, rangeD_length, dP, ev_if, a1, b1, b2, b3, a3])
  obtain ⟨k1, k2, k3⟩ := hl.keys
  have h1 : ls.length ≤ 16777216 := by omega
  simp -implicitDefEqProofs (disch := first | omega | (simp -implicitDefEqProofs; done) | (simp -implicitDefEqProofs; omega)) [-List.map_map, BT.sub, ev_denI, ev_stI, ev_slfS, ev_slfE, ev_st0n, ev_mod, ev_div, ev_mul, ev_pow, ev_line, ev_rng1, ev_rng2, ev_ar, ev_arI, rangeD_length]
  generalize hS : setE _ _ _ _ _ _ = oS
  rw [ev_setE (ks := ls.map kP) (by
    simp -implicitDefEqProofs (disch := first | omega | (simp -implicitDefEqProofs; done) | (simp -implicitDefEqProofs; omega)) [-List.map_map, BT.sub, ev_denI, ev_stI, ev_slfS, ev_slfE, ev_st0n, ev_mod, ev_div, ev_mul, ev_pow, ev_line, ev_rng1, ev_rng2, ev_ar, ev_arI, rangeD_length, h1]
    generalize hC : compL _ _ _ _ _ = oc
    rw [comp hC (fun k : List Int => D.tup (k.map .int)) kP fun p m => ⟨_, rfl, rfl, by
      obtain ⟨a1, a2, a3⟩ := hl.ok p m
      have m1 : min p.1 p.2 = p.1 := by omega
      have m2 : max p.1 p.2 = p.2 := by omega
      simp -implicitDefEqProofs (disch := first | omega | (simp -implicitDefEqProofs; done) | (simp -implicitDefEqProofs; omega)) [-List.map_map, BT.sub, ev_denI, ev_stI, ev_slfS, ev_slfE, ev_st0n, ev_mod, ev_div, ev_mul, ev_pow, ev_line, ev_rng1, ev_rng2, ev_ar, ev_arI, rangeD_length, m1, m2]
      rfl⟩]) (by rw [List.length_map]; exact hlen), onceK_nodup k1] at hS
  subst hS
  simp -implicitDefEqProofs (disch := first | omega | (simp -implicitDefEqProofs; done) | (simp -implicitDefEqProofs; omega)) [-List.map_map, BT.sub, ev_denI, ev_stI, ev_slfS, ev_slfE, ev_st0n, ev_mod, ev_div, ev_mul, ev_pow, ev_line, ev_rng1, ev_rng2, ev_ar, ev_arI, rangeD_length, ev_sortU k3, srtT_up' k2]
  rw [List.map_map]
  rfl
end FR
end
section
set_option Elab.async false
set_option linter.all false
set_option maxRecDepth 100000
namespace FR
open PySem L2 DI
def Pic (xs : List Int) : Prop := ∀ x ∈ xs, 0 ≤ x ∧ x ≤ 2
def webF (n : Int) (ls : List (Int × Int)) : List D := [.int n, .tup (ls.map dP), rowsT (arnd n ls)]
def webD (n : Int) (ls : List (Int × Int)) : D := .ins 46 (webF n ls)
theorem web_init (n : Int) (ls : List (Int × Int)) (hn : 0 ≤ n) (hn2 : n ≤ 1000) (hl : Lines n ls) (hlen : ls.length < 64) : d_Web___init__ [.int n, .lst (ls.map dP)] = .ok (webF n ls) := by
  unfold d_Web___init__
  have e1 := frozen_dPs 3 ls (by omega)
  have e2 := checked_ok n ls hl hlen
  have e3 := rows_ok n ls hn hn2 hl (by omega)
  simp -implicitDefEqProofs (disch := first | omega | (simp -implicitDefEqProofs; done) | (simp -implicitDefEqProofs; omega)) [-List.map_map, BT.sub, ev_denI, ev_stI, ev_slfS, ev_slfE, ev_st0n, ev_mod, ev_div, ev_mul, ev_pow, ev_line, ev_rng1, ev_rng2, ev_ar, ev_arI, rangeD_length, e1, e2, e3]
  rfl
@[simp] theorem fld_size {a : D} {ds : List D} : dFld fl_size (.ins 46 (a :: ds)) = some a := rfl
@[simp] theorem fld_lines {a b : D} {ds : List D} : dFld fl_lines (.ins 46 (a :: b :: ds)) = some b := rfl
@[simp] theorem fld_around {a b c : D} {ds : List D} : dFld fl_around (.ins 46 (a :: b :: c :: ds)) = some c := rfl
@[simp] theorem sub_web : subC 46 46 = true := by decide
end FR
end
section
set_option Elab.async false
set_option linter.all false
set_option maxRecDepth 100000
namespace FR
open PySem L2 DI
def scnD (w : D) (xs : List Int) : D := .ins 39 [w, .tup (xs.map .int)]
@[simp] theorem fld_web {a : D} {ds : List D} : dFld fl_web (.ins 39 (a :: ds)) = some a := rfl
@[simp] theorem fld_picture {a b : D} {ds : List D} : dFld fl_picture (.ins 39 (a :: b :: ds)) = some b := rfl
@[simp] theorem sub_scene : subC 39 39 = true := by decide
theorem scene_body (n : Int) (ls : List (Int × Int)) (xs : List Int) (q : D) (hq : d_frozen 6 [q] = .ok (.tup (xs.map .int))) (hn : 0 ≤ n) (hn2 : n ≤ 1000) (hx : xs.length = n.toNat) (hp : Pic xs) : d_Scene___init__ [webD n ls, q] = .ok [webD n ls, .tup (xs.map .int)] := by
  unfold d_Scene___init__ webD webF
  simp -implicitDefEqProofs (disch := first | omega | (simp -implicitDefEqProofs; done) | (simp -implicitDefEqProofs; omega)) [-List.map_map, BT.sub, ev_denI, ev_stI, ev_slfS, ev_slfE, ev_st0n, ev_mod, ev_div, ev_mul, ev_pow, ev_line, ev_rng1, ev_rng2, ev_ar, ev_arI, rangeD_length, hq]
  have e : max n xs.length = n := by omega
  simp -implicitDefEqProofs (disch := first | omega | (simp -implicitDefEqProofs; done) | (simp -implicitDefEqProofs; omega)) [-List.map_map, BT.sub, ev_denI, ev_stI, ev_slfS, ev_slfE, ev_st0n, ev_mod, ev_div, ev_mul, ev_pow, ev_line, ev_rng1, ev_rng2, ev_ar, ev_arI, rangeD_length, e]
  generalize hL : forL _ _ _ _ = o
  obtain ⟨s', rfl, j, rfl⟩ := loop hL (fun pr s => ∃ j, s = [some (.ins 39 []), some (.im (.ins 46 [.int n, .tup (ls.map dP), rowsT (arnd n ls)])), some (.im q), some (.im (.tup (xs.map .int))), j]) ⟨_, rfl⟩ (by
    rintro pr i po s hs ⟨j, rfl⟩
    obtain ⟨f1, f2, f3⟩ := range_split hs
    have c1 : ¬ n ≤ (i : Int) := by omega
    have c2 : ¬ (xs.length : Int) ≤ (i : Int) := by omega
    have c3 := hp (nI xs i) (nI_mem (by omega) (by omega))
    have c4 : nI xs (i : Int) ∈ ([0, 1, 2] : List Int) := by
      have : nI xs (i : Int) = 0 ∨ nI xs (i : Int) = 1 ∨ nI xs (i : Int) = 2 := by omega
      simpa using this
    have c5 : dNotIn (.int (nI xs i)) (.tup [.int 0, .int 1, .int 2]) = some (.bl false) := by
      have := ev_notInT (x := nI xs i) (xs := [0, 1, 2])
      rw [decide_eq_true c4] at this
      exact this
    simp -implicitDefEqProofs (disch := first | omega | (simp -implicitDefEqProofs; done) | (simp -implicitDefEqProofs; omega)) [-List.map_map, BT.sub, ev_denI, ev_stI, ev_slfS, ev_slfE, ev_st0n, ev_mod, ev_div, ev_mul, ev_pow, ev_line, ev_rng1, ev_rng2, ev_ar, ev_arI, rangeD_length, ev_if, c1, c2, ev_idxIT, c5])
  simp -implicitDefEqProofs (disch := first | omega | (simp -implicitDefEqProofs; done) | (simp -implicitDefEqProofs; omega)) [-List.map_map, BT.sub, ev_denI, ev_stI, ev_slfS, ev_slfE, ev_st0n, ev_mod, ev_div, ev_mul, ev_pow, ev_line, ev_rng1, ev_rng2, ev_ar, ev_arI, rangeD_length]
theorem scene_init (n : Int) (ls : List (Int × Int)) (xs : List Int) (hn : 0 ≤ n) (hn2 : n ≤ 1000) (hx : xs.length = n.toNat) (hp : Pic xs) : d_Scene___init__ [webD n ls, .tup (xs.map .int)] = .ok [webD n ls, .tup (xs.map .int)] :=
  scene_body n ls xs _ (frozen_intsT 4 xs (by omega)) hn hn2 hx hp
end FR
end
section
set_option Elab.async false
set_option linter.all false
set_option maxRecDepth 100000
namespace FR
open PySem L2 DI
theorem whole_ok (i : Int) : d__law_whole [.int i] = .ok (.bl true) := by
  unfold d__law_whole
  simp -implicitDefEqProofs (disch := first | omega | (simp -implicitDefEqProofs; done) | (simp -implicitDefEqProofs; omega)) [-List.map_map, BT.sub, ev_denI, ev_stI, ev_slfS, ev_slfE, ev_st0n, ev_mod, ev_div, ev_mul, ev_pow, ev_line, ev_rng1, ev_rng2, ev_ar, ev_arI, rangeD_length]
/-! one beat -/
theorem apR_mem {rows : List (List Int)} {j y : Int} {Q : Int → Prop} (h : ∀ r ∈ rows, ∀ x ∈ r, Q x) (hy : Q y) : ∀ r ∈ apR rows j y, ∀ x ∈ r, Q x := fun r hr x hx => by
  unfold apR at hr
  rcases List.mem_or_eq_of_mem_set hr with m | e
  · exact h r m x hx
  · rw [e] at hx
    rcases List.mem_append.mp hx with m | m
    · rw [List.getD_eq_getElem?_getD] at m
      cases q : rows[j.toNat]? with
      | none => rw [q] at m; cases m
      | some z => rw [q] at m; exact h z (List.mem_of_getElem? q) x m
    · rw [List.mem_singleton.mp m]; exact hy
theorem nbr_mem {n : Int} {ls : List (Int × Int)} (hl : Lines n ls) : ∀ r ∈ nbr n ls, ∀ x ∈ r, 0 ≤ x ∧ x < n := by
  have gen : ∀ (ls : List (Int × Int)) (rows : List (List Int)), (∀ p ∈ ls, 0 ≤ p.1 ∧ p.1 < p.2 ∧ p.2 < n) → (∀ r ∈ rows, ∀ x ∈ r, 0 ≤ x ∧ x < n) → ∀ r ∈ ls.foldl nb1 rows, ∀ x ∈ r, 0 ≤ x ∧ x < n := by
    intro ls
    induction ls with
    | nil => intro rows _ h; exact h
    | cons p ls ih =>
      intro rows hp h
      have := hp p List.mem_cons_self
      exact ih (nb1 rows p) (fun q m => hp q (List.mem_cons_of_mem _ m)) (apR_mem (apR_mem h (by omega)) (by omega))
  exact gen ls _ hl.ok fun r hr x hx => by rw [List.eq_of_mem_replicate hr] at hx; cases hx
theorem arnd_mem {n : Int} {ls : List (Int × Int)} (hl : Lines n ls) : ∀ r ∈ arnd n ls, ∀ x ∈ r, 0 ≤ x ∧ x < n := fun r hr x hx => by
  obtain ⟨q, m, rfl⟩ := List.mem_map.mp hr
  exact nbr_mem hl q m x ((srtI_perm q).mem_iff.mp hx)
theorem arnd_len {n : Int} {ls : List (Int × Int)} : (arnd n ls).length = n.toNat := by unfold arnd; rw [List.length_map, nbr_len]
/-- the neighbours of a place -/
def rowAt (n : Int) (ls : List (Int × Int)) (i : Int) : List Int := (arnd n ls).getD i.toNat []
theorem rowAt_get {n : Int} {ls : List (Int × Int)} {i : Int} (h : 0 ≤ i) (h2 : i < n) : (arnd n ls)[i.toNat]? = some (rowAt n ls i) := by
  have hl : i.toNat < (arnd n ls).length := by rw [arnd_len]; omega
  unfold rowAt
  rw [List.getD_eq_getElem?_getD, List.getElem?_eq_getElem hl]
  rfl
theorem rowAt_mem {n : Int} {ls : List (Int × Int)} (hl : Lines n ls) {i : Int} (h : 0 ≤ i) (h2 : i < n) : ∀ x ∈ rowAt n ls i, 0 ≤ x ∧ x < n :=
  arnd_mem hl _ (List.mem_of_getElem? (rowAt_get h h2))
theorem rowAt_bound {n : Int} {ls : List (Int × Int)} {i : Int} : (rowAt n ls i).length ≤ 2 * ls.length := by
  unfold rowAt
  rw [List.getD_eq_getElem?_getD]
  cases q : (arnd n ls)[i.toNat]? with
  | none => simp
  | some r =>
    obtain ⟨z, m, rfl⟩ := List.mem_map.mp (List.mem_of_getElem? q)
    show (srtI z).length ≤ _
    rw [(srtI_perm z).length_eq]
    exact nbr_bound ls z m
end FR
end
section
set_option Elab.async false
set_option linter.all false
set_option maxRecDepth 100000
namespace FR
open PySem L2 DI
theorem mulb {a b A B : Int} (h1 : 0 ≤ a) (h2 : a ≤ A) (h3 : 0 ≤ b) (h4 : b ≤ B) : 0 ≤ a * b ∧ a * b ≤ A * B :=
  ⟨Int.mul_nonneg h1 h3, Int.mul_le_mul h2 h4 h3 (by omega)⟩
theorem cell_ok (ns : List Int) (k : Int) (hk : 0 ≤ k) (hk2 : k < 1000) : ∃ z, d__law_cell [.scr (ns.map D.int), .int k] = .ok (.int z) := by
  unfold d__law_cell
  simp -implicitDefEqProofs (disch := first | omega | (simp -implicitDefEqProofs; done) | (simp -implicitDefEqProofs; omega)) [-List.map_map, BT.sub, ev_denI, ev_stI, ev_slfS, ev_slfE, ev_st0n, ev_mod, ev_div, ev_mul, ev_pow, ev_line, ev_rng1, ev_rng2, ev_ar, ev_arI, rangeD_length, ev_if, ev_seq_ite, ev_end_ite]
  by_cases h : k < ns.length
  · rw [if_pos h]
    simp -implicitDefEqProofs (disch := first | omega | (simp -implicitDefEqProofs; done) | (simp -implicitDefEqProofs; omega)) [-List.map_map, BT.sub, ev_denI, ev_stI, ev_slfS, ev_slfE, ev_st0n, ev_mod, ev_div, ev_mul, ev_pow, ev_line, ev_rng1, ev_rng2, ev_ar, ev_arI, rangeD_length, ev_idxIS]
  · rw [if_neg h]
    generalize hL : forL _ _ _ _ = o
    obtain ⟨s', rfl, j, z, rfl, h0, h1⟩ := loop hL (fun _ s => ∃ j z, s = [some (.im (.scr (ns.map D.int))), some (.im (.int k)), some (.im (.int z)), j] ∧ 0 ≤ z ∧ z < 1000003)
      ⟨none, 17, rfl, by decide, by decide⟩ (by
        rintro pr x po s q ⟨j, z, rfl, h0, h1⟩
        simp -implicitDefEqProofs (disch := first | omega | (simp -implicitDefEqProofs; done) | (simp -implicitDefEqProofs; omega)) [-List.map_map, BT.sub, ev_denI, ev_stI, ev_slfS, ev_slfE, ev_st0n, ev_mod, ev_div, ev_mul, ev_pow, ev_line, ev_rng1, ev_rng2, ev_ar, ev_arI, rangeD_length]
        exact ⟨_, _, ⟨rfl, rfl⟩, by omega, by omega⟩)
    have := mulb (a := z + 7) (b := k + 3) (A := 1000010) (B := 1003) (by omega) (by omega) (by omega) (by omega)
    simp -implicitDefEqProofs (disch := first | omega | (simp -implicitDefEqProofs; done) | (simp -implicitDefEqProofs; omega)) [-List.map_map, BT.sub, ev_denI, ev_stI, ev_slfS, ev_slfE, ev_st0n, ev_mod, ev_div, ev_mul, ev_pow, ev_line, ev_rng1, ev_rng2, ev_ar, ev_arI, rangeD_length]
/-- each digit lies below its size -/
def Dg (ss ds : List Int) : Prop := ds.length = ss.length ∧ ∀ i : Nat, i < ss.length → 0 ≤ ds.getD i 0 ∧ ds.getD i 0 < ss.getD i 0
theorem Dg.gi {ss ds : List Int} (h : Dg ss ds) {i : Int} (h0 : 0 ≤ i) (h1 : i < ss.length) : 0 ≤ nI ds i ∧ nI ds i < nI ss i := h.2 i.toNat (by omega)
theorem getD_app {xs : List Int} {y : Int} {i : Nat} : (xs ++ [y]).getD i 0 = if i < xs.length then xs.getD i 0 else if i = xs.length then y else 0 := by
  rw [List.getD_eq_getElem?_getD, List.getD_eq_getElem?_getD]
  split
  · rw [List.getElem?_append_left (by assumption)]
  · rw [List.getElem?_append_right (by omega)]
    split
    · rename_i h; rw [h]; simp
    · rw [List.getElem?_eq_none (by simp; omega)]; rfl
theorem Dg.snoc {pr : List Int} {x y : Int} {ds : List Int} (h : Dg pr ds) (h0 : 0 ≤ y) (h1 : y < x) : Dg (pr ++ [x]) (ds ++ [y]) := by
  refine ⟨by simp [h.1], fun i hi => ?_⟩
  rw [getD_app, getD_app]
  simp only [List.length_append, List.length_singleton] at hi
  rw [h.1]
  split
  · exact h.2 i (by assumption)
  · rw [if_pos (by omega), if_pos (by omega)]; exact ⟨h0, h1⟩
/-- digits of a cell -/
theorem digits_ok (z : Int) (ss : List Int) (hs : ∀ s ∈ ss, 0 < s ∧ s < 1000000000000000000000000000000000000000000000000) (hl : ss.length < 10000) : ∃ ds : List Int, d__law_digits [.int z, .lst (ss.map D.int)] = .ok (.lst (ds.map D.int)) ∧ Dg ss ds := by
  unfold d__law_digits
  simp -implicitDefEqProofs (disch := first | omega | (simp -implicitDefEqProofs; done) | (simp -implicitDefEqProofs; omega)) [-List.map_map, BT.sub, ev_denI, ev_stI, ev_slfS, ev_slfE, ev_st0n, ev_mod, ev_div, ev_mul, ev_pow, ev_line, ev_rng1, ev_rng2, ev_ar, ev_arI, rangeD_length, ev_if, ev_seq_ite, ev_end_ite]
  rw [tE_nil (enc := D.int)]
  have plen : ∀ {pr : List Int} {x : Int} {po ds : List Int}, ss = pr ++ x :: po → Dg pr ds → ds.length < 16777216 := fun {pr x po ds} q hd => by
    have := congrArg List.length q
    simp at this
    have := hd.1
    omega
  split
  · generalize hL : forL _ _ _ _ = o
    obtain ⟨s', rfl, ds, y, j, rfl, hd⟩ := loop hL (fun pr s => ∃ (ds : List Int) (y : Int) (j : Option T), s = [some (.im (.int z)), some (.im (.lst (ss.map D.int))), some (tE D.int ds), some (.im (.int y)), j, none, none, none] ∧ Dg pr ds)
      ⟨[], _, _, rfl, rfl, fun i h => absurd h (by simp)⟩ (by
        rintro pr x po s q ⟨ds, y, j, rfl, hd⟩
        have hx := hs x (by rw [q]; simp)
        have hlen := plen q hd
        simp -implicitDefEqProofs (disch := first | omega | (simp -implicitDefEqProofs; done) | (simp -implicitDefEqProofs; omega)) [-List.map_map, BT.sub, ev_denI, ev_stI, ev_slfS, ev_slfE, ev_st0n, ev_mod, ev_div, ev_mul, ev_pow, ev_line, ev_rng1, ev_rng2, ev_ar, ev_arI, rangeD_length, hlen]
        exact ⟨_, rfl, hd.snoc (Int.emod_nonneg _ (by omega)) (Int.emod_lt_of_pos _ (by omega))⟩)
    refine ⟨ds, ?_, hd⟩
    simp -implicitDefEqProofs (disch := first | omega | (simp -implicitDefEqProofs; done) | (simp -implicitDefEqProofs; omega)) [-List.map_map, BT.sub, ev_denI, ev_stI, ev_slfS, ev_slfE, ev_st0n, ev_mod, ev_div, ev_mul, ev_pow, ev_line, ev_rng1, ev_rng2, ev_ar, ev_arI, rangeD_length]
  · generalize hL : forL _ _ _ _ = o
    obtain ⟨s', rfl, ds, y, j, j2, rfl, hd, h0, h1⟩ := loop hL (fun pr s => ∃ (ds : List Int) (y : Int) (j j2 : Option T), s = [some (.im (.int z)), some (.im (.lst (ss.map D.int))), some (tE D.int ds), some (.im (.int z)), none, some (.im (.int y)), j, j2] ∧ Dg (ss.take pr.length) ds ∧ 0 ≤ y ∧ y < 2147483647)
      ⟨[], _, _, _, rfl, ⟨rfl, fun i h => absurd h (by simp)⟩, by omega, by omega⟩ (by
        rintro pr i po s q ⟨ds, y, j, j2, rfl, hd, h0, h1⟩
        obtain ⟨e1, e2, e3⟩ := range_split q
        have hx := hs (ss[i]) (List.getElem_mem _)
        have tk : ss.take (pr.length + 1) = ss.take pr.length ++ [ss[i]] := by
          subst e1
          rw [List.take_append_getElem]
        have hlen : ds.length < 16777216 := by
          have := hd.1
          rw [List.length_take] at this
          omega
        have b := mulb (a := (y * 48271 + 974711 * (i : Int) + 12345) % 2147483647) (A := 2147483647) (b := (y * 48271 + 974711 * (i : Int) + 12345) % 2147483647 / 65537 + 3) (B := 2147483647) (by omega) (by omega) (by omega) (by omega)
        have gi := nI_nat e2
        simp -implicitDefEqProofs (disch := first | omega | (simp -implicitDefEqProofs; done) | (simp -implicitDefEqProofs; omega)) [-List.map_map, BT.sub, ev_denI, ev_stI, ev_slfS, ev_slfE, ev_st0n, ev_mod, ev_div, ev_mul, ev_pow, ev_line, ev_rng1, ev_rng2, ev_ar, ev_arI, rangeD_length, hlen, ev_idxI, gi]
        exact ⟨_, _, ⟨rfl, rfl⟩, by rw [tk]; exact hd.snoc (Int.emod_nonneg _ (by omega)) (Int.emod_lt_of_pos _ (by omega)), by omega, by omega⟩)
    refine ⟨ds, ?_, ?_⟩
    · simp -implicitDefEqProofs (disch := first | omega | (simp -implicitDefEqProofs; done) | (simp -implicitDefEqProofs; omega)) [-List.map_map, BT.sub, ev_denI, ev_stI, ev_slfS, ev_slfE, ev_st0n, ev_mod, ev_div, ev_mul, ev_pow, ev_line, ev_rng1, ev_rng2, ev_ar, ev_arI, rangeD_length]
    · rw [List.length_range, List.take_length] at hd
      exact hd
end FR
end
section
set_option Elab.async false
set_option linter.all false
set_option maxRecDepth 100000
namespace FR
open PySem L2 DI
theorem plain_ps (ps : List (Int × Int)) : D.plain 2 (.lst (ps.map dP)) = true := by
  unfold D.plain
  rw [List.all_eq_true]
  intro d hd
  obtain ⟨p, _, rfl⟩ := List.mem_map.mp hd
  rfl
def inF (ps : List (Int × Int)) (p : Int × Int) : Bool := (dInB (dP p) (.lst (ps.map dP))).getD false
theorem ev_inF (ps : List (Int × Int)) (a b : Int) : dIn (.tup [.int a, .int b]) (.lst (ps.map dP)) = some (.bl (inF ps (a, b))) := by
  obtain ⟨r, hr⟩ := inP (n := 1) (m := 2) (d := dP (a, b)) (e := .lst (ps.map dP)) rfl (plain_ps ps) (by omega) (by omega) ⟨_, .inl rfl⟩
  unfold inF
  show (dInB (dP (a, b)) _).map D.bl = _
  rw [hr]
  rfl
theorem Lines.snoc {n : Int} {ls : List (Int × Int)} {a b : Int} (h : Lines n ls) (h0 : 0 ≤ a) (h1 : a < b) (h2 : b < n) (hl : ∀ p ∈ ls, ltP p (a, b)) : Lines n (ls ++ [(a, b)]) := by
  refine ⟨fun p hp => ?_, ?_⟩
  · rcases List.mem_append.mp hp with m | m
    · exact h.ok p m
    · rw [List.mem_singleton.mp m]; exact ⟨h0, h1, h2⟩
  · rw [List.pairwise_append]
    exact ⟨h.up, List.pairwise_singleton _ _, fun p hp q hq => by rw [List.mem_singleton.mp hq]; exact hl p hp⟩
theorem web_ok (row : List Int) (most : Int) (hl : row.length = 20) (h0 : 0 ≤ nI row 0 ∧ nI row 0 < 12) (h2 : ∀ k : Int, 1 ≤ k → k ≤ 6 → 0 ≤ nI row (2 * k) ∧ nI row (2 * k) < 6) (hm : 1 ≤ most) (hm2 : most < 100) :
    ∃ (n : Int) (ls : List (Int × Int)), d__law_web [.lst (row.map D.int), .int most] = .ok (.lst [.int n, .lst (ls.map dP)]) ∧ 1 ≤ n ∧ n ≤ 7 ∧ n ≤ most ∧ Lines n ls ∧ ls.length ≤ 49 := by
  unfold d__law_web
  have L0 : ∀ i : Nat, i < 12 → 1 ≤ ([5, 4, 6, 3, 5, 7, 4, 6, 2, 5, 1, 6] : List Int).getD i 0 ∧ ([5, 4, 6, 3, 5, 7, 4, 6, 2, 5, 1, 6] : List Int).getD i 0 ≤ 7 := by decide
  have e0 : ∀ i : Int, 0 ≤ i → i < 20 → dIdx (.lst (row.map D.int)) (.int i) = some (.int (nI row i)) := fun i a b => ev_idxI a (by rw [hl]; exact b)
  have e1 : dIdx (.lst [.int 5, .int 4, .int 6, .int 3, .int 5, .int 7, .int 4, .int 6, .int 2, .int 5, .int 1, .int 6]) (.int (nI row 0)) = some (.int (nI [5, 4, 6, 3, 5, 7, 4, 6, 2, 5, 1, 6] (nI row 0))) :=
    ev_idxI (xs := [5, 4, 6, 3, 5, 7, 4, 6, 2, 5, 1, 6]) h0.1 (by show _ < (12 : Int); omega)
  have l0 : 1 ≤ nI [5, 4, 6, 3, 5, 7, 4, 6, 2, 5, 1, 6] (nI row 0) ∧ nI [5, 4, 6, 3, 5, 7, 4, 6, 2, 5, 1, 6] (nI row 0) ≤ 7 := L0 (nI row 0).toNat (by omega)
  generalize nI [5, 4, 6, 3, 5, 7, 4, 6, 2, 5, 1, 6] (nI row 0) = v at e1 l0
  simp -implicitDefEqProofs (disch := first | omega | (simp -implicitDefEqProofs; done) | (simp -implicitDefEqProofs; omega)) [-List.map_map, BT.sub, ev_denI, ev_stI, ev_slfS, ev_slfE, ev_st0n, ev_mod, ev_div, ev_mul, ev_pow, ev_line, ev_rng1, ev_rng2, ev_ar, ev_arI, rangeD_length, e0, e1]
  generalize hn : min most v = n
  have n1 : 1 ≤ n := by omega
  have n7 : n ≤ 7 := by omega
  have nm : n ≤ most := by omega
  clear e1 l0 L0
  rw [tE_nil (enc := dP)]
  generalize hL : forL _ _ _ _ = o
  obtain ⟨s', rfl, ps, j4, j5, rfl, hp⟩ := loop hL (fun pr s => ∃ (ps : List (Int × Int)) (j4 j5 : Option T), s = [some (.im (.lst (row.map D.int))), some (.im (.int most)), some (.im (.int n)), some (tE dP ps), j4, j5, none, none, none] ∧ ps.length ≤ pr.length)
    ⟨[], _, _, rfl, Nat.zero_le _⟩ (by
      rintro pr i po s q ⟨ps, j4, j5, rfl, hp⟩
      obtain ⟨e1, e2, e3⟩ := range_split q
      have hlen : ps.length < 16777216 := by omega
      have hk := h2 (1 + (i : Int)) (by omega) (by omega)
      have em : ∀ (k x : Int), 0 ≤ x → x < 6 → ∃ m, dIdx (.lst [.int (k - 1), .int (k - 1), .int (k - 1), .int 0, .int (k / 2), .int 0]) (.int x) = some (.int m) := fun k x a b => ⟨_, ev_idxI (xs := [k - 1, k - 1, k - 1, 0, k / 2, 0]) a (by show _ < (6 : Int); omega)⟩
      obtain ⟨m, em⟩ := em (1 + (i : Int)) _ hk.1 hk.2
      simp -implicitDefEqProofs (disch := first | omega | (simp -implicitDefEqProofs; done) | (simp -implicitDefEqProofs; omega)) [-List.map_map, BT.sub, ev_denI, ev_stI, ev_slfS, ev_slfE, ev_st0n, ev_mod, ev_div, ev_mul, ev_pow, ev_line, ev_rng1, ev_rng2, ev_ar, ev_arI, rangeD_length, hlen, e0, em, ev_if, ev_seq_ite]
      split <;> split <;> exact ⟨_, rfl, _, ⟨_, _, rfl⟩, by first | omega | (rw [List.length_append, List.length_singleton]; omega)⟩)
  rw [List.length_range] at hp
  have hlen : ps.length < 16777216 := by omega
  simp -implicitDefEqProofs (disch := first | omega | (simp -implicitDefEqProofs; done) | (simp -implicitDefEqProofs; omega)) [-List.map_map, BT.sub, ev_denI, ev_stI, ev_slfS, ev_slfE, ev_st0n, ev_mod, ev_div, ev_mul, ev_pow, ev_line, ev_rng1, ev_rng2, ev_ar, ev_arI, rangeD_length, hlen, e0]
  generalize hI : ifS _ _ _ _ = o
  obtain ⟨s', rfl, ps2, rfl, hp2⟩ : ∃ s', o = .nx s' ∧ ∃ ps2 : List (Int × Int), s' = [some (T.im (D.lst (List.map D.int row))), some (T.im (D.int most)), some (T.im (D.int n)), some (tE dP ps2), j4, j5, none, none, none] ∧ ps2.length ≤ 7 := by
    rw [← hI]
    simp -implicitDefEqProofs (disch := first | omega | (simp -implicitDefEqProofs; done) | (simp -implicitDefEqProofs; omega)) [-List.map_map, BT.sub, ev_denI, ev_stI, ev_slfS, ev_slfE, ev_st0n, ev_mod, ev_div, ev_mul, ev_pow, ev_line, ev_rng1, ev_rng2, ev_ar, ev_arI, rangeD_length, ev_if, hlen, e0]
    split
    · split
      · exact ⟨_, rfl, _, rfl, by rw [List.length_append, List.length_singleton]; omega⟩
      · exact ⟨_, rfl, _, rfl, by omega⟩
    · exact ⟨_, rfl, _, rfl, by omega⟩
  simp -implicitDefEqProofs (disch := first | omega | (simp -implicitDefEqProofs; done) | (simp -implicitDefEqProofs; omega)) [-List.map_map, BT.sub, ev_denI, ev_stI, ev_slfS, ev_slfE, ev_st0n, ev_mod, ev_div, ev_mul, ev_pow, ev_line, ev_rng1, ev_rng2, ev_ar, ev_arI, rangeD_length]
  generalize hL3 : forL _ _ _ _ = o
  obtain ⟨s', rfl, ps3, k4, k6, k7, rfl, hp3⟩ := loop hL3 (fun pr s => ∃ (ps : List (Int × Int)) (j4 j6 j7 : Option T), s = [some (.im (.lst (row.map D.int))), some (.im (.int most)), some (.im (.int n)), some (tE dP ps), j4, j5, j6, j7, none] ∧ ps.length ≤ 7 + pr.length)
    ⟨_, _, _, _, rfl, hp2⟩ (by
      rintro pr i po s q ⟨ps, j4, j6, j7, rfl, hp⟩
      obtain ⟨e1, e2, e3⟩ := range_split q
      have hlen : ps.length < 16777216 := by omega
      simp -implicitDefEqProofs (disch := first | omega | (simp -implicitDefEqProofs; done) | (simp -implicitDefEqProofs; omega)) [-List.map_map, BT.sub, ev_denI, ev_stI, ev_slfS, ev_slfE, ev_st0n, ev_mod, ev_div, ev_mul, ev_pow, ev_line, ev_rng1, ev_rng2, ev_ar, ev_arI, rangeD_length, hlen, e0, ev_if, ev_seq_ite]
      split
      · split <;> exact ⟨_, rfl, _, ⟨_, _, _, rfl⟩, by first | omega | (rw [List.length_append, List.length_singleton]; omega)⟩
      · exact ⟨_, rfl, _, ⟨_, _, _, rfl⟩, by omega⟩)
  rw [List.length_range] at hp3
  simp -implicitDefEqProofs (disch := first | omega | (simp -implicitDefEqProofs; done) | (simp -implicitDefEqProofs; omega)) [-List.map_map, BT.sub, ev_denI, ev_stI, ev_slfS, ev_slfE, ev_st0n, ev_mod, ev_div, ev_mul, ev_pow, ev_line, ev_rng1, ev_rng2, ev_ar, ev_arI, rangeD_length]
  rw [tE_nil (enc := dP)]
  generalize hL4 : forL _ _ _ _ = o
  obtain ⟨s', rfl, ls, kn, i6, i7, rfl, hk, hls, hlt, hlen⟩ := loop hL4 (fun pr s => ∃ (ls : List (Int × Int)) (kn : T) (j6 j7 : Option T), s = [some (.im (.lst (row.map D.int))), some (.im (.int most)), some (.im (.int n)), some kn, k4, j5, j6, j7, some (tE dP ls)] ∧ (kn = tE dP ps3 ∨ kn = .im (.lst (ps3.map dP))) ∧ Lines n ls ∧ (∀ p ∈ ls, p.1 < pr.length) ∧ ls.length ≤ 7 * pr.length)
    ⟨[], _, _, _, rfl, .inl rfl, ⟨fun _ m => (nomatch m), List.Pairwise.nil⟩, fun _ m => (nomatch m), Nat.zero_le _⟩ (by
      rintro pr a po s q ⟨ls, kn, j6, j7, rfl, hk, hls, hlt, hlen⟩
      obtain ⟨e1, e2, e3⟩ := range_split q
      simp -implicitDefEqProofs (disch := first | omega | (simp -implicitDefEqProofs; done) | (simp -implicitDefEqProofs; omega)) [-List.map_map, BT.sub, ev_denI, ev_stI, ev_slfS, ev_slfE, ev_st0n, ev_mod, ev_div, ev_mul, ev_pow, ev_line, ev_rng1, ev_rng2, ev_ar, ev_arI, rangeD_length]
      generalize hL5 : forL _ _ _ _ = o
      obtain ⟨s', rfl, ls2, kn2, j7', rfl, hk2, hls2, hlt2, hlen2⟩ := loop hL5 (fun pr2 s => ∃ (ls : List (Int × Int)) (kn : T) (j7 : Option T), s = [some (.im (.lst (row.map D.int))), some (.im (.int most)), some (.im (.int n)), some kn, k4, j5, some (.im (.int (a : Int))), j7, some (tE dP ls)] ∧ (kn = tE dP ps3 ∨ kn = .im (.lst (ps3.map dP))) ∧ Lines n ls ∧ (∀ p ∈ ls, p.1 < pr.length ∨ (p.1 = pr.length ∧ p.2 < pr.length + 1 + pr2.length)) ∧ ls.length ≤ 7 * pr.length + pr2.length)
        ⟨_, _, _, rfl, hk, hls, fun p m => .inl (hlt p m), hlen⟩ (by
          rintro pr2 b po2 s q2 ⟨ls, kn, j7, rfl, hk, hls, hlt, hlen⟩
          obtain ⟨f1, f2, f3⟩ := range_split q2
          have hlen' : ls.length < 16777216 := by omega
          have kD : kn.toD = .lst (ps3.map dP) := by
            rcases hk with rfl | rfl
            · exact ev_toDE
            · exact ev_toDim
          simp -implicitDefEqProofs (disch := first | omega | (simp -implicitDefEqProofs; done) | (simp -implicitDefEqProofs; omega)) [-List.map_map, BT.sub, ev_denI, ev_stI, ev_slfS, ev_slfE, ev_st0n, ev_mod, ev_div, ev_mul, ev_pow, ev_line, ev_rng1, ev_rng2, ev_ar, ev_arI, rangeD_length, kD, hlen', ev_if, ev_inF]
          split
          · refine ⟨_, rfl, _, _, ⟨_, rfl⟩, .inr rfl, hls.snoc (by omega) (by omega) (by omega) fun p m => ?_, fun x y m => ?_, by rw [List.length_append, List.length_singleton]; omega⟩
            · have := hlt p m
              unfold ltP
              simp only
              omega
            · rcases List.mem_append.mp m with m | m
              · have := hlt (x, y) m
                simp only at this
                omega
              · have := List.mem_singleton.mp m
                cases this
                omega
          · exact ⟨_, rfl, _, _, ⟨_, rfl⟩, .inr rfl, hls, fun x y m => by
              have := hlt (x, y) m
              simp only at this
              omega, by omega⟩)
      refine ⟨_, rfl, _, _, ⟨_, _, rfl⟩, hk2, hls2, fun x y m => ?_, ?_⟩
      · have := hlt2 (x, y) m
        simp only at this
        omega
      · rw [List.length_range] at hlen2
        omega)
  simp -implicitDefEqProofs (disch := first | omega | (simp -implicitDefEqProofs; done) | (simp -implicitDefEqProofs; omega)) [-List.map_map, BT.sub, ev_denI, ev_stI, ev_slfS, ev_slfE, ev_st0n, ev_mod, ev_div, ev_mul, ev_pow, ev_line, ev_rng1, ev_rng2, ev_ar, ev_arI, rangeD_length]
  exact ⟨n, ls, ⟨rfl, rfl⟩, n1, n7, nm, hls, by rw [List.length_range] at hlen; omega⟩
end FR
end
section
set_option Elab.async false
set_option linter.all false
set_option maxRecDepth 100000
namespace FR
open PySem L2 DI
theorem picture_ok (row : List Int) (n : Int) (hl : row.length = 9) (h : ∀ i : Int, 2 ≤ i → i < 9 → 0 ≤ nI row i ∧ nI row i ≤ 2) (h1 : 0 ≤ nI row 1) (hn : 0 ≤ n) (hn7 : n ≤ 7) :
    ∃ pic : List Int, d__law_picture [.lst (row.map D.int), .int n] = .ok (.tup (pic.map D.int)) ∧ pic.length = n.toNat ∧ Pic pic := by
  unfold d__law_picture
  have e0 : ∀ i : Int, 0 ≤ i → i < 9 → dIdx (.lst (row.map D.int)) (.int i) = some (.int (nI row i)) := fun i a b => ev_idxI a (by rw [hl]; exact b)
  have hlen : n.toNat ≤ 16777216 := by omega
  have mem : ∀ {i : Nat}, i ∈ List.range n.toNat → (i : Int) < 7 := fun m => by
    have := List.mem_range.mp m
    omega
  have fin : ∀ (ψ : Nat → Int), (∀ i ∈ List.range n.toNat, 0 ≤ ψ i ∧ ψ i ≤ 2) → ((List.range n.toNat).map ψ).length = n.toNat ∧ Pic ((List.range n.toNat).map ψ) := fun ψ hp => by
    refine ⟨by simp, fun x hx => ?_⟩
    obtain ⟨i, m, rfl⟩ := List.mem_map.mp hx
    exact hp i m
  simp -implicitDefEqProofs (disch := first | omega | (simp -implicitDefEqProofs; done) | (simp -implicitDefEqProofs; omega)) [-List.map_map, BT.sub, ev_denI, ev_stI, ev_slfS, ev_slfE, ev_st0n, ev_mod, ev_div, ev_mul, ev_pow, ev_line, ev_rng1, ev_rng2, ev_ar, ev_arI, rangeD_length, e0, rangeD_length, hlen, ev_if, ev_seq_ite, ev_end_ite]
  generalize hC1 : compL _ _ _ _ _ = o1
  generalize hC2 : compL _ _ _ _ _ = o2
  generalize hC3 : compL _ _ _ _ _ = o3
  generalize hC4 : compL _ _ _ _ _ = o4
  have q1 := comp hC1 D.int (fun i : Nat => ((i : Int) + nI row 1) % 3) fun i m => ⟨_, rfl, rfl, by
    have := mem m
    simp -implicitDefEqProofs (disch := first | omega | (simp -implicitDefEqProofs; done) | (simp -implicitDefEqProofs; omega)) [-List.map_map, BT.sub, ev_denI, ev_stI, ev_slfS, ev_slfE, ev_st0n, ev_mod, ev_div, ev_mul, ev_pow, ev_line, ev_rng1, ev_rng2, ev_ar, ev_arI, rangeD_length, e0]⟩
  have q2 := comp hC2 D.int (fun i : Nat => ((i : Int) + nI row 1) % 3 * (if (i : Int) = nI row 2 + 1 then 0 else 1)) fun i m => ⟨_, rfl, rfl, by
    have := mem m
    simp -implicitDefEqProofs (disch := first | omega | (simp -implicitDefEqProofs; done) | (simp -implicitDefEqProofs; omega)) [-List.map_map, BT.sub, ev_denI, ev_stI, ev_slfS, ev_slfE, ev_st0n, ev_mod, ev_div, ev_mul, ev_pow, ev_line, ev_rng1, ev_rng2, ev_ar, ev_arI, rangeD_length, e0]⟩
  have q3 := comp hC3 D.int (fun i : Nat => if (i : Int) = nI row 1 then 1 else 0) fun i m => ⟨_, rfl, rfl, by
    have := mem m
    simp -implicitDefEqProofs (disch := first | omega | (simp -implicitDefEqProofs; done) | (simp -implicitDefEqProofs; omega)) [-List.map_map, BT.sub, ev_denI, ev_stI, ev_slfS, ev_slfE, ev_st0n, ev_mod, ev_div, ev_mul, ev_pow, ev_line, ev_rng1, ev_rng2, ev_ar, ev_arI, rangeD_length, e0]⟩
  have q4 := comp hC4 D.int (fun i : Nat => nI row (2 + (i : Int))) fun i m => ⟨_, rfl, rfl, by
    have := mem m
    simp -implicitDefEqProofs (disch := first | omega | (simp -implicitDefEqProofs; done) | (simp -implicitDefEqProofs; omega)) [-List.map_map, BT.sub, ev_denI, ev_stI, ev_slfS, ev_slfE, ev_st0n, ev_mod, ev_div, ev_mul, ev_pow, ev_line, ev_rng1, ev_rng2, ev_ar, ev_arI, rangeD_length, e0]⟩
  clear hC1 hC2 hC3 hC4
  subst q1 q2 q3 q4
  simp -implicitDefEqProofs (disch := first | omega | (simp -implicitDefEqProofs; done) | (simp -implicitDefEqProofs; omega)) [-List.map_map, BT.sub, ev_denI, ev_stI, ev_slfS, ev_slfE, ev_st0n, ev_mod, ev_div, ev_mul, ev_pow, ev_line, ev_rng1, ev_rng2, ev_ar, ev_arI, rangeD_length]
  have r1 := fin (fun i : Nat => ((i : Int) + nI row 1) % 3) fun i m => by constructor <;> omega
  have r2 := fin (fun i : Nat => ((i : Int) + nI row 1) % 3 * (if (i : Int) = nI row 2 + 1 then 0 else 1)) fun i m => by
    split <;> constructor <;> omega
  have r3 := fin (fun i : Nat => if (i : Int) = nI row 1 then 1 else 0) fun i m => by split <;> constructor <;> omega
  have r4 := fin (fun i : Nat => nI row (2 + (i : Int))) fun i m => by
    have := mem m
    exact h _ (by omega) (by omega)
  repeat' split
  all_goals first | exact ⟨_, rfl, r1⟩ | exact ⟨_, rfl, r2⟩ | exact ⟨_, rfl, r3⟩ | exact ⟨_, rfl, r4⟩
end FR
end
section
set_option Elab.async false
set_option linter.all false
set_option maxRecDepth 100000
namespace FR
open PySem L2 DI
def sz20 : List Int := [12, 20, 6, 20, 6, 20, 6, 20, 6, 20, 6, 20, 6, 8, 8, 8, 8, 8, 8, 8]
def sz9 : List Int := [10, 3, 3, 3, 3, 3, 3, 3, 3]
theorem mk20 : dMul (.lst [.int 20, .int 6]) (.int 6) = some (.lst [.int 20, .int 6, .int 20, .int 6, .int 20, .int 6, .int 20, .int 6, .int 20, .int 6, .int 20, .int 6]) := rfl
theorem mk8 : dMul (.lst [.int 8, .int 8]) (.int 3) = some (.lst [.int 8, .int 8, .int 8, .int 8, .int 8, .int 8]) := rfl
theorem mk3 : dMul (.lst [.int 3]) (.int 7) = some (.lst [.int 3, .int 3, .int 3, .int 3, .int 3, .int 3, .int 3]) := rfl
theorem digits20 (z : Int) : ∃ ds : List Int, d__law_digits [.int z, .lst [.int 12, .int 20, .int 6, .int 20, .int 6, .int 20, .int 6, .int 20, .int 6, .int 20, .int 6, .int 20, .int 6, .int 8, .int 8, .int 8, .int 8, .int 8, .int 8, .int 8]] = .ok (.lst (ds.map D.int)) ∧ Dg sz20 ds :=
  digits_ok z sz20 (by decide) (by decide)
theorem digits9 (z : Int) : ∃ ds : List Int, d__law_digits [.int z, .lst [.int 10, .int 3, .int 3, .int 3, .int 3, .int 3, .int 3, .int 3, .int 3]] = .ok (.lst (ds.map D.int)) ∧ Dg sz9 ds :=
  digits_ok z sz9 (by decide) (by decide)
theorem scene_ok (ns : List Int) (k most : Int) (hk : 0 ≤ k) (hk2 : k < 900) (hm : 1 ≤ most) (hm2 : most < 100) :
    ∃ (n : Int) (ls : List (Int × Int)) (pic : List Int), d__law_scene [.scr (ns.map D.int), .int k, .int most] = .ok (.lst [.int n, .lst (ls.map dP), .tup (pic.map .int)]) ∧ 1 ≤ n ∧ n ≤ 7 ∧ n ≤ most ∧ Lines n ls ∧ ls.length ≤ 49 ∧ pic.length = n.toNat ∧ Pic pic := by
  unfold d__law_scene
  obtain ⟨z1, e1⟩ := cell_ok ns k hk (by omega)
  obtain ⟨z2, e2⟩ := cell_ok ns (k + 1) (by omega) (by omega)
  obtain ⟨ds1, f1, g1⟩ := digits20 z1
  obtain ⟨ds2, f2, g2⟩ := digits9 z2
  have b0 : 0 ≤ nI ds1 0 ∧ nI ds1 0 < 12 := g1.gi (by omega) (by decide)
  have b1 : ∀ k : Int, 1 ≤ k → k ≤ 6 → 0 ≤ nI ds1 (2 * k) ∧ nI ds1 (2 * k) < 6 := fun k h h2 => by
    have := g1.gi (i := 2 * k) (by omega) (by show _ < (20 : Int); omega)
    have e : nI sz20 (2 * k) = 6 := by
      have : k = 1 ∨ k = 2 ∨ k = 3 ∨ k = 4 ∨ k = 5 ∨ k = 6 := by omega
      rcases this with rfl | rfl | rfl | rfl | rfl | rfl <;> rfl
    rw [e] at this
    exact this
  obtain ⟨n, ls, h1, n1, n7, nm, hl, hlen⟩ := web_ok ds1 most g1.1 b0 b1 hm hm2
  have b2 : ∀ i : Int, 1 ≤ i → i < 9 → 0 ≤ nI ds2 i ∧ nI ds2 i ≤ 2 := fun i h h2 => by
    have := g2.gi (i := i) (by omega) (by show _ < (9 : Int); omega)
    have e : nI sz9 i = 3 := by
      have : i = 1 ∨ i = 2 ∨ i = 3 ∨ i = 4 ∨ i = 5 ∨ i = 6 ∨ i = 7 ∨ i = 8 := by omega
      rcases this with rfl | rfl | rfl | rfl | rfl | rfl | rfl | rfl <;> rfl
    rw [e] at this
    omega
  obtain ⟨pic, h2, p1, p2⟩ := picture_ok ds2 n g2.1 (fun i h h2 => b2 i (by omega) h2) (b2 1 (by omega) (by omega)).1 (by omega) n7
  refine ⟨n, ls, pic, ?_, n1, n7, nm, hl, hlen, p1, p2⟩
  simp -implicitDefEqProofs (disch := first | omega | (simp -implicitDefEqProofs; done) | (simp -implicitDefEqProofs; omega)) [-List.map_map, BT.sub, ev_denI, ev_stI, ev_slfS, ev_slfE, ev_st0n, ev_mod, ev_div, ev_mul, ev_pow, ev_line, ev_rng1, ev_rng2, ev_ar, ev_arI, rangeD_length, e1, e2, mk20, mk8, mk3, f1, f2, h1, h2]
end FR
end
section
set_option Elab.async false
set_option linter.all false
set_option maxRecDepth 100000
namespace FR
open PySem L2 DI
def hearsB (n : Int) (ls : List (Int × Int)) (xs : List Int) (i : Int) : Bool := (rowAt n ls i).any fun o => decide (nI xs o = 1)
/-- the next state of a place -/
def nxt (n : Int) (ls : List (Int × Int)) (xs ps : List Int) (i : Nat) : Int := if 0 < nI xs i then (nI xs i + 1) % 3 else if (i : Int) ∈ ps ∨ hearsB n ls xs i = true then 1 else 0
def nextF (n : Int) (ls : List (Int × Int)) (xs ps : List Int) : List Int := (List.range xs.length).map (nxt n ls xs ps)
theorem nextF_len {n : Int} {ls : List (Int × Int)} {xs ps : List Int} : (nextF n ls xs ps).length = xs.length := by unfold nextF; simp
theorem nextF_pic {n : Int} {ls : List (Int × Int)} {xs ps : List Int} : Pic (nextF n ls xs ps) := fun x hx => by
  obtain ⟨i, _, rfl⟩ := List.mem_map.mp hx
  unfold nxt
  split
  · omega
  · split <;> omega
theorem filter_any (p : Int → Bool) : ∀ l : List Int, decide (0 < (l.filter p).length) = l.any p
  | [] => rfl
  | x :: l => by
    rw [List.filter_cons, List.any_cons]
    cases p x with
    | true => simp
    | false => simp only [Bool.false_eq_true, if_false, Bool.false_or]; exact filter_any p l
theorem lstep_ok (n : Int) (ls : List (Int × Int)) (xs ps : List Int) (hln : ls.length ≤ 10000) (hl : Lines n ls) (hx : xs.length = n.toNat) (hp : Pic xs) (hn2 : n ≤ 1000) : d__law_step [rowsL (arnd n ls), .tup (xs.map .int), .lst (ps.map .int)] = .ok (.tup ((nextF n ls xs ps).map .int)) := by
  unfold d__law_step
  simp -implicitDefEqProofs (disch := first | omega | (simp -implicitDefEqProofs; done) | (simp -implicitDefEqProofs; omega)) [-List.map_map, BT.sub, ev_denI, ev_stI, ev_slfS, ev_slfE, ev_st0n, ev_mod, ev_div, ev_mul, ev_pow, ev_line, ev_rng1, ev_rng2, ev_ar, ev_arI, rangeD_length]
  rw [tE_nil (enc := D.int)]
  generalize hL : forL _ _ _ _ = o
  obtain ⟨s', rfl, j4, j5, j7, rfl⟩ := loop hL (fun pr s => ∃ j4 j5 j7, s = [some (.im (rowsL (arnd n ls))), some (.im (.tup (xs.map .int))), some (.im (.lst (ps.map .int))), some (tE D.int ((List.range pr.length).map (nxt n ls xs ps))), j4, j5, none, j7]) ⟨_, _, _, rfl⟩ (by
    rintro pr i po s hs ⟨j4, j5, j7, rfl⟩
    obtain ⟨f1, f2, f3⟩ := range_split hs
    have h1 : pr.length < 16777216 := by omega
    have e3 := ev_inL (x := (i : Int)) (xs := ps)
    have fin : ∀ y, y = nxt n ls xs ps i → tE D.int ((List.range pr.length).map (nxt n ls xs ps) ++ [y]) = tE D.int ((List.range (pr.length + 1)).map (nxt n ls xs ps)) := fun y hy => by
      rw [List.range_succ, List.map_append, hy, f1]
      rfl
    have hx3 := hp (nI xs i) (nI_mem (by omega) (by omega))
    have e1 := ev_idxE (enc := fun r : List Int => D.lst (r.map .int)) (by omega : (0 : Int) ≤ (i : Int)) (rowAt_get (ls := ls) (by omega : (0 : Int) ≤ (i : Int)) (by omega : (i : Int) < n))
    have hz : nI xs i = 0 ∨ nI xs i = 1 ∨ nI xs i = 2 := by omega
    have hr := rowAt_mem hl (by omega : (0 : Int) ≤ (i : Int)) (by omega : (i : Int) < n)
    rcases hz with z | z | z
    · simp -implicitDefEqProofs (disch := first | omega | (simp -implicitDefEqProofs; done) | (simp -implicitDefEqProofs; omega)) [-List.map_map, BT.sub, ev_denI, ev_stI, ev_slfS, ev_slfE, ev_st0n, ev_mod, ev_div, ev_mul, ev_pow, ev_line, ev_rng1, ev_rng2, ev_ar, ev_arI, rangeD_length, ev_if, ev_idxIT, z, h1, rowsL]
      rw [e1]
      have hb : (rowAt n ls i).length ≤ 16777216 := by
        have := rowAt_bound (n := n) (ls := ls) (i := i)
        omega
      simp -implicitDefEqProofs (disch := first | omega | (simp -implicitDefEqProofs; done) | (simp -implicitDefEqProofs; omega)) [-List.map_map, BT.sub, ev_denI, ev_stI, ev_slfS, ev_slfE, ev_st0n, ev_mod, ev_div, ev_mul, ev_pow, ev_line, ev_rng1, ev_rng2, ev_ar, ev_arI, rangeD_length, hb]
      generalize hC : compL _ _ _ _ _ = oc
      have q := compP hC (fun o => decide (nI xs o = 1)) D.int id fun x m => ⟨_, rfl, by have := hr x m; simp -implicitDefEqProofs (disch := first | omega | (simp -implicitDefEqProofs; done) | (simp -implicitDefEqProofs; omega)) [-List.map_map, BT.sub, ev_denI, ev_stI, ev_slfS, ev_slfE, ev_st0n, ev_mod, ev_div, ev_mul, ev_pow, ev_line, ev_rng1, ev_rng2, ev_ar, ev_arI, rangeD_length, ev_idxIT], fun _ => by simp -implicitDefEqProofs (disch := first | omega | (simp -implicitDefEqProofs; done) | (simp -implicitDefEqProofs; omega)) [-List.map_map, BT.sub, ev_denI, ev_stI, ev_slfS, ev_slfE, ev_st0n, ev_mod, ev_div, ev_mul, ev_pow, ev_line, ev_rng1, ev_rng2, ev_ar, ev_arI, rangeD_length]⟩
      subst q
      have hh : decide (0 < ((rowAt n ls i).filter fun o => decide (nI xs o = 1)).length) = hearsB n ls xs i := filter_any _ _
      by_cases c2 : (i : Int) ∈ ps
      · cases c3 : hearsB n ls xs i with
        | true =>
          rw [c3] at hh
          have hh := of_decide_eq_true hh
          simp -implicitDefEqProofs (disch := first | omega | (simp -implicitDefEqProofs; done) | (simp -implicitDefEqProofs; omega)) [-List.map_map, BT.sub, ev_denI, ev_stI, ev_slfS, ev_slfE, ev_st0n, ev_mod, ev_div, ev_mul, ev_pow, ev_line, ev_rng1, ev_rng2, ev_ar, ev_arI, rangeD_length, h1, e3, List.map_id, c2, hh]
          exact fin 1 (by unfold nxt; rw [z, if_neg (by omega), if_pos (.inl c2)])
        | false =>
          rw [c3] at hh
          have hh := of_decide_eq_false hh
          simp -implicitDefEqProofs (disch := first | omega | (simp -implicitDefEqProofs; done) | (simp -implicitDefEqProofs; omega)) [-List.map_map, BT.sub, ev_denI, ev_stI, ev_slfS, ev_slfE, ev_st0n, ev_mod, ev_div, ev_mul, ev_pow, ev_line, ev_rng1, ev_rng2, ev_ar, ev_arI, rangeD_length, h1, e3, List.map_id, c2, hh]
          exact fin 1 (by unfold nxt; rw [z, if_neg (by omega), if_pos (.inl c2)])
      · cases c3 : hearsB n ls xs i with
        | true =>
          rw [c3] at hh
          have hh := of_decide_eq_true hh
          simp -implicitDefEqProofs (disch := first | omega | (simp -implicitDefEqProofs; done) | (simp -implicitDefEqProofs; omega)) [-List.map_map, BT.sub, ev_denI, ev_stI, ev_slfS, ev_slfE, ev_st0n, ev_mod, ev_div, ev_mul, ev_pow, ev_line, ev_rng1, ev_rng2, ev_ar, ev_arI, rangeD_length, h1, e3, List.map_id, c2, hh]
          exact fin 1 (by unfold nxt; rw [z, if_neg (by omega), if_pos (.inr c3)])
        | false =>
          rw [c3] at hh
          have hh := of_decide_eq_false hh
          simp -implicitDefEqProofs (disch := first | omega | (simp -implicitDefEqProofs; done) | (simp -implicitDefEqProofs; omega)) [-List.map_map, BT.sub, ev_denI, ev_stI, ev_slfS, ev_slfE, ev_st0n, ev_mod, ev_div, ev_mul, ev_pow, ev_line, ev_rng1, ev_rng2, ev_ar, ev_arI, rangeD_length, h1, e3, List.map_id, c2, hh]
          exact fin 0 (by unfold nxt; rw [z, if_neg (by omega), if_neg (by rw [c3]; simp [c2])])
    · simp -implicitDefEqProofs (disch := first | omega | (simp -implicitDefEqProofs; done) | (simp -implicitDefEqProofs; omega)) [-List.map_map, BT.sub, ev_denI, ev_stI, ev_slfS, ev_slfE, ev_st0n, ev_mod, ev_div, ev_mul, ev_pow, ev_line, ev_rng1, ev_rng2, ev_ar, ev_arI, rangeD_length, ev_if, ev_idxIT, z, h1]
      exact fin 2 (by unfold nxt; rw [z]; rfl)
    · simp -implicitDefEqProofs (disch := first | omega | (simp -implicitDefEqProofs; done) | (simp -implicitDefEqProofs; omega)) [-List.map_map, BT.sub, ev_denI, ev_stI, ev_slfS, ev_slfE, ev_st0n, ev_mod, ev_div, ev_mul, ev_pow, ev_line, ev_rng1, ev_rng2, ev_ar, ev_arI, rangeD_length, ev_if, ev_idxIT, z, h1]
      exact fin 0 (by unfold nxt; rw [z]; rfl))
  simp -implicitDefEqProofs (disch := first | omega | (simp -implicitDefEqProofs; done) | (simp -implicitDefEqProofs; omega)) [-List.map_map, BT.sub, ev_denI, ev_stI, ev_slfS, ev_slfE, ev_st0n, ev_mod, ev_div, ev_mul, ev_pow, ev_line, ev_rng1, ev_rng2, ev_ar, ev_arI, rangeD_length]
  rfl
end FR
end
section
set_option Elab.async false
set_option linter.all false
set_option maxRecDepth 100000
namespace FR
open PySem L2 DI
/-! == and in of data without truth values -/
def nb : Nat → D → Bool
  | _, .non => true
  | _, .int _ => true
  | _, .str x => PyData.strOk x
  | n + 1, .tup ds => ds.all (nb n)
  | n + 1, .lst ds => ds.all (nb n)
  | _, _ => false
@[simp] theorem nb_int {n : Nat} {i : Int} : nb n (.int i) = true := by cases n <;> rfl
@[simp] theorem nb_non {n : Nat} : nb n .non = true := by cases n <;> rfl
@[simp] theorem nb_tup {n : Nat} {ds : List D} : nb (n + 1) (.tup ds) = ds.all (nb n) := rfl
@[simp] theorem nb_lst {n : Nat} {ds : List D} : nb (n + 1) (.lst ds) = ds.all (nb n) := rfl
theorem nbs_of {n : Nat} (ih : ∀ d, nb n d = true → ∃ p, d.py = some p ∧ p.canLay0 = true ∧ p.depth ≤ n + 1) : ∀ ds : List D, ds.all (nb n) = true → ∃ ps, D.pys ds = some ps ∧ PyData.canLayAll0 ps = true ∧ PyData.depthAll ps ≤ n + 1
  | [], _ => ⟨[], by unfold D.pys; rfl, by unfold PyData.canLayAll0; rfl, by unfold PyData.depthAll; omega⟩
  | d :: ds, h => by
    rw [List.all_cons, Bool.and_eq_true] at h
    obtain ⟨p, e1, c1, d1⟩ := ih d h.1
    obtain ⟨ps, e2, c2, d2⟩ := nbs_of ih ds h.2
    refine ⟨p :: ps, by unfold D.pys; rw [e1, e2], by unfold PyData.canLayAll0; rw [c1, c2]; rfl, by unfold PyData.depthAll; omega⟩
theorem nb_py : ∀ (n : Nat) (d : D), nb n d = true → ∃ p, d.py = some p ∧ p.canLay0 = true ∧ p.depth ≤ n + 1
  | n, .non, _ => ⟨.none, by unfold D.py; rfl, by unfold PyData.canLay0; rfl, by unfold PyData.depth; omega⟩
  | n, .int i, _ => ⟨.int i, by unfold D.py; rfl, by unfold PyData.canLay0; rfl, by unfold PyData.depth; omega⟩
  | n, .str x, h => ⟨.str x, by unfold D.py; rfl, by unfold PyData.canLay0; cases n <;> exact h, by unfold PyData.depth; omega⟩
  | n + 1, .tup ds, h => by
    obtain ⟨ps, e, c, dd⟩ := nbs_of (nb_py n) ds h
    exact ⟨.tuple ps, by unfold D.py; rw [e]; rfl, by unfold PyData.canLay0; exact c, by unfold PyData.depth; omega⟩
  | n + 1, .lst ds, h => by
    obtain ⟨ps, e, c, dd⟩ := nbs_of (nb_py n) ds h
    exact ⟨.list ps, by unfold D.py; rw [e]; rfl, by unfold PyData.canLay0; exact c, by unfold PyData.depth; omega⟩
  | 0, .tup _, h => by cases h
  | 0, .lst _, h => by cases h
  | n, .bl _, h => by cases n <;> cases h
  | n, .ins _ _, h => by cases n <;> cases h
  | n, .scr _, h => by cases n <;> cases h
  | n, .tset _, h => by cases n <;> cases h
  | n, .dct _ _ _, h => by cases n <;> cases h
  | n, .rng _ _, h => by cases n <;> cases h
  | n, .nd _ _, h => by cases n <;> cases h
theorem nb_sh {n : Nat} {d : D} (h : nb n d = true) (hn : n ≤ 60) : ∃ p, d.py = some p ∧ d.sh = some p := by
  obtain ⟨p, e, c, dd⟩ := nb_py n d h
  refine ⟨p, e, ?_⟩
  have : SeqAt.shaped p = true := by
    unfold SeqAt.shaped
    rw [c]
    simp
    omega
  unfold D.sh
  rw [e]
  show (if SeqAt.shaped p = true then some p else none) = _
  rw [if_pos this]
theorem py_tup {ds : List D} {p : PyData} (h : (D.tup ds).py = some p) : ∃ ps, D.pys ds = some ps ∧ p = .tuple ps := by
  unfold D.py at h
  cases q : D.pys ds with
  | none => rw [q] at h; cases h
  | some ps => rw [q] at h; cases h; exact ⟨ps, rfl, rfl⟩
theorem py_lst {ds : List D} {p : PyData} (h : (D.lst ds).py = some p) : ∃ ps, D.pys ds = some ps ∧ p = .list ps := by
  unfold D.py at h
  cases q : D.pys ds with
  | none => rw [q] at h; cases h
  | some ps => rw [q] at h; cases h; exact ⟨ps, rfl, rfl⟩
theorem pys_cons {d : D} {ds : List D} {ps : List PyData} (h : D.pys (d :: ds) = some ps) : ∃ p qs, d.py = some p ∧ D.pys ds = some qs ∧ ps = p :: qs := by
  unfold D.pys at h
  cases q1 : D.py d with
  | none => rw [q1] at h; cases h
  | some p =>
    cases q2 : D.pys ds with
    | none => rw [q1, q2] at h; cases h
    | some qs => rw [q1, q2] at h; cases h; exact ⟨p, qs, rfl, rfl, rfl⟩
theorem pys_nil {ps : List PyData} (h : D.pys [] = some ps) : ps = [] := by unfold D.pys at h; cases h; rfl
theorem eqvs_nb {n m : Nat} (ih : ∀ d e p q, nb n d = true → nb m e = true → d.py = some p → e.py = some q → (PyData.eqv p q = true ↔ d = e)) : ∀ (ds es : List D) (ps qs : List PyData), ds.all (nb n) = true → es.all (nb m) = true → D.pys ds = some ps → D.pys es = some qs → (PyData.eqvAll ps qs = true ↔ ds = es)
  | [], [], ps, qs, _, _, h1, h2 => by rw [pys_nil h1, pys_nil h2]; simp [PyData.eqvAll]
  | [], e :: es, ps, qs, _, _, h1, h2 => by
    obtain ⟨q, qs', _, _, rfl⟩ := pys_cons h2
    rw [pys_nil h1]; simp [PyData.eqvAll]
  | d :: ds, [], ps, qs, _, _, h1, h2 => by
    obtain ⟨q, qs', _, _, rfl⟩ := pys_cons h1
    rw [pys_nil h2]; simp [PyData.eqvAll]
  | d :: ds, e :: es, ps, qs, a1, a2, h1, h2 => by
    obtain ⟨p, ps', b1, b2, rfl⟩ := pys_cons h1
    obtain ⟨q, qs', c1, c2, rfl⟩ := pys_cons h2
    rw [List.all_cons, Bool.and_eq_true] at a1 a2
    have i1 := ih d e p q a1.1 a2.1 b1 c1
    have i2 := eqvs_nb ih ds es ps' qs' a1.2 a2.2 b2 c2
    simp only [PyData.eqvAll, Bool.and_eq_true, i1, i2, List.cons.injEq]
theorem eqv_nb : ∀ (n m : Nat) (d e : D) (p q : PyData), nb n d = true → nb m e = true → d.py = some p → e.py = some q → (PyData.eqv p q = true ↔ d = e) := by
  intro n
  induction n with
  | zero =>
    intro m d e p q h1 h2 e1 e2
    cases d <;> try (cases h1; done)
    all_goals
      unfold D.py at e1
      cases e1
      cases e <;> first
        | (cases m <;> cases h2; done)
        | (unfold D.py at e2; cases e2; simp [PyData.eqv]; done)
        | (obtain ⟨ps, _, rfl⟩ := py_tup e2; simp [PyData.eqv]; done)
        | (obtain ⟨ps, _, rfl⟩ := py_lst e2; simp [PyData.eqv]; done)
  | succ n ih =>
    intro m d e p q h1 h2 e1 e2
    cases d <;> try (cases h1; done)
    case tup ds =>
      obtain ⟨ps, b1, rfl⟩ := py_tup e1
      cases e <;> first
        | (cases m <;> cases h2; done)
        | (unfold D.py at e2; cases e2; simp [PyData.eqv]; done)
        | (obtain ⟨ps, _, rfl⟩ := py_lst e2; simp [PyData.eqv]; done)
        | skip
      rename_i es
      obtain ⟨qs, c1, rfl⟩ := py_tup e2
      cases m with
      | zero => cases h2
      | succ m =>
        have := eqvs_nb (n := n) (m := m) (fun d e p q => ih m d e p q) ds es ps qs h1 h2 b1 c1
        simp only [PyData.eqv, this, D.tup.injEq]
    case lst ds =>
      obtain ⟨ps, b1, rfl⟩ := py_lst e1
      cases e <;> first
        | (cases m <;> cases h2; done)
        | (unfold D.py at e2; cases e2; simp [PyData.eqv]; done)
        | (obtain ⟨ps, _, rfl⟩ := py_tup e2; simp [PyData.eqv]; done)
        | skip
      rename_i es
      obtain ⟨qs, c1, rfl⟩ := py_lst e2
      cases m with
      | zero => cases h2
      | succ m =>
        have := eqvs_nb (n := n) (m := m) (fun d e p q => ih m d e p q) ds es ps qs h1 h2 b1 c1
        simp only [PyData.eqv, this, D.lst.injEq]
    all_goals
      unfold D.py at e1
      cases e1
      cases e <;> first
        | (cases m <;> cases h2; done)
        | (unfold D.py at e2; cases e2; simp [PyData.eqv]; done)
        | (obtain ⟨ps, _, rfl⟩ := py_tup e2; simp [PyData.eqv]; done)
        | (obtain ⟨ps, _, rfl⟩ := py_lst e2; simp [PyData.eqv]; done)
open Classical in
theorem ev_eqN {d e : D} (n : Nat) (h1 : nb n d = true) (h2 : nb n e = true) (hn : n ≤ 60) : dEq d e = some (.bl (decide (d = e))) := by
  obtain ⟨p, a1, a2⟩ := nb_sh h1 hn
  obtain ⟨q, b1, b2⟩ := nb_sh h2 hn
  unfold dEq dEqB
  rw [a2, b2]
  show some (D.bl _) = _
  congr 2
  rw [Bool.eq_iff_iff, eqv_nb n n d e p q h1 h2 a1 b1]
  simp
end FR
end
section
set_option Elab.async false
set_option linter.all false
set_option maxRecDepth 100000
namespace FR
open PySem L2 DI
theorem nodup_sub {α : Type} [DecidableEq α] : ∀ {l m : List α}, l.Nodup → (∀ x ∈ l, x ∈ m) → l.length ≤ m.length
  | [], m, _, _ => Nat.zero_le _
  | x :: l, m, h, hs => by
    have nd := List.nodup_cons.mp h
    have xm := hs x List.mem_cons_self
    have := nodup_sub (l := l) (m := m.erase x) nd.2 (fun y hy => (List.mem_erase_of_ne (fun e => nd.1 (by rw [← e]; exact hy))).mpr (hs y (List.mem_cons_of_mem _ hy)))
    rw [List.length_erase_of_mem xm] at this
    have := List.length_pos_of_mem xm
    simp
    omega
end FR
end
section
set_option Elab.async false
set_option linter.all false
set_option maxRecDepth 100000
namespace FR
open PySem L2 DI
/-! who is a neighbour of whom -/
theorem apR_at {rows : List (List Int)} {j y : Int} {i : Nat} (hj : 0 ≤ j) (hl : j.toNat < rows.length) : (apR rows j y).getD i [] = if i = j.toNat then rows.getD i [] ++ [y] else rows.getD i [] := by
  unfold apR
  rw [List.getD_eq_getElem?_getD, List.getD_eq_getElem?_getD]
  by_cases e : i = j.toNat
  · subst e
    rw [if_pos rfl, List.getElem?_set_self hl, List.getD_eq_getElem?_getD]
    rfl
  · rw [if_neg e, List.getElem?_set_ne (Ne.symm e), List.getD_eq_getElem?_getD]
theorem nbr_iff {n : Int} {ls : List (Int × Int)} (hl : ∀ p ∈ ls, 0 ≤ p.1 ∧ p.1 < n ∧ 0 ≤ p.2 ∧ p.2 < n) (i x : Int) (h0 : 0 ≤ i) (h1 : i < n) : x ∈ (nbr n ls).getD i.toNat [] ↔ (i, x) ∈ ls ∨ (x, i) ∈ ls := by
  have gen : ∀ (ls : List (Int × Int)) (rows : List (List Int)), rows.length = n.toNat → (∀ p ∈ ls, 0 ≤ p.1 ∧ p.1 < n ∧ 0 ≤ p.2 ∧ p.2 < n) → (x ∈ (ls.foldl nb1 rows).getD i.toNat [] ↔ x ∈ rows.getD i.toNat [] ∨ (i, x) ∈ ls ∨ (x, i) ∈ ls) := by
    intro ls
    induction ls with
    | nil => intro rows _ _; simp
    | cons p ls ih =>
      intro rows hr hp
      obtain ⟨a1, a2, a3, a4⟩ := hp p List.mem_cons_self
      rw [List.foldl_cons, ih (nb1 rows p) (by rw [nb1_len]; exact hr) fun q m => hp q (List.mem_cons_of_mem _ m)]
      unfold nb1
      rw [apR_at a3 (by rw [apR_len]; omega), apR_at a1 (by omega)]
      obtain ⟨a, b⟩ := p
      simp only at a1 a2 a3 a4 ⊢
      rw [List.mem_cons, List.mem_cons, Prod.mk.injEq, Prod.mk.injEq]
      by_cases c1 : i.toNat = b.toNat <;> by_cases c2 : i.toNat = a.toNat
      · have e1 : i = b := by omega
        have e2 : i = a := by omega
        rw [if_pos c1, if_pos c2]
        simp only [List.mem_append, List.mem_singleton]
        subst e1; subst e2
        constructor
        · rintro (((h | h) | h) | h | h)
          · exact .inl h
          · exact .inr (.inl (.inl ⟨rfl, h⟩))
          · exact .inr (.inl (.inl ⟨rfl, h⟩))
          · exact .inr (.inl (.inr h))
          · exact .inr (.inr (.inr h))
        · rintro (h | (⟨_, h⟩ | h) | ⟨h, _⟩ | h)
          · exact .inl (.inl (.inl h))
          · exact .inl (.inl (.inr h))
          · exact .inr (.inl h)
          · exact .inl (.inr h)
          · exact .inr (.inr h)
      · have e1 : i = b := by omega
        have e2 : i ≠ a := by omega
        rw [if_pos c1, if_neg c2]
        simp only [List.mem_append, List.mem_singleton]
        constructor
        · rintro ((h | h) | h | h)
          · exact .inl h
          · exact .inr (.inr (.inl ⟨h, e1⟩))
          · exact .inr (.inl (.inr h))
          · exact .inr (.inr (.inr h))
        · rintro (h | (⟨h, _⟩ | h) | ⟨h, _⟩ | h)
          · exact .inl (.inl h)
          · exact absurd h e2
          · exact .inr (.inl h)
          · exact .inl (.inr h)
          · exact .inr (.inr h)
      · have e1 : i ≠ b := by omega
        have e2 : i = a := by omega
        rw [if_neg c1, if_pos c2]
        simp only [List.mem_append, List.mem_singleton]
        constructor
        · rintro ((h | h) | h | h)
          · exact .inl h
          · exact .inr (.inl (.inl ⟨e2, h⟩))
          · exact .inr (.inl (.inr h))
          · exact .inr (.inr (.inr h))
        · rintro (h | (⟨_, h⟩ | h) | ⟨_, h⟩ | h)
          · exact .inl (.inl h)
          · exact .inl (.inr h)
          · exact .inr (.inl h)
          · exact absurd h e1
          · exact .inr (.inr h)
      · have e1 : i ≠ b := by omega
        have e2 : i ≠ a := by omega
        rw [if_neg c1, if_neg c2]
        constructor
        · rintro (h | h | h)
          · exact .inl h
          · exact .inr (.inl (.inr h))
          · exact .inr (.inr (.inr h))
        · rintro (h | (⟨h, _⟩ | h) | ⟨_, h⟩ | h)
          · exact .inl h
          · exact absurd h e2
          · exact .inr (.inl h)
          · exact absurd h e1
          · exact .inr (.inr h)
  have := gen ls (List.replicate n.toNat []) (by simp) hl
  unfold nbr
  rw [this]
  have e : (List.replicate n.toNat ([] : List Int)).getD i.toNat [] = [] := by
    rw [List.getD_eq_getElem?_getD, List.getElem?_replicate]
    split <;> rfl
  rw [e]
  simp
theorem rowAt_iff {n : Int} {ls : List (Int × Int)} (hl : Lines n ls) {i x : Int} (h0 : 0 ≤ i) (h1 : i < n) : x ∈ rowAt n ls i ↔ (i, x) ∈ ls ∨ (x, i) ∈ ls := by
  rw [← nbr_iff (fun p m => by have := hl.ok p m; omega) i x h0 h1]
  unfold rowAt arnd
  rw [List.getD_eq_getElem?_getD, List.getElem?_map, List.getD_eq_getElem?_getD]
  have hlt : i.toNat < (nbr n ls).length := by rw [nbr_len]; omega
  rw [List.getElem?_eq_getElem hlt]
  exact (srtI_perm _).mem_iff
theorem rowAt_symm {n : Int} {ls : List (Int × Int)} (hl : Lines n ls) {i x : Int} (h0 : 0 ≤ i) (h1 : i < n) (h2 : 0 ≤ x) (h3 : x < n) : x ∈ rowAt n ls i ↔ i ∈ rowAt n ls x := by
  rw [rowAt_iff hl h0 h1, rowAt_iff hl h2 h3]
  exact ⟨Or.symm, Or.symm⟩
end FR
end
section
set_option Elab.async false
set_option linter.all false
set_option maxRecDepth 100000
namespace FR
open PySem L2 DI
/-! the film of a run -/
section
variable (n : Int) (ls : List (Int × Int)) (xs0 : List Int) (pk : Int → List Int)
/-- the states at a beat; pk: what is poked -/
def film : Nat → List Int
  | 0 => xs0
  | t + 1 => nextF n ls (film t) (pk t)
/-- firings, turns of a place in the first beats -/
def cnt : Nat → Int → Int
  | 0, _ => 0
  | t + 1, i => cnt t i + if nI (film n ls xs0 pk (t + 1)) i = 1 then 1 else 0
def trn : Nat → Int → Int
  | 0, _ => 0
  | t + 1, i => trn t i + if nI (film n ls xs0 pk t) i = nI (film n ls xs0 pk (t + 1)) i then 0 else 1
end
section
variable {n : Int} {ls : List (Int × Int)} {xs0 : List Int} {pk pk' : Int → List Int}
theorem film_len (t : Nat) : (film n ls xs0 pk t).length = xs0.length := by
  induction t with
  | zero => rfl
  | succ t ih => show (nextF _ _ _ _).length = _; rw [nextF_len, ih]
theorem film_pic (hp : Pic xs0) (t : Nat) : Pic (film n ls xs0 pk t) := by
  cases t with
  | zero => exact hp
  | succ t => exact nextF_pic
/-- the state of a place -/
abbrev stt (n : Int) (ls : List (Int × Int)) (xs0 : List Int) (pk : Int → List Int) (t : Nat) (i : Int) : Int := nI (film n ls xs0 pk t) i
theorem stt_range (hp : Pic xs0) {t : Nat} {i : Int} (h0 : 0 ≤ i) (h1 : i < xs0.length) : 0 ≤ stt n ls xs0 pk t i ∧ stt n ls xs0 pk t i ≤ 2 := film_pic hp t _ (nI_mem h0 (by rw [film_len]; exact h1))
theorem stt_succ {t : Nat} {i : Int} (h0 : 0 ≤ i) (h1 : i < xs0.length) : stt n ls xs0 pk (t + 1) i = if 0 < stt n ls xs0 pk t i then (stt n ls xs0 pk t i + 1) % 3 else if i ∈ pk t ∨ hearsB n ls (film n ls xs0 pk t) i = true then 1 else 0 := by
  obtain ⟨k, rfl⟩ : ∃ k : Nat, i = (k : Int) := ⟨i.toNat, by omega⟩
  have hk : k < (film n ls xs0 pk t).length := by rw [film_len]; omega
  have e : (film n ls xs0 pk (t + 1))[k]? = some (nxt n ls (film n ls xs0 pk t) (pk t) k) := by
    show (nextF n ls (film n ls xs0 pk t) (pk t))[k]? = _
    unfold nextF
    rw [List.getElem?_map, List.getElem?_range hk]
    rfl
  have hl2 : k < (film n ls xs0 pk (t + 1)).length := by rw [film_len]; omega
  show nI (film n ls xs0 pk (t + 1)) k = _
  rw [nI_nat hl2]
  rw [List.getElem?_eq_getElem hl2] at e
  rw [Option.some.inj e]
  rfl
end
end FR
end
section
set_option Elab.async false
set_option linter.all false
set_option maxRecDepth 100000
namespace FR
open PySem L2 DI
section
variable {n : Int} {ls : List (Int × Int)} {xs0 : List Int} {pk pk' : Int → List Int}
theorem trn_step (t : Nat) (i : Int) : trn n ls xs0 pk (t + 1) i = trn n ls xs0 pk t i + if stt n ls xs0 pk t i = stt n ls xs0 pk (t + 1) i then 0 else 1 := rfl
theorem cnt_step (t : Nat) (i : Int) : cnt n ls xs0 pk (t + 1) i = cnt n ls xs0 pk t i + if stt n ls xs0 pk (t + 1) i = 1 then 1 else 0 := rfl
theorem change {a a' : Int} {P : Prop} [Decidable P] (ha : 0 ≤ a ∧ a ≤ 2) (si : a' = if 0 < a then (a + 1) % 3 else if P then 1 else 0) : a' = a ∧ a = 0 ∧ ¬ P ∨ a' = (a + 1) % 3 ∧ a' ≠ a ∧ (a = 0 → P) := by
  have va : a = 0 ∨ a = 1 ∨ a = 2 := by omega
  subst si
  by_cases hP : P
  · right
    rw [if_pos hP]
    rcases va with rfl | rfl | rfl <;> refine ⟨by decide, by decide, fun _ => hP⟩
  · rw [if_neg hP]
    rcases va with rfl | rfl | rfl
    · left; exact ⟨by decide, rfl, hP⟩
    · right; exact ⟨by decide, by decide, fun e => by cases e⟩
    · right; exact ⟨by decide, by decide, fun e => by cases e⟩
end
end FR
end
section
set_option Elab.async false
set_option linter.all false
set_option maxRecDepth 100000
namespace FR
open PySem L2 DI
/-! who is poked at a beat -/
def placesAt (ps : List (Int × Int)) (b : Int) : List Int := (ps.filter fun p => decide (p.1 = b)).map (·.2)
end FR
end
section
set_option Elab.async false
set_option linter.all false
set_option maxRecDepth 100000
namespace FR
open PySem L2 DI
def cntL (n : Int) (ls : List (Int × Int)) (xs0 : List Int) (pk : Int → List Int) (t : Nat) : List Int := (List.range xs0.length).map fun (i : Nat) => cnt n ls xs0 pk t i
end FR
end
section
set_option Elab.async false
set_option linter.all false
set_option maxRecDepth 100000
namespace FR
open PySem L2 DI
/-! the law's own film, counts, turns -/
def encT (xs : List Int) : D := .tup (xs.map .int)
def filmL (n : Int) (ls : List (Int × Int)) (xs0 : List Int) (pk : Int → List Int) (t : Nat) : List (List Int) := (List.range (t + 1)).map (film n ls xs0 pk)
section
variable {n : Int} {ls : List (Int × Int)} {xs0 : List Int} {pk : Int → List Int}
theorem filmL_len {t : Nat} : (filmL n ls xs0 pk t).length = t + 1 := by unfold filmL; simp
theorem filmL_get {t i : Nat} (h : i ≤ t) : (filmL n ls xs0 pk t)[i]? = some (film n ls xs0 pk i) := by
  unfold filmL
  rw [List.getElem?_map, List.getElem?_range (by omega)]
  rfl
theorem filmL_take {t i : Nat} (h : i ≤ t) : (filmL n ls xs0 pk t).take (i + 1) = filmL n ls xs0 pk i := by
  unfold filmL
  rw [← List.map_take, List.take_range, Nat.min_eq_left (by omega)]
theorem filmL_idx {t : Nat} {i : Int} (h0 : 0 ≤ i) (h : i ≤ t) : dIdx (.lst ((filmL n ls xs0 pk t).map encT)) (.int i) = some (encT (film n ls xs0 pk i.toNat)) := ev_idxE (enc := encT) h0 (filmL_get (by omega))
theorem stt_idx {t : Nat} {i : Int} (h0 : 0 ≤ i) (h : i < xs0.length) : dIdx (encT (film n ls xs0 pk t)) (.int i) = some (.int (nI (film n ls xs0 pk t) i)) := ev_idxIT h0 (by rw [film_len]; exact h)
theorem cntL_len {t : Nat} : (cntL n ls xs0 pk t).length = xs0.length := by unfold cntL; simp
theorem cntL_get {t : Nat} {i : Int} (h0 : 0 ≤ i) (h : i < xs0.length) : nI (cntL n ls xs0 pk t) i = cnt n ls xs0 pk t i := by
  obtain ⟨k, rfl⟩ : ∃ k : Nat, i = (k : Int) := ⟨i.toNat, by omega⟩
  rw [nI_nat (by rw [cntL_len]; omega)]
  unfold cntL
  simp
end
end FR
end
section
set_option Elab.async false
set_option linter.all false
set_option maxRecDepth 100000
namespace FR
open PySem L2 DI
section
variable {n : Int} {ls : List (Int × Int)} {xs0 : List Int} {pk : Int → List Int}
theorem cntL_filter {t : Nat} {i : Int} : ((((List.range t).map fun b => film n ls xs0 pk (b + 1)).filter fun xs => decide (nI xs i = 1)).length : Int) = cnt n ls xs0 pk t i := by
  induction t with
  | zero => rfl
  | succ t ih =>
    rw [List.range_succ, List.map_append, List.filter_append, List.length_append, Int.natCast_add, ih, cnt_step]
    congr 1
    rw [List.map_singleton]
    by_cases c : nI (film n ls xs0 pk (t + 1)) i = 1
    · simp [List.filter_cons, c]
    · simp [List.filter_cons, c]
theorem lcounts_ok (B : Nat) (hB : B ≤ 100000) (hx : xs0.length ≤ 1000) : d__law_counts [.lst ((filmL n ls xs0 pk B).map encT)] = .ok (.lst ((cntL n ls xs0 pk B).map .int)) := by
  unfold d__law_counts
  have ix0 := filmL_idx (n := n) (ls := ls) (xs0 := xs0) (pk := pk) (t := B) (i := 0) (by omega) (by omega)
  have f0 : encT (film n ls xs0 pk (Int.toNat 0)) = .tup (xs0.map .int) := rfl
  rw [f0] at ix0
  have hle : xs0.length ≤ 16777216 := by omega
  have sl : dSl (.lst ((filmL n ls xs0 pk B).map encT)) (some 1) none = some (.lst (((List.range B).map fun b => film n ls xs0 pk (b + 1)).map encT)) := by
    have e : filmL n ls xs0 pk B = xs0 :: (List.range B).map fun b => film n ls xs0 pk (b + 1) := by
      unfold filmL
      rw [List.range_succ_eq_map, List.map_cons, List.map_map]
      rfl
    rw [e, List.map_cons]
    show some (D.lst (cutL _ (some 1) none)) = _
    unfold cutL HT.sIx
    simp
    rw [List.take_of_length_le (by simp)]
  simp -implicitDefEqProofs (disch := first | omega | (simp -implicitDefEqProofs; done) | (simp -implicitDefEqProofs; omega)) [-List.map_map, BT.sub, ev_denI, ev_stI, ev_slfS, ev_slfE, ev_st0n, ev_mod, ev_div, ev_mul, ev_pow, ev_line, ev_rng1, ev_rng2, ev_ar, ev_arI, rangeD_length, ix0, hle, rangeD_length]
  generalize hC : compL _ _ _ _ _ = oc
  have q := comp hC D.int (fun i : Nat => cnt n ls xs0 pk B i) fun i m => ⟨_, rfl, rfl, by
    have hi := List.mem_range.mp m
    have hB2 : B ≤ 16777216 := by omega
    simp -implicitDefEqProofs (disch := first | omega | (simp -implicitDefEqProofs; done) | (simp -implicitDefEqProofs; omega)) [-List.map_map, BT.sub, ev_denI, ev_stI, ev_slfS, ev_slfE, ev_st0n, ev_mod, ev_div, ev_mul, ev_pow, ev_line, ev_rng1, ev_rng2, ev_ar, ev_arI, rangeD_length, sl, hB2]
    generalize hC2 : compL _ _ _ _ _ = oc2
    have q2 := compP hC2 (fun xs => decide (nI xs (i : Int) = 1)) encT id fun xs m2 => ⟨_, rfl, by
      obtain ⟨b, _, rfl⟩ := List.mem_map.mp m2
      have a1 := stt_idx (n := n) (ls := ls) (xs0 := xs0) (pk := pk) (t := b + 1) (i := (i : Int)) (by omega) (by omega)
      simp -implicitDefEqProofs (disch := first | omega | (simp -implicitDefEqProofs; done) | (simp -implicitDefEqProofs; omega)) [-List.map_map, BT.sub, ev_denI, ev_stI, ev_slfS, ev_slfE, ev_st0n, ev_mod, ev_div, ev_mul, ev_pow, ev_line, ev_rng1, ev_rng2, ev_ar, ev_arI, rangeD_length, a1], fun _ => by simp -implicitDefEqProofs (disch := first | omega | (simp -implicitDefEqProofs; done) | (simp -implicitDefEqProofs; omega)) [-List.map_map, BT.sub, ev_denI, ev_stI, ev_slfS, ev_slfE, ev_st0n, ev_mod, ev_div, ev_mul, ev_pow, ev_line, ev_rng1, ev_rng2, ev_ar, ev_arI, rangeD_length]⟩
    subst q2
    have cf := cntL_filter (n := n) (ls := ls) (xs0 := xs0) (pk := pk) (t := B) (i := (i : Int))
    simp -implicitDefEqProofs (disch := first | omega | (simp -implicitDefEqProofs; done) | (simp -implicitDefEqProofs; omega)) [-List.map_map, BT.sub, ev_denI, ev_stI, ev_slfS, ev_slfE, ev_st0n, ev_mod, ev_div, ev_mul, ev_pow, ev_line, ev_rng1, ev_rng2, ev_ar, ev_arI, rangeD_length, List.map_id]
    exact cf⟩
  subst q
  simp -implicitDefEqProofs (disch := first | omega | (simp -implicitDefEqProofs; done) | (simp -implicitDefEqProofs; omega)) [-List.map_map, BT.sub, ev_denI, ev_stI, ev_slfS, ev_slfE, ev_st0n, ev_mod, ev_div, ev_mul, ev_pow, ev_line, ev_rng1, ev_rng2, ev_ar, ev_arI, rangeD_length]
  rfl
end
end FR
end
section
set_option Elab.async false
set_option linter.all false
set_option maxRecDepth 100000
namespace FR
open PySem L2 DI
theorem around_idx {n : Int} {ls : List (Int × Int)} {x : Int} (h : 0 ≤ x) (h2 : x < n) : dIdx (rowsT (arnd n ls)) (.int x) = some (.tup ((rowAt n ls x).map .int)) :=
  ev_idxET (enc := fun r : List Int => .tup (r.map .int)) h (rowAt_get h h2)
theorem near_idx {n : Int} {ls : List (Int × Int)} {x : Int} (h : 0 ≤ x) (h2 : x < n) : dIdx (rowsL (arnd n ls)) (.int x) = some (.lst ((rowAt n ls x).map .int)) :=
  ev_idxE (enc := fun r : List Int => .lst (r.map .int)) h (rowAt_get h h2)
theorem cut1 {α : Type} {d : α} {ds : List α} : cutL (d :: ds) (some 1) none = ds := by
  unfold cutL HT.sIx
  simp
theorem len_near {n : Int} {ls : List (Int × Int)} (hn : 0 ≤ n) : dLen [rowsL (arnd n ls)] = some (.int n) := by
  unfold rowsL
  simp -implicitDefEqProofs (disch := first | omega | (simp -implicitDefEqProofs; done) | (simp -implicitDefEqProofs; omega)) [-List.map_map, BT.sub, ev_denI, ev_stI, ev_slfS, ev_slfE, ev_st0n, ev_mod, ev_div, ev_mul, ev_pow, ev_line, ev_rng1, ev_rng2, ev_ar, ev_arI, rangeD_length, arnd_len]
  omega
end FR
end
section
set_option Elab.async false
set_option linter.all false
set_option maxRecDepth 100000
namespace FR
open PySem L2 DI
/-! runs that come round, plain -/
/-- j: where the standing at T was first; before T no standing comes twice -/
structure Rnd {α : Type} (std : Nat → α) (j T : Nat) : Prop where
  lt : j < T
  eq : std j = std T
  new : ∀ a b, a < b → b < T → std a ≠ std b
theorem rnd_ex {α : Type} [DecidableEq α] (std : Nat → α) (m : List α) (h : ∀ t, std t ∈ m) : ∃ j T, Rnd std j T ∧ T ≤ m.length := by
  have go : ∀ N, (∀ a b, a < b → b < N → std a ≠ std b) ∨ ∃ j T, Rnd std j T ∧ T < N := by
    intro N
    induction N with
    | zero => exact .inl fun a b _ h => by omega
    | succ N ih =>
      rcases ih with q | ⟨j, T, r, l⟩
      · by_cases c : ∃ j, j < N ∧ std j = std N
        · obtain ⟨j, l, e⟩ := c
          exact .inr ⟨j, N, ⟨l, e, q⟩, by omega⟩
        · refine .inl fun a b ab bN => ?_
          by_cases e : b = N
          · subst e
            exact fun z => c ⟨a, ab, z⟩
          · exact q a b ab (by omega)
      · exact .inr ⟨j, T, r, by omega⟩
  rcases go (m.length + 1) with q | ⟨j, T, r, l⟩
  · exfalso
    have nd : ((List.range (m.length + 1)).map std).Nodup := by
      refine List.pairwise_map.mpr ?_
      refine (List.pairwise_lt_range (n := m.length + 1)).imp_of_mem fun {a b} ma mb hab => ?_
      exact q a b hab (List.mem_range.mp mb)
    have := nodup_sub nd (m := m) fun x hx => by
      obtain ⟨t, _, rfl⟩ := List.mem_map.mp hx
      exact h t
    rw [List.length_map, List.length_range] at this
    omega
  · exact ⟨j, T, r, by omega⟩
/-- all pictures of so many places -/
def allPc : Nat → List (List Int)
  | 0 => [[]]
  | k + 1 => (allPc k).flatMap fun x => [0 :: x, 1 :: x, 2 :: x]
theorem allPc_mem : ∀ (k : Nat) (xs : List Int), xs.length = k → Pic xs → xs ∈ allPc k
  | 0, [], _, _ => List.mem_singleton.mpr rfl
  | k + 1, x :: xs, h, p => by
    have ih := allPc_mem k xs (by simpa using h) fun y m => p y (List.mem_cons_of_mem _ m)
    refine List.mem_flatMap.mpr ⟨xs, ih, ?_⟩
    have := p x List.mem_cons_self
    have v : x = 0 ∨ x = 1 ∨ x = 2 := by omega
    rcases v with rfl | rfl | rfl <;> simp
  | 0, _ :: _, h, _ => by simp at h
  | k + 1, [], h, _ => by simp at h
theorem flat3_len (l : List (List Int)) : (l.flatMap fun x => [0 :: x, 1 :: x, 2 :: x]).length = 3 * l.length := by
  induction l with
  | nil => rfl
  | cons y l ih =>
    rw [List.flatMap_cons, List.length_append, ih]
    simp only [List.length_cons, List.length_nil]
    omega
theorem allPc_len : ∀ k, (allPc k).length = 3 ^ k
  | 0 => rfl
  | k + 1 => by
    show ((allPc k).flatMap _).length = _
    rw [flat3_len, allPc_len k, Nat.pow_succ]
    omega
/-- all standings -/
def allSt (k P : Nat) : List (List Int × Int) := (allPc k).flatMap fun x => (List.range P).map fun p : Nat => (x, (p : Int))
theorem allSt_len (k P : Nat) : (allSt k P).length = 3 ^ k * P := by
  have gen : ∀ l : List (List Int), (l.flatMap fun x => (List.range P).map fun p : Nat => (x, (p : Int))).length = l.length * P := by
    intro l
    induction l with
    | nil => simp
    | cons y l ih =>
      rw [List.flatMap_cons, List.length_append, ih, List.length_map, List.length_range, List.length_cons, Nat.succ_mul]
      omega
  unfold allSt
  rw [gen, allPc_len]
theorem allSt_mem {k P : Nat} {xs : List Int} {p : Int} (h : xs.length = k) (hp : Pic xs) (h0 : 0 ≤ p) (h1 : p < P) : (xs, p) ∈ allSt k P :=
  List.mem_flatMap.mpr ⟨xs, allPc_mem k xs h hp, List.mem_map.mpr ⟨p.toNat, List.mem_range.mpr (by omega), by rw [show ((p.toNat : Nat) : Int) = p by omega]⟩⟩
section
variable {n : Int} {ls : List (Int × Int)} {xs0 : List Int}
/-- pokes that come round -/
def pkP (P : Int) (ps : List (Int × Int)) (b : Int) : List Int := placesAt ps (b % P)
def stdP (n : Int) (ls : List (Int × Int)) (xs0 : List Int) (P : Int) (ps : List (Int × Int)) (t : Nat) : List Int × Int := (film n ls xs0 (pkP P ps) t, (t : Int) % P)
theorem rnd_std {P : Int} (hP : 1 ≤ P) (ps : List (Int × Int)) (hp : Pic xs0) : ∃ j T, Rnd (stdP n ls xs0 P ps) j T ∧ T ≤ 3 ^ xs0.length * P.toNat := by
  obtain ⟨j, T, r, l⟩ := rnd_ex (stdP n ls xs0 P ps) (allSt xs0.length P.toNat) fun t => allSt_mem (film_len t) (film_pic hp t) (Int.emod_nonneg _ (by omega)) (by
    have := Int.emod_lt_of_pos (t : Int) (show 0 < P by omega)
    omega)
  rw [allSt_len] at l
  exact ⟨j, T, r, l⟩
/-- from the first time on the run goes round -/
theorem Rnd.per {P : Int} {ps : List (Int × Int)} {j T : Nat} (r : Rnd (stdP n ls xs0 P ps) j T) : ∀ k : Nat, film n ls xs0 (pkP P ps) (T + k) = film n ls xs0 (pkP P ps) (j + k) ∧ ((T + k : Nat) : Int) % P = ((j + k : Nat) : Int) % P
  | 0 => by
    have := r.eq
    unfold stdP at this
    exact ⟨(congrArg Prod.fst this).symm, (congrArg Prod.snd this).symm⟩
  | k + 1 => by
    obtain ⟨a, b⟩ := r.per k
    constructor
    · show nextF n ls (film n ls xs0 (pkP P ps) (T + k)) (placesAt ps (((T + k : Nat) : Int) % P)) = nextF n ls (film n ls xs0 (pkP P ps) (j + k)) (placesAt ps (((j + k : Nat) : Int) % P))
      rw [a, b]
    · have e1 : ((T + (k + 1) : Nat) : Int) = ((T + k : Nat) : Int) + 1 := by omega
      have e2 : ((j + (k + 1) : Nat) : Int) = ((j + k : Nat) : Int) + 1 := by omega
      rw [e1, e2, Int.add_emod, b, ← Int.add_emod]
end
end FR
end
section
set_option Elab.async false
set_option linter.all false
set_option maxRecDepth 100000
namespace FR
open PySem L2 DI
/-! dicts with nested keys -/
section
variable {i : Nat} {f g : LS → R D} {st : LS} {ks : List NestedKey} {ds : List D} {y d : D} {k : NestedKey}
theorem ev_nin {neg : Bool} (h1 : st[i]? = some (some (.nd ks ds))) (h2 : f st = .ok y) (h3 : kN y = some k) : ninE neg i f st = .ok (.bl (if neg = true then !(nIx ks k).isSome else (nIx ks k).isSome)) := by
  unfold ninE
  rw [h2, h1]
  show (match ndI (some (some (T.nd ks ds))), kN y with
    | some (ks, _), some kk => R.ok (D.bl (if neg = true then !(nIx ks kk).isSome else (nIx ks kk).isSome))
    | _, _ => .bad) = _
  rw [h3]
  rfl
theorem ev_nix (h1 : st[i]? = some (some (.nd ks ds))) (h2 : f st = .ok y) (h3 : kN y = some k) (h4 : getN ks ds k = some d) : nixE i f st = .ok d := by
  unfold nixE
  rw [h1]
  show (f st).bind _ = _
  rw [h2]
  show (match kN y with
    | some kk => R.of (getN ks ds kk)
    | none => .bad) = _
  rw [h3]
  show R.of (getN ks ds k) = _
  rw [h4]
  rfl
theorem ev_nput (h1 : st[i]? = some (some (.nd ks ds))) (h2 : g st = .ok y) (h3 : f st = .ok d) (h4 : kN y = some k) (h5 : nIx ks k = none) (h6 : ds.length < 16777216) : nputS i g f st = .nx (st.set i (some (.nd (ks ++ [k]) (ds ++ [d])))) := by
  unfold nputS
  rw [h1]
  show (f st).out st _ = _
  rw [h3]
  show (g st).out st _ = _
  rw [h2]
  show (match kN y with
    | none => Out.bad
    | some kk => if (nIx ks kk).isSome = false ∧ ds.length < sizeLine then .nx (st.set i (some (.nd (ks ++ [kk]) (ds ++ [d])))) else .bad) = _
  rw [h4]
  show (if (nIx ks k).isSome = false ∧ ds.length < sizeLine then Out.nx (st.set i (some (.nd (ks ++ [k]) (ds ++ [d])))) else .bad) = _
  rw [if_pos ⟨by rw [h5]; rfl, h6⟩]
end
/-- a picture and a phase as a key -/
def nkey (xs : List Int) (p : Int) : NestedKey := .tup [.tup (xs.map .num), .num p]
theorem kNs_ints : ∀ xs : List Int, kNs (xs.map D.int) = some (xs.map .num)
  | [] => by unfold kNs; rfl
  | x :: xs => by
    rw [List.map_cons]
    unfold kNs
    rw [kNs_ints xs]
    unfold kN0
    rfl
theorem depth_nums : ∀ xs : List Int, NestedKey.depthAll (xs.map .num) = 0
  | [] => by unfold NestedKey.depthAll; rfl
  | x :: xs => by
    rw [List.map_cons]
    unfold NestedKey.depthAll
    rw [depth_nums xs]
    unfold NestedKey.depth
    rfl
theorem kN_std (xs : List Int) (p : Int) : kN (.tup [.tup (xs.map .int), .int p]) = some (nkey xs p) := by
  have e : kN0 (.tup [.tup (xs.map .int), .int p]) = some (nkey xs p) := by
    unfold kN0 kNs
    rw [show kN0 (.tup (xs.map D.int)) = some (.tup (xs.map .num)) by unfold kN0; rw [kNs_ints]; rfl]
    unfold kNs
    rw [show kN0 (.int p) = some (.num p) by unfold kN0; rfl]
    unfold kNs
    rfl
  have dd : (nkey xs p).depth ≤ 8 := by
    simp only [nkey, NestedKey.depth, NestedKey.depthAll, depth_nums]
    decide
  show (kN0 (.tup [.tup (xs.map .int), .int p])).bind _ = _
  rw [e]
  show (if (nkey xs p).depth ≤ 8 then some (nkey xs p) else none) = _
  rw [if_pos dd]
theorem map_num_inj : ∀ {xs ys : List Int}, xs.map NestedKey.num = ys.map NestedKey.num → xs = ys
  | [], [], _ => rfl
  | [], _ :: _, e => by simp at e
  | _ :: _, [], e => by simp at e
  | x :: xs, y :: ys, e => by
    rw [List.map_cons, List.map_cons] at e
    injection e with e1 e2
    injection e1 with e1
    rw [e1, map_num_inj e2]
theorem nkey_inj {xs ys : List Int} {p q : Int} (e : nkey xs p = nkey ys q) : (xs, p) = (ys, q) := by
  unfold nkey at e
  injection e with e
  injection e with e1 e
  injection e with e2 e
  injection e1 with e1
  injection e2 with e2
  rw [map_num_inj e1, e2]
theorem nIx_range {N : Nat} {f : Nat → NestedKey} {k : NestedKey} : (∃ a, a < N ∧ f a = k ∧ nIx ((List.range N).map f) k = some a) ∨ (nIx ((List.range N).map f) k = none ∧ ∀ a, a < N → f a ≠ k) := by
  cases q : nIx ((List.range N).map f) k with
  | none =>
    refine .inr ⟨rfl, fun a ha e => ?_⟩
    have := List.findIdx?_eq_none_iff.mp q (f a) (List.mem_map.mpr ⟨a, List.mem_range.mpr ha, rfl⟩)
    simp [e] at this
  | some a =>
    obtain ⟨h1, h2, _⟩ := List.findIdx?_eq_some_iff_getElem.mp q
    rw [List.length_map, List.length_range] at h1
    simp at h2
    exact .inl ⟨a, h1, h2, rfl⟩
section
variable {n : Int} {ls : List (Int × Int)} {xs0 : List Int}
def nkT (n : Int) (ls : List (Int × Int)) (xs0 : List Int) (P : Int) (ps : List (Int × Int)) (t : Nat) : NestedKey := nkey (film n ls xs0 (pkP P ps) t) ((t : Int) % P)
def rndD (n : Int) (ls : List (Int × Int)) (xs0 : List Int) (P : Int) (ps : List (Int × Int)) (j T : Nat) : D := .lst [.int (j : Int), .int ((T : Int) - j), .lst ((filmL n ls xs0 (pkP P ps) (T - 1)).map encT)]
set_option maxHeartbeats 4000000 in
theorem lround_of (ps : List (Int × Int)) (P : Int) (d : D) (hd : d = .tup (xs0.map .int) ∨ d = .lst (xs0.map .int)) (hP : 1 ≤ P) (hps : ps.length ≤ 100000) (hln : ls.length ≤ 10000) (hl : Lines n ls) (hx : xs0.length = n.toNat) (hp : Pic xs0) (hn2 : n ≤ 1000) (few : ∃ j T, Rnd (stdP n ls xs0 P ps) j T ∧ T ≤ 19999) :
    ∃ j T, Rnd (stdP n ls xs0 P ps) j T ∧ T ≤ 20000 ∧ d__law_round [rowsL (arnd n ls), d, .int P, .lst (ps.map dP)] = .ok (rndD n ls xs0 P ps j T) := by
  unfold d__law_round
  have hle : xs0.length ≤ 16777216 := by omega
  have tupd : dTuple [d] = some (.tup (xs0.map .int)) := by
    rcases hd with rfl | rfl
    · simp -implicitDefEqProofs (disch := first | omega | (simp -implicitDefEqProofs; done) | (simp -implicitDefEqProofs; omega)) [-List.map_map, BT.sub, ev_denI, ev_stI, ev_slfS, ev_slfE, ev_st0n, ev_mod, ev_div, ev_mul, ev_pow, ev_line, ev_rng1, ev_rng2, ev_ar, ev_arI, rangeD_length]
    · simp -implicitDefEqProofs (disch := first | omega | (simp -implicitDefEqProofs; done) | (simp -implicitDefEqProofs; omega)) [-List.map_map, BT.sub, ev_denI, ev_stI, ev_slfS, ev_slfE, ev_st0n, ev_mod, ev_div, ev_mul, ev_pow, ev_line, ev_rng1, ev_rng2, ev_ar, ev_arI, rangeD_length, hle]
  have kn0 := kN_std xs0 0
  have nl : nlitF (tupE (consA (callE dTuple (consA (vi 1) nilA)) (consA (cc (.int 0)) nilA))) (cc (.int 0)) [some (.im (rowsL (arnd n ls))), some (.im d), some (.im (.int P)), some (.im (.lst (ps.map dP))), some (tE encT (filmL n ls xs0 (pkP P ps) 0)), none, none, none, none, none] = .ok (.nd ((List.range 1).map (nkT n ls xs0 P ps)) ((List.range 1).map fun i : Nat => .int (i : Int))) := by
    have e1 : tupE (consA (callE dTuple (consA (vi 1) nilA)) (consA (cc (.int 0)) nilA)) [some (.im (rowsL (arnd n ls))), some (.im d), some (.im (.int P)), some (.im (.lst (ps.map dP))), some (tE encT (filmL n ls xs0 (pkP P ps) 0)), none, none, none, none, none] = .ok (.tup [.tup (xs0.map .int), .int 0]) := by simp -implicitDefEqProofs (disch := first | omega | (simp -implicitDefEqProofs; done) | (simp -implicitDefEqProofs; omega)) [-List.map_map, BT.sub, ev_denI, ev_stI, ev_slfS, ev_slfE, ev_st0n, ev_mod, ev_div, ev_mul, ev_pow, ev_line, ev_rng1, ev_rng2, ev_ar, ev_arI, rangeD_length, tupd]
    unfold nlitF
    rw [e1]
    show (match kN (.tup [.tup (xs0.map .int), .int 0]) with
      | some kk => R.ok (T.nd [kk] [.int 0])
      | none => .bad) = _
    rw [kn0]
    show R.ok (T.nd [nkey xs0 0] [.int 0]) = _
    have : nkT n ls xs0 P ps 0 = nkey xs0 0 := by
      unfold nkT
      have : ((0 : Nat) : Int) % P = 0 := Int.zero_emod _
      rw [this]
      rfl
    rw [show (List.range 1).map (nkT n ls xs0 P ps) = [nkT n ls xs0 P ps 0] from rfl, this]
    rfl
  have st0 : imT [.tup (xs0.map .int)] = tE encT (filmL n ls xs0 (pkP P ps) 0) := rfl
  simp -implicitDefEqProofs (disch := first | omega | (simp -implicitDefEqProofs; done) | (simp -implicitDefEqProofs; omega)) [-List.map_map, BT.sub, ev_denI, ev_stI, ev_slfS, ev_slfE, ev_st0n, ev_mod, ev_div, ev_mul, ev_pow, ev_line, ev_rng1, ev_rng2, ev_ar, ev_arI, rangeD_length, tupd]
  rw [st0]
  simp -implicitDefEqProofs (disch := first | omega | (simp -implicitDefEqProofs; done) | (simp -implicitDefEqProofs; omega)) [-List.map_map, BT.sub, ev_denI, ev_stI, ev_slfS, ev_slfE, ev_st0n, ev_mod, ev_div, ev_mul, ev_pow, ev_line, ev_rng1, ev_rng2, ev_ar, ev_arI, rangeD_length, nl]
  generalize hL : forL _ _ _ _ = o
  have fin := loopR (α := Nat) hL (fun pr s => ∃ j6 j8 j9, s = [some (.im (rowsL (arnd n ls))), some (.im d), some (.im (.int P)), some (.im (.lst (ps.map dP))), some (tE encT (filmL n ls xs0 (pkP P ps) pr.length)), some (.nd ((List.range (pr.length + 1)).map (nkT n ls xs0 P ps)) ((List.range (pr.length + 1)).map fun i : Nat => .int (i : Int))), j6, none, j8, j9] ∧ ∀ a b, a < b → b ≤ pr.length → stdP n ls xs0 P ps a ≠ stdP n ls xs0 P ps b)
    (fun d => ∃ j T, Rnd (stdP n ls xs0 P ps) j T ∧ T ≤ 20000 ∧ d = rndD n ls xs0 P ps j T) ⟨none, none, none, rfl, fun a b h1 h2 => by simp at h2; omega⟩ (by
    rintro pr t po s q ⟨j6, j8, j9, rfl, hdis⟩
    obtain ⟨e1, e2, e3⟩ := range_split q
    subst e1
    rw [List.length_append, List.length_singleton]
    generalize pr.length = t at *
    have ix := filmL_idx (n := n) (ls := ls) (xs0 := xs0) (pk := pkP P ps) (t := t) (i := (t : Int)) (by omega) (by omega)
    rw [Int.toNat_natCast] at ix
    have fl := filmL_len (n := n) (ls := ls) (xs0 := xs0) (pk := pkP P ps) (t := t)
    have st := lstep_ok n ls (film n ls xs0 (pkP P ps) t) (pkP P ps t) hln hl (by rw [film_len]; exact hx) (film_pic hp t) hn2
    have pl : ps.length ≤ 16777216 := by omega
    have md : dMod (.int (t : Int)) (.int P) = some (.int ((t : Int) % P)) := ev_mod (by omega)
    obtain ⟨ph, hph⟩ : ∃ ph, ph = ((t + 1 : Nat) : Int) % P := ⟨_, rfl⟩
    have md1 : dMod (.int ((t : Int) + 1)) (.int P) = some (.int ph) := by rw [hph]; exact ev_mod (by omega)
    have ek : nkey (film n ls xs0 (pkP P ps) (t + 1)) ph = nkT n ls xs0 P ps (t + 1) := by rw [hph]; rfl
    have kn := kN_std (film n ls xs0 (pkP P ps) (t + 1)) ph
    rw [ek] at kn
    have kn : kN (.tup [encT (film n ls xs0 (pkP P ps) (t + 1)), .int ph]) = some (nkT n ls xs0 P ps (t + 1)) := kn
    have inj : ∀ a b, nkT n ls xs0 P ps a = nkT n ls xs0 P ps b → stdP n ls xs0 P ps a = stdP n ls xs0 P ps b := fun a b e => nkey_inj e
    have e : filmL n ls xs0 (pkP P ps) (t + 1) = filmL n ls xs0 (pkP P ps) t ++ [film n ls xs0 (pkP P ps) (t + 1)] := by
      unfold filmL
      rw [List.range_succ (n := t + 1), List.map_append]
      rfl
    have er : (List.range (t + 1 + 1)).map (nkT n ls xs0 P ps) = (List.range (t + 1)).map (nkT n ls xs0 P ps) ++ [nkT n ls xs0 P ps (t + 1)] := by
      rw [List.range_succ (n := t + 1), List.map_append]
      rfl
    have er2 : ((List.range (t + 1 + 1)).map fun i : Nat => D.int (i : Int)) = ((List.range (t + 1)).map fun i : Nat => D.int (i : Int)) ++ [D.int ((t : Int) + 1)] := by
      rw [List.range_succ (n := t + 1), List.map_append]
      rfl
    have fl1 : (filmL n ls xs0 (pkP P ps) t).length < 16777216 := by omega
    rcases nIx_range (N := t + 1) (f := nkT n ls xs0 P ps) (k := nkT n ls xs0 P ps (t + 1)) with ⟨a, ha, ea, eix⟩ | ⟨eix, ene⟩
    · refine .inr ⟨rndD n ls xs0 P ps a (t + 1), ?_, a, t + 1, ⟨by omega, inj _ _ ea, fun x y h1 h2 => hdis x y h1 (by omega)⟩, by omega, rfl⟩
      have nin : ninE false 5 (vi 9) [some (.im (rowsL (arnd n ls))), some (.im d), some (.im (.int P)), some (.im (.lst (ps.map dP))), some (tE encT (filmL n ls xs0 (pkP P ps) t)), some (.nd ((List.range (t + 1)).map (nkT n ls xs0 P ps)) ((List.range (t + 1)).map fun i : Nat => .int (i : Int))), some (.im (.int (t : Int))), none, some (.im (encT (film n ls xs0 (pkP P ps) (t + 1)))), some (.im (.tup [encT (film n ls xs0 (pkP P ps) (t + 1)), .int ph]))] = .ok (.bl true) := by
        rw [ev_nin rfl rfl kn, eix]
        rfl
      have nix : ∀ a4 : Option T, nixE 5 (vi 9) [some (.im (rowsL (arnd n ls))), some (.im d), some (.im (.int P)), some (.im (.lst (ps.map dP))), a4, some (.nd ((List.range (t + 1)).map (nkT n ls xs0 P ps)) ((List.range (t + 1)).map fun i : Nat => .int (i : Int))), some (.im (.int (t : Int))), none, some (.im (encT (film n ls xs0 (pkP P ps) (t + 1)))), some (.im (.tup [encT (film n ls xs0 (pkP P ps) (t + 1)), .int ph]))] = .ok (.int (a : Int)) := fun a4 => by
        refine ev_nix rfl rfl kn ?_
        unfold getN
        rw [eix]
        show ((List.range (t + 1)).map fun i : Nat => D.int (i : Int))[a]? = _
        rw [List.getElem?_map, List.getElem?_range ha]
        rfl
      generalize hF : seqS (setS 9 _) _ = F
      simp -implicitDefEqProofs (disch := first | omega | (simp -implicitDefEqProofs; done) | (simp -implicitDefEqProofs; omega)) [-List.map_map, BT.sub, ev_denI, ev_stI, ev_slfS, ev_slfE, ev_st0n, ev_mod, ev_div, ev_mul, ev_pow, ev_line, ev_rng1, ev_rng2, ev_ar, ev_arI, rangeD_length, ix, pl]
      generalize hC : compL _ _ _ _ _ = oc
      have q := compP hC (fun p => decide (p.1 = (t : Int) % P)) D.int (·.2) fun p m => ⟨_, rfl, by simp -implicitDefEqProofs (disch := first | omega | (simp -implicitDefEqProofs; done) | (simp -implicitDefEqProofs; omega)) [-List.map_map, BT.sub, ev_denI, ev_stI, ev_slfS, ev_slfE, ev_st0n, ev_mod, ev_div, ev_mul, ev_pow, ev_line, ev_rng1, ev_rng2, ev_ar, ev_arI, rangeD_length, dP, md], fun _ => by simp -implicitDefEqProofs (disch := first | omega | (simp -implicitDefEqProofs; done) | (simp -implicitDefEqProofs; omega)) [-List.map_map, BT.sub, ev_denI, ev_stI, ev_slfS, ev_slfE, ev_st0n, ev_mod, ev_div, ev_mul, ev_pow, ev_line, ev_rng1, ev_rng2, ev_ar, ev_arI, rangeD_length, dP]⟩
      subst q
      have st : d__law_step [rowsL (arnd n ls), encT (film n ls xs0 (pkP P ps) t), .lst (((ps.filter fun p => decide (p.1 = (t : Int) % P)).map (·.2)).map .int)] = .ok (encT (film n ls xs0 (pkP P ps) (t + 1))) := st
      simp -implicitDefEqProofs (disch := first | omega | (simp -implicitDefEqProofs; done) | (simp -implicitDefEqProofs; omega)) [-List.map_map, BT.sub, ev_denI, ev_stI, ev_slfS, ev_slfE, ev_st0n, ev_mod, ev_div, ev_mul, ev_pow, ev_line, ev_rng1, ev_rng2, ev_ar, ev_arI, rangeD_length, st]
      subst hF
      simp -implicitDefEqProofs (disch := first | omega | (simp -implicitDefEqProofs; done) | (simp -implicitDefEqProofs; omega)) [-List.map_map, BT.sub, ev_denI, ev_stI, ev_slfS, ev_slfE, ev_st0n, ev_mod, ev_div, ev_mul, ev_pow, ev_line, ev_rng1, ev_rng2, ev_ar, ev_arI, rangeD_length, ev_if, md1, nin, nix]
      rfl
    · rw [e]
      refine .inl ⟨_, ?_, some (.im (.int (t : Int))), some (.im (encT (film n ls xs0 (pkP P ps) (t + 1)))), some (.im (.tup [encT (film n ls xs0 (pkP P ps) (t + 1)), .int ph])), rfl, fun x y h1 h2 => ?_⟩
      · have nin : ninE false 5 (vi 9) [some (.im (rowsL (arnd n ls))), some (.im d), some (.im (.int P)), some (.im (.lst (ps.map dP))), some (tE encT (filmL n ls xs0 (pkP P ps) t)), some (.nd ((List.range (t + 1)).map (nkT n ls xs0 P ps)) ((List.range (t + 1)).map fun i : Nat => .int (i : Int))), some (.im (.int (t : Int))), none, some (.im (encT (film n ls xs0 (pkP P ps) (t + 1)))), some (.im (.tup [encT (film n ls xs0 (pkP P ps) (t + 1)), .int ph]))] = .ok (.bl false) := by
          rw [ev_nin rfl rfl kn, eix]
          rfl
        have np : nputS 5 (vi 9) (DI.bin dAdd (vi 6) (cc (.int 1))) [some (.im (rowsL (arnd n ls))), some (.im d), some (.im (.int P)), some (.im (.lst (ps.map dP))), some (tE encT (filmL n ls xs0 (pkP P ps) t)), some (.nd ((List.range (t + 1)).map (nkT n ls xs0 P ps)) ((List.range (t + 1)).map fun i : Nat => .int (i : Int))), some (.im (.int (t : Int))), none, some (.im (encT (film n ls xs0 (pkP P ps) (t + 1)))), some (.im (.tup [encT (film n ls xs0 (pkP P ps) (t + 1)), .int ph]))] = .nx [some (.im (rowsL (arnd n ls))), some (.im d), some (.im (.int P)), some (.im (.lst (ps.map dP))), some (tE encT (filmL n ls xs0 (pkP P ps) t)), some (.nd ((List.range (t + 1 + 1)).map (nkT n ls xs0 P ps)) ((List.range (t + 1 + 1)).map fun i : Nat => .int (i : Int))), some (.im (.int (t : Int))), none, some (.im (encT (film n ls xs0 (pkP P ps) (t + 1)))), some (.im (.tup [encT (film n ls xs0 (pkP P ps) (t + 1)), .int ph]))] := by
          rw [er, er2]
          exact ev_nput rfl rfl (by simp -implicitDefEqProofs (disch := first | omega | (simp -implicitDefEqProofs; done) | (simp -implicitDefEqProofs; omega)) [-List.map_map, BT.sub, ev_denI, ev_stI, ev_slfS, ev_slfE, ev_st0n, ev_mod, ev_div, ev_mul, ev_pow, ev_line, ev_rng1, ev_rng2, ev_ar, ev_arI, rangeD_length]) kn eix (by simp; omega)
        generalize hF : seqS (setS 9 _) _ = F
        simp -implicitDefEqProofs (disch := first | omega | (simp -implicitDefEqProofs; done) | (simp -implicitDefEqProofs; omega)) [-List.map_map, BT.sub, ev_denI, ev_stI, ev_slfS, ev_slfE, ev_st0n, ev_mod, ev_div, ev_mul, ev_pow, ev_line, ev_rng1, ev_rng2, ev_ar, ev_arI, rangeD_length, ix, pl]
        generalize hC : compL _ _ _ _ _ = oc
        have q := compP hC (fun p => decide (p.1 = (t : Int) % P)) D.int (·.2) fun p m => ⟨_, rfl, by simp -implicitDefEqProofs (disch := first | omega | (simp -implicitDefEqProofs; done) | (simp -implicitDefEqProofs; omega)) [-List.map_map, BT.sub, ev_denI, ev_stI, ev_slfS, ev_slfE, ev_st0n, ev_mod, ev_div, ev_mul, ev_pow, ev_line, ev_rng1, ev_rng2, ev_ar, ev_arI, rangeD_length, dP, md], fun _ => by simp -implicitDefEqProofs (disch := first | omega | (simp -implicitDefEqProofs; done) | (simp -implicitDefEqProofs; omega)) [-List.map_map, BT.sub, ev_denI, ev_stI, ev_slfS, ev_slfE, ev_st0n, ev_mod, ev_div, ev_mul, ev_pow, ev_line, ev_rng1, ev_rng2, ev_ar, ev_arI, rangeD_length, dP]⟩
        subst q
        have st : d__law_step [rowsL (arnd n ls), encT (film n ls xs0 (pkP P ps) t), .lst (((ps.filter fun p => decide (p.1 = (t : Int) % P)).map (·.2)).map .int)] = .ok (encT (film n ls xs0 (pkP P ps) (t + 1))) := st
        simp -implicitDefEqProofs (disch := first | omega | (simp -implicitDefEqProofs; done) | (simp -implicitDefEqProofs; omega)) [-List.map_map, BT.sub, ev_denI, ev_stI, ev_slfS, ev_slfE, ev_st0n, ev_mod, ev_div, ev_mul, ev_pow, ev_line, ev_rng1, ev_rng2, ev_ar, ev_arI, rangeD_length, st]
        subst hF
        simp -implicitDefEqProofs (disch := first | omega | (simp -implicitDefEqProofs; done) | (simp -implicitDefEqProofs; omega)) [-List.map_map, BT.sub, ev_denI, ev_stI, ev_slfS, ev_slfE, ev_st0n, ev_mod, ev_div, ev_mul, ev_pow, ev_line, ev_rng1, ev_rng2, ev_ar, ev_arI, rangeD_length, ev_if, md1, nin, np, fl1]
      · by_cases c : y = t + 1
        · subst c
          exact fun z => ene x (by omega) (by
            unfold nkT
            unfold stdP at z
            have z1 : film n ls xs0 (pkP P ps) x = film n ls xs0 (pkP P ps) (t + 1) := congrArg Prod.fst z
            have z2 : (x : Int) % P = ((t + 1 : Nat) : Int) % P := congrArg Prod.snd z
            rw [z1, z2])
        · exact hdis x y h1 (by omega))
  rcases fin with ⟨s', rfl, j6, j8, j9, rfl, hdis⟩ | ⟨dd, rfl, j, T, r, l, rfl⟩
  · exfalso
    obtain ⟨j, T, r, l⟩ := few
    rw [List.length_range] at hdis
    exact hdis j T r.lt (by omega) r.eq
  · exact ⟨j, T, r, l, rfl⟩
theorem lround_ok (ps : List (Int × Int)) (P : Int) (d : D) (hd : d = .tup (xs0.map .int) ∨ d = .lst (xs0.map .int)) (hP : 1 ≤ P) (hps : ps.length ≤ 100000) (hln : ls.length ≤ 10000) (hl : Lines n ls) (hx : xs0.length = n.toNat) (hp : Pic xs0) (hn2 : n ≤ 1000) (few : 3 ^ xs0.length * P.toNat ≤ 19999) :
    ∃ j T, Rnd (stdP n ls xs0 P ps) j T ∧ T ≤ 20000 ∧ d__law_round [rowsL (arnd n ls), d, .int P, .lst (ps.map dP)] = .ok (rndD n ls xs0 P ps j T) := by
  obtain ⟨j, T, r, l⟩ := rnd_std (n := n) (ls := ls) hP ps hp
  exact lround_of ps P d hd hP hps hln hl hx hp hn2 ⟨j, T, r, by omega⟩
end
end FR
end
section
set_option Elab.async false
set_option linter.all false
set_option maxRecDepth 100000
namespace FR
open PySem L2 DI
/-! the law's far beats -/
section
variable {n : Int} {ls : List (Int × Int)} {xs0 : List Int}
theorem slF {pk : Int → List Int} {B b : Nat} (h : b ≤ B) : dSl (.lst ((filmL n ls xs0 pk B).map encT)) none (some ((b : Int) + 1)) = some (.lst ((filmL n ls xs0 pk b).map encT)) := by
  rw [ev_slL (by omega), ← List.map_take, show ((b : Int) + 1).toNat = b + 1 by omega, filmL_take h]
end
end FR
end
section
set_option Elab.async false
set_option linter.all false
set_option maxRecDepth 100000
namespace FR
open PySem L2 DI
theorem while_go {b : LS → R Bool} {F : LS → Out} (P : Nat → LS → Prop) (step : ∀ k s, P (k + 1) s → b s = .ok true ∧ ∃ k' s2, k' ≤ k ∧ F s = .nx s2 ∧ P k' s2) (stop : ∀ s, P 0 s → b s = .ok false) :
    ∀ (N k : Nat) (s : LS), k < N → P k s → ∃ s', whileL b F N s = .nx s' ∧ P 0 s'
  | 0, k, s, h, _ => by omega
  | N + 1, 0, s, _, p => by
    refine ⟨s, ?_, p⟩
    unfold whileL
    rw [stop s p]
    rfl
  | N + 1, k + 1, s, h, p => by
    obtain ⟨e1, k', s2, hk, e2, p2⟩ := step k s p
    obtain ⟨s', e3, p3⟩ := while_go P step stop N k' s2 (by omega) p2
    refine ⟨s', ?_, p3⟩
    unfold whileL
    rw [e1]
    show (match F s with
      | .nx st2 => whileL b F N st2
      | .ct st2 => whileL b F N st2
      | .bk st2 => .nx st2
      | o => o) = _
    rw [e2]
    exact e3
theorem while_hL {b : LS → R Bool} {F : LS → Out} {N : Nat} {s : LS} {o : Out} (hW : whileL b F N s = o) (P : Nat → LS → Prop) (h0 : ∃ k, k < N ∧ P k s) (step : ∀ k s, P (k + 1) s → b s = .ok true ∧ ∃ k' s2, k' ≤ k ∧ F s = .nx s2 ∧ P k' s2) (stop : ∀ s, P 0 s → b s = .ok false) : ∃ s', o = .nx s' ∧ P 0 s' := by
  obtain ⟨k, hk, p⟩ := h0
  rw [← hW]
  exact while_go P step stop N k s hk p
end FR
end
section
set_option Elab.async false
set_option linter.all false
set_option maxRecDepth 100000
namespace FR
open PySem L2 DI
/-! the law's gains -/
section
variable {n : Int} {ls : List (Int × Int)} {xs0 : List Int}
/-- what fires from one beat to another one -/
def gainL (n : Int) (ls : List (Int × Int)) (xs0 : List Int) (pk : Int → List Int) (j T : Nat) : List Int := (List.range xs0.length).map fun i : Nat => cnt n ls xs0 pk T i - cnt n ls xs0 pk j i
/-- the law's gains -/
theorem lgains_ok {ps : List (Int × Int)} {P : Int} {j T : Nat} (r : Rnd (stdP n ls xs0 P ps) j T) (hT : T ≤ 20000) (hx : xs0.length ≤ 1000) :
    d__law_gains [rndD n ls xs0 P ps j T] = .ok (.lst ((gainL n ls xs0 (pkP P ps) j T).map .int)) := by
  unfold d__law_gains
  have lt := r.lt
  have i0 : dIdx (rndD n ls xs0 P ps j T) (.int 0) = some (.int (j : Int)) := ev_ix0
  have i2 : dIdx (rndD n ls xs0 P ps j T) (.int 2) = some (.lst ((filmL n ls xs0 (pkP P ps) (T - 1)).map encT)) := ev_ix2
  have ij : dIdx (.lst ((filmL n ls xs0 (pkP P ps) (T - 1)).map encT)) (.int (j : Int)) = some (encT (film n ls xs0 (pkP P ps) j)) := filmL_idx (by omega) (by omega)
  have sj := slF (n := n) (ls := ls) (xs0 := xs0) (pk := pkP P ps) (B := T - 1) (b := j) (by omega)
  have lc : ∀ b : Nat, b ≤ T → d__law_counts [.lst ((filmL n ls xs0 (pkP P ps) b).map encT)] = .ok (.lst ((cntL n ls xs0 (pkP P ps) b).map .int)) := fun b hb => lcounts_ok b (by omega) hx
  have lj := lc j (by omega)
  have lT := lc T (by omega)
  have cat : dAdd (.lst ((filmL n ls xs0 (pkP P ps) (T - 1)).map encT)) (.lst [encT (film n ls xs0 (pkP P ps) j)]) = some (.lst ((filmL n ls xs0 (pkP P ps) T).map encT)) := by
    have fl := filmL_len (n := n) (ls := ls) (xs0 := xs0) (pk := pkP P ps) (t := T - 1)
    rw [ev_catL (by rw [List.length_map, fl]; simp; omega)]
    have : filmL n ls xs0 (pkP P ps) T = filmL n ls xs0 (pkP P ps) (T - 1) ++ [film n ls xs0 (pkP P ps) j] := by
      have e := (r.per 0).1
      rw [Nat.add_zero, Nat.add_zero] at e
      unfold filmL
      rw [show T - 1 + 1 = T by omega, List.range_succ, List.map_append, List.map_singleton, e]
    rw [this, List.map_append]
    rfl
  have lnj : dLen [.lst ((cntL n ls xs0 (pkP P ps) j).map .int)] = some (.int (xs0.length : Int)) := by
    rw [ev_lenL]
    simp [cntL_len]
  have cI : ∀ (b : Nat) (i : Nat), i < xs0.length → dIdx (.lst ((cntL n ls xs0 (pkP P ps) b).map .int)) (.int (i : Int)) = some (.int (cnt n ls xs0 (pkP P ps) b i)) := fun b i hi => by
    rw [ev_idxI (by omega) (by rw [cntL_len]; omega), cntL_get (by omega) (by omega)]
  have hx2 : xs0.length ≤ 16777216 := by omega
  simp -implicitDefEqProofs (disch := first | omega | (simp -implicitDefEqProofs; done) | (simp -implicitDefEqProofs; omega)) [-List.map_map, BT.sub, ev_denI, ev_stI, ev_slfS, ev_slfE, ev_st0n, ev_mod, ev_div, ev_mul, ev_pow, ev_line, ev_rng1, ev_rng2, ev_ar, ev_arI, rangeD_length, i0, i2, ij, sj, lj, cat, lT, lnj, hx2]
  generalize hC : compL _ _ _ _ _ = oc
  have q := comp (α := Nat) hC D.int (fun i => cnt n ls xs0 (pkP P ps) T i - cnt n ls xs0 (pkP P ps) j i) fun i hi => ⟨_, rfl, rfl, by
    have hi := List.mem_range.mp hi
    have a1 := cI T i hi
    have a2 := cI j i hi
    simp -implicitDefEqProofs (disch := first | omega | (simp -implicitDefEqProofs; done) | (simp -implicitDefEqProofs; omega)) [-List.map_map, BT.sub, ev_denI, ev_stI, ev_slfS, ev_slfE, ev_st0n, ev_mod, ev_div, ev_mul, ev_pow, ev_line, ev_rng1, ev_rng2, ev_ar, ev_arI, rangeD_length, a1, a2]⟩
  subst q
  simp -implicitDefEqProofs (disch := first | omega | (simp -implicitDefEqProofs; done) | (simp -implicitDefEqProofs; omega)) [-List.map_map, BT.sub, ev_denI, ev_stI, ev_slfS, ev_slfE, ev_st0n, ev_mod, ev_div, ev_mul, ev_pow, ev_line, ev_rng1, ev_rng2, ev_ar, ev_arI, rangeD_length]
  rfl
end
end FR
end
section
set_option Elab.async false
set_option linter.all false
set_option maxRecDepth 100000
namespace FR
open PySem L2 DI
def leadI (x y : Int) : Int := if x = 0 ∧ y = 1 then 1 else if x = 1 ∧ y = 0 then -1 else 0
end FR
end
section
set_option Elab.async false
set_option linter.all false
set_option maxRecDepth 100000
namespace FR
open PySem L2 DI
theorem lead_ok (x y : Int) : d_state_lead [.int x, .int y] = .ok (.int (leadI x y)) := by
  unfold d_state_lead leadI
  by_cases c1 : x = 0
  · by_cases c2 : y = 1
    · simp -implicitDefEqProofs (disch := first | omega | (simp -implicitDefEqProofs; done) | (simp -implicitDefEqProofs; omega)) [-List.map_map, BT.sub, ev_denI, ev_stI, ev_slfS, ev_slfE, ev_st0n, ev_mod, ev_div, ev_mul, ev_pow, ev_line, ev_rng1, ev_rng2, ev_ar, ev_arI, rangeD_length, ev_if, c1, c2]
    · simp -implicitDefEqProofs (disch := first | omega | (simp -implicitDefEqProofs; done) | (simp -implicitDefEqProofs; omega)) [-List.map_map, BT.sub, ev_denI, ev_stI, ev_slfS, ev_slfE, ev_st0n, ev_mod, ev_div, ev_mul, ev_pow, ev_line, ev_rng1, ev_rng2, ev_ar, ev_arI, rangeD_length, ev_if, c1, c2]
  · by_cases c2 : x = 1
    · by_cases c3 : y = 0
      · simp -implicitDefEqProofs (disch := first | omega | (simp -implicitDefEqProofs; done) | (simp -implicitDefEqProofs; omega)) [-List.map_map, BT.sub, ev_denI, ev_stI, ev_slfS, ev_slfE, ev_st0n, ev_mod, ev_div, ev_mul, ev_pow, ev_line, ev_rng1, ev_rng2, ev_ar, ev_arI, rangeD_length, ev_if, c1, c2, c3]
        rfl
      · simp -implicitDefEqProofs (disch := first | omega | (simp -implicitDefEqProofs; done) | (simp -implicitDefEqProofs; omega)) [-List.map_map, BT.sub, ev_denI, ev_stI, ev_slfS, ev_slfE, ev_st0n, ev_mod, ev_div, ev_mul, ev_pow, ev_line, ev_rng1, ev_rng2, ev_ar, ev_arI, rangeD_length, ev_if, c1, c2, c3]
    · simp -implicitDefEqProofs (disch := first | omega | (simp -implicitDefEqProofs; done) | (simp -implicitDefEqProofs; omega)) [-List.map_map, BT.sub, ev_denI, ev_stI, ev_slfS, ev_slfE, ev_st0n, ev_mod, ev_div, ev_mul, ev_pow, ev_line, ev_rng1, ev_rng2, ev_ar, ev_arI, rangeD_length, ev_if, c1, c2]
end FR
end
section
set_option Elab.async false
set_option linter.all false
set_option maxRecDepth 100000
namespace FR
open PySem L2 DI
theorem llead_ok (x y : Int) : d__law_lead [.int x, .int y] = .ok (.int (leadI x y)) := by
  unfold d__law_lead leadI
  by_cases c1 : x = 0
  · by_cases c2 : y = 1
    · simp -implicitDefEqProofs (disch := first | omega | (simp -implicitDefEqProofs; done) | (simp -implicitDefEqProofs; omega)) [-List.map_map, BT.sub, ev_denI, ev_stI, ev_slfS, ev_slfE, ev_st0n, ev_mod, ev_div, ev_mul, ev_pow, ev_line, ev_rng1, ev_rng2, ev_ar, ev_arI, rangeD_length, c1, c2]
    · simp -implicitDefEqProofs (disch := first | omega | (simp -implicitDefEqProofs; done) | (simp -implicitDefEqProofs; omega)) [-List.map_map, BT.sub, ev_denI, ev_stI, ev_slfS, ev_slfE, ev_st0n, ev_mod, ev_div, ev_mul, ev_pow, ev_line, ev_rng1, ev_rng2, ev_ar, ev_arI, rangeD_length, c1, c2]
  · by_cases c2 : x = 1
    · by_cases c3 : y = 0
      · simp -implicitDefEqProofs (disch := first | omega | (simp -implicitDefEqProofs; done) | (simp -implicitDefEqProofs; omega)) [-List.map_map, BT.sub, ev_denI, ev_stI, ev_slfS, ev_slfE, ev_st0n, ev_mod, ev_div, ev_mul, ev_pow, ev_line, ev_rng1, ev_rng2, ev_ar, ev_arI, rangeD_length, c1, c2, c3]
      · simp -implicitDefEqProofs (disch := first | omega | (simp -implicitDefEqProofs; done) | (simp -implicitDefEqProofs; omega)) [-List.map_map, BT.sub, ev_denI, ev_stI, ev_slfS, ev_slfE, ev_st0n, ev_mod, ev_div, ev_mul, ev_pow, ev_line, ev_rng1, ev_rng2, ev_ar, ev_arI, rangeD_length, c1, c2, c3]
    · simp -implicitDefEqProofs (disch := first | omega | (simp -implicitDefEqProofs; done) | (simp -implicitDefEqProofs; omega)) [-List.map_map, BT.sub, ev_denI, ev_stI, ev_slfS, ev_slfE, ev_st0n, ev_mod, ev_div, ev_mul, ev_pow, ev_line, ev_rng1, ev_rng2, ev_ar, ev_arI, rangeD_length, c1, c2]
end FR
end
section
set_option Elab.async false
set_option linter.all false
set_option maxRecDepth 100000
namespace FR
open PySem L2 DI
/-- gap less three leads is a difference -/
def hI (s : Int) : Int := if s = 1 then -2 else if s = 2 then -1 else 0
section
variable {n : Int} {ls : List (Int × Int)} {xs0 : List Int} {pk : Int → List Int}
theorem cnt_h (hp : Pic xs0) {i : Int} (h0 : 0 ≤ i) (h1 : i < xs0.length) (t : Nat) : 3 * cnt n ls xs0 pk t i = trn n ls xs0 pk t i - hI (stt n ls xs0 pk t i) + hI (stt n ls xs0 pk 0 i) := by
  induction t with
  | zero => show (3 * 0 : Int) = 0 - hI (stt n ls xs0 pk 0 i) + hI (stt n ls xs0 pk 0 i); omega
  | succ t ih =>
    have r := stt_range (n := n) (ls := ls) (pk := pk) hp (t := t) h0 h1
    have v : stt n ls xs0 pk t i = 0 ∨ stt n ls xs0 pk t i = 1 ∨ stt n ls xs0 pk t i = 2 := by omega
    rcases change r (stt_succ (n := n) (ls := ls) (pk := pk) (t := t) h0 h1) with ⟨e, e0, _⟩ | ⟨e, e2, _⟩
    · rw [cnt_step, trn_step, e, if_pos rfl, if_neg (by omega)]
      omega
    · rw [cnt_step, trn_step, if_neg (Ne.symm e2), e]
      rcases v with v | v | v
      · rw [v] at ih ⊢
        have : hI ((0 + 1) % 3) = -2 := by decide
        have : hI 0 = 0 := by decide
        rw [if_pos (by decide)]
        omega
      · rw [v] at ih ⊢
        have : hI ((1 + 1) % 3) = -1 := by decide
        have : hI 1 = -2 := by decide
        rw [if_neg (by decide)]
        omega
      · rw [v] at ih ⊢
        have : hI ((2 + 1) % 3) = 0 := by decide
        have : hI 2 = -1 := by decide
        rw [if_neg (by decide)]
        omega
end
end FR
end
section
set_option Elab.async false
set_option linter.all false
set_option maxRecDepth 100000
namespace FR
open PySem L2 DI
/-! the queue of a piece -/
theorem nbr_nodup {n : Int} {ls : List (Int × Int)} (hl : Lines n ls) (i : Int) (h0 : 0 ≤ i) (h1 : i < n) : ((nbr n ls).getD i.toNat []).Nodup := by
  have gen : ∀ (po pr : List (Int × Int)) (rows : List (List Int)), rows.length = n.toNat → (∀ p ∈ po, 0 ≤ p.1 ∧ p.1 < p.2 ∧ p.2 < n) → po.Nodup → (∀ p ∈ po, p ∉ pr) → (∀ p ∈ pr, p.1 < p.2) → (rows.getD i.toNat []).Nodup → (∀ x ∈ rows.getD i.toNat [], (i, x) ∈ pr ∨ (x, i) ∈ pr) → ((po.foldl nb1 rows).getD i.toNat []).Nodup := by
    intro po
    induction po with
    | nil => intro pr rows _ _ _ _ _ h _; exact h
    | cons p po ih =>
      intro pr rows hr hp hn hd hq h hm
      obtain ⟨a1, a2, a3⟩ := hp p List.mem_cons_self
      obtain ⟨n1, n2⟩ := List.nodup_cons.mp hn
      have np := hd p List.mem_cons_self
      rw [List.foldl_cons]
      obtain ⟨a, b⟩ := p
      simp only at a1 a2 a3
      have at_ : (nb1 rows (a, b)).getD i.toNat [] = if i = b then rows.getD i.toNat [] ++ [a] else if i = a then rows.getD i.toNat [] ++ [b] else rows.getD i.toNat [] := by
        unfold nb1
        rw [apR_at (by omega) (by rw [apR_len]; show b.toNat < _; omega), apR_at (by omega) (by show a.toNat < _; omega)]
        simp only
        by_cases c1 : i = b
        · subst c1
          rw [if_pos rfl, if_neg (by omega), if_pos rfl]
        · by_cases c2 : i = a
          · subst c2
            rw [if_neg (by omega), if_pos rfl, if_neg c1, if_pos rfl]
          · rw [if_neg (by omega), if_neg (by omega), if_neg c1, if_neg c2]
      have snoc : ∀ y, y ∉ rows.getD i.toNat [] → (rows.getD i.toNat [] ++ [y]).Nodup := fun y hy => List.nodup_append.mpr ⟨h, by simp, fun u hu v hv e => hy (by rw [List.mem_singleton.mp hv] at e; exact e ▸ hu)⟩
      refine ih ((a, b) :: pr) (nb1 rows (a, b)) (by rw [nb1_len]; exact hr) (fun q m => hp q (List.mem_cons_of_mem _ m)) n2 (fun q m z => ?_) (fun q m => ?_) ?_ (fun x hx => ?_)
      · rcases List.mem_cons.mp z with rfl | z
        · exact n1 m
        · exact hd q (List.mem_cons_of_mem _ m) z
      · rcases List.mem_cons.mp m with rfl | m
        · exact a2
        · exact hq q m
      · rw [at_]
        split
        case isTrue c =>
          subst c
          refine snoc a fun z => ?_
          rcases hm a z with z | z
          · have := hq _ z; simp only at this; omega
          · exact np z
        case isFalse c =>
          split
          case isTrue c2 =>
            subst c2
            refine snoc b fun z => ?_
            rcases hm b z with z | z
            · exact np z
            · have := hq _ z; simp only at this; omega
          case isFalse c2 => exact h
      · rw [at_] at hx
        have old : x ∈ rows.getD i.toNat [] → (i, x) ∈ (a, b) :: pr ∨ (x, i) ∈ (a, b) :: pr := fun z => (hm x z).imp (List.mem_cons_of_mem _) (List.mem_cons_of_mem _)
        split at hx
        case isTrue c =>
          subst c
          rcases List.mem_append.mp hx with z | z
          · exact old z
          · rw [List.mem_singleton.mp z]; exact .inr List.mem_cons_self
        case isFalse c =>
          split at hx
          case isTrue c2 =>
            subst c2
            rcases List.mem_append.mp hx with z | z
            · exact old z
            · rw [List.mem_singleton.mp z]; exact .inl List.mem_cons_self
          case isFalse c2 => exact old hx
  have e : (List.replicate n.toNat ([] : List Int)).getD i.toNat [] = [] := by
    rw [List.getD_eq_getElem?_getD, List.getElem?_replicate]
    split <;> rfl
  have hn : ls.Nodup := hl.up.imp fun {a b} z e => by
    subst e
    rcases z with z | ⟨_, z⟩ <;> omega
  unfold nbr
  exact gen ls [] (List.replicate n.toNat []) (by simp) hl.ok hn (fun _ _ z => nomatch z) (fun _ z => nomatch z) (by rw [e]; exact List.nodup_nil) (fun x z => by rw [e] at z; cases z)
theorem rowAt_nodup {n : Int} {ls : List (Int × Int)} (hl : Lines n ls) {i : Int} (h0 : 0 ≤ i) (h1 : i < n) : (rowAt n ls i).Nodup := by
  have h := nbr_nodup hl i h0 h1
  unfold rowAt arnd
  rw [List.getD_eq_getElem?_getD, List.getElem?_map]
  have hlt : i.toNat < (nbr n ls).length := by rw [nbr_len]; omega
  rw [List.getD_eq_getElem?_getD, List.getElem?_eq_getElem hlt] at h
  rw [List.getElem?_eq_getElem hlt]
  exact (srtI_perm _).nodup_iff.mpr h
def extQ (r : List Int) (L : List Int) : List Int := L ++ r.filter fun o => decide (o ∉ L)
def stepQ (n : Int) (ls : List (Int × Int)) (L : List Int) (k : Nat) : List Int := if k < L.length then extQ (rowAt n ls (nI L (k : Int))) L else L
def queue (n : Int) (ls : List (Int × Int)) (p : Int) : Nat → List Int
  | 0 => [p]
  | k + 1 => stepQ n ls (queue n ls p k) k
inductive Rch (n : Int) (ls : List (Int × Int)) : Int → Int → Prop
  | refl (p : Int) : Rch n ls p p
  | step {p v u : Int} : Rch n ls p v → u ∈ rowAt n ls v → Rch n ls p u
section
variable {n : Int} {ls : List (Int × Int)} {p : Int}
theorem queue_le {k : Nat} : ∃ t, queue n ls p (k + 1) = queue n ls p k ++ t := by
  show ∃ t, stepQ n ls (queue n ls p k) k = _
  unfold stepQ extQ
  split
  · exact ⟨_, rfl⟩
  · exact ⟨[], by simp⟩
theorem queue_pre {k : Nat} : ∀ {m : Nat}, k ≤ m → ∃ t, queue n ls p m = queue n ls p k ++ t
  | 0, h => by
    have : k = 0 := by omega
    subst this
    exact ⟨[], by simp⟩
  | m + 1, h => by
    by_cases c : k = m + 1
    · subst c; exact ⟨[], by simp⟩
    · obtain ⟨t, e⟩ := queue_pre (k := k) (m := m) (by omega)
      obtain ⟨t2, e2⟩ := queue_le (n := n) (ls := ls) (p := p) (k := m)
      exact ⟨t ++ t2, by rw [e2, e, List.append_assoc]⟩
theorem queue_all (hl : Lines n ls) (h0 : 0 ≤ p) (h1 : p < n) : ∀ k, (queue n ls p k).Nodup ∧ ∀ x ∈ queue n ls p k, (0 ≤ x ∧ x < n) ∧ Rch n ls p x
  | 0 => ⟨by show [p].Nodup; simp, fun x m => by rw [List.mem_singleton.mp m]; exact ⟨⟨h0, h1⟩, .refl p⟩⟩
  | k + 1 => by
    obtain ⟨a, b⟩ := queue_all hl h0 h1 k
    show (stepQ n ls (queue n ls p k) k).Nodup ∧ ∀ x ∈ stepQ n ls (queue n ls p k) k, _
    unfold stepQ extQ
    split
    case isFalse => exact ⟨a, b⟩
    case isTrue c =>
      have vm := nI_mem (xs := queue n ls p k) (i := (k : Int)) (by omega) (by omega)
      obtain ⟨vr, vp⟩ := b _ vm
      refine ⟨List.nodup_append.mpr ⟨a, (rowAt_nodup hl vr.1 vr.2).filter _, fun x hx y hy e => ?_⟩, fun x m => ?_⟩
      · subst e
        have := (List.mem_filter.mp hy).2
        simp only [decide_eq_true_eq] at this
        exact this hx
      · rcases List.mem_append.mp m with m | m
        · exact b x m
        · have m := (List.mem_filter.mp m).1
          exact ⟨rowAt_mem hl vr.1 vr.2 x m, .step vp m⟩
theorem queue_len (hl : Lines n ls) (h0 : 0 ≤ p) (h1 : p < n) (k : Nat) : (queue n ls p k).length ≤ n.toNat := by
  obtain ⟨a, b⟩ := queue_all hl h0 h1 k
  have := nodup_sub (m := (List.range n.toNat).map fun i : Nat => (i : Int)) a fun x m => by
    have := (b x m).1
    exact List.mem_map.mpr ⟨x.toNat, List.mem_range.mpr (by omega), by omega⟩
  rwa [List.length_map, List.length_range] at this
theorem queue_stay {k : Nat} (h : (queue n ls p k).length ≤ k) : ∀ m, k ≤ m → queue n ls p m = queue n ls p k
  | 0, hm => by
    have : k = 0 := by omega
    rw [this]
  | m + 1, hm => by
    by_cases c : k = m + 1
    · rw [c]
    · have e := queue_stay h m (by omega)
      show stepQ n ls (queue n ls p m) m = _
      rw [e]
      unfold stepQ
      rw [if_neg (by omega)]
/-- the piece, as it is found -/
def pieceQ (n : Int) (ls : List (Int × Int)) (p : Int) : List Int := queue n ls p n.toNat
theorem piece_closed (hl : Lines n ls) (h0 : 0 ≤ p) (h1 : p < n) {v u : Int} (hv : v ∈ pieceQ n ls p) (hu : u ∈ rowAt n ls v) : u ∈ pieceQ n ls p := by
  obtain ⟨j, hj, e⟩ := List.mem_iff_getElem.mp hv
  have len := queue_len hl h0 h1 n.toNat
  have jn : j < n.toNat := by unfold pieceQ at hj; omega
  have lj : j < (queue n ls p j).length := by
    refine Classical.byContradiction fun c => ?_
    have := queue_stay (n := n) (ls := ls) (p := p) (k := j) (by omega) n.toNat (by omega)
    unfold pieceQ at hj
    rw [this] at hj
    exact c hj
  obtain ⟨t, et⟩ := queue_pre (n := n) (ls := ls) (p := p) (k := j) (m := n.toNat) (by omega)
  have e2 : nI (queue n ls p j) (j : Int) = v := by
    rw [nI_nat lj, ← e]
    unfold pieceQ
    simp only [et]
    rw [List.getElem_append_left lj]
  obtain ⟨t2, et2⟩ := queue_pre (n := n) (ls := ls) (p := p) (k := j + 1) (m := n.toNat) (by omega)
  unfold pieceQ
  rw [et2]
  refine List.mem_append_left _ ?_
  show u ∈ stepQ n ls (queue n ls p j) j
  unfold stepQ extQ
  rw [if_pos lj, e2]
  by_cases c : u ∈ queue n ls p j
  · exact List.mem_append_left _ c
  · exact List.mem_append_right _ (List.mem_filter.mpr ⟨hu, by simpa using c⟩)
theorem piece_iff (hl : Lines n ls) (h0 : 0 ≤ p) (h1 : p < n) {x : Int} : x ∈ pieceQ n ls p ↔ Rch n ls p x := by
  refine ⟨fun m => ((queue_all hl h0 h1 n.toNat).2 x m).2, fun r => ?_⟩
  induction r with
  | refl =>
    obtain ⟨t, e⟩ := queue_pre (n := n) (ls := ls) (p := p) (k := 0) (m := n.toNat) (by omega)
    unfold pieceQ
    rw [e]
    exact List.mem_append_left _ List.mem_cons_self
  | step _ m ih => exact piece_closed hl h0 h1 ih m
theorem Rch.trans {a b c : Int} (h : Rch n ls a b) (g : Rch n ls b c) : Rch n ls a c := by
  induction g with
  | refl => exact h
  | step _ m ih => exact .step ih m
theorem Rch.symm (hl : Lines n ls) {a b : Int} (h : Rch n ls a b) (h0 : 0 ≤ a) (h1 : a < n) : (0 ≤ b ∧ b < n) ∧ Rch n ls b a := by
  induction h with
  | refl => exact ⟨⟨h0, h1⟩, .refl _⟩
  | step _ m ih =>
    obtain ⟨vr, r⟩ := ih
    have ur := rowAt_mem hl vr.1 vr.2 _ m
    exact ⟨ur, Rch.trans (.step (.refl _) ((rowAt_symm hl vr.1 vr.2 ur.1 ur.2).mp m)) r⟩
/-- all places of a piece have it -/
theorem piece_same (hl : Lines n ls) (h0 : 0 ≤ p) (h1 : p < n) {q : Int} (hq : q ∈ pieceQ n ls p) : srtI (pieceQ n ls q) = srtI (pieceQ n ls p) := by
  have rq := (piece_iff hl h0 h1).mp hq
  obtain ⟨qr, rp⟩ := rq.symm hl h0 h1
  have pm : (pieceQ n ls q).Perm (pieceQ n ls p) := (List.perm_ext_iff_of_nodup (queue_all hl qr.1 qr.2 n.toNat).1 (queue_all hl h0 h1 n.toNat).1).mpr fun x => by
    show x ∈ pieceQ n ls q ↔ x ∈ pieceQ n ls p
    rw [piece_iff hl qr.1 qr.2, piece_iff hl h0 h1]
    exact ⟨fun r => rq.trans r, fun r => rp.trans r⟩
  exact up_unique ((srtI_perm _).trans (pm.trans (srtI_perm _).symm)) (srtI_up _) (srtI_up _)
end
end FR
end
section
set_option Elab.async false
set_option linter.all false
set_option maxRecDepth 100000
namespace FR
open PySem L2 DI
/-! a dict whose keys are ints -/
def kI (xs : List Int) : List Key := xs.map Sum.inl
def kd (K : List Int) (e : Int → D) : T := .dct (kI K) ((K.map e).map .im)
theorem kIx_mem : ∀ {K : List Int} {x : Int}, (kIx (kI K) (.inl x)).isSome = decide (x ∈ K)
  | [], x => by simp [kI, kIx]
  | y :: K, x => by
    show (kIx (Sum.inl y :: kI K) (.inl x)).isSome = _
    rw [kIx_cons]
    by_cases e : y = x
    · subst e
      rw [if_pos rfl]
      simp
    · rw [if_neg (fun z => e (Sum.inl.inj z)), Option.isSome_map, kIx_mem]
      have : ¬ x = y := fun z => e z.symm
      simp [this]
theorem getA_kd {e : Int → D} : ∀ {K : List Int} {x : Int}, getA (kI K) (K.map e) (.inl x) = if x ∈ K then some (e x) else none
  | [], x => by simp [kI, getA, kIx]
  | y :: K, x => by
    show getA (Sum.inl y :: kI K) (e y :: K.map e) (.inl x) = _
    rw [getA_cons]
    by_cases c : y = x
    · subst c
      rw [if_pos rfl, if_pos List.mem_cons_self]
    · rw [if_neg (fun z => c (Sum.inl.inj z)), getA_kd]
      have : ¬ x = y := fun z => c z.symm
      simp [this]
theorem kIx_no {K : List Int} {x : Int} (h : x ∉ K) : kIx (kI K) (.inl x) = none := by
  have := kIx_mem (K := K) (x := x)
  rw [decide_eq_false h] at this
  cases q : kIx (kI K) (.inl x) with
  | none => rfl
  | some j => rw [q] at this; cases this
theorem put_new {K : List Int} {x : Int} {ds : List D} {d : D} (h : x ∉ K) : putKs (kI K) (.inl x) = kI (K ++ [x]) ∧ putXs (kI K) ds (.inl x) d = ds ++ [d] := by
  have e := kIx_no h
  constructor
  · unfold putKs
    rw [e]
    unfold kI
    rw [List.map_append]
    rfl
  · unfold putXs
    rw [e]
theorem dctI_kd {K : List Int} {e : Int → D} : dctI (some (some (kd K e))) = some (kI K, K.map e) := by
  unfold dctI kd
  show (imms ((K.map e).map .im)).map (fun ds => (kI K, ds)) = _
  rw [ev_imms]
  rfl
section
variable {st : LS} {i : Nat} {f g : LS → R D} {K : List Int} {e : Int → D} {x : Int}
theorem ev_dnin (h1 : st[i]? = some (some (kd K e))) (h2 : f st = .ok (.int x)) : dinE true i f st = .ok (.bl (!decide (x ∈ K))) := by
  unfold dinE
  rw [h2, h1, dctI_kd]
  show R.ok (D.bl (if true = true then !(kIx (kI K) (.inl x)).isSome else (kIx (kI K) (.inl x)).isSome)) = _
  rw [if_pos rfl, kIx_mem]
theorem ev_dix (h1 : st[i]? = some (some (kd K e))) (h2 : f st = .ok (.int x)) (hx : x ∈ K) : dixE i f st = .ok (e x) := by
  unfold dixE
  rw [h1, dctI_kd]
  show (f st).bind _ = _
  rw [h2]
  show R.of (getA (kI K) (K.map e) (.inl x)) = _
  rw [getA_kd, if_pos hx]
  rfl
theorem ev_dput {v : D} (h1 : st[i]? = some (some (kd K e))) (h2 : g st = .ok (.int x)) (h3 : f st = .ok v) (hx : x ∉ K) (hl : K.length < 16777216) (e' : Int → D) (he : ∀ y ∈ K, e' y = e y) (hv : e' x = v) : dputS i g f st = .nx (st.set i (some (kd (K ++ [x]) e'))) := by
  unfold dputS
  rw [h1, dctI_kd]
  show (f st).out st _ = _
  rw [h3]
  show (g st).out st _ = _
  rw [h2]
  show (if (K.map e).length < sizeLine then Out.nx (st.set i (some (.dct (putKs (kI K) (.inl x)) ((putXs (kI K) (K.map e) (.inl x) v).map T.im)))) else Out.bad) = _
  rw [List.length_map, if_pos (by show K.length < 16777216; exact hl), (put_new (ds := []) (d := D.non) hx).1, (put_new hx).2]
  unfold kd
  have : K.map e ++ [v] = (K ++ [x]).map e' := by
    rw [List.map_append, List.map_congr_left he, ← hv]
    rfl
  rw [this]
end
end FR
end
section
set_option Elab.async false
set_option linter.all false
set_option maxRecDepth 100000
namespace FR
open PySem L2 DI
/-! walks judged -/
section
variable {α : Type} {enc : α → D} {g : D → LS → Option LS} {st : LS} {F : LS → Out} {xs : List α} {o : Out}
theorem loopER (hL : forL g F (enumL 0 (xs.map enc)) st = o) (P : List α → LS → Prop) (Q : D → Prop) (h0 : P [] st)
    (h : ∀ pr x po s, xs = pr ++ x :: po → P pr s → (∃ s2, turn g F (.tup [.int (pr.length : Int), enc x]) s = .nx s2 ∧ P (pr ++ [x]) s2) ∨ ∃ d, turn g F (.tup [.int (pr.length : Int), enc x]) s = .rt d ∧ Q d) : (∃ s', o = .nx s' ∧ P xs s') ∨ ∃ d, o = .rt d ∧ Q d := by
  rw [enumL_map] at hL
  rcases loopR hL (fun pr s => P (pr.map (·.1)) s) Q h0 fun pr p po s q hp => by
    obtain ⟨e1, e2⟩ := zipIdx_split q
    have z := h _ p.1 _ s e2 hp
    rw [List.length_map] at z
    rw [e1, Int.zero_add, List.map_append]
    exact z with ⟨s', a, b⟩ | z
  · exact .inl ⟨s', a, by rw [List.zipIdx_map_fst] at b; exact b⟩
  · exact .inr z
end
theorem at_split {xs pr po : List Int} {x : Int} (h : xs = pr ++ x :: po) : nI xs (pr.length : Int) = x := by
  rw [nI_nat (by rw [h]; simp)]
  simp [h]
theorem ev_notInL {x : Int} {xs : List Int} : dNotIn (.int x) (.lst (xs.map .int)) = some (.bl (!decide (x ∈ xs))) := by
  have h := ev_inL (x := x) (xs := xs)
  unfold dIn at h
  unfold dNotIn
  cases q : dInB (.int x) (.lst (xs.map .int)) with
  | none => rw [q] at h; cases h
  | some b =>
    rw [q] at h
    injection h with h
    injection h with h
    rw [← h]
    rfl
end FR
end
section
set_option Elab.async false
set_option linter.all false
set_option maxRecDepth 100000
namespace FR
open PySem L2 DI
/-! pieces -/
theorem raise1_ev {c : Nat} {F : LS → R D} {st : LS} : raise1S c F st = (F st).out st fun d => .ex st (c, [d]) := rfl
theorem place_ok (n : Int) (ls : List (Int × Int)) (i : Int) (h0 : 0 ≤ i) (h1 : i < n) : d_check_place [webD n ls, .int i] = .ok .non := by
  unfold d_check_place
  have e : dFld fl_size (webD n ls) = some (.int n) := rfl
  have b' : ¬ n ≤ i := by omega
  simp -implicitDefEqProofs (disch := first | omega | (simp -implicitDefEqProofs; done) | (simp -implicitDefEqProofs; omega)) [-List.map_map, BT.sub, ev_denI, ev_stI, ev_slfS, ev_slfE, ev_st0n, ev_mod, ev_div, ev_mul, ev_pow, ev_line, ev_rng1, ev_rng2, ev_ar, ev_arI, rangeD_length, e, ev_if, h0, b']
theorem place_bad (n : Int) (ls : List (Int × Int)) (bad : Int) (h : bad < 0 ∨ n ≤ bad) : d_check_place [webD n ls, .int bad] = .ex (6, [.int bad]) := by
  unfold d_check_place
  have e : dFld fl_size (webD n ls) = some (.int n) := rfl
  by_cases c : 0 ≤ bad
  · have c2 : n ≤ bad := by omega
    simp -implicitDefEqProofs (disch := first | omega | (simp -implicitDefEqProofs; done) | (simp -implicitDefEqProofs; omega)) [-List.map_map, BT.sub, ev_denI, ev_stI, ev_slfS, ev_slfE, ev_st0n, ev_mod, ev_div, ev_mul, ev_pow, ev_line, ev_rng1, ev_rng2, ev_ar, ev_arI, rangeD_length, e, ev_if, c, c2, raise1_ev]
  · simp -implicitDefEqProofs (disch := first | omega | (simp -implicitDefEqProofs; done) | (simp -implicitDefEqProofs; omega)) [-List.map_map, BT.sub, ev_denI, ev_stI, ev_slfS, ev_slfE, ev_st0n, ev_mod, ev_div, ev_mul, ev_pow, ev_line, ev_rng1, ev_rng2, ev_ar, ev_arI, rangeD_length, e, ev_if, c, raise1_ev]
theorem extQ_snoc {pr L : List Int} {x : Int} (h : x ∉ pr) : (x ∈ extQ pr L ↔ x ∈ L) ∧ extQ (pr ++ [x]) L = if x ∈ L then extQ pr L else extQ pr L ++ [x] := by
  unfold extQ
  constructor
  · constructor
    · intro m
      rcases List.mem_append.mp m with m | m
      · exact m
      · exact absurd (List.mem_filter.mp m).1 h
    · exact fun m => List.mem_append_left _ m
  · rw [List.filter_append]
    by_cases c : x ∈ L
    · rw [if_pos c]
      simp [c]
    · rw [if_neg c]
      simp [c]
theorem queue_succ {n : Int} {ls : List (Int × Int)} {p : Int} {a : Nat} (c : a < (queue n ls p a).length) : queue n ls p (a + 1) = extQ (rowAt n ls (nI (queue n ls p a) (a : Int))) (queue n ls p a) := by
  show stepQ n ls (queue n ls p a) a = _
  unfold stepQ
  rw [if_pos c]
theorem piece_of_ok {n : Int} {ls : List (Int × Int)} (hl : Lines n ls) (hn2 : n ≤ 1000) (p : Int) (h0 : 0 ≤ p) (h1 : p < n) : d_piece_of [webD n ls, .int p] = .ok (.tup ((srtI (pieceQ n ls p)).map .int)) := by
  unfold d_piece_of
  have ck := place_ok n ls p h0 h1
  have wa : dFld fl_around (webD n ls) = some (rowsT (arnd n ls)) := rfl
  have dl : dlitF (vi 1) (cc (.bl true)) [some (.im (webD n ls)), some (.im (.int p)), some (imT [.int p]), none, none, none] = .ok (kd [p] fun _ => .bl true) := rfl
  simp -implicitDefEqProofs (disch := first | omega | (simp -implicitDefEqProofs; done) | (simp -implicitDefEqProofs; omega)) [-List.map_map, BT.sub, ev_denI, ev_stI, ev_slfS, ev_slfE, ev_st0n, ev_mod, ev_div, ev_mul, ev_pow, ev_line, ev_rng1, ev_rng2, ev_ar, ev_arI, rangeD_length, ck, dl]
  have im : imT [D.int p] = tE D.int [p] := rfl
  rw [im]
  generalize hW : whileL _ _ _ _ = o
  obtain ⟨s', rfl, a, j5, rfl, an, hk⟩ := while_hL hW (fun k s => ∃ (a : Nat) (j5 : Option T), s = [some (.im (webD n ls)), some (.im (.int p)), some (tE D.int (queue n ls p a)), some (kd (queue n ls p a) fun _ => .bl true), some (.im (.int (a : Int))), j5] ∧ a ≤ n.toNat ∧ k = if a < (queue n ls p a).length then n.toNat - a else 0)
    ⟨n.toNat, (by unfold fuel; omega), 0, none, rfl, Nat.zero_le _, by rw [if_pos (by show 0 < [p].length; simp)]; rfl⟩
    (by
      rintro k s ⟨a, j5, rfl, an, hk⟩
      have c : a < (queue n ls p a).length := by
        refine Classical.byContradiction fun z => ?_
        rw [if_neg z] at hk
        omega
      rw [if_pos c] at hk
      have len := queue_len hl h0 h1 a
      have len2 := queue_len hl h0 h1 (a + 1)
      have qs := queue_succ c
      have vr := ((queue_all hl h0 h1 a).2 _ (nI_mem (xs := queue n ls p a) (i := (a : Int)) (by omega) (by omega))).1
      have i1 := ev_idxI (xs := queue n ls p a) (i := (a : Int)) (by omega) (by omega)
      have i2 := around_idx (ls := ls) vr.1 vr.2
      have nd := rowAt_nodup hl vr.1 vr.2
      constructor
      · simp -implicitDefEqProofs (disch := first | omega | (simp -implicitDefEqProofs; done) | (simp -implicitDefEqProofs; omega)) [-List.map_map, BT.sub, ev_denI, ev_stI, ev_slfS, ev_slfE, ev_st0n, ev_mod, ev_div, ev_mul, ev_pow, ev_line, ev_rng1, ev_rng2, ev_ar, ev_arI, rangeD_length, c]
      · refine (fun (h : ∃ j5' : Option T, _ = Out.nx [some (.im (webD n ls)), some (.im (.int p)), some (tE D.int (queue n ls p (a + 1))), some (kd (queue n ls p (a + 1)) fun _ => .bl true), some (.im (.int ((a : Int) + 1))), j5']) => h.elim fun j5' e => ⟨if a + 1 < (queue n ls p (a + 1)).length then n.toNat - (a + 1) else 0, _, (by split <;> omega), e, a + 1, j5', rfl, by omega, rfl⟩) ?_
        rw [qs]
        have lenE : ∀ pr po : List Int, rowAt n ls (nI (queue n ls p a) (a : Int)) = pr ++ po → (extQ pr (queue n ls p a)).length ≤ n.toNat := fun pr po e => by
          rw [qs, e] at len2
          unfold extQ at len2 ⊢
          rw [List.filter_append] at len2
          simp only [List.length_append] at len2 ⊢
          omega
        clear qs len2
        generalize rowAt n ls (nI (queue n ls p a) (a : Int)) = row at *
        generalize nI (queue n ls p a) (a : Int) = v at *
        generalize queue n ls p a = Q at *
        simp -implicitDefEqProofs (disch := first | omega | (simp -implicitDefEqProofs; done) | (simp -implicitDefEqProofs; omega)) [-List.map_map, BT.sub, ev_denI, ev_stI, ev_slfS, ev_slfE, ev_st0n, ev_mod, ev_div, ev_mul, ev_pow, ev_line, ev_rng1, ev_rng2, ev_ar, ev_arI, rangeD_length, wa, i1, i2]
        generalize hL : forL _ _ _ _ = o
        obtain ⟨s', rfl, j5', rfl⟩ := loop hL (fun pr s => ∃ j5, s = [some (.im (webD n ls)), some (.im (.int p)), some (tE D.int (extQ pr Q)), some (kd (extQ pr Q) fun _ => .bl true), some (.im (.int (a : Int))), j5]) ⟨j5, by simp [extQ]⟩ (by
          rintro pr x po s q ⟨j5, rfl⟩
          have xp : x ∉ pr := fun m => by
            rw [q] at nd
            exact (List.nodup_append.mp nd).2.2 x m x List.mem_cons_self rfl
          obtain ⟨m1, m2⟩ := extQ_snoc (L := Q) xp
          have le := lenE pr (x :: po) q
          refine ⟨[some (.im (webD n ls)), some (.im (.int p)), some (tE D.int (extQ (pr ++ [x]) Q)), some (kd (extQ (pr ++ [x]) Q) fun _ => .bl true), some (.im (.int (a : Int))), some (.im (.int x))], ?_, _, rfl⟩
          rw [m2]
          generalize extQ pr Q = E at *
          have dn : dinE true 3 (vi 5) [some (.im (webD n ls)), some (.im (.int p)), some (tE D.int E), some (kd E fun _ => .bl true), some (.im (.int (a : Int))), some (.im (.int x))] = .ok (.bl (!decide (x ∈ E))) := ev_dnin rfl rfl
          by_cases c : x ∈ Q
          · rw [if_pos c]
            have c' := m1.mpr c
            simp -implicitDefEqProofs (disch := first | omega | (simp -implicitDefEqProofs; done) | (simp -implicitDefEqProofs; omega)) [-List.map_map, BT.sub, ev_denI, ev_stI, ev_slfS, ev_slfE, ev_st0n, ev_mod, ev_div, ev_mul, ev_pow, ev_line, ev_rng1, ev_rng2, ev_ar, ev_arI, rangeD_length, ev_if, dn, c']
          · rw [if_neg c]
            have c' : ¬ x ∈ E := fun z => c (m1.mp z)
            have lE : E.length < 16777216 := by omega
            have dp : dputS 3 (vi 5) (cc (.bl true)) [some (.im (webD n ls)), some (.im (.int p)), some (tE D.int E), some (kd E fun _ => .bl true), some (.im (.int (a : Int))), some (.im (.int x))] = .nx [some (.im (webD n ls)), some (.im (.int p)), some (tE D.int E), some (kd (E ++ [x]) fun _ => .bl true), some (.im (.int (a : Int))), some (.im (.int x))] := ev_dput rfl rfl rfl c' lE _ (fun _ _ => rfl) rfl
            simp -implicitDefEqProofs (disch := first | omega | (simp -implicitDefEqProofs; done) | (simp -implicitDefEqProofs; omega)) [-List.map_map, BT.sub, ev_denI, ev_stI, ev_slfS, ev_slfE, ev_st0n, ev_mod, ev_div, ev_mul, ev_pow, ev_line, ev_rng1, ev_rng2, ev_ar, ev_arI, rangeD_length, ev_if, dn, c', dp, lE])
        refine ⟨j5', ?_⟩
        simp -implicitDefEqProofs (disch := first | omega | (simp -implicitDefEqProofs; done) | (simp -implicitDefEqProofs; omega)) [-List.map_map, BT.sub, ev_denI, ev_stI, ev_slfS, ev_slfE, ev_st0n, ev_mod, ev_div, ev_mul, ev_pow, ev_line, ev_rng1, ev_rng2, ev_ar, ev_arI, rangeD_length]
        rfl)
    (by
      rintro s ⟨a, j5, rfl, an, hk⟩
      have len := queue_len hl h0 h1 a
      have c : ¬ a < (queue n ls p a).length := fun z => by
        rw [if_pos z] at hk
        omega
      simp -implicitDefEqProofs (disch := first | omega | (simp -implicitDefEqProofs; done) | (simp -implicitDefEqProofs; omega)) [-List.map_map, BT.sub, ev_denI, ev_stI, ev_slfS, ev_slfE, ev_st0n, ev_mod, ev_div, ev_mul, ev_pow, ev_line, ev_rng1, ev_rng2, ev_ar, ev_arI, rangeD_length, c])
  have len := queue_len hl h0 h1 a
  have c : ¬ a < (queue n ls p a).length := fun z => by
    rw [if_pos z] at hk
    omega
  have qe : pieceQ n ls p = queue n ls p a := queue_stay (by omega) _ an
  rw [qe]
  simp -implicitDefEqProofs (disch := first | omega | (simp -implicitDefEqProofs; done) | (simp -implicitDefEqProofs; omega)) [-List.map_map, BT.sub, ev_denI, ev_stI, ev_slfS, ev_slfE, ev_st0n, ev_mod, ev_div, ev_mul, ev_pow, ev_line, ev_rng1, ev_rng2, ev_ar, ev_arI, rangeD_length, ev_sort]
end FR
end
section
set_option Elab.async false
set_option linter.all false
set_option maxRecDepth 100000
namespace FR
open PySem L2 DI
/-! all pieces -/
theorem ext_ev {i : Nat} {f : LS → R D} {st : LS} : extS i f st = oB (ownL st[i]?) fun ts => (f st).out st fun d => extL st i ts d := by
  unfold extS
  cases ownL st[i]? <;> rfl
theorem extL_ev {i : Nat} {st : LS} {ts : List T} {ds : List D} : extL st i ts (.lst ds) = if ts.length + ds.length ≤ sizeLine then .nx (st.set i (some (.lst (ts ++ ds.map .im)))) else .bad := rfl
theorem tE_app2 {α : Type} {enc : α → D} {xs ys : List α} : T.lst (xs.map (T.im ∘ enc) ++ (ys.map enc).map T.im) = tE enc (xs ++ ys) := by
  unfold tE
  rw [List.map_map, List.map_append]
def encI (r : List Int) : D := .lst (r.map .int)
/-- the groups, the places done -/
def grp (n : Int) (ls : List (Int × Int)) : Nat → List (List Int) × List Int
  | 0 => ([], [])
  | k + 1 => if (k : Int) ∈ (grp n ls k).2 then grp n ls k else ((grp n ls k).1 ++ [srtI (pieceQ n ls (k : Int))], (grp n ls k).2 ++ pieceQ n ls (k : Int))
theorem grp_len {n : Int} {ls : List (Int × Int)} (hl : Lines n ls) : ∀ k : Nat, k ≤ n.toNat → (grp n ls k).2.length ≤ k * n.toNat ∧ (grp n ls k).1.length ≤ k
  | 0, _ => ⟨by show ([] : List Int).length ≤ _; simp, Nat.le_refl _⟩
  | k + 1, h => by
    obtain ⟨a, b⟩ := grp_len hl k (by omega)
    have q := queue_len (p := (k : Int)) hl (by omega) (by omega) n.toNat
    unfold grp
    split
    · exact ⟨Nat.le_trans a (Nat.mul_le_mul_right _ (by omega)), by omega⟩
    · refine ⟨?_, by rw [List.length_append, List.length_singleton]; omega⟩
      rw [List.length_append, Nat.succ_mul]
      unfold pieceQ
      omega
/-- each group is the piece of its places -/
theorem grp_piece {n : Int} {ls : List (Int × Int)} (hl : Lines n ls) : ∀ k : Nat, k ≤ n.toNat → ∀ g ∈ (grp n ls k).1, ∀ q ∈ g, (0 ≤ q ∧ q < n) ∧ srtI (pieceQ n ls q) = g
  | 0, _, g, m => nomatch m
  | k + 1, h, g, m => by
    unfold grp at m
    split at m
    · exact grp_piece hl k (by omega) g m
    · rcases List.mem_append.mp m with m | m
      · exact grp_piece hl k (by omega) g m
      · intro q hq
        rw [List.mem_singleton.mp m] at hq ⊢
        have hq := (srtI_perm _).mem_iff.mp hq
        exact ⟨((queue_all hl (by omega) (by omega) n.toNat).2 q hq).1, piece_same hl (by omega) (by omega) hq⟩
theorem lpieces_ok {n : Int} {ls : List (Int × Int)} (hl : Lines n ls) (hn0 : 0 ≤ n) (hn2 : n ≤ 1000) (hln : ls.length ≤ 10000) : d__law_pieces [rowsL (arnd n ls)] = .ok (.lst ((grp n ls n.toNat).1.map encI)) := by
  unfold d__law_pieces
  have ln := len_near (ls := ls) hn0
  simp -implicitDefEqProofs (disch := first | omega | (simp -implicitDefEqProofs; done) | (simp -implicitDefEqProofs; omega)) [-List.map_map, BT.sub, ev_denI, ev_stI, ev_slfS, ev_slfE, ev_st0n, ev_mod, ev_div, ev_mul, ev_pow, ev_line, ev_rng1, ev_rng2, ev_ar, ev_arI, rangeD_length, ln]
  generalize hL : forL _ _ _ _ = o
  obtain ⟨s', rfl, j3, j4, j5, j6, rfl⟩ := loop (α := Nat) hL (fun pr s => ∃ j3 j4 j5 j6, s = [some (.im (rowsL (arnd n ls))), some (tE encI (grp n ls pr.length).1), some (tE D.int (grp n ls pr.length).2), j3, j4, j5, j6]) ⟨none, none, none, none, rfl⟩ (by
    rintro pr k po s q ⟨j3, j4, j5, j6, rfl⟩
    obtain ⟨e1, e2, e3⟩ := range_split q
    rw [List.length_append, List.length_singleton]
    subst e1
    generalize pr.length = k at *
    obtain ⟨g1, g2⟩ := grp_len hl k (by omega)
    have g1 : (grp n ls k).2.length ≤ 1000000 := Nat.le_trans g1 (Nat.mul_le_mul (show k ≤ 1000 by omega) (show n.toNat ≤ 1000 by omega))
    have nin := ev_notInL (x := (k : Int)) (xs := (grp n ls k).2)
    by_cases c : (k : Int) ∈ (grp n ls k).2
    · have ge : grp n ls (k + 1) = grp n ls k := by conv => lhs; unfold grp; rw [if_pos c]
      rw [ge]
      rw [decide_eq_true c] at nin
      refine ⟨_, ?_, some (.im (.int (k : Int))), j4, j5, j6, rfl⟩
      simp -implicitDefEqProofs (disch := first | omega | (simp -implicitDefEqProofs; done) | (simp -implicitDefEqProofs; omega)) [-List.map_map, BT.sub, ev_denI, ev_stI, ev_slfS, ev_slfE, ev_st0n, ev_mod, ev_div, ev_mul, ev_pow, ev_line, ev_rng1, ev_rng2, ev_ar, ev_arI, rangeD_length, ev_if, nin]
    · have ge : grp n ls (k + 1) = ((grp n ls k).1 ++ [srtI (pieceQ n ls (k : Int))], (grp n ls k).2 ++ pieceQ n ls (k : Int)) := by conv => lhs; unfold grp; rw [if_neg c]
      rw [ge]
      rw [decide_eq_false c] at nin
      refine (fun (h : ∃ j5' j6' : Option T, _ = Out.nx [some (.im (rowsL (arnd n ls))), some (tE encI ((grp n ls k).1 ++ [srtI (pieceQ n ls (k : Int))])), some (tE D.int ((grp n ls k).2 ++ pieceQ n ls (k : Int))), some (.im (.int (k : Int))), some (.im (.lst ((pieceQ n ls (k : Int)).map .int))), j5', j6']) => h.elim fun j5' h => h.elim fun j6' e => ⟨_, e, _, _, j5', j6', rfl⟩) ?_
      generalize (grp n ls k).1 = G at *
      generalize (grp n ls k).2 = Dn at *
      simp -implicitDefEqProofs (disch := first | omega | (simp -implicitDefEqProofs; done) | (simp -implicitDefEqProofs; omega)) [-List.map_map, BT.sub, ev_denI, ev_stI, ev_slfS, ev_slfE, ev_st0n, ev_mod, ev_div, ev_mul, ev_pow, ev_line, ev_rng1, ev_rng2, ev_ar, ev_arI, rangeD_length, ev_if, nin, ln]
      have im : imT [D.int (k : Int)] = tE D.int [(k : Int)] := rfl
      rw [im]
      generalize hL2 : forL _ _ _ _ = o2
      obtain ⟨s', rfl, j5', j6', rfl⟩ := loop (α := Nat) hL2 (fun pr s => ∃ j5 j6, s = [some (.im (rowsL (arnd n ls))), some (tE encI G), some (tE D.int Dn), some (.im (.int (k : Int))), some (tE D.int (queue n ls (k : Int) pr.length)), j5, j6]) ⟨_, _, rfl⟩ (by
        rintro pr2 j po2 s q2 ⟨j5, j6, rfl⟩
        obtain ⟨f1, f2, f3⟩ := range_split q2
        rw [List.length_append, List.length_singleton]
        subst f1
        generalize pr2.length = j at *
        have len := queue_len (p := (k : Int)) hl (by omega) (by omega) j
        by_cases cj : j < (queue n ls (k : Int) j).length
        · have qs := queue_succ cj
          have vr := ((queue_all (p := (k : Int)) hl (by omega) (by omega) j).2 _ (nI_mem (xs := queue n ls (k : Int) j) (i := (j : Int)) (by omega) (by omega))).1
          have i1 := ev_idxI (xs := queue n ls (k : Int) j) (i := (j : Int)) (by omega) (by omega)
          have i2 := near_idx (ls := ls) vr.1 vr.2
          have rb := rowAt_bound (n := n) (ls := ls) (i := nI (queue n ls (k : Int) j) (j : Int))
          refine ⟨[some (.im (rowsL (arnd n ls))), some (tE encI G), some (tE D.int Dn), some (.im (.int (k : Int))), some (tE D.int (queue n ls (k : Int) (j + 1))), some (.im (.int (j : Int))), j6], ?_, _, _, rfl⟩
          rw [qs]
          unfold extQ
          generalize rowAt n ls (nI (queue n ls (k : Int) j) (j : Int)) = row at *
          generalize nI (queue n ls (k : Int) j) (j : Int) = v at *
          generalize queue n ls (k : Int) j = Q at *
          have rb2 : row.length ≤ 16777216 := by omega
          have fl := List.length_filter_le (fun o => decide (o ∉ Q)) row
          generalize hft : row.filter (fun o => decide (o ∉ Q)) = ft at *
          simp -implicitDefEqProofs (disch := first | omega | (simp -implicitDefEqProofs; done) | (simp -implicitDefEqProofs; omega)) [-List.map_map, BT.sub, ev_denI, ev_stI, ev_slfS, ev_slfE, ev_st0n, ev_mod, ev_div, ev_mul, ev_pow, ev_line, ev_rng1, ev_rng2, ev_ar, ev_arI, rangeD_length, ev_if, cj, i1, i2, rb2, ext_ev]
          generalize hC : compL _ _ _ _ _ = oc
          have q3 := compP hC (fun o => decide (o ∉ Q)) D.int id fun x m => ⟨_, rfl, by
            have nx := ev_notInL (x := x) (xs := Q)
            simp -implicitDefEqProofs (disch := first | omega | (simp -implicitDefEqProofs; done) | (simp -implicitDefEqProofs; omega)) [-List.map_map, BT.sub, ev_denI, ev_stI, ev_slfS, ev_slfE, ev_st0n, ev_mod, ev_div, ev_mul, ev_pow, ev_line, ev_rng1, ev_rng2, ev_ar, ev_arI, rangeD_length, nx], fun _ => by simp -implicitDefEqProofs (disch := first | omega | (simp -implicitDefEqProofs; done) | (simp -implicitDefEqProofs; omega)) [-List.map_map, BT.sub, ev_denI, ev_stI, ev_slfS, ev_slfE, ev_st0n, ev_mod, ev_div, ev_mul, ev_pow, ev_line, ev_rng1, ev_rng2, ev_ar, ev_arI, rangeD_length]⟩
          subst q3
          rw [hft]
          have lE : Q.length + ft.length ≤ 16777216 := by omega
          simp -implicitDefEqProofs (disch := first | omega | (simp -implicitDefEqProofs; done) | (simp -implicitDefEqProofs; omega)) [-List.map_map, BT.sub, ev_denI, ev_stI, ev_slfS, ev_slfE, ev_st0n, ev_mod, ev_div, ev_mul, ev_pow, ev_line, ev_rng1, ev_rng2, ev_ar, ev_arI, rangeD_length, extL_ev, List.map_id, lE, tE_app2]
        · have qs : queue n ls (k : Int) (j + 1) = queue n ls (k : Int) j := by
            show stepQ n ls (queue n ls (k : Int) j) j = _
            unfold stepQ
            rw [if_neg cj]
          rw [qs]
          refine ⟨_, ?_, some (.im (.int (j : Int))), j6, rfl⟩
          simp -implicitDefEqProofs (disch := first | omega | (simp -implicitDefEqProofs; done) | (simp -implicitDefEqProofs; omega)) [-List.map_map, BT.sub, ev_denI, ev_stI, ev_slfS, ev_slfE, ev_st0n, ev_mod, ev_div, ev_mul, ev_pow, ev_line, ev_rng1, ev_rng2, ev_ar, ev_arI, rangeD_length, ev_if, cj])
      refine ⟨j5', j6', ?_⟩
      rw [List.length_range]
      have len := queue_len (p := (k : Int)) hl (by omega) (by omega) n.toNat
      show _ = Out.nx [_, _, some (tE D.int (Dn ++ queue n ls (k : Int) n.toNat)), _, _, _, _]
      unfold pieceQ
      generalize queue n ls (k : Int) n.toNat = Q at *
      have lE : Dn.length + Q.length ≤ 16777216 := by omega
      have lG : G.length < 16777216 := by omega
      simp -implicitDefEqProofs (disch := first | omega | (simp -implicitDefEqProofs; done) | (simp -implicitDefEqProofs; omega)) [-List.map_map, BT.sub, ev_denI, ev_stI, ev_slfS, ev_slfE, ev_st0n, ev_mod, ev_div, ev_mul, ev_pow, ev_line, ev_rng1, ev_rng2, ev_ar, ev_arI, rangeD_length, ext_ev, extL_ev, ev_sort, lE, tE_app2, lG]
      exact tE_snoc (enc := encI) (y := srtI Q))
  rw [List.length_range]
  simp -implicitDefEqProofs (disch := first | omega | (simp -implicitDefEqProofs; done) | (simp -implicitDefEqProofs; omega)) [-List.map_map, BT.sub, ev_denI, ev_stI, ev_slfS, ev_slfE, ev_st0n, ev_mod, ev_div, ev_mul, ev_pow, ev_line, ev_rng1, ev_rng2, ev_ar, ev_arI, rangeD_length]
end FR
end
section
set_option Elab.async false
set_option linter.all false
set_option maxRecDepth 100000
namespace FR
open PySem L2 DI
theorem apR_get {rows : List (List Int)} {j y : Int} {i : Nat} (h : i < rows.length) : (apR rows j y).getD i [] = rows.getD i [] ++ (if j.toNat = i then [y] else []) := by
  unfold apR
  rw [List.getD_eq_getElem?_getD, List.getElem?_set]
  split
  · rename_i e
    subst e
    rw [if_pos h]
    rfl
  · rw [List.append_nil, List.getD_eq_getElem?_getD]
end FR
end
section
set_option Elab.async false
set_option linter.all false
set_option maxRecDepth 100000
namespace FR
open PySem L2 DI
/-! some drawn scenes as one -/
structure MixI (c : Nat) (rows : List (List Int)) (m : Int) : Prop where
  len : rows.length = c
  m0 : 0 ≤ m
  bd : ∀ j, j < c → ∀ x ∈ rows.getD j [], 0 ≤ x ∧ x < m
  up : ∀ j, j < c → (rows.getD j []).Pairwise (· < ·)
  dj : ∀ i j, i < c → j < c → i ≠ j → ∀ x ∈ rows.getD i [], x ∉ rows.getD j []
  cov : ∀ x, 0 ≤ x → x < m → ∃ j, j < c ∧ x ∈ rows.getD j []
theorem MixI.start (c : Nat) : MixI c (List.replicate c []) 0 := by
  have e : ∀ j, (List.replicate c ([] : List Int)).getD j [] = [] := fun j => by
    rw [List.getD_eq_getElem?_getD, List.getElem?_replicate]
    split <;> rfl
  refine ⟨by simp, Int.le_refl _, fun j _ x m => ?_, fun j _ => ?_, fun i j _ _ _ x m => ?_, fun x a b => by omega⟩
  · rw [e] at m; cases m
  · rw [e]; exact List.Pairwise.nil
  · rw [e] at m; cases m
theorem MixI.step {c : Nat} {rows : List (List Int)} {m : Int} (h : MixI c rows m) {k : Nat} (hk : k < c) : MixI c (apR rows (k : Int) m) (m + 1) := by
  have hl := h.len
  have m0 := h.m0
  have g : ∀ j, j < c → (apR rows (k : Int) m).getD j [] = rows.getD j [] ++ (if k = j then [m] else []) := fun j hj => by
    have := apR_get (rows := rows) (j := (k : Int)) (y := m) (i := j) (by omega)
    rw [Int.toNat_natCast] at this
    exact this
  refine ⟨by rw [apR_len]; exact hl, by omega, fun j hj x hx => ?_, fun j hj => ?_, fun i j hi hj ne x hx hy => ?_, fun x x0 x1 => ?_⟩
  · rw [g j hj] at hx
    rcases List.mem_append.mp hx with a | a
    · have := h.bd j hj x a; omega
    · split at a
      · rw [List.mem_singleton.mp a]; omega
      · cases a
  · rw [g j hj]
    split
    · refine List.pairwise_append.mpr ⟨h.up j hj, List.pairwise_singleton _ _, fun x hx y hy => ?_⟩
      rw [List.mem_singleton.mp hy]
      exact (h.bd j hj x hx).2
    · rw [List.append_nil]; exact h.up j hj
  · rw [g i hi] at hx
    rw [g j hj] at hy
    have fresh : ∀ q, q < c → m ∉ rows.getD q [] := fun q hq hm => by have := h.bd q hq m hm; omega
    rcases List.mem_append.mp hx with a | a
    · rcases List.mem_append.mp hy with b | b
      · exact h.dj i j hi hj ne x a b
      · split at b
        · rw [List.mem_singleton.mp b] at a; exact fresh i hi a
        · cases b
    · split at a
      · rcases List.mem_append.mp hy with b | b
        · rw [List.mem_singleton.mp a] at b; exact fresh j hj b
        · split at b
          · omega
          · cases b
      · cases a
  · by_cases e : x = m
    · exact ⟨k, hk, by rw [g k hk, if_pos rfl, e]; simp⟩
    · obtain ⟨j, hj, hx⟩ := h.cov x x0 (by omega)
      exact ⟨j, hj, by rw [g j hj]; exact List.mem_append_left _ hx⟩
theorem MixI.row {c : Nat} {rows : List (List Int)} {m : Int} (h : MixI c rows m) {k : Nat} (hk : k < c) (j : Nat) (hj : j < c) : ((apR rows (k : Int) m).getD j []).length = (rows.getD j []).length + (if k = j then 1 else 0) := by
  have := apR_get (rows := rows) (j := (k : Int)) (y := m) (i := j) (by rw [h.len]; exact hj)
  rw [Int.toNat_natCast] at this
  rw [this, List.length_append]
  split <;> rfl
theorem nI_mono {xs : List Int} (h : xs.Pairwise (· < ·)) {i j : Int} (h0 : 0 ≤ i) (h1 : i < j) (h2 : j < xs.length) : nI xs i < nI xs j := by
  have a := nI_nat (xs := xs) (i := i.toNat) (by omega)
  have b := nI_nat (xs := xs) (i := j.toNat) (by omega)
  rw [Int.toNat_of_nonneg h0] at a
  rw [Int.toNat_of_nonneg (by omega)] at b
  rw [a, b]
  exact List.pairwise_iff_getElem.mp h _ _ _ _ (by omega)
theorem nI_inj {xs : List Int} (h : xs.Pairwise (· < ·)) {i j : Int} (h0 : 0 ≤ i) (h1 : i < xs.length) (h2 : 0 ≤ j) (h3 : j < xs.length) (e : nI xs i = nI xs j) : i = j := by
  rcases Int.lt_trichotomy i j with c | c | c
  · have := nI_mono h h0 c h3; omega
  · exact c
  · have := nI_mono h h2 c h1; omega
end FR
end
section
set_option Elab.async false
set_option linter.all false
set_option maxRecDepth 100000
namespace FR
open PySem L2 DI
/-! a piece as a scene of its own -/
def qI (C : List Int) (x : Int) : Int := (C.idxOf x : Nat)
theorem qI_of {C : List Int} {x : Int} (h : x ∈ C) : (0 ≤ qI C x ∧ qI C x < C.length) ∧ nI C (qI C x) = x := by
  have l := List.idxOf_lt_length_of_mem h
  unfold qI
  refine ⟨⟨by omega, by omega⟩, ?_⟩
  rw [nI_nat l]
  exact List.getElem_idxOf l
theorem nI_up {C : List Int} (up : C.Pairwise (· < ·)) {i j : Int} (h0 : 0 ≤ i) (h1 : i < j) (h2 : j < C.length) : nI C i < nI C j := by
  obtain ⟨a, rfl⟩ : ∃ a : Nat, i = a := ⟨i.toNat, by omega⟩
  obtain ⟨b, rfl⟩ : ∃ b : Nat, j = b := ⟨j.toNat, by omega⟩
  rw [nI_nat (by omega), nI_nat (by omega)]
  exact List.pairwise_iff_getElem.mp up a b (by omega) (by omega) (by omega)
theorem qI_nI {C : List Int} (up : C.Pairwise (· < ·)) {i : Int} (h0 : 0 ≤ i) (h1 : i < C.length) : qI C (nI C i) = i := by
  obtain ⟨⟨a, b⟩, c⟩ := qI_of (nI_mem h0 h1)
  exact nI_inj up a b h0 h1 c
theorem qI_up {C : List Int} (up : C.Pairwise (· < ·)) {x y : Int} (hx : x ∈ C) (hy : y ∈ C) : x < y ↔ qI C x < qI C y := by
  obtain ⟨⟨a, b⟩, c⟩ := qI_of hx
  obtain ⟨⟨a', b'⟩, c'⟩ := qI_of hy
  constructor
  · intro h
    apply Classical.byContradiction
    intro z
    rcases Int.lt_or_eq_of_le (show qI C y ≤ qI C x by omega) with z | z
    · have := nI_up up a' z b
      omega
    · rw [← z] at c
      omega
  · intro h
    have := nI_up up a h b'
    omega
/-- the lines of the piece, by its own numbers -/
def lsC (ls : List (Int × Int)) (C : List Int) : List (Int × Int) := (ls.filter fun p => decide (p.1 ∈ C ∧ p.2 ∈ C)).map fun p => (qI C p.1, qI C p.2)
def picC (pic C : List Int) : List Int := C.map fun x => nI pic x
section
variable {n : Int} {ls : List (Int × Int)} {pic C : List Int}
theorem lsC_lines (hl : Lines n ls) (up : C.Pairwise (· < ·)) : Lines (C.length : Int) (lsC ls C) := by
  refine ⟨fun p hp => ?_, ?_⟩
  · obtain ⟨q, hq, rfl⟩ := List.mem_map.mp hp
    obtain ⟨h1, h2⟩ := List.mem_filter.mp hq
    obtain ⟨c1, c2⟩ := of_decide_eq_true h2
    have := hl.ok q h1
    have a := (qI_of c1).1
    have b := (qI_of c2).1
    have := (qI_up up c1 c2).mp this.2.1
    show 0 ≤ qI C q.1 ∧ qI C q.1 < qI C q.2 ∧ qI C q.2 < _
    omega
  · refine List.pairwise_map.mpr ((hl.up.filter _).imp_of_mem fun {p q} hp hq z => ?_)
    obtain ⟨a1, a2⟩ := of_decide_eq_true (List.mem_filter.mp hp).2
    obtain ⟨b1, b2⟩ := of_decide_eq_true (List.mem_filter.mp hq).2
    have u1 := qI_up up a1 b1
    have u2 := qI_up up a2 b2
    unfold ltP at z ⊢
    show qI C p.1 < qI C q.1 ∨ (qI C p.1 = qI C q.1 ∧ qI C p.2 < qI C q.2)
    rcases z with z | ⟨z, z2⟩
    · exact .inl (u1.mp z)
    · exact .inr ⟨by rw [z], u2.mp z2⟩
theorem lsC_mem (up : C.Pairwise (· < ·)) {i x : Int} (h0 : 0 ≤ i) (h1 : i < C.length) (h2 : 0 ≤ x) (h3 : x < C.length) : (i, x) ∈ lsC ls C ↔ (nI C i, nI C x) ∈ ls := by
  constructor
  · intro h
    obtain ⟨q, hq, e⟩ := List.mem_map.mp h
    obtain ⟨m1, m2⟩ := List.mem_filter.mp hq
    obtain ⟨c1, c2⟩ := of_decide_eq_true m2
    obtain ⟨rfl, rfl⟩ := Prod.mk.inj e
    rw [(qI_of c1).2, (qI_of c2).2]
    exact m1
  · intro h
    refine List.mem_map.mpr ⟨_, List.mem_filter.mpr ⟨h, decide_eq_true ⟨nI_mem h0 h1, nI_mem h2 h3⟩⟩, ?_⟩
    show (qI C (nI C i), qI C (nI C x)) = _
    rw [qI_nI up h0 h1, qI_nI up h2 h3]
/-- the neighbours in the piece's own scene -/
theorem rowC (hl : Lines n ls) (up : C.Pairwise (· < ·)) (hC : ∀ x ∈ C, 0 ≤ x ∧ x < n) {i x : Int} (h0 : 0 ≤ i) (h1 : i < C.length) (h2 : 0 ≤ x) (h3 : x < C.length) : x ∈ rowAt C.length (lsC ls C) i ↔ nI C x ∈ rowAt n ls (nI C i) := by
  have r := hC _ (nI_mem h0 h1)
  rw [rowAt_iff (lsC_lines hl up) h0 h1, rowAt_iff hl r.1 r.2, lsC_mem up h0 h1 h2 h3, lsC_mem up h2 h3 h0 h1]
theorem rowAt_up (i : Int) (h0 : 0 ≤ i) (h1 : i < n) : (rowAt n ls i).Pairwise (· ≤ ·) := by
  unfold rowAt arnd
  have l : i.toNat < (nbr n ls).length := by rw [nbr_len]; omega
  rw [List.getD_eq_getElem?_getD, List.getElem?_map, List.getElem?_eq_getElem l]
  exact srtI_up _
theorem rowC_eq (hl : Lines n ls) (up : C.Pairwise (· < ·)) (hC : ∀ x ∈ C, 0 ≤ x ∧ x < n) (hcl : ∀ x ∈ C, ∀ y ∈ rowAt n ls x, y ∈ C) {i : Int} (h0 : 0 ≤ i) (h1 : i < C.length) : (rowAt n ls (nI C i)).map (qI C) = rowAt C.length (lsC ls C) i := by
  have r := hC _ (nI_mem h0 h1)
  have cm := hcl _ (nI_mem h0 h1)
  have lc := lsC_lines hl up
  refine up_unique ?_ ?_ (rowAt_up i h0 h1)
  · refine (List.perm_ext_iff_of_nodup ?_ (rowAt_nodup lc h0 h1)).mpr fun x => ?_
    · rw [List.nodup_iff_pairwise_ne, List.pairwise_map]
      refine (List.nodup_iff_pairwise_ne.mp (rowAt_nodup hl r.1 r.2)).imp_of_mem fun {a b} ha hb z e => z ?_
      rw [← (qI_of (cm a ha)).2, ← (qI_of (cm b hb)).2, e]
    · constructor
      · intro h
        obtain ⟨y, hy, rfl⟩ := List.mem_map.mp h
        obtain ⟨⟨a, b⟩, c⟩ := qI_of (cm y hy)
        rw [rowC hl up hC h0 h1 a b, c]
        exact hy
      · intro h
        have xr := rowAt_mem lc h0 h1 x h
        exact List.mem_map.mpr ⟨_, (rowC hl up hC h0 h1 xr.1 xr.2).mp h, qI_nI up xr.1 xr.2⟩
  · refine List.pairwise_map.mpr ((rowAt_up _ r.1 r.2).imp_of_mem fun {a b} ha hb z => ?_)
    rcases Int.lt_or_eq_of_le z with z | z
    · exact Int.le_of_lt ((qI_up up (cm a ha) (cm b hb)).mp z)
    · rw [z]; exact Int.le_refl _
end
end FR
end
section
set_option Elab.async false
set_option linter.all false
set_option maxRecDepth 100000
namespace FR
open PySem L2 DI
/-! the law of k26: lowest terms, a third, refusals -/
section
variable {n : Int} {ls : List (Int × Int)} {xs0 : List Int}
theorem trn_up1 {pk : Int → List Int} (j : Nat) (i : Int) : ∀ d : Nat, trn n ls xs0 pk (j + d) i ≤ trn n ls xs0 pk j i + d
  | 0 => by rw [Nat.add_zero]; omega
  | d + 1 => by
    have ih := trn_up1 (pk := pk) j i d
    rw [← Nat.add_assoc, trn_step]
    split <;> omega
/-- three firings need three beats -/
theorem third (hp : Pic xs0) {P : Int} {ps : List (Int × Int)} {j T : Nat} (r : Rnd (stdP n ls xs0 P ps) j T) {i : Int} (h0 : 0 ≤ i) (h1 : i < xs0.length) : 3 * (cnt n ls xs0 (pkP P ps) T i - cnt n ls xs0 (pkP P ps) j i) ≤ (T : Int) - j := by
  have a := cnt_h (n := n) (ls := ls) (pk := pkP P ps) hp h0 h1 T
  have b := cnt_h (n := n) (ls := ls) (pk := pkP P ps) hp h0 h1 j
  have e := (r.per 0).1
  rw [Nat.add_zero, Nat.add_zero] at e
  have e2 : stt n ls xs0 (pkP P ps) T i = stt n ls xs0 (pkP P ps) j i := by
    show nI _ i = nI _ i
    rw [e]
  rw [e2] at a
  have lt := r.lt
  have u := trn_up1 (n := n) (ls := ls) (xs0 := xs0) (pk := pkP P ps) j i (T - j)
  rw [show j + (T - j) = T by omega] at u
  omega
theorem cnt_up' {pk : Int → List Int} (j : Nat) (i : Int) : ∀ d : Nat, cnt n ls xs0 pk j i ≤ cnt n ls xs0 pk (j + d) i
  | 0 => Int.le_refl _
  | d + 1 => by
    have ih := cnt_up' (pk := pk) j i d
    rw [← Nat.add_assoc, cnt_step]
    split <;> omega
end
/-- one turn of the gcd -/
theorem gcd_turn {a b : Nat} (b0 : 0 < b) (ba : b ≤ a) : Nat.gcd b (a % b) = Nat.gcd a b ∧ 2 * (b * (a % b)) ≤ a * b ∧ a % b ≤ b := by
  have r := Nat.mod_lt a b0
  have d := Nat.mod_add_div a b
  have q : 1 ≤ a / b := Nat.div_pos ba b0
  have bq : b * 1 ≤ b * (a / b) := Nat.mul_le_mul_left _ q
  refine ⟨by rw [Nat.gcd_comm a b, Nat.gcd_rec b a, Nat.gcd_comm], ?_, by omega⟩
  have : 2 * (a % b) ≤ a := by omega
  have := Nat.mul_le_mul_right b this
  rw [show 2 * (b * (a % b)) = 2 * (a % b) * b by rw [Nat.mul_comm b, Nat.mul_assoc]]
  exact this
theorem llowest_ok {F p : Nat} (p0 : 0 < p) (h : F ≤ p) (pm : p ≤ 20000) : d__law_lowest [.int F, .int p] = .ok (.tup [.int ((F / Nat.gcd F p : Nat) : Int), .int ((p / Nat.gcd F p : Nat) : Int)]) := by
  unfold d__law_lowest
  simp -implicitDefEqProofs (disch := first | omega | (simp -implicitDefEqProofs; done) | (simp -implicitDefEqProofs; omega)) [-List.map_map, BT.sub, ev_denI, ev_stI, ev_slfS, ev_slfE, ev_st0n, ev_mod, ev_div, ev_mul, ev_pow, ev_line, ev_rng1, ev_rng2, ev_ar, ev_arI, rangeD_length]
  generalize hL : forL _ _ _ _ = o
  obtain ⟨s', rfl, a, b, j4, j5, rfl, e1, e2, e3, e4, e5⟩ := loop (α := Nat) hL (fun pr s => ∃ (a b : Nat) (j4 j5 : Option T), s = [some (.im (.int F)), some (.im (.int p)), some (.im (.int a)), some (.im (.int b)), j4, j5] ∧ 0 < a ∧ b ≤ a ∧ a ≤ 20000 ∧ Nat.gcd a b = Nat.gcd F p ∧ a * b < 2 ^ (64 - pr.length))
    ⟨p, F, none, none, rfl, p0, h, pm, Nat.gcd_comm _ _, Nat.lt_of_le_of_lt (Nat.mul_le_mul pm (Nat.le_trans h pm)) (by decide)⟩ (by
    rintro pr k po s q ⟨a, b, j4, j5, rfl, e1, e2, e3, e4, e5⟩
    rw [List.length_append, List.length_singleton]
    by_cases c : 0 < b
    · obtain ⟨g1, g2, g3⟩ := gcd_turn c e2
      have c' : (0 : Int) < b := by omega
      have md : dMod (.int (a : Int)) (.int (b : Int)) = some (.int ((a % b : Nat) : Int)) := by
        rw [ev_mod c']
        rfl
      refine ⟨_, ?_, b, a % b, some (.im (.int (k : Int))), some (.im (.int ((a % b : Nat) : Int))), rfl, c, g3, by omega, by rw [g1, e4], ?_⟩
      · generalize ((a % b : Nat) : Int) = z at *
        simp -implicitDefEqProofs (disch := first | omega | (simp -implicitDefEqProofs; done) | (simp -implicitDefEqProofs; omega)) [-List.map_map, BT.sub, ev_denI, ev_stI, ev_slfS, ev_slfE, ev_st0n, ev_mod, ev_div, ev_mul, ev_pow, ev_line, ev_rng1, ev_rng2, ev_ar, ev_arI, rangeD_length, ev_if, c, c', md]
      · by_cases l : pr.length < 64
        · have : 2 ^ (64 - pr.length) = 2 * 2 ^ (64 - (pr.length + 1)) := by
            rw [show 64 - pr.length = (64 - (pr.length + 1)) + 1 by omega, Nat.pow_succ, Nat.mul_comm]
          omega
        · rw [show 64 - pr.length = 0 by omega] at e5
          have := Nat.mul_pos e1 c
          omega
    · have b0 : b = 0 := by omega
      subst b0
      refine ⟨_, ?_, a, 0, some (.im (.int (k : Int))), j5, rfl, e1, Nat.zero_le _, e3, e4, by rw [Nat.mul_zero]; exact Nat.pow_pos (by omega)⟩
      simp -implicitDefEqProofs (disch := first | omega | (simp -implicitDefEqProofs; done) | (simp -implicitDefEqProofs; omega)) [-List.map_map, BT.sub, ev_denI, ev_stI, ev_slfS, ev_slfE, ev_st0n, ev_mod, ev_div, ev_mul, ev_pow, ev_line, ev_rng1, ev_rng2, ev_ar, ev_arI, rangeD_length, ev_if])
  have b0 : b = 0 := by
    rw [List.length_range] at e5
    have e5 : a * b < 2 ^ 0 := e5
    refine Classical.byContradiction fun z => ?_
    have := Nat.mul_pos e1 (show 0 < b by omega)
    omega
  subst b0
  rw [Nat.gcd_zero_right] at e4
  rw [← e4]
  have d1 : dDiv (.int (F : Int)) (.int (a : Int)) = some (.int ((F : Int) / (a : Int))) := ev_div (by omega) (by omega)
  have d2 : dDiv (.int (p : Int)) (.int (a : Int)) = some (.int ((p : Int) / (a : Int))) := ev_div (by omega) (by omega)
  simp -implicitDefEqProofs (disch := first | omega | (simp -implicitDefEqProofs; done) | (simp -implicitDefEqProofs; omega)) [-List.map_map, BT.sub, ev_denI, ev_stI, ev_slfS, ev_slfE, ev_st0n, ev_mod, ev_div, ev_mul, ev_pow, ev_line, ev_rng1, ev_rng2, ev_ar, ev_arI, rangeD_length, d1, d2]
end FR
end
section
set_option Elab.async false
set_option linter.all false
set_option maxRecDepth 100000
namespace FR
open PySem L2 DI
/-! l.index(x) for ints -/
theorem ints_sh (xs : List Int) : (D.lst (xs.map .int)).sh = some (.list (xs.map .int)) := by
  obtain ⟨p, y, e2⟩ := sh_plain (n := 1) (d := .lst (xs.map .int)) (by unfold D.plain; exact ints_plain xs) (by omega)
  unfold D.py at y
  rw [pys_ints] at y
  cases y
  exact e2
theorem fst_ints (x : Int) : ∀ xs : List Int, x ∈ xs → fstIx (fun z => PyData.eqv z (.int x)) (xs.map PyData.int) = some (xs.idxOf x)
  | [], h => by cases h
  | y :: ys, h => by
    rw [List.map_cons]
    unfold fstIx
    have e : PyData.eqv (.int y) (.int x) = decide (y = x) := by
      unfold PyData.eqv
      rfl
    rw [e, List.idxOf_cons]
    by_cases c : y = x
    · subst c
      simp
    · have hb : (y == x) = false := by simpa using c
      have m : x ∈ ys := by
        rcases List.mem_cons.mp h with e | m
        · exact absurd e.symm c
        · exact m
      rw [if_neg (by simpa using c), fst_ints x ys m, hb]
      rfl
theorem ev_fst (x : Int) (xs : List Int) (h : x ∈ xs) : dFst (.lst (xs.map .int)) (.int x) = some (.int ((xs.idxOf x : Nat) : Int)) := by
  unfold dFst
  rw [ints_sh, sh_int]
  show (fstIx (fun z => PyData.eqv z (.int x)) (xs.map PyData.int)).map (fun j => D.int (j : Nat)) = _
  rw [fst_ints x xs h]
  rfl
theorem ev_idxE' {st : LS} {fo fa : LS → R D} {ds : List D} {d : D} (h1 : fo st = .ok (.lst ds)) (h2 : fa st = .ok d) : idxE fo fa st = R.of (dFst (.lst ds) d) := by
  unfold idxE
  rw [h1]
  show (fa st).bind _ = _
  rw [h2]
  rfl
end FR
end
section
set_option Elab.async false
set_option linter.all false
set_option maxRecDepth 100000
namespace FR
open PySem L2 DI
section
variable {n : Int} {ls : List (Int × Int)} {pic C : List Int}
theorem mine_eq (hl : Lines n ls) (up : C.Pairwise (· < ·)) (hC : ∀ x ∈ C, 0 ≤ x ∧ x < n) (hcl : ∀ x ∈ C, ∀ y ∈ rowAt n ls x, y ∈ C) : (C.map fun x => (rowAt n ls x).map (qI C)).map encI = (arnd (C.length : Int) (lsC ls C)).map fun r => D.lst (r.map .int) := by
  have e : (C.map fun x => (rowAt n ls x).map (qI C)) = arnd (C.length : Int) (lsC ls C) := by
    refine List.ext_getElem (by rw [List.length_map, arnd_len]; omega) fun i h1 h2 => ?_
    rw [List.length_map] at h1
    rw [List.getElem_map]
    have := rowC_eq hl up hC hcl (i := (i : Int)) (by omega) (by omega)
    rw [nI_nat h1] at this
    rw [this]
    unfold rowAt
    rw [List.getD_eq_getElem?_getD, Int.toNat_natCast, List.getElem?_eq_getElem h2]
    rfl
  rw [e]
  rfl
/-- what is known of a group -/
structure GpC (n : Int) (ls : List (Int × Int)) (C : List Int) : Prop where
  up : C.Pairwise (· < ·)
  rng : ∀ x ∈ C, 0 ≤ x ∧ x < n
  cl : ∀ x ∈ C, ∀ y ∈ rowAt n ls x, y ∈ C
  conn : ∀ x ∈ C, ∀ y ∈ C, Rch n ls x y
  own : ∀ x ∈ C, srtI (pieceQ n ls x) = C
theorem gp_of (hl : Lines n ls) (h : ∀ q ∈ C, (0 ≤ q ∧ q < n) ∧ srtI (pieceQ n ls q) = C) : GpC n ls C := by
  have self : ∀ x ∈ C, ∀ y, y ∈ C ↔ y ∈ pieceQ n ls x := fun x hx y => by
    conv => lhs; rw [← (h x hx).2]
    exact (srtI_perm _).mem_iff
  refine ⟨?_, fun x hx => (h x hx).1, fun x hx y hy => ?_, fun x hx y hy => ?_, fun x hx => (h x hx).2⟩
  · cases q : C with
    | nil => exact List.Pairwise.nil
    | cons x r =>
      rw [← q]
      have hx : x ∈ C := by rw [q]; exact List.mem_cons_self
      have e := (h x hx).2
      have r := (h x hx).1
      have nd : (srtI (pieceQ n ls x)).Nodup := (srtI_perm _).nodup_iff.mpr (queue_all hl r.1 r.2 n.toNat).1
      have u := srtI_up (pieceQ n ls x)
      rw [e] at nd u
      refine (List.Pairwise.and (List.nodup_iff_pairwise_ne.mp nd) u).imp fun {a b} z => ?_
      have := z.1
      have := z.2
      omega
  · have r := (h x hx).1
    rw [self x hx y]
    exact piece_closed hl r.1 r.2 ((self x hx x).mp hx) hy
  · have r := (h x hx).1
    exact (piece_iff hl r.1 r.2).mp ((self x hx y).mp hy)
end
end FR
end
section
set_option Elab.async false
set_option linter.all false
set_option maxRecDepth 100000
namespace FR
open PySem L2 DI
/-! refusals -/
theorem try_ex1 {sub : Nat → Nat → Bool} {xs : List Nat} {j i : Nat} {F : LS → Out} {G : Ex → LS → Out} {st st' : LS} {e : Ex} {d : D} (h : F st = .ex st' e) (hm : e.1 ∈ xs) (hs : sub e.1 j = true) (hi : i < st'.length) (hg : G e (st'.set i none) = .rt d) :
    tryS sub xs j i F G st = .rt d := by
  unfold tryS
  rw [h]
  show (if e.1 ∈ xs then (if sub e.1 j = true then (if i < st'.length then (G e (st'.set i none)).gone i else .bad) else .ex st' e) else .bad) = _
  rw [if_pos hm, if_pos hs, if_pos hi, hg]
  rfl
theorem xis_ev {sub : Nat → Nat → Bool} {xs : List Nat} {ts : List XT} {e : Ex} {st : LS} (h : e.1 ∈ xs) : xisE sub xs ts e st = .ok (.bl (ts.any (XT.sub sub e.1))) := if_pos h
end FR
end
section
set_option Elab.async false
set_option linter.all false
set_option maxRecDepth 100000
namespace FR
open PySem L2 DI
/-! walks judged -/
def okAt (n : Int) (ls : List (Int × Int)) (w : List Int) (k : Nat) : Prop := (0 ≤ nI w (k : Int) ∧ nI w (k : Int) < n) ∧ (0 < k → nI w (k : Int) ∈ rowAt n ls (nI w ((k : Int) - 1)))
def IsW (n : Int) (ls : List (Int × Int)) (w : List Int) : Prop := 0 < w.length ∧ ∀ k : Nat, k < w.length → okAt n ls w k
def Tells (r : R D) (P : Prop) : Prop := ∃ b : Bool, r = .ok (.bl b) ∧ (b = true ↔ P)
theorem is_walk_ok {n : Int} {ls : List (Int × Int)} (w : List Int) (d : D) (hd : d = .lst (w.map .int) ∨ d = .tup (w.map .int)) : Tells (d_is_walk [webD n ls, d]) (IsW n ls w) := by
  unfold d_is_walk
  have ws : dFld fl_size (webD n ls) = some (.int n) := rfl
  have wa : dFld fl_around (webD n ls) = some (rowsT (arnd n ls)) := rfl
  have he : enumX [d] = .ok (enumL 0 (w.map .int)) := by rcases hd with rfl | rfl <;> rfl
  have hlen : dLen [d] = some (.int (w.length : Int)) := by rcases hd with rfl | rfl <;> simp
  have hix : ∀ k : Int, 0 ≤ k → k < w.length → dIdx d (.int k) = some (.int (nI w k)) := fun k a b => by
    rcases hd with rfl | rfl
    · exact ev_idxI a b
    · exact ev_idxIT a b
  simp -implicitDefEqProofs (disch := first | omega | (simp -implicitDefEqProofs; done) | (simp -implicitDefEqProofs; omega)) [-List.map_map, BT.sub, ev_denI, ev_stI, ev_slfS, ev_slfE, ev_st0n, ev_mod, ev_div, ev_mul, ev_pow, ev_line, ev_rng1, ev_rng2, ev_ar, ev_arI, rangeD_length, he]
  generalize hL : forL _ _ _ _ = o
  rcases loopER hL (fun pr s => (∀ k : Nat, k < pr.length → okAt n ls w k) ∧ ∃ j2 j3, s = [some (.im (webD n ls)), some (.im d), j2, j3]) (fun z => z = .bl false ∧ ¬ IsW n ls w) ⟨fun k h => by simp at h, _, _, rfl⟩ (by
    rintro pr x po s q ⟨hok, j2, j3, rfl⟩
    have ex := at_split q
    have pl : pr.length < w.length := by rw [q]; simp
    have bad : ¬ okAt n ls w pr.length → ¬ IsW n ls w := fun h z => h (z.2 _ pl)
    by_cases a : 0 ≤ x
    case neg =>
      refine .inr ⟨.bl false, ?_, rfl, bad fun z => a (by have := z.1.1; rw [ex] at this; exact this)⟩
      simp -implicitDefEqProofs (disch := first | omega | (simp -implicitDefEqProofs; done) | (simp -implicitDefEqProofs; omega)) [-List.map_map, BT.sub, ev_denI, ev_stI, ev_slfS, ev_slfE, ev_st0n, ev_mod, ev_div, ev_mul, ev_pow, ev_line, ev_rng1, ev_rng2, ev_ar, ev_arI, rangeD_length, ev_if, ws, a]
    by_cases b : x < n
    case neg =>
      refine .inr ⟨.bl false, ?_, rfl, bad fun z => b (by have := z.1.2; rw [ex] at this; exact this)⟩
      have b' : n ≤ x := by omega
      simp -implicitDefEqProofs (disch := first | omega | (simp -implicitDefEqProofs; done) | (simp -implicitDefEqProofs; omega)) [-List.map_map, BT.sub, ev_denI, ev_stI, ev_slfS, ev_slfE, ev_st0n, ev_mod, ev_div, ev_mul, ev_pow, ev_line, ev_rng1, ev_rng2, ev_ar, ev_arI, rangeD_length, ev_if, ws, a, b']
    have b' : ¬ n ≤ x := by omega
    have snoc : okAt n ls w pr.length → ∀ k : Nat, k < (pr ++ [x]).length → okAt n ls w k := fun z k hk => by
      rw [List.length_append, List.length_singleton] at hk
      by_cases c : k = pr.length
      · rw [c]; exact z
      · exact hok k (by omega)
    by_cases hp : 0 < pr.length
    case neg =>
      have hp' : pr = [] := by
        cases pr with
        | nil => rfl
        | cons z pr => simp at hp
      refine .inl ⟨[some (.im (webD n ls)), some (.im d), some (.im (.int (pr.length : Int))), some (.im (.int x))], ?_, snoc ⟨by rw [ex]; exact ⟨a, b⟩, fun z => absurd z hp⟩, _, _, rfl⟩
      simp -implicitDefEqProofs (disch := first | omega | (simp -implicitDefEqProofs; done) | (simp -implicitDefEqProofs; omega)) [-List.map_map, BT.sub, ev_denI, ev_stI, ev_slfS, ev_slfE, ev_st0n, ev_mod, ev_div, ev_mul, ev_pow, ev_line, ev_rng1, ev_rng2, ev_ar, ev_arI, rangeD_length, ev_if, ws, a, b', hp']
    have hpi : 0 < (pr.length : Int) := by omega
    have pv := hok (pr.length - 1) (by omega)
    have pe : ((pr.length - 1 : Nat) : Int) = (pr.length : Int) - 1 := by omega
    have i1 := hix ((pr.length : Int) - 1) (by omega) (by omega)
    have yr := pv.1
    rw [pe] at yr
    have i2 := around_idx (ls := ls) yr.1 yr.2
    have nin := ev_notInT (x := x) (xs := rowAt n ls (nI w ((pr.length : Int) - 1)))
    by_cases m : x ∈ rowAt n ls (nI w ((pr.length : Int) - 1))
    · rw [decide_eq_true m] at nin
      refine .inl ⟨[some (.im (webD n ls)), some (.im d), some (.im (.int (pr.length : Int))), some (.im (.int x))], ?_, snoc ⟨by rw [ex]; exact ⟨a, b⟩, fun _ => by rw [ex]; exact m⟩, _, _, rfl⟩
      simp -implicitDefEqProofs (disch := first | omega | (simp -implicitDefEqProofs; done) | (simp -implicitDefEqProofs; omega)) [-List.map_map, BT.sub, ev_denI, ev_stI, ev_slfS, ev_slfE, ev_st0n, ev_mod, ev_div, ev_mul, ev_pow, ev_line, ev_rng1, ev_rng2, ev_ar, ev_arI, rangeD_length, ev_if, ws, wa, a, b', hp, hpi, i1, i2, nin]
    · rw [decide_eq_false m] at nin
      refine .inr ⟨.bl false, ?_, rfl, bad fun z => m (by have := z.2 hp; rw [ex] at this; exact this)⟩
      simp -implicitDefEqProofs (disch := first | omega | (simp -implicitDefEqProofs; done) | (simp -implicitDefEqProofs; omega)) [-List.map_map, BT.sub, ev_denI, ev_stI, ev_slfS, ev_slfE, ev_st0n, ev_mod, ev_div, ev_mul, ev_pow, ev_line, ev_rng1, ev_rng2, ev_ar, ev_arI, rangeD_length, ev_if, ws, wa, a, b', hp, hpi, i1, i2, nin]) with ⟨s', rfl, hok, j2, j3, rfl⟩ | ⟨z, rfl, rfl, hn⟩
  · refine ⟨decide (0 < w.length), ?_, by simp only [decide_eq_true_eq]; exact ⟨fun h => ⟨h, hok⟩, fun h => h.1⟩⟩
    simp -implicitDefEqProofs (disch := first | omega | (simp -implicitDefEqProofs; done) | (simp -implicitDefEqProofs; omega)) [-List.map_map, BT.sub, ev_denI, ev_stI, ev_slfS, ev_slfE, ev_st0n, ev_mod, ev_div, ev_mul, ev_pow, ev_line, ev_rng1, ev_rng2, ev_ar, ev_arI, rangeD_length, hlen]
  · exact ⟨false, rfl, by simp [hn]⟩
theorem lis_walk_ok {n : Int} {ls : List (Int × Int)} (hn : 0 ≤ n) (w : List Int) (hw : w.length ≤ 10000) : Tells (d__law_is_walk [rowsL (arnd n ls), .tup (w.map .int)]) (IsW n ls w) := by
  unfold d__law_is_walk
  have ln := len_near (ls := ls) hn
  by_cases w0 : w = []
  · subst w0
    refine ⟨false, ?_, by simp [IsW]⟩
    simp -implicitDefEqProofs (disch := first | omega | (simp -implicitDefEqProofs; done) | (simp -implicitDefEqProofs; omega)) [-List.map_map, BT.sub, ev_denI, ev_stI, ev_slfS, ev_slfE, ev_st0n, ev_mod, ev_div, ev_mul, ev_pow, ev_line, ev_rng1, ev_rng2, ev_ar, ev_arI, rangeD_length, ev_if]
  have wl : 0 < w.length := List.length_pos_iff.mpr w0
  simp -implicitDefEqProofs (disch := first | omega | (simp -implicitDefEqProofs; done) | (simp -implicitDefEqProofs; omega)) [-List.map_map, BT.sub, ev_denI, ev_stI, ev_slfS, ev_slfE, ev_st0n, ev_mod, ev_div, ev_mul, ev_pow, ev_line, ev_rng1, ev_rng2, ev_ar, ev_arI, rangeD_length, ev_if, w0]
  generalize hL : forL _ _ _ _ = o
  rcases loopR (α := Nat) hL (fun pr s => (∀ k : Nat, k < pr.length → okAt n ls w k) ∧ ∃ j2, s = [some (.im (rowsL (arnd n ls))), some (.im (.tup (w.map .int))), j2]) (fun z => z = .bl false ∧ ¬ IsW n ls w) ⟨fun k h => by simp at h, _, rfl⟩ (by
    rintro pr k po s q ⟨hok, j2, rfl⟩
    obtain ⟨e1, e2, e3⟩ := range_split q
    rw [List.length_append, List.length_singleton]
    subst e1
    generalize pr.length = k at *
    have i0 := ev_idxIT (xs := w) (i := (k : Int)) (by omega) (by omega)
    have wo := whole_ok (nI w (k : Int))
    have bad : ¬ okAt n ls w k → ¬ IsW n ls w := fun h z => h (z.2 _ e2)
    by_cases a : nI w (k : Int) < 0
    · refine .inr ⟨.bl false, ?_, rfl, bad fun z => by have := z.1.1; omega⟩
      simp -implicitDefEqProofs (disch := first | omega | (simp -implicitDefEqProofs; done) | (simp -implicitDefEqProofs; omega)) [-List.map_map, BT.sub, ev_denI, ev_stI, ev_slfS, ev_slfE, ev_st0n, ev_mod, ev_div, ev_mul, ev_pow, ev_line, ev_rng1, ev_rng2, ev_ar, ev_arI, rangeD_length, ev_if, i0, wo, a]
    by_cases b : n ≤ nI w (k : Int)
    · refine .inr ⟨.bl false, ?_, rfl, bad fun z => by have := z.1.2; omega⟩
      simp -implicitDefEqProofs (disch := first | omega | (simp -implicitDefEqProofs; done) | (simp -implicitDefEqProofs; omega)) [-List.map_map, BT.sub, ev_denI, ev_stI, ev_slfS, ev_slfE, ev_st0n, ev_mod, ev_div, ev_mul, ev_pow, ev_line, ev_rng1, ev_rng2, ev_ar, ev_arI, rangeD_length, ev_if, i0, wo, a, ln, b]
    have snoc : okAt n ls w k → ∀ j : Nat, j < k + 1 → okAt n ls w j := fun z j hk => by
      by_cases c : j = k
      · rw [c]; exact z
      · exact hok j (by omega)
    by_cases hp : 0 < k
    case neg =>
      have hp' : k = 0 := by omega
      subst hp'
      refine .inl ⟨[some (.im (rowsL (arnd n ls))), some (.im (.tup (w.map .int))), some (.im (.int 0))], ?_, snoc ⟨by omega, fun z => absurd z hp⟩, _, rfl⟩
      have i0 : dIdx (.tup (w.map D.int)) (.int 0) = some (.int (nI w 0)) := i0
      have wo : d__law_whole [.int (nI w 0)] = .ok (.bl true) := wo
      have a : ¬ nI w 0 < 0 := a
      have b : ¬ n ≤ nI w 0 := b
      simp -implicitDefEqProofs (disch := first | omega | (simp -implicitDefEqProofs; done) | (simp -implicitDefEqProofs; omega)) [-List.map_map, BT.sub, ev_denI, ev_stI, ev_slfS, ev_slfE, ev_st0n, ev_mod, ev_div, ev_mul, ev_pow, ev_line, ev_rng1, ev_rng2, ev_ar, ev_arI, rangeD_length, ev_if, i0, wo, a, ln, b]
    have hpi : 0 < (k : Int) := by omega
    have pv := hok (k - 1) (by omega)
    have pe : ((k - 1 : Nat) : Int) = (k : Int) - 1 := by omega
    have i1 := ev_idxIT (xs := w) (i := (k : Int) - 1) (by omega) (by omega)
    have yr := pv.1
    rw [pe] at yr
    have i2 := near_idx (ls := ls) yr.1 yr.2
    have nin := ev_notInL (x := nI w (k : Int)) (xs := rowAt n ls (nI w ((k : Int) - 1)))
    by_cases m : nI w (k : Int) ∈ rowAt n ls (nI w ((k : Int) - 1))
    · rw [decide_eq_true m] at nin
      refine .inl ⟨[some (.im (rowsL (arnd n ls))), some (.im (.tup (w.map .int))), some (.im (.int (k : Int)))], ?_, snoc ⟨by omega, fun _ => m⟩, _, rfl⟩
      simp -implicitDefEqProofs (disch := first | omega | (simp -implicitDefEqProofs; done) | (simp -implicitDefEqProofs; omega)) [-List.map_map, BT.sub, ev_denI, ev_stI, ev_slfS, ev_slfE, ev_st0n, ev_mod, ev_div, ev_mul, ev_pow, ev_line, ev_rng1, ev_rng2, ev_ar, ev_arI, rangeD_length, ev_if, i0, wo, a, ln, b, hp, hpi, i1, i2, nin]
    · rw [decide_eq_false m] at nin
      refine .inr ⟨.bl false, ?_, rfl, bad fun z => m (z.2 hp)⟩
      simp -implicitDefEqProofs (disch := first | omega | (simp -implicitDefEqProofs; done) | (simp -implicitDefEqProofs; omega)) [-List.map_map, BT.sub, ev_denI, ev_stI, ev_slfS, ev_slfE, ev_st0n, ev_mod, ev_div, ev_mul, ev_pow, ev_line, ev_rng1, ev_rng2, ev_ar, ev_arI, rangeD_length, ev_if, i0, wo, a, ln, b, hp, hpi, i1, i2, nin]) with ⟨s', rfl, hok, j2, rfl⟩ | ⟨z, rfl, rfl, hn⟩
  · refine ⟨true, by simp -implicitDefEqProofs (disch := first | omega | (simp -implicitDefEqProofs; done) | (simp -implicitDefEqProofs; omega)) [-List.map_map, BT.sub, ev_denI, ev_stI, ev_slfS, ev_slfE, ev_st0n, ev_mod, ev_div, ev_mul, ev_pow, ev_line, ev_rng1, ev_rng2, ev_ar, ev_arI, rangeD_length], ?_⟩
    rw [List.length_range] at hok
    exact ⟨fun _ => ⟨wl, hok⟩, fun _ => rfl⟩
  · exact ⟨false, rfl, by simp [hn]⟩
end FR
end
section
set_option Elab.async false
set_option linter.all false
set_option maxRecDepth 100000
namespace FR
open PySem L2 DI
theorem last_idx {w : List Int} (h : 0 < w.length) (d : D) (hd : d = .lst (w.map .int) ∨ d = .tup (w.map .int)) : dIdx d (.int (-1)) = some (.int (nI w ((w.length : Int) - 1))) := by
  have e : ixN (w.map D.int).length (-1) = some (w.length - 1) := by
    unfold ixN
    rw [if_neg (by omega), List.length_map, if_pos (by omega)]
    congr 1
    omega
  have e2 : (w.map D.int)[w.length - 1]? = some (.int (nI w ((w.length : Int) - 1))) := by
    rw [List.getElem?_map, List.getElem?_eq_getElem (by omega)]
    have := nI_nat (xs := w) (i := w.length - 1) (by omega)
    rw [show ((w.length - 1 : Nat) : Int) = (w.length : Int) - 1 by omega] at this
    rw [this]
    rfl
  rcases hd with rfl | rfl
  · show atI (w.map D.int) (-1) = _
    unfold atI
    rw [e]
    exact e2
  · show atI (w.map D.int) (-1) = _
    unfold atI
    rw [e]
    exact e2
def IsR (n : Int) (ls : List (Int × Int)) (w : List Int) : Prop := IsW n ls w ∧ 1 < w.length ∧ nI w 0 = nI w ((w.length : Int) - 1)
theorem is_ring_ok {n : Int} {ls : List (Int × Int)} (w : List Int) (d : D) (hd : d = .lst (w.map .int) ∨ d = .tup (w.map .int)) : Tells (d_is_ring [webD n ls, d]) (IsR n ls w) := by
  obtain ⟨b, h1, h2⟩ := is_walk_ok (n := n) (ls := ls) w d hd
  unfold d_is_ring
  have hlen : dLen [d] = some (.int (w.length : Int)) := by rcases hd with rfl | rfl <;> simp
  have ng : dNeg (.int 1) = some (.int (-1)) := rfl
  cases b with
  | false =>
    have : ¬ IsW n ls w := fun z => by have := h2.mpr z; cases this
    refine ⟨false, ?_, by simp [IsR, this]⟩
    simp -implicitDefEqProofs (disch := first | omega | (simp -implicitDefEqProofs; done) | (simp -implicitDefEqProofs; omega)) [-List.map_map, BT.sub, ev_denI, ev_stI, ev_slfS, ev_slfE, ev_st0n, ev_mod, ev_div, ev_mul, ev_pow, ev_line, ev_rng1, ev_rng2, ev_ar, ev_arI, rangeD_length, h1]
  | true =>
    have iw := h2.mp rfl
    by_cases c : 1 < w.length
    · have ci : (1 : Int) < (w.length : Int) := by omega
      have i0 : dIdx d (.int 0) = some (.int (nI w 0)) := by
        rcases hd with rfl | rfl
        · exact ev_idxI (by omega) (by omega)
        · exact ev_idxIT (by omega) (by omega)
      have i1 := last_idx (w := w) (by omega) d hd
      refine ⟨decide (nI w 0 = nI w ((w.length : Int) - 1)), ?_, by simp [IsR, iw, c]⟩
      simp -implicitDefEqProofs (disch := first | omega | (simp -implicitDefEqProofs; done) | (simp -implicitDefEqProofs; omega)) [-List.map_map, BT.sub, ev_denI, ev_stI, ev_slfS, ev_slfE, ev_st0n, ev_mod, ev_div, ev_mul, ev_pow, ev_line, ev_rng1, ev_rng2, ev_ar, ev_arI, rangeD_length, h1, hlen, c, ci, i0, i1, ng]
    · have ci : ¬ (1 : Int) < (w.length : Int) := by omega
      refine ⟨false, ?_, by simp [IsR, c]⟩
      simp -implicitDefEqProofs (disch := first | omega | (simp -implicitDefEqProofs; done) | (simp -implicitDefEqProofs; omega)) [-List.map_map, BT.sub, ev_denI, ev_stI, ev_slfS, ev_slfE, ev_st0n, ev_mod, ev_div, ev_mul, ev_pow, ev_line, ev_rng1, ev_rng2, ev_ar, ev_arI, rangeD_length, h1, hlen, c, ci]
theorem Tells.eq {r : R D} {P : Prop} (h : Tells r P) {b : Bool} (hb : b = true ↔ P) : r = .ok (.bl b) := by
  obtain ⟨c, e, hc⟩ := h
  have : c = b := by
    cases b <;> cases c <;> simp_all
  rw [e, this]
end FR
end
section
set_option Elab.async false
set_option linter.all false
set_option maxRecDepth 100000
namespace FR
open PySem L2 DI
/-! walks -/
/-- neighbours one after another -/
def Chain (n : Int) (ls : List (Int × Int)) : List Int → Prop
  | [] => True
  | [x] => 0 ≤ x ∧ x < n
  | x :: y :: w => (0 ≤ x ∧ x < n) ∧ y ∈ rowAt n ls x ∧ Chain n ls (y :: w)
theorem Chain.head {n : Int} {ls : List (Int × Int)} {x : Int} {w : List Int} (h : Chain n ls (x :: w)) : 0 ≤ x ∧ x < n := by
  cases w with
  | nil => exact h
  | cons y w => exact h.1
theorem Chain.tail {n : Int} {ls : List (Int × Int)} {x : Int} {w : List Int} (h : Chain n ls (x :: w)) : Chain n ls w := by
  cases w with
  | nil => trivial
  | cons y w => exact h.2.2
theorem Chain.mem {n : Int} {ls : List (Int × Int)} : ∀ {w : List Int}, Chain n ls w → ∀ x ∈ w, 0 ≤ x ∧ x < n
  | [], _, x, m => nomatch m
  | y :: w, h, x, m => by
    rcases List.mem_cons.mp m with rfl | m
    · exact h.head
    · exact h.tail.mem x m
theorem Chain.step {n : Int} {ls : List (Int × Int)} : ∀ {w : List Int}, Chain n ls w → ∀ (k : Nat) (x y : Int), w[k]? = some x → w[k + 1]? = some y → y ∈ rowAt n ls x
  | [], _, k, x, y, a, b => by simp at a
  | [z], _, k, x, y, a, b => by simp at b
  | z :: z2 :: w, h, 0, x, y, a, b => by
    simp at a b
    rw [← a, ← b]
    exact h.2.1
  | z :: z2 :: w, h, k + 1, x, y, a, b => h.2.2.step k x y a b
theorem check_walk_ok {n : Int} {ls : List (Int × Int)} (hl : Lines n ls) (w : List Int) (d : D) (hd : d = .lst (w.map .int) ∨ d = .tup (w.map .int)) (hw : Chain n ls w) (h0 : 0 < w.length) : d_check_walk [webD n ls, d] = .ok .non := by
  unfold d_check_walk
  have ws : dFld fl_size (webD n ls) = some (.int n) := rfl
  have wa : dFld fl_around (webD n ls) = some (rowsT (arnd n ls)) := rfl
  have wne : ¬ w = [] := by intro e; rw [e] at h0; simp at h0
  have fin : ∀ {g : D → LS → Option LS} {F : LS → Out} {o : Out}, (∀ (pr po : List Int) (x : Int) (j2 j3 : Option T), w = pr ++ x :: po → ∃ j2' j3', turn g F (.tup [.int (pr.length : Int), .int x]) [some (.im (webD n ls)), some (.im d), j2, j3] = .nx [some (.im (webD n ls)), some (.im d), j2', j3']) → forL g F (enumL 0 (w.map .int)) [some (.im (webD n ls)), some (.im d), none, none] = o → o.end = .ok .non := by
    intro g F o step hL
    obtain ⟨s', rfl, j2, j3, rfl⟩ := loopE hL (fun _ s => ∃ j2 j3, s = [some (.im (webD n ls)), some (.im d), j2, j3]) ⟨_, _, rfl⟩ (by
      rintro pr x po s q ⟨j2, j3, rfl⟩
      obtain ⟨a, b, e⟩ := step pr po x j2 j3 q
      exact ⟨_, e, _, _, rfl⟩)
    rfl
  have st : ∀ (pr po : List Int) (x : Int), w = pr ++ x :: po → (0 ≤ x ∧ x < n) ∧ (0 < (pr.length : Int) → ∃ y, dIdx d (.int ((pr.length : Int) - 1)) = some (.int y) ∧ dIdx (rowsT (arnd n ls)) (.int y) = some (.tup ((rowAt n ls y).map .int)) ∧ x ∈ rowAt n ls y) := by
    intro pr po x q
    refine ⟨hw.mem x (by rw [q]; simp), fun hpr => ?_⟩
    have hp : pr.length - 1 < w.length := by rw [q]; simp; omega
    have g1 : w[pr.length - 1]? = some w[pr.length - 1] := List.getElem?_eq_getElem hp
    have g2 : w[pr.length - 1 + 1]? = some x := by
      rw [show pr.length - 1 + 1 = pr.length by omega, q]; simp
    have y0 := hw.mem _ (List.getElem_mem hp)
    refine ⟨w[pr.length - 1], ?_, around_idx y0.1 y0.2, hw.step _ _ _ g1 g2⟩
    have tn : ((pr.length : Int) - 1).toNat = pr.length - 1 := by omega
    rcases hd with rfl | rfl
    · exact ev_idxE (enc := D.int) (by omega) (by rw [tn]; exact g1)
    · exact ev_idxET (enc := D.int) (by omega) (by rw [tn]; exact g1)
  rcases hd with rfl | rfl
  · simp -implicitDefEqProofs (disch := first | omega | (simp -implicitDefEqProofs; done) | (simp -implicitDefEqProofs; omega)) [-List.map_map, BT.sub, ev_denI, ev_stI, ev_slfS, ev_slfE, ev_st0n, ev_mod, ev_div, ev_mul, ev_pow, ev_line, ev_rng1, ev_rng2, ev_ar, ev_arI, rangeD_length, ev_if, wne]
    generalize hL : forL _ _ _ _ = o
    refine fin (fun pr po x j2 j3 q => ?_) hL
    obtain ⟨⟨a, b⟩, c⟩ := st pr po x q
    have b' : ¬ n ≤ x := by omega
    by_cases hp : 0 < (pr.length : Int)
    · obtain ⟨y, i1, i2, m⟩ := c hp
      have nin : dNotIn (.int x) (.tup ((rowAt n ls y).map .int)) = some (.bl false) := by rw [ev_notInT, decide_eq_true m]; rfl
      have hp' : 0 < pr.length := by omega
      refine ⟨some (.im (.int (pr.length : Int))), some (.im (.int x)), ?_⟩
      simp -implicitDefEqProofs (disch := first | omega | (simp -implicitDefEqProofs; done) | (simp -implicitDefEqProofs; omega)) [-List.map_map, BT.sub, ev_denI, ev_stI, ev_slfS, ev_slfE, ev_st0n, ev_mod, ev_div, ev_mul, ev_pow, ev_line, ev_rng1, ev_rng2, ev_ar, ev_arI, rangeD_length, ev_if, ws, wa, a, b', hp, hp', i1, i2, nin]
    · have hp' : pr = [] := by
        cases pr with
        | nil => rfl
        | cons z pr => simp at hp
      refine ⟨some (.im (.int (pr.length : Int))), some (.im (.int x)), ?_⟩
      simp -implicitDefEqProofs (disch := first | omega | (simp -implicitDefEqProofs; done) | (simp -implicitDefEqProofs; omega)) [-List.map_map, BT.sub, ev_denI, ev_stI, ev_slfS, ev_slfE, ev_st0n, ev_mod, ev_div, ev_mul, ev_pow, ev_line, ev_rng1, ev_rng2, ev_ar, ev_arI, rangeD_length, ev_if, ws, wa, a, b', hp, hp']
  · simp -implicitDefEqProofs (disch := first | omega | (simp -implicitDefEqProofs; done) | (simp -implicitDefEqProofs; omega)) [-List.map_map, BT.sub, ev_denI, ev_stI, ev_slfS, ev_slfE, ev_st0n, ev_mod, ev_div, ev_mul, ev_pow, ev_line, ev_rng1, ev_rng2, ev_ar, ev_arI, rangeD_length, ev_if, wne]
    generalize hL : forL _ _ _ _ = o
    refine fin (fun pr po x j2 j3 q => ?_) hL
    obtain ⟨⟨a, b⟩, c⟩ := st pr po x q
    have b' : ¬ n ≤ x := by omega
    by_cases hp : 0 < (pr.length : Int)
    · obtain ⟨y, i1, i2, m⟩ := c hp
      have nin : dNotIn (.int x) (.tup ((rowAt n ls y).map .int)) = some (.bl false) := by rw [ev_notInT, decide_eq_true m]; rfl
      have hp' : 0 < pr.length := by omega
      refine ⟨some (.im (.int (pr.length : Int))), some (.im (.int x)), ?_⟩
      simp -implicitDefEqProofs (disch := first | omega | (simp -implicitDefEqProofs; done) | (simp -implicitDefEqProofs; omega)) [-List.map_map, BT.sub, ev_denI, ev_stI, ev_slfS, ev_slfE, ev_st0n, ev_mod, ev_div, ev_mul, ev_pow, ev_line, ev_rng1, ev_rng2, ev_ar, ev_arI, rangeD_length, ev_if, ws, wa, a, b', hp, hp', i1, i2, nin]
    · have hp' : pr = [] := by
        cases pr with
        | nil => rfl
        | cons z pr => simp at hp
      refine ⟨some (.im (.int (pr.length : Int))), some (.im (.int x)), ?_⟩
      simp -implicitDefEqProofs (disch := first | omega | (simp -implicitDefEqProofs; done) | (simp -implicitDefEqProofs; omega)) [-List.map_map, BT.sub, ev_denI, ev_stI, ev_slfS, ev_slfE, ev_st0n, ev_mod, ev_div, ev_mul, ev_pow, ev_line, ev_rng1, ev_rng2, ev_ar, ev_arI, rangeD_length, ev_if, ws, wa, a, b', hp, hp']
end FR
end
section
set_option Elab.async false
set_option linter.all false
set_option maxRecDepth 100000
namespace FR
open PySem L2 DI
def SumW (f : Int → Int → Int) : Int → List Int → Int
  | _, [] => 0
  | x, y :: w => f x y + SumW f y w
theorem zip_sum {f : Int → Int → Int} : ∀ (x : Int) (w : List Int), (((x :: w).zip w).map fun p => f p.1 p.2).sum = SumW f x w
  | x, [] => rfl
  | x, y :: w => by
    rw [List.zip_cons_cons, List.map_cons, List.sum_cons, zip_sum y w]
    rfl
theorem zip_map_sum {f : Int → Int → Int} {s : Int → Int} (x : Int) (w : List Int) : (((x :: w).map s).zip (w.map s)).map (fun p => f p.1 p.2) = ((x :: w).zip w).map fun p => f (s p.1) (s p.2) := by
  rw [List.zip_map, List.map_map]
  rfl
theorem lstInts_ok : ∀ xs : List Int, lstInts (.lst (xs.map .int)) = some xs := by
  intro xs
  show dInts (xs.map D.int) = _
  induction xs with
  | nil => rfl
  | cons x xs ih =>
    rw [List.map_cons]
    unfold dInts
    rw [ih]
    rfl
theorem sum_ok (xs : List Int) : dSum [.lst (xs.map .int)] = some (.int xs.sum) := by
  show (lstInts (.lst (xs.map .int))).map _ = _
  rw [lstInts_ok]
  rfl
theorem zipL_ok {α : Type} {enc : α → D} : ∀ (xs ys : List α), zipL (xs.map enc) (ys.map enc) = (xs.zip ys).map fun p => .tup [enc p.1, enc p.2]
  | [], _ => by simp [zipL]
  | _ :: _, [] => by simp [zipL]
  | x :: xs, y :: ys => by
    rw [List.map_cons, List.map_cons, List.zip_cons_cons, List.map_cons, ← zipL_ok xs ys]
    rfl
theorem sl1 {ds : List D} {d : D} : dSl (.lst (d :: ds)) (some 1) none = some (.lst ds) := by
  show some (D.lst (cutL (d :: ds) (some 1) none)) = _
  rw [cut1]
/-- the sum of a walk, by the program -/
theorem lsum_ok {n : Int} {ls : List (Int × Int)} {xs : List Int} (hl : Lines n ls) (hx : xs.length = n.toNat) (x : Int) (w : List Int) (hw : Chain n ls (x :: w)) (hle : w.length ≤ 10000) : d_lead_sum [scnD (webD n ls) xs, .lst ((x :: w).map .int)] = .ok (.int (SumW (fun i j => leadI (nI xs i) (nI xs j)) x w)) := by
  unfold d_lead_sum
  have fp : dFld fl_picture (scnD (webD n ls) xs) = some (.tup (xs.map .int)) := rfl
  have fw : dFld fl_web (scnD (webD n ls) xs) = some (webD n ls) := rfl
  have ck := check_walk_ok hl (x :: w) (.lst ((x :: w).map .int)) (.inl rfl) hw (by simp)
  have hl2 : (x :: w).length ≤ 16777216 := by simp; omega
  have mem := hw.mem
  rw [← zip_sum]
  generalize hv : x :: w = v at *
  simp -implicitDefEqProofs (disch := first | omega | (simp -implicitDefEqProofs; done) | (simp -implicitDefEqProofs; omega)) [-List.map_map, BT.sub, ev_denI, ev_stI, ev_slfS, ev_slfE, ev_st0n, ev_mod, ev_div, ev_mul, ev_pow, ev_line, ev_rng1, ev_rng2, ev_ar, ev_arI, rangeD_length, fp, fw, ck, hl2]
  generalize hC : compL _ _ _ _ _ = oc
  have q := comp hC D.int (nI xs) fun i m => ⟨_, rfl, rfl, by
    have := mem i m
    have e : dIdx (.tup (xs.map D.int)) (.int i) = some (.int (nI xs i)) := ev_idxIT (by omega) (by omega)
    simp -implicitDefEqProofs (disch := first | omega | (simp -implicitDefEqProofs; done) | (simp -implicitDefEqProofs; omega)) [-List.map_map, BT.sub, ev_denI, ev_stI, ev_slfS, ev_slfE, ev_st0n, ev_mod, ev_div, ev_mul, ev_pow, ev_line, ev_rng1, ev_rng2, ev_ar, ev_arI, rangeD_length, fp, e]⟩
  subst q
  have s1 : dSl (.lst ((v.map (nI xs)).map D.int)) (some 1) none = some (.lst ((w.map (nI xs)).map D.int)) := by
    rw [← hv, List.map_cons, List.map_cons, sl1]
  have zl : zipL ((v.map (nI xs)).map D.int) ((w.map (nI xs)).map D.int) = ((v.map (nI xs)).zip (w.map (nI xs))).map fun p => .tup [.int p.1, .int p.2] := zipL_ok _ _
  have zlen : min v.length w.length ≤ 16777216 := by omega
  simp -implicitDefEqProofs (disch := first | omega | (simp -implicitDefEqProofs; done) | (simp -implicitDefEqProofs; omega)) [-List.map_map, BT.sub, ev_denI, ev_stI, ev_slfS, ev_slfE, ev_st0n, ev_mod, ev_div, ev_mul, ev_pow, ev_line, ev_rng1, ev_rng2, ev_ar, ev_arI, rangeD_length, s1, zl, zlen]
  generalize hC2 : compL _ _ _ _ _ = oc2
  have q2 := comp hC2 D.int (fun p => leadI p.1 p.2) fun p m => ⟨_, rfl, rfl, by
    have e := lead_ok p.1 p.2
    simp -implicitDefEqProofs (disch := first | omega | (simp -implicitDefEqProofs; done) | (simp -implicitDefEqProofs; omega)) [-List.map_map, BT.sub, ev_denI, ev_stI, ev_slfS, ev_slfE, ev_st0n, ev_mod, ev_div, ev_mul, ev_pow, ev_line, ev_rng1, ev_rng2, ev_ar, ev_arI, rangeD_length, e]⟩
  subst q2
  have so := sum_ok (((v.map (nI xs)).zip (w.map (nI xs))).map fun p => leadI p.1 p.2)
  simp -implicitDefEqProofs (disch := first | omega | (simp -implicitDefEqProofs; done) | (simp -implicitDefEqProofs; omega)) [-List.map_map, BT.sub, ev_denI, ev_stI, ev_slfS, ev_slfE, ev_st0n, ev_mod, ev_div, ev_mul, ev_pow, ev_line, ev_rng1, ev_rng2, ev_ar, ev_arI, rangeD_length, so]
  rw [← hv, zip_map_sum]
/-- the sum of a walk, by the program -/
theorem lsumT_ok {n : Int} {ls : List (Int × Int)} {xs : List Int} (hl : Lines n ls) (hx : xs.length = n.toNat) (x : Int) (w : List Int) (hw : Chain n ls (x :: w)) (hle : w.length ≤ 10000) : d_lead_sum [scnD (webD n ls) xs, .tup ((x :: w).map .int)] = .ok (.int (SumW (fun i j => leadI (nI xs i) (nI xs j)) x w)) := by
  unfold d_lead_sum
  have fp : dFld fl_picture (scnD (webD n ls) xs) = some (.tup (xs.map .int)) := rfl
  have fw : dFld fl_web (scnD (webD n ls) xs) = some (webD n ls) := rfl
  have ck := check_walk_ok hl (x :: w) (.tup ((x :: w).map .int)) (.inr rfl) hw (by simp)
  have hl2 : (x :: w).length ≤ 16777216 := by simp; omega
  have mem := hw.mem
  rw [← zip_sum]
  generalize hv : x :: w = v at *
  simp -implicitDefEqProofs (disch := first | omega | (simp -implicitDefEqProofs; done) | (simp -implicitDefEqProofs; omega)) [-List.map_map, BT.sub, ev_denI, ev_stI, ev_slfS, ev_slfE, ev_st0n, ev_mod, ev_div, ev_mul, ev_pow, ev_line, ev_rng1, ev_rng2, ev_ar, ev_arI, rangeD_length, fp, fw, ck, hl2]
  generalize hC : compL _ _ _ _ _ = oc
  have q := comp hC D.int (nI xs) fun i m => ⟨_, rfl, rfl, by
    have := mem i m
    have e : dIdx (.tup (xs.map D.int)) (.int i) = some (.int (nI xs i)) := ev_idxIT (by omega) (by omega)
    simp -implicitDefEqProofs (disch := first | omega | (simp -implicitDefEqProofs; done) | (simp -implicitDefEqProofs; omega)) [-List.map_map, BT.sub, ev_denI, ev_stI, ev_slfS, ev_slfE, ev_st0n, ev_mod, ev_div, ev_mul, ev_pow, ev_line, ev_rng1, ev_rng2, ev_ar, ev_arI, rangeD_length, fp, e]⟩
  subst q
  have s1 : dSl (.lst ((v.map (nI xs)).map D.int)) (some 1) none = some (.lst ((w.map (nI xs)).map D.int)) := by
    rw [← hv, List.map_cons, List.map_cons, sl1]
  have zl : zipL ((v.map (nI xs)).map D.int) ((w.map (nI xs)).map D.int) = ((v.map (nI xs)).zip (w.map (nI xs))).map fun p => .tup [.int p.1, .int p.2] := zipL_ok _ _
  have zlen : min v.length w.length ≤ 16777216 := by omega
  simp -implicitDefEqProofs (disch := first | omega | (simp -implicitDefEqProofs; done) | (simp -implicitDefEqProofs; omega)) [-List.map_map, BT.sub, ev_denI, ev_stI, ev_slfS, ev_slfE, ev_st0n, ev_mod, ev_div, ev_mul, ev_pow, ev_line, ev_rng1, ev_rng2, ev_ar, ev_arI, rangeD_length, s1, zl, zlen]
  generalize hC2 : compL _ _ _ _ _ = oc2
  have q2 := comp hC2 D.int (fun p => leadI p.1 p.2) fun p m => ⟨_, rfl, rfl, by
    have e := lead_ok p.1 p.2
    simp -implicitDefEqProofs (disch := first | omega | (simp -implicitDefEqProofs; done) | (simp -implicitDefEqProofs; omega)) [-List.map_map, BT.sub, ev_denI, ev_stI, ev_slfS, ev_slfE, ev_st0n, ev_mod, ev_div, ev_mul, ev_pow, ev_line, ev_rng1, ev_rng2, ev_ar, ev_arI, rangeD_length, e]⟩
  subst q2
  have so := sum_ok (((v.map (nI xs)).zip (w.map (nI xs))).map fun p => leadI p.1 p.2)
  simp -implicitDefEqProofs (disch := first | omega | (simp -implicitDefEqProofs; done) | (simp -implicitDefEqProofs; omega)) [-List.map_map, BT.sub, ev_denI, ev_stI, ev_slfS, ev_slfE, ev_st0n, ev_mod, ev_div, ev_mul, ev_pow, ev_line, ev_rng1, ev_rng2, ev_ar, ev_arI, rangeD_length, so]
  rw [← hv, zip_map_sum]
/-- the law's own rows and sum -/
def leadRows (xs : List Int) : List (List Int) := xs.map fun x => xs.map fun y => leadI x y
theorem lrows_ok (xs : List Int) (hle : xs.length ≤ 10000) : d__law_lead_rows [.tup (xs.map .int)] = .ok (rowsL (leadRows xs)) := by
  unfold d__law_lead_rows rowsL leadRows
  have hl2 : xs.length ≤ 16777216 := by omega
  simp -implicitDefEqProofs (disch := first | omega | (simp -implicitDefEqProofs; done) | (simp -implicitDefEqProofs; omega)) [-List.map_map, BT.sub, ev_denI, ev_stI, ev_slfS, ev_slfE, ev_st0n, ev_mod, ev_div, ev_mul, ev_pow, ev_line, ev_rng1, ev_rng2, ev_ar, ev_arI, rangeD_length, hl2]
  generalize hC : compL _ _ _ _ _ = oc
  have q := comp hC (fun r : List Int => D.lst (r.map .int)) (fun x => xs.map fun y => leadI x y) fun x m => ⟨_, rfl, rfl, by
    simp -implicitDefEqProofs (disch := first | omega | (simp -implicitDefEqProofs; done) | (simp -implicitDefEqProofs; omega)) [-List.map_map, BT.sub, ev_denI, ev_stI, ev_slfS, ev_slfE, ev_st0n, ev_mod, ev_div, ev_mul, ev_pow, ev_line, ev_rng1, ev_rng2, ev_ar, ev_arI, rangeD_length, hl2]
    generalize hC2 : compL _ _ _ _ _ = oc2
    have q2 := comp hC2 D.int (fun y => leadI x y) fun y m => ⟨_, rfl, rfl, by
      have e := llead_ok x y
      simp -implicitDefEqProofs (disch := first | omega | (simp -implicitDefEqProofs; done) | (simp -implicitDefEqProofs; omega)) [-List.map_map, BT.sub, ev_denI, ev_stI, ev_slfS, ev_slfE, ev_st0n, ev_mod, ev_div, ev_mul, ev_pow, ev_line, ev_rng1, ev_rng2, ev_ar, ev_arI, rangeD_length, e]⟩
    subst q2
    simp -implicitDefEqProofs (disch := first | omega | (simp -implicitDefEqProofs; done) | (simp -implicitDefEqProofs; omega)) [-List.map_map, BT.sub, ev_denI, ev_stI, ev_slfS, ev_slfE, ev_st0n, ev_mod, ev_div, ev_mul, ev_pow, ev_line, ev_rng1, ev_rng2, ev_ar, ev_arI, rangeD_length]⟩
  subst q
  simp -implicitDefEqProofs (disch := first | omega | (simp -implicitDefEqProofs; done) | (simp -implicitDefEqProofs; omega)) [-List.map_map, BT.sub, ev_denI, ev_stI, ev_slfS, ev_slfE, ev_st0n, ev_mod, ev_div, ev_mul, ev_pow, ev_line, ev_rng1, ev_rng2, ev_ar, ev_arI, rangeD_length]
theorem leadRows_get {xs : List Int} {i j : Int} (h0 : 0 ≤ i) (h1 : i < xs.length) (g0 : 0 ≤ j) (g1 : j < xs.length) : ∃ r : List Int, dIdx (rowsL (leadRows xs)) (.int i) = some (.lst (r.map .int)) ∧ dIdx (.lst (r.map D.int)) (.int j) = some (.int (leadI (nI xs i) (nI xs j))) := by
  refine ⟨xs.map fun y => leadI (nI xs i) y, ?_, ?_⟩
  · refine ev_idxE (enc := fun r : List Int => D.lst (r.map .int)) h0 ?_
    unfold leadRows
    have hi : i.toNat < xs.length := by omega
    have e : (i.toNat : Int) = i := by omega
    have := nI_nat hi
    rw [e] at this
    rw [List.getElem?_map, List.getElem?_eq_getElem hi, this]
    rfl
  · refine ev_idxE (enc := D.int) g0 ?_
    have hj : j.toNat < xs.length := by omega
    have e : (j.toNat : Int) = j := by omega
    have := nI_nat hj
    rw [e] at this
    rw [List.getElem?_map, List.getElem?_eq_getElem hj, this]
    rfl
theorem lawsum_ok (xs : List Int) (x : Int) (w : List Int) (hm : ∀ i ∈ x :: w, 0 ≤ i ∧ i < xs.length) (hle : w.length ≤ 10000) : d__law_sum [rowsL (leadRows xs), .lst ((x :: w).map .int)] = .ok (.int (SumW (fun i j => leadI (nI xs i) (nI xs j)) x w)) := by
  unfold d__law_sum
  rw [← zip_sum]
  have hlen : (x :: w).length = w.length + 1 := rfl
  have hnn : (((w.length + 1 : Nat) : Int) - 1) = (w.length : Int) := by omega
  have hl2 : w.length ≤ 16777216 := by omega
  have r1 : ∀ k : Nat, k < w.length → ∃ i j, (x :: w)[k]? = some i ∧ (x :: w)[k + 1]? = some j ∧ ((x :: w).zip w)[k]? = some (i, j) := fun k hk => by
    refine ⟨(x :: w)[k]'(by simp; omega), w[k], List.getElem?_eq_getElem _, by rw [List.getElem?_cons_succ, List.getElem?_eq_getElem hk], ?_⟩
    rw [List.getElem?_eq_getElem (by simp; omega), List.getElem_zip]
  generalize hv : x :: w = v at *
  simp -implicitDefEqProofs (disch := first | omega | (simp -implicitDefEqProofs; done) | (simp -implicitDefEqProofs; omega)) [-List.map_map, BT.sub, ev_denI, ev_stI, ev_slfS, ev_slfE, ev_st0n, ev_mod, ev_div, ev_mul, ev_pow, ev_line, ev_rng1, ev_rng2, ev_ar, ev_arI, rangeD_length, hlen, rangeD_length, hl2]
  have hnn2 : ((w.length : Int) + 1 - 1).toNat = w.length := by omega
  generalize hC : compL _ _ _ _ _ = oc
  have q := comp hC D.int (fun k : Nat => ((v.zip w).map fun p => leadI (nI xs p.1) (nI xs p.2)).getD k 0) fun k m => ⟨_, rfl, rfl, by
    have hk : k < w.length := by
      have := List.mem_range.mp m
      omega
    obtain ⟨i, j, e1, e2, e3⟩ := r1 k hk
    have i0 := hm i (List.mem_of_getElem? e1)
    have j0 := hm j (List.mem_of_getElem? e2)
    have x1 : dIdx (.lst (v.map D.int)) (.int (k : Int)) = some (.int i) := ev_idxE (enc := D.int) (by omega) (by rw [Int.toNat_natCast]; exact e1)
    have x2 : dIdx (.lst (v.map D.int)) (.int ((k : Int) + 1)) = some (.int j) := ev_idxE (enc := D.int) (by omega) (by rw [show ((k : Int) + 1).toNat = k + 1 by omega]; exact e2)
    obtain ⟨r, y1, y2⟩ := leadRows_get (xs := xs) i0.1 i0.2 j0.1 j0.2
    rw [List.getD_eq_getElem?_getD, List.getElem?_map, e3]
    simp -implicitDefEqProofs (disch := first | omega | (simp -implicitDefEqProofs; done) | (simp -implicitDefEqProofs; omega)) [-List.map_map, BT.sub, ev_denI, ev_stI, ev_slfS, ev_slfE, ev_st0n, ev_mod, ev_div, ev_mul, ev_pow, ev_line, ev_rng1, ev_rng2, ev_ar, ev_arI, rangeD_length, x1, x2, y1, y2]⟩
  subst q
  have so := sum_ok ((v.zip w).map fun p => leadI (nI xs p.1) (nI xs p.2))
  have e : (List.range w.length).map (fun k : Nat => ((v.zip w).map fun p => leadI (nI xs p.1) (nI xs p.2)).getD k 0) = (v.zip w).map fun p => leadI (nI xs p.1) (nI xs p.2) := by
    apply List.ext_getElem?
    intro k
    by_cases hk : k < w.length
    · obtain ⟨i, j, e1, e2, e3⟩ := r1 k hk
      rw [List.getElem?_map, List.getElem?_range hk]
      show some (((v.zip w).map fun p => leadI (nI xs p.1) (nI xs p.2)).getD k 0) = _
      rw [List.getD_eq_getElem?_getD, List.getElem?_map, e3]
      rfl
    · rw [List.getElem?_eq_none (by simp; omega), List.getElem?_eq_none (by simp; omega)]
  first | rw [e] | (have e' := e; simp only [] at e'; rw [e'])
  simp -implicitDefEqProofs (disch := first | omega | (simp -implicitDefEqProofs; done) | (simp -implicitDefEqProofs; omega)) [-List.map_map, BT.sub, ev_denI, ev_stI, ev_slfS, ev_slfE, ev_st0n, ev_mod, ev_div, ev_mul, ev_pow, ev_line, ev_rng1, ev_rng2, ev_ar, ev_arI, rangeD_length, so]
theorem lawsumT_ok (xs : List Int) (x : Int) (w : List Int) (hm : ∀ i ∈ x :: w, 0 ≤ i ∧ i < xs.length) (hle : w.length ≤ 10000) : d__law_sum [rowsL (leadRows xs), .tup ((x :: w).map .int)] = .ok (.int (SumW (fun i j => leadI (nI xs i) (nI xs j)) x w)) := by
  unfold d__law_sum
  rw [← zip_sum]
  have hlen : (x :: w).length = w.length + 1 := rfl
  have hnn : (((w.length + 1 : Nat) : Int) - 1) = (w.length : Int) := by omega
  have hl2 : w.length ≤ 16777216 := by omega
  have r1 : ∀ k : Nat, k < w.length → ∃ i j, (x :: w)[k]? = some i ∧ (x :: w)[k + 1]? = some j ∧ ((x :: w).zip w)[k]? = some (i, j) := fun k hk => by
    refine ⟨(x :: w)[k]'(by simp; omega), w[k], List.getElem?_eq_getElem _, by rw [List.getElem?_cons_succ, List.getElem?_eq_getElem hk], ?_⟩
    rw [List.getElem?_eq_getElem (by simp; omega), List.getElem_zip]
  generalize hv : x :: w = v at *
  simp -implicitDefEqProofs (disch := first | omega | (simp -implicitDefEqProofs; done) | (simp -implicitDefEqProofs; omega)) [-List.map_map, BT.sub, ev_denI, ev_stI, ev_slfS, ev_slfE, ev_st0n, ev_mod, ev_div, ev_mul, ev_pow, ev_line, ev_rng1, ev_rng2, ev_ar, ev_arI, rangeD_length, hlen, rangeD_length, hl2]
  have hnn2 : ((w.length : Int) + 1 - 1).toNat = w.length := by omega
  generalize hC : compL _ _ _ _ _ = oc
  have q := comp hC D.int (fun k : Nat => ((v.zip w).map fun p => leadI (nI xs p.1) (nI xs p.2)).getD k 0) fun k m => ⟨_, rfl, rfl, by
    have hk : k < w.length := by
      have := List.mem_range.mp m
      omega
    obtain ⟨i, j, e1, e2, e3⟩ := r1 k hk
    have i0 := hm i (List.mem_of_getElem? e1)
    have j0 := hm j (List.mem_of_getElem? e2)
    have x1 : dIdx (.tup (v.map D.int)) (.int (k : Int)) = some (.int i) := ev_idxET (enc := D.int) (by omega) (by rw [Int.toNat_natCast]; exact e1)
    have x2 : dIdx (.tup (v.map D.int)) (.int ((k : Int) + 1)) = some (.int j) := ev_idxET (enc := D.int) (by omega) (by rw [show ((k : Int) + 1).toNat = k + 1 by omega]; exact e2)
    obtain ⟨r, y1, y2⟩ := leadRows_get (xs := xs) i0.1 i0.2 j0.1 j0.2
    rw [List.getD_eq_getElem?_getD, List.getElem?_map, e3]
    simp -implicitDefEqProofs (disch := first | omega | (simp -implicitDefEqProofs; done) | (simp -implicitDefEqProofs; omega)) [-List.map_map, BT.sub, ev_denI, ev_stI, ev_slfS, ev_slfE, ev_st0n, ev_mod, ev_div, ev_mul, ev_pow, ev_line, ev_rng1, ev_rng2, ev_ar, ev_arI, rangeD_length, x1, x2, y1, y2]⟩
  subst q
  have so := sum_ok ((v.zip w).map fun p => leadI (nI xs p.1) (nI xs p.2))
  have e : (List.range w.length).map (fun k : Nat => ((v.zip w).map fun p => leadI (nI xs p.1) (nI xs p.2)).getD k 0) = (v.zip w).map fun p => leadI (nI xs p.1) (nI xs p.2) := by
    apply List.ext_getElem?
    intro k
    by_cases hk : k < w.length
    · obtain ⟨i, j, e1, e2, e3⟩ := r1 k hk
      rw [List.getElem?_map, List.getElem?_range hk]
      show some (((v.zip w).map fun p => leadI (nI xs p.1) (nI xs p.2)).getD k 0) = _
      rw [List.getD_eq_getElem?_getD, List.getElem?_map, e3]
      rfl
    · rw [List.getElem?_eq_none (by simp; omega), List.getElem?_eq_none (by simp; omega)]
  first | rw [e] | (have e' := e; simp only [] at e'; rw [e'])
  simp -implicitDefEqProofs (disch := first | omega | (simp -implicitDefEqProofs; done) | (simp -implicitDefEqProofs; omega)) [-List.map_map, BT.sub, ev_denI, ev_stI, ev_slfS, ev_slfE, ev_st0n, ev_mod, ev_div, ev_mul, ev_pow, ev_line, ev_rng1, ev_rng2, ev_ar, ev_arI, rangeD_length, so]
end FR
end
section
set_option Elab.async false
set_option linter.all false
set_option maxRecDepth 100000
namespace FR
open PySem L2 DI
/-! k31: rings that have a share -/
theorem chain_of {n : Int} {ls : List (Int × Int)} : ∀ {w : List Int}, (∀ k : Nat, k < w.length → okAt n ls w k) → Chain n ls w
  | [], _ => trivial
  | [x], h => (h 0 (by simp)).1
  | x :: y :: w, h => by
    refine ⟨(h 0 (by simp)).1, ?_, chain_of fun k hk => ?_⟩
    · have := (h 1 (by simp)).2 (by omega)
      exact this
    · have hk' : k + 1 < (x :: y :: w).length := by simp at hk ⊢; omega
      have := h (k + 1) hk'
      refine ⟨?_, fun k0 => ?_⟩
      · have a := this.1
        rw [nI_nat hk', List.getElem_cons_succ] at a
        rw [nI_nat hk]
        exact a
      · have a := this.2 (by omega)
        rw [nI_nat hk', List.getElem_cons_succ] at a
        rw [nI_nat hk]
        obtain ⟨j, rfl⟩ : ∃ j, k = j + 1 := ⟨k - 1, by omega⟩
        rw [show ((j + 1 + 1 : Nat) : Int) - 1 = ((j + 1 : Nat) : Int) by omega, nI_nat (by omega), List.getElem_cons_succ] at a
        rw [show ((j + 1 : Nat) : Int) - 1 = (j : Int) by omega, nI_nat (by omega)]
        exact a
/-- the lead sum of a sequence -/
def leadS (pic : List Int) : List Int → Int
  | [] => 0
  | x :: w => SumW (fun i j => leadI (nI pic i) (nI pic j)) x w
theorem leadI_b (x y : Int) : -1 ≤ leadI x y ∧ leadI x y ≤ 1 := by
  unfold leadI
  split
  · omega
  · split <;> omega
theorem SumW_b {f : Int → Int → Int} (h : ∀ x y, -1 ≤ f x y ∧ f x y ≤ 1) : ∀ (x : Int) (w : List Int), -(w.length : Int) ≤ SumW f x w ∧ SumW f x w ≤ w.length
  | x, [] => by show -((0 : Nat) : Int) ≤ 0 ∧ (0 : Int) ≤ ((0 : Nat) : Int); omega
  | x, y :: w => by
    have a := h x y
    have b := SumW_b h y w
    rw [List.length_cons]
    show -((w.length + 1 : Nat) : Int) ≤ f x y + SumW f y w ∧ f x y + SumW f y w ≤ _
    omega
theorem leadS_b (pic : List Int) : ∀ w : List Int, -(w.length : Int) ≤ leadS pic w ∧ leadS pic w ≤ w.length
  | [] => by show -((0 : Nat) : Int) ≤ 0 ∧ (0 : Int) ≤ ((0 : Nat) : Int); omega
  | x :: w => by
    have := SumW_b (f := fun i j => leadI (nI pic i) (nI pic j)) (fun i j => leadI_b _ _) x w
    rw [List.length_cons]
    show -((w.length + 1 : Nat) : Int) ≤ SumW _ x w ∧ SumW _ x w ≤ _
    omega
section
variable {n : Int} {ls : List (Int × Int)} {pic w : List Int}
theorem IsW.pos (h : IsW n ls w) : ∃ x r, w = x :: r := by
  cases w with
  | nil => exact absurd h.1 (by simp)
  | cons x r => exact ⟨x, r, rfl⟩
theorem psum_ok (hl : Lines n ls) (hx : pic.length = n.toNat) (h : IsW n ls w) (hw : w.length ≤ 1000) (d : D) (hd : d = .lst (w.map .int) ∨ d = .tup (w.map .int)) : d_lead_sum [scnD (webD n ls) pic, d] = .ok (.int (leadS pic w)) := by
  have ch := chain_of h.2
  obtain ⟨x, r, rfl⟩ := h.pos
  have hr : r.length ≤ 10000 := by simp at hw; omega
  rcases hd with rfl | rfl
  · exact lsum_ok hl hx x r ch hr
  · exact lsumT_ok hl hx x r ch hr
theorem lsumD_ok (hx : pic.length = n.toNat) (h : IsW n ls w) (hw : w.length ≤ 1000) (d : D) (hd : d = .lst (w.map .int) ∨ d = .tup (w.map .int)) : d__law_sum [rowsL (leadRows pic), d] = .ok (.int (leadS pic w)) := by
  have ch := chain_of h.2
  have mem := ch.mem
  obtain ⟨x, r, rfl⟩ := h.pos
  have hr : r.length ≤ 10000 := by simp at hw; omega
  have hm : ∀ i ∈ x :: r, 0 ≤ i ∧ i < pic.length := fun i m => by have := mem i m; omega
  rcases hd with rfl | rfl
  · exact lawsum_ok pic x r hm hr
  · exact lawsumT_ok pic x r hm hr
/-- a ring with this share -/
def HasS (n : Int) (ls : List (Int × Int)) (pic w : List Int) (p q : Int) : Prop := IsR n ls w ∧ q * leadS pic w = p * ((w.length : Int) - 1)
def SmP (p q : Int) : Prop := (-1000000 ≤ p ∧ p ≤ 1000000) ∧ (-1000000 ≤ q ∧ q ≤ 1000000)
theorem pring_ok (hl : Lines n ls) (hx : pic.length = n.toNat) (hw : w.length ≤ 1000) {p q : Int} (sm : SmP p q) (d e : D) (hd : d = .lst (w.map .int) ∨ d = .tup (w.map .int)) (he : e = .lst [.int p, .int q] ∨ e = .tup [.int p, .int q]) : Tells (d_is_share_ring [scnD (webD n ls) pic, e, d]) (HasS n ls pic w p q) := by
  obtain ⟨b, h1, h2⟩ := is_ring_ok (n := n) (ls := ls) w d hd
  unfold d_is_share_ring
  have fw : dFld fl_web (scnD (webD n ls) pic) = some (webD n ls) := rfl
  cases b with
  | false =>
    have : ¬ IsR n ls w := fun z => by have := h2.mpr z; cases this
    refine ⟨false, ?_, by simp [HasS, this]⟩
    simp -implicitDefEqProofs (disch := first | omega | (simp -implicitDefEqProofs; done) | (simp -implicitDefEqProofs; omega)) [-List.map_map, BT.sub, ev_denI, ev_stI, ev_slfS, ev_slfE, ev_st0n, ev_mod, ev_div, ev_mul, ev_pow, ev_line, ev_rng1, ev_rng2, ev_ar, ev_arI, rangeD_length, ev_if, fw, h1]
  | true =>
    have ir := h2.mp rfl
    have su := psum_ok hl hx ir.1 hw d hd
    have sb := leadS_b pic w
    have hlen : dLen [d] = some (.int (w.length : Int)) := by rcases hd with rfl | rfl <;> simp
    have i0 : dIdx e (.int 0) = some (.int p) := by rcases he with rfl | rfl <;> rfl
    have i1 : dIdx e (.int 1) = some (.int q) := by rcases he with rfl | rfl <;> rfl
    obtain ⟨⟨s1, s2⟩, s3, s4⟩ := sm
    have m1 : dMul (.int q) (.int (leadS pic w)) = some (.int (q * leadS pic w)) := ev_mul (by omega) (by omega) (by omega) (by omega)
    have m2 : dMul (.int p) (.int ((w.length : Int) - 1)) = some (.int (p * ((w.length : Int) - 1))) := ev_mul (by omega) (by omega) (by omega) (by omega)
    refine ⟨decide (q * leadS pic w = p * ((w.length : Int) - 1)), ?_, by simp [HasS, ir]⟩
    simp -implicitDefEqProofs (disch := first | omega | (simp -implicitDefEqProofs; done) | (simp -implicitDefEqProofs; omega)) [-List.map_map, BT.sub, ev_denI, ev_stI, ev_slfS, ev_slfE, ev_st0n, ev_mod, ev_div, ev_mul, ev_pow, ev_line, ev_rng1, ev_rng2, ev_ar, ev_arI, rangeD_length, ev_if, fw, h1, su, hlen, i0, i1, m1, m2]
theorem lring_ok (hn : 0 ≤ n) (hx : pic.length = n.toNat) (hn2 : n ≤ 1000) (hw : w.length ≤ 1000) {p q : Int} (sm : SmP p q) : Tells (d__law_has_share [rowsL (arnd n ls), .tup (pic.map .int), .tup (w.map .int), .int p, .int q]) (HasS n ls pic w p q) := by
  obtain ⟨b, h1, h2⟩ := lis_walk_ok (ls := ls) hn w (by omega)
  unfold d__law_has_share
  cases b with
  | false =>
    have : ¬ IsW n ls w := fun z => by have := h2.mpr z; cases this
    refine ⟨false, ?_, by simp [HasS, IsR, this]⟩
    simp -implicitDefEqProofs (disch := first | omega | (simp -implicitDefEqProofs; done) | (simp -implicitDefEqProofs; omega)) [-List.map_map, BT.sub, ev_denI, ev_stI, ev_slfS, ev_slfE, ev_st0n, ev_mod, ev_div, ev_mul, ev_pow, ev_line, ev_rng1, ev_rng2, ev_ar, ev_arI, rangeD_length, ev_if, h1]
  | true =>
    have iw := h2.mp rfl
    by_cases c : w.length < 2
    · have ci : (w.length : Int) < 2 := by omega
      refine ⟨false, ?_, by simp [HasS, IsR]; omega⟩
      simp -implicitDefEqProofs (disch := first | omega | (simp -implicitDefEqProofs; done) | (simp -implicitDefEqProofs; omega)) [-List.map_map, BT.sub, ev_denI, ev_stI, ev_slfS, ev_slfE, ev_st0n, ev_mod, ev_div, ev_mul, ev_pow, ev_line, ev_rng1, ev_rng2, ev_ar, ev_arI, rangeD_length, ev_if, h1, c, ci]
    · have ci : ¬ (w.length : Int) < 2 := by omega
      have i0 : dIdx (.tup (w.map .int)) (.int 0) = some (.int (nI w 0)) := ev_idxIT (by omega) (by omega)
      have i1 : dIdx (.tup (w.map .int)) (.int ((w.length : Int) - 1)) = some (.int (nI w ((w.length : Int) - 1))) := ev_idxIT (by omega) (by omega)
      by_cases e : nI w 0 = nI w ((w.length : Int) - 1)
      · have ir : IsR n ls w := ⟨iw, by omega, e⟩
        have su := lsumD_ok hx iw hw (.tup (w.map .int)) (.inr rfl)
        have lr := lrows_ok pic (by omega)
        have sb := leadS_b pic w
        obtain ⟨⟨s1, s2⟩, s3, s4⟩ := sm
        have m1 : dMul (.int q) (.int (leadS pic w)) = some (.int (q * leadS pic w)) := ev_mul (by omega) (by omega) (by omega) (by omega)
        have m2 : dMul (.int p) (.int ((w.length : Int) - 1)) = some (.int (p * ((w.length : Int) - 1))) := ev_mul (by omega) (by omega) (by omega) (by omega)
        refine ⟨decide (q * leadS pic w = p * ((w.length : Int) - 1)), ?_, by simp [HasS, ir]⟩
        simp -implicitDefEqProofs (disch := first | omega | (simp -implicitDefEqProofs; done) | (simp -implicitDefEqProofs; omega)) [-List.map_map, BT.sub, ev_denI, ev_stI, ev_slfS, ev_slfE, ev_st0n, ev_mod, ev_div, ev_mul, ev_pow, ev_line, ev_rng1, ev_rng2, ev_ar, ev_arI, rangeD_length, ev_if, h1, c, ci, i0, i1, e, lr, su, m1, m2]
      · refine ⟨false, ?_, by simp [HasS, IsR, e]⟩
        simp -implicitDefEqProofs (disch := first | omega | (simp -implicitDefEqProofs; done) | (simp -implicitDefEqProofs; omega)) [-List.map_map, BT.sub, ev_denI, ev_stI, ev_slfS, ev_slfE, ev_st0n, ev_mod, ev_div, ev_mul, ev_pow, ev_line, ev_rng1, ev_rng2, ev_ar, ev_arI, rangeD_length, ev_if, h1, c, ci, i0, i1, e]
theorem own_pairs_ok (hn : 0 ≤ n) (hx : pic.length = n.toNat) (hn2 : n ≤ 1000) (hw : w.length ≤ 1000) : ∃ prs : List (Int × Int), d__law_own_pairs [rowsL (arnd n ls), .tup (pic.map .int), .lst (w.map .int)] = .ok (.lst (prs.map dP)) ∧ prs.length ≤ 3 ∧ ∀ pr ∈ prs, SmP pr.1 pr.2 := by
  obtain ⟨b, h1, h2⟩ := lis_walk_ok (ls := ls) hn w (by omega)
  unfold d__law_own_pairs
  obtain ⟨m, hm⟩ : ∃ m : Int, m = max 1 ((w.length : Int) - 1) := ⟨_, rfl⟩
  have mb : 1 ≤ m ∧ m ≤ 1000 := by omega
  have mx : dMax2 [.int 1, .int ((w.length : Int) - 1)] = some (.int m) := by rw [hm]; exact ev_max2
  have w16 : w.length ≤ 16777216 := by omega
  have bad : SmP 0 m ∧ SmP 1 m ∧ SmP 2 m := by unfold SmP; omega
  have three : ∀ pr ∈ [((0 : Int), m), (1, m), (2, m)], SmP pr.1 pr.2 := fun pr h => by
    simp only [List.mem_cons, List.not_mem_nil, or_false] at h
    rcases h with rfl | rfl | rfl
    · exact bad.1
    · exact bad.2.1
    · exact bad.2.2
  cases b with
  | false =>
    refine ⟨[(0, m), (1, m), (2, m)], ?_, by simp, three⟩
    simp -implicitDefEqProofs (disch := first | omega | (simp -implicitDefEqProofs; done) | (simp -implicitDefEqProofs; omega)) [-List.map_map, BT.sub, ev_denI, ev_stI, ev_slfS, ev_slfE, ev_st0n, ev_mod, ev_div, ev_mul, ev_pow, ev_line, ev_rng1, ev_rng2, ev_ar, ev_arI, rangeD_length, ev_if, mx, h1, w16]
    exact ⟨rfl, rfl, rfl⟩
  | true =>
    have iw := h2.mp rfl
    by_cases c : w.length < 2
    · have ci : (w.length : Int) < 2 := by omega
      refine ⟨[(0, m), (1, m), (2, m)], ?_, by simp, three⟩
      simp -implicitDefEqProofs (disch := first | omega | (simp -implicitDefEqProofs; done) | (simp -implicitDefEqProofs; omega)) [-List.map_map, BT.sub, ev_denI, ev_stI, ev_slfS, ev_slfE, ev_st0n, ev_mod, ev_div, ev_mul, ev_pow, ev_line, ev_rng1, ev_rng2, ev_ar, ev_arI, rangeD_length, ev_if, mx, h1, c, ci, w16]
      exact ⟨rfl, rfl, rfl⟩
    · have ci : ¬ (w.length : Int) < 2 := by omega
      have su := lsumD_ok hx iw hw (.lst (w.map .int)) (.inl rfl)
      have lr := lrows_ok pic (by omega)
      have sb := leadS_b pic w
      generalize leadS pic w = g at *
      by_cases g0 : g < 0
      · refine ⟨[(0 - g, m)], ?_, by simp, fun pr h => by
          rw [List.mem_singleton.mp h]
          unfold SmP
          simp only
          omega⟩
        simp -implicitDefEqProofs (disch := first | omega | (simp -implicitDefEqProofs; done) | (simp -implicitDefEqProofs; omega)) [-List.map_map, BT.sub, ev_denI, ev_stI, ev_slfS, ev_slfE, ev_st0n, ev_mod, ev_div, ev_mul, ev_pow, ev_line, ev_rng1, ev_rng2, ev_ar, ev_arI, rangeD_length, ev_if, mx, h1, c, ci, w16, lr, su, g0]
        rfl
      · have m1 : dMul (.int 2) (.int g) = some (.int (2 * g)) := ev_mul (by omega) (by omega) (by omega) (by omega)
        have m2 : dMul (.int 2) (.int m) = some (.int (2 * m)) := ev_mul (by omega) (by omega) (by omega) (by omega)
        refine ⟨[(g, m), (2 * g, 2 * m), (g + 1, m)], ?_, by simp, fun pr h => by
          simp only [List.mem_cons, List.not_mem_nil, or_false] at h
          unfold SmP
          rcases h with rfl | rfl | rfl <;> simp only <;> omega⟩
        simp -implicitDefEqProofs (disch := first | omega | (simp -implicitDefEqProofs; done) | (simp -implicitDefEqProofs; omega)) [-List.map_map, BT.sub, ev_denI, ev_stI, ev_slfS, ev_slfE, ev_st0n, ev_mod, ev_div, ev_mul, ev_pow, ev_line, ev_rng1, ev_rng2, ev_ar, ev_arI, rangeD_length, ev_if, mx, h1, c, ci, w16, lr, su, g0, m1, m2]
        exact ⟨rfl, rfl, rfl⟩
theorem agree_ok (b : Bool) : d__law_agree [.bl b, .bl b] = .ok (.bl true) := by
  unfold d__law_agree
  cases b <;> rfl
end
end FR
end
section
set_option Elab.async false
set_option linter.all false
set_option maxRecDepth 100000
namespace FR
open PySem L2 DI
/-! k31: the law's rings -/
/-- a ring of the first kind -/
def RgA (n : Int) (r : List Int) : Prop := 2 ≤ r.length ∧ r.length ≤ 20 ∧ 0 ≤ nI r 0 ∧ nI r 0 < n
theorem cutL_map {α β : Type} (f : α → β) (xs : List α) (lo hi : Option Int) : cutL (xs.map f) lo hi = (cutL xs lo hi).map f := by
  unfold cutL
  rw [List.length_map, List.map_take, List.map_drop]
theorem cutL_mem {α : Type} {xs : List α} {lo hi : Option Int} {x : α} (h : x ∈ cutL xs lo hi) : x ∈ xs := List.mem_of_mem_drop (List.mem_of_mem_take h)
theorem cutL_len {α : Type} (xs : List α) (lo hi : Option Int) : (cutL xs lo hi).length ≤ xs.length := by
  unfold cutL
  rw [List.length_take, List.length_drop]
  omega
theorem dSl_map {α : Type} (enc : α → D) (xs : List α) (lo hi : Option Int) : dSl (.lst (xs.map enc)) lo hi = some (.lst ((cutL xs lo hi).map enc)) := by
  show some (D.lst (cutL (xs.map enc) lo hi)) = _
  rw [cutL_map]
def ends31 : List (List Int) := [[], [0], [0, 9, 0], [-1, 0, -1], [0, 1000000000000000000000000000000, 0]]
set_option maxHeartbeats 4000000 in
theorem rings_ok (n : Int) (ls : List (Int × Int)) (hn1 : 1 ≤ n) (hn6 : n ≤ 7) (hl : Lines n ls) (hls : ls.length ≤ 64) : ∃ rs : List (List Int), d__law_rings [rowsL (arnd n ls)] = .ok (.lst (rs.map encI)) ∧ rs.length ≤ 4000000 ∧ ∀ r ∈ rs, r.length ≤ 100 := by
  unfold d__law_rings
  have ln := len_near (ls := ls) (show 0 ≤ n by omega)
  have n16 : n ≤ 16777216 := by omega
  generalize hG : seqS (forS (callI rng1 _) _ _) _ = G
  have key : ∀ r1 r2 : List Int, RgA n r1 → RgA n r2 → ∃ rs : List (List Int), (G [some (.im (rowsL (arnd n ls))), some (.im (.int n)), none, some (tE encI [r1, r2]), none, none, none, none, none, none, none]).end = .ok (.lst (rs.map encI)) ∧ rs.length ≤ 4000000 ∧ ∀ r ∈ rs, r.length ≤ 100 := by
    intro r1 r2 h1 h2
    subst hG
    generalize hG : frzS 3 _ = G
    simp -implicitDefEqProofs (disch := first | omega | (simp -implicitDefEqProofs; done) | (simp -implicitDefEqProofs; omega)) [-List.map_map, BT.sub, ev_denI, ev_stI, ev_slfS, ev_slfE, ev_st0n, ev_mod, ev_div, ev_mul, ev_pow, ev_line, ev_rng1, ev_rng2, ev_ar, ev_arI, rangeD_length, ln, n16]
    generalize hL : forL _ _ _ _ = o
    obtain ⟨s', rfl, rs, j4, j5, rfl, lrs, hrs⟩ := loop (α := Nat) hL (fun pr s => ∃ (rs : List (List Int)) (j4 j5 : Option T), s = [some (.im (rowsL (arnd n ls))), some (.im (.int n)), none, some (tE encI rs), j4, j5, none, none, none, none, none] ∧ rs.length ≤ 2 + 16641 * pr.length ∧ ∀ r ∈ rs, RgA n r)
      ⟨[r1, r2], none, none, rfl, by simp, fun r m => by
        simp only [List.mem_cons, List.not_mem_nil, or_false] at m
        rcases m with rfl | rfl
        · exact h1
        · exact h2⟩ (by
      rintro pr a po s q ⟨rs, j4, j5, rfl, lrs, hrs⟩
      obtain ⟨e1, e2, e3⟩ := range_split q
      rw [List.length_append, List.length_singleton]
      subst e1
      generalize pr.length = a at *
      have na := near_idx (n := n) (ls := ls) (x := (a : Int)) (by omega) (by omega)
      have sl := dSl_map D.int (rowAt n ls (a : Int)) none (some 2)
      have cl := cutL_len (rowAt n ls (a : Int)) none (some 2)
      have rb := rowAt_bound (n := n) (ls := ls) (i := (a : Int))
      have bm : ∀ b ∈ cutL (rowAt n ls (a : Int)) none (some 2), 0 ≤ b ∧ b < n := fun b m => rowAt_mem hl (by omega) (by omega) b (cutL_mem m)
      generalize cutL (rowAt n ls (a : Int)) none (some 2) = tk at *
      have tk16 : tk.length ≤ 16777216 := by omega
      simp -implicitDefEqProofs (disch := first | omega | (simp -implicitDefEqProofs; done) | (simp -implicitDefEqProofs; omega)) [-List.map_map, BT.sub, ev_denI, ev_stI, ev_slfS, ev_slfE, ev_st0n, ev_mod, ev_div, ev_mul, ev_pow, ev_line, ev_rng1, ev_rng2, ev_ar, ev_arI, rangeD_length, na, sl, tk16]
      generalize hL2 : forL _ _ _ _ = o2
      obtain ⟨s2, rfl, rs2, j5', rfl, l2, hrs2⟩ := loop hL2 (fun pr2 s => ∃ (rs' : List (List Int)) (j5 : Option T), s = [some (.im (rowsL (arnd n ls))), some (.im (.int n)), none, some (tE encI rs'), some (.im (.int (a : Int))), j5, none, none, none, none, none] ∧ rs'.length ≤ rs.length + 129 * pr2.length ∧ ∀ r ∈ rs', RgA n r) ⟨rs, j5, rfl, by simp, hrs⟩ (by
        rintro pr2 b po2 s q2 ⟨rs', j5, rfl, l2, hrs'⟩
        rw [List.length_append, List.length_singleton]
        have br := bm b (by rw [q2]; simp)
        have nb := near_idx (ls := ls) br.1 br.2
        have rbb := rowAt_bound (n := n) (ls := ls) (i := b)
        have rb16 : (rowAt n ls b).length ≤ 16777216 := by omega
        have ptl : pr2.length ≤ tk.length := by rw [q2]; simp
        have row : ∀ c ∈ rowAt n ls b, 0 ≤ c ∧ c < n := fun c m => rowAt_mem hl br.1 br.2 c m
        have fl := List.length_filter_le (fun c => decide ((a : Int) ∈ rowAt n ls c)) (rowAt n ls b)
        have e0 : D.lst [.int (a : Int), .int b, .int (a : Int)] = encI [(a : Int), b, (a : Int)] := rfl
        refine ⟨[some (.im (rowsL (arnd n ls))), some (.im (.int n)), none, some (tE encI ((rs' ++ [[(a : Int), b, (a : Int)]]) ++ ((rowAt n ls b).filter fun c => decide ((a : Int) ∈ rowAt n ls c)).map fun c => [(a : Int), b, c, (a : Int)])), some (.im (.int (a : Int))), some (.im (.int b)), none, none, none, none, none], ?_, _, _, rfl, ?_, ?_⟩
        · have r16 : rs'.length < 16777216 := by omega
          simp -implicitDefEqProofs (disch := first | omega | (simp -implicitDefEqProofs; done) | (simp -implicitDefEqProofs; omega)) [-List.map_map, BT.sub, ev_denI, ev_stI, ev_slfS, ev_slfE, ev_st0n, ev_mod, ev_div, ev_mul, ev_pow, ev_line, ev_rng1, ev_rng2, ev_ar, ev_arI, rangeD_length, e0, nb, rb16, ext_ev, r16]
          generalize hC : compL _ _ _ _ _ = oc
          have qz := compP hC (fun c => decide ((a : Int) ∈ rowAt n ls c)) encI (fun c => [(a : Int), b, c, (a : Int)]) fun c m => ⟨_, rfl, by
            have cr := row c m
            have nc := near_idx (ls := ls) cr.1 cr.2
            simp -implicitDefEqProofs (disch := first | omega | (simp -implicitDefEqProofs; done) | (simp -implicitDefEqProofs; omega)) [-List.map_map, BT.sub, ev_denI, ev_stI, ev_slfS, ev_slfE, ev_st0n, ev_mod, ev_div, ev_mul, ev_pow, ev_line, ev_rng1, ev_rng2, ev_ar, ev_arI, rangeD_length, nc, ev_inL], fun _ => by
            simp -implicitDefEqProofs (disch := first | omega | (simp -implicitDefEqProofs; done) | (simp -implicitDefEqProofs; omega)) [-List.map_map, BT.sub, ev_denI, ev_stI, ev_slfS, ev_slfE, ev_st0n, ev_mod, ev_div, ev_mul, ev_pow, ev_line, ev_rng1, ev_rng2, ev_ar, ev_arI, rangeD_length]
            rfl⟩
          subst qz
          generalize hft : ((rowAt n ls b).filter fun c => decide ((a : Int) ∈ rowAt n ls c)).map (fun c => [(a : Int), b, c, (a : Int)]) = ft
          have lft : ft.length ≤ 128 := by rw [← hft, List.length_map]; omega
          have lE : rs'.length + 1 + ft.length ≤ 16777216 := by omega
          have lE2 : (rs' ++ [[(a : Int), b, (a : Int)]]).length + ft.length ≤ 16777216 := by simp; omega
          simp -implicitDefEqProofs (disch := first | omega | (simp -implicitDefEqProofs; done) | (simp -implicitDefEqProofs; omega)) [-List.map_map, BT.sub, ev_denI, ev_stI, ev_slfS, ev_slfE, ev_st0n, ev_mod, ev_div, ev_mul, ev_pow, ev_line, ev_rng1, ev_rng2, ev_ar, ev_arI, rangeD_length, extL_ev, lE, lE2, tE_app2]
          unfold tE
          simp
        · simp only [List.length_append, List.length_map, List.length_singleton]
          omega
        · intro r m
          have a3 : RgA n [(a : Int), b, (a : Int)] := ⟨by simp, by simp, by show (0 : Int) ≤ (a : Int); omega, by show (a : Int) < n; omega⟩
          rcases List.mem_append.mp m with m | m
          · rcases List.mem_append.mp m with m | m
            · exact hrs' r m
            · rw [List.mem_singleton.mp m]; exact a3
          · obtain ⟨c, _, rfl⟩ := List.mem_map.mp m
            exact ⟨by simp, by simp, by show (0 : Int) ≤ (a : Int); omega, by show (a : Int) < n; omega⟩)
      exact ⟨_, rfl, rs2, ⟨_, _, rfl⟩, by omega, hrs2⟩)
    subst hG
    have lrs : rs.length ≤ 200000 := by rw [List.length_range] at lrs; omega
    clear hL
    have sl := dSl_map encI rs none (some 12)
    have sl4 := dSl_map encI rs (some 2) (some 4)
    have c12 := cutL_len rs none (some 12)
    have c4 := cutL_len rs (some 2) (some 4)
    have m12 : ∀ r ∈ cutL rs none (some 12), RgA n r := fun r m => hrs r (cutL_mem m)
    have m4 : ∀ r ∈ cutL rs (some 2) (some 4), RgA n r := fun r m => hrs r (cutL_mem m)
    generalize cutL rs none (some 12) = f0 at *
    generalize cutL rs (some 2) (some 4) = w2 at *
    have rs16 : rs.length ≤ 16777216 := by omega
    have f16 : f0.length ≤ 16777216 := by omega
    generalize hG : frzS 7 _ = G
    simp -implicitDefEqProofs (disch := first | omega | (simp -implicitDefEqProofs; done) | (simp -implicitDefEqProofs; omega)) [-List.map_map, BT.sub, ev_denI, ev_stI, ev_slfS, ev_slfE, ev_st0n, ev_mod, ev_div, ev_mul, ev_pow, ev_line, ev_rng1, ev_rng2, ev_ar, ev_arI, rangeD_length, sl, sl4, rs16, f16]
    generalize hC : compL _ _ _ _ _ = oc
    have qz := compP hC (fun r => decide (3 < r.length)) encI id fun r m => ⟨_, rfl, by
      have lr : dLen [encI r] = some (.int (r.length : Int)) := by
        show dLen [.lst (r.map .int)] = _
        rw [ev_lenL, List.length_map]
      simp -implicitDefEqProofs (disch := first | omega | (simp -implicitDefEqProofs; done) | (simp -implicitDefEqProofs; omega)) [-List.map_map, BT.sub, ev_denI, ev_stI, ev_slfS, ev_slfE, ev_st0n, ev_mod, ev_div, ev_mul, ev_pow, ev_line, ev_rng1, ev_rng2, ev_ar, ev_arI, rangeD_length, lr]
      omega, fun _ => by simp -implicitDefEqProofs (disch := first | omega | (simp -implicitDefEqProofs; done) | (simp -implicitDefEqProofs; omega)) [-List.map_map, BT.sub, ev_denI, ev_stI, ev_slfS, ev_slfE, ev_st0n, ev_mod, ev_div, ev_mul, ev_pow, ev_line, ev_rng1, ev_rng2, ev_ar, ev_arI, rangeD_length]⟩
    subst qz
    clear hC
    rw [List.map_id]
    have m3 : ∀ r ∈ rs.filter (fun r => decide (3 < r.length)), RgA n r := fun r m => hrs r (List.mem_filter.mp m).1
    have l3 := List.length_filter_le (fun r : List Int => decide (3 < r.length)) rs
    generalize rs.filter (fun r => decide (3 < r.length)) = w1 at *
    have sl1 := dSl_map encI w1 none (some 4)
    have c1 := cutL_len w1 none (some 4)
    have m1 : ∀ r ∈ cutL w1 none (some 4), RgA n r := fun r m => m3 r (cutL_mem m)
    generalize cutL w1 none (some 4) = w1 at *
    have cat : dAdd (.lst (w1.map encI)) (.lst (w2.map encI)) = some (.lst ((w1 ++ w2).map encI)) := by
      rw [ev_catL (by simp; omega), List.map_append]
    have ww : ∀ r ∈ w1 ++ w2, RgA n r := fun r m => (List.mem_append.mp m).elim (m1 r) (m4 r)
    have lw : (w1 ++ w2).length ≤ 400000 := by rw [List.length_append]; omega
    generalize w1 ++ w2 = W at *
    have w16 : W.length ≤ 16777216 := by omega
    subst hG
    simp -implicitDefEqProofs (disch := first | omega | (simp -implicitDefEqProofs; done) | (simp -implicitDefEqProofs; omega)) [-List.map_map, BT.sub, ev_denI, ev_stI, ev_slfS, ev_slfE, ev_st0n, ev_mod, ev_div, ev_mul, ev_pow, ev_line, ev_rng1, ev_rng2, ev_ar, ev_arI, rangeD_length, sl1, cat, w16]
    rw [tE_imT]
    generalize hL : forL _ _ _ _ = o
    obtain ⟨s', rfl, fs, j5, j9, j10, rfl, lfs, hfs⟩ := loop hL (fun pr s => ∃ (fs : List (List Int)) (j5 j9 j10 : Option T), s = [some (.im (rowsL (arnd n ls))), some (.im (.int n)), none, some (.im (.lst (rs.map encI))), j4, j5, none, some (tE encI fs), none, j9, j10] ∧ fs.length ≤ 200000 + 5 * pr.length ∧ ∀ r ∈ fs, r.length ≤ 100)
      ⟨f0, _, _, _, rfl, by simp; omega, fun r m => by have := (m12 r m).2.1; omega⟩ (by
      rintro pr r po s q ⟨fs, j5, j9, j10, rfl, lfs, hfs⟩
      rw [List.length_append, List.length_singleton]
      obtain ⟨g1, g2, g3, g4⟩ := ww r (by rw [q]; simp)
      have pl : pr.length ≤ W.length := by rw [q]; simp
      have en : encI r = .lst (r.map .int) := rfl
      have lr : dLen [.lst (r.map .int)] = some (.int (r.length : Int)) := by rw [ev_lenL, List.length_map]
      have i0 : dIdx (.lst (r.map .int)) (.int 0) = some (.int (nI r 0)) := ev_idxI (by omega) (by omega)
      have i1 : dIdx (.lst (r.map .int)) (.int 1) = some (.int (nI r 1)) := ev_idxI (by omega) (by omega)
      have nr := near_idx (n := n) (ls := ls) (x := nI r 0) g3 g4
      have t1 := dSl_map D.int r (some 1) none
      have t2 := dSl_map D.int r none (some ((r.length : Int) - 1))
      have t3 : dSl (.lst ((rowAt n ls (nI r 0)).map .int)) none (some 1) = some (.lst (((rowAt n ls (nI r 0)).take 1).map .int)) := by
        rw [ev_slL (by omega), List.map_take]
        rfl
      have u1 := cutL_len r (some 1) none
      have u2 := cutL_len r none (some ((r.length : Int) - 1))
      have u3 : ((rowAt n ls (nI r 0)).take 1).length ≤ 1 := by rw [List.length_take]; omega
      have rb := rowAt_bound (n := n) (ls := ls) (i := nI r 0)
      generalize cutL r (some 1) none = v1 at *
      generalize cutL r none (some ((r.length : Int) - 1)) = v2 at *
      generalize (rowAt n ls (nI r 0)).take 1 = v3 at *
      have ca : dAdd (.lst (r.map .int)) (.lst (v1.map .int)) = some (encI (r ++ v1)) := by
        rw [ev_catL (by simp; omega)]
        unfold encI
        rw [List.map_append]
      have cb : ∀ b : Int, dAdd (.lst (r.map .int)) (.lst [.int b, .int (nI r 0)]) = some (encI (r ++ [b, nI r 0])) := fun b => by
        rw [ev_catL (by simp; omega)]
        unfold encI
        rw [List.map_append]
        rfl
      have m0 : dMul (.int n) (.int 0) = some (.int 0) := by
        rw [ev_mul (by omega) (by omega) (by omega) (by omega), Int.mul_zero]
      have m1 : dMul (.int n) (.int 1) = some (.int n) := by
        rw [ev_mul (by omega) (by omega) (by omega) (by omega), Int.mul_one]
      have r16 : r.length ≤ 16777216 := by omega
      have v16 : v3.length ≤ 16777216 := by omega
      obtain ⟨x1, hx1⟩ : ∃ x1, x1 = r.map (fun x => x - if x = nI r 0 then n else 0) := ⟨_, rfl⟩
      obtain ⟨x2, hx2⟩ : ∃ x2, x2 = r.map (fun x => x + if x = nI r 1 then n else 0) := ⟨_, rfl⟩
      have lx1 : x1.length = r.length := by rw [hx1, List.length_map]
      have lx2 : x2.length = r.length := by rw [hx2, List.length_map]
      rw [en]
      refine ⟨[some (.im (rowsL (arnd n ls))), some (.im (.int n)), none, some (.im (.lst (rs.map encI))), j4, j5, none, some (tE encI (fs ++ [r ++ v1, v2, x1] ++ [x2] ++ v3.map (fun b => r ++ [b, nI r 0]))), none, some (.im (.lst (r.map .int))), j10], ?_, _, _, _, _, rfl, ?_, ?_⟩
      · generalize hG : seqS (appS 7 _) _ = G
        simp -implicitDefEqProofs (disch := first | omega | (simp -implicitDefEqProofs; done) | (simp -implicitDefEqProofs; omega)) [-List.map_map, BT.sub, ev_denI, ev_stI, ev_slfS, ev_slfE, ev_st0n, ev_mod, ev_div, ev_mul, ev_pow, ev_line, ev_rng1, ev_rng2, ev_ar, ev_arI, rangeD_length, ext_ev, ca, lr, t1, t2, i0, r16]
        generalize hC : compL _ _ _ _ _ = oc
        have qz := comp hC D.int (fun x => x - if x = nI r 0 then n else 0) fun x m => ⟨_, rfl, rfl, by
          by_cases c : x = nI r 0
          · simp -implicitDefEqProofs (disch := first | omega | (simp -implicitDefEqProofs; done) | (simp -implicitDefEqProofs; omega)) [-List.map_map, BT.sub, ev_denI, ev_stI, ev_slfS, ev_slfE, ev_st0n, ev_mod, ev_div, ev_mul, ev_pow, ev_line, ev_rng1, ev_rng2, ev_ar, ev_arI, rangeD_length, i0, c, m1]
          · simp -implicitDefEqProofs (disch := first | omega | (simp -implicitDefEqProofs; done) | (simp -implicitDefEqProofs; omega)) [-List.map_map, BT.sub, ev_denI, ev_stI, ev_slfS, ev_slfE, ev_st0n, ev_mod, ev_div, ev_mul, ev_pow, ev_line, ev_rng1, ev_rng2, ev_ar, ev_arI, rangeD_length, i0, c, m0]⟩
        rw [← hx1] at qz
        subst qz
        clear hC
        have l3 : fs.length + 3 ≤ 16777216 := by omega
        have l3b : fs.length + [r ++ v1, v2, x1].length ≤ 16777216 := l3
        have ex1 : D.lst (v2.map .int) = encI v2 := rfl
        have ex2 : D.lst (x1.map .int) = encI x1 := rfl
        have el : D.lst [encI (r ++ v1), encI v2, encI x1] = .lst ([r ++ v1, v2, x1].map encI) := rfl
        simp -implicitDefEqProofs (disch := first | omega | (simp -implicitDefEqProofs; done) | (simp -implicitDefEqProofs; omega)) [-List.map_map, BT.sub, ev_denI, ev_stI, ev_slfS, ev_slfE, ev_st0n, ev_mod, ev_div, ev_mul, ev_pow, ev_line, ev_rng1, ev_rng2, ev_ar, ev_arI, rangeD_length, ex1, ex2, el, extL_ev, l3b, l3, tE_app2]
        have te : T.lst (List.map (T.im ∘ encI) fs ++ [T.im (encI (r ++ v1)), T.im (encI v2), T.im (encI x1)]) = tE encI (fs ++ [r ++ v1, v2, x1]) := by
          unfold tE
          rw [List.map_append]
          rfl
        rw [te]
        have lf3 : (fs ++ [r ++ v1, v2, x1]).length = fs.length + 3 := by simp
        rw [show fs ++ (r ++ v1) :: v2 :: x1 :: x2 :: List.map (fun b => r ++ [b, nI r 0]) v3 = (fs ++ [r ++ v1, v2, x1]) ++ [x2] ++ List.map (fun b => r ++ [b, nI r 0]) v3 by simp]
        generalize fs ++ [r ++ v1, v2, x1] = gs at *
        subst hG
        generalize hG : extS 7 _ = G
        simp -implicitDefEqProofs (disch := first | omega | (simp -implicitDefEqProofs; done) | (simp -implicitDefEqProofs; omega)) [-List.map_map, BT.sub, ev_denI, ev_stI, ev_slfS, ev_slfE, ev_st0n, ev_mod, ev_div, ev_mul, ev_pow, ev_line, ev_rng1, ev_rng2, ev_ar, ev_arI, rangeD_length, r16]
        generalize hC : compL _ _ _ _ _ = oc
        have qz := comp hC D.int (fun x => x + if x = nI r 1 then n else 0) fun x m => ⟨_, rfl, rfl, by
          by_cases c : x = nI r 1
          · simp -implicitDefEqProofs (disch := first | omega | (simp -implicitDefEqProofs; done) | (simp -implicitDefEqProofs; omega)) [-List.map_map, BT.sub, ev_denI, ev_stI, ev_slfS, ev_slfE, ev_st0n, ev_mod, ev_div, ev_mul, ev_pow, ev_line, ev_rng1, ev_rng2, ev_ar, ev_arI, rangeD_length, i1, c, m1]
          · simp -implicitDefEqProofs (disch := first | omega | (simp -implicitDefEqProofs; done) | (simp -implicitDefEqProofs; omega)) [-List.map_map, BT.sub, ev_denI, ev_stI, ev_slfS, ev_slfE, ev_st0n, ev_mod, ev_div, ev_mul, ev_pow, ev_line, ev_rng1, ev_rng2, ev_ar, ev_arI, rangeD_length, i1, c, m0]⟩
        rw [← hx2] at qz
        subst qz
        clear hC
        have ex3 : D.lst (x2.map .int) = encI x2 := rfl
        have l4 : gs.length < 16777216 := by omega
        simp -implicitDefEqProofs (disch := first | omega | (simp -implicitDefEqProofs; done) | (simp -implicitDefEqProofs; omega)) [-List.map_map, BT.sub, ev_denI, ev_stI, ev_slfS, ev_slfE, ev_st0n, ev_mod, ev_div, ev_mul, ev_pow, ev_line, ev_rng1, ev_rng2, ev_ar, ev_arI, rangeD_length, ex3, l4]
        subst hG
        simp -implicitDefEqProofs (disch := first | omega | (simp -implicitDefEqProofs; done) | (simp -implicitDefEqProofs; omega)) [-List.map_map, BT.sub, ev_denI, ev_stI, ev_slfS, ev_slfE, ev_st0n, ev_mod, ev_div, ev_mul, ev_pow, ev_line, ev_rng1, ev_rng2, ev_ar, ev_arI, rangeD_length, ext_ev, i0, nr, t3, v16]
        generalize hC : compL _ _ _ _ _ = oc
        have qz := comp hC encI (fun b => r ++ [b, nI r 0]) fun x m => ⟨_, rfl, rfl, by
          have cx := cb x
          simp -implicitDefEqProofs (disch := first | omega | (simp -implicitDefEqProofs; done) | (simp -implicitDefEqProofs; omega)) [-List.map_map, BT.sub, ev_denI, ev_stI, ev_slfS, ev_slfE, ev_st0n, ev_mod, ev_div, ev_mul, ev_pow, ev_line, ev_rng1, ev_rng2, ev_ar, ev_arI, rangeD_length, i0, cx]⟩
        subst qz
        clear hC
        have l5 : gs.length + 1 + v3.length ≤ 16777216 := by omega
        have l6 : (gs ++ [x2]).length + v3.length ≤ 16777216 := by simp; omega
        simp -implicitDefEqProofs (disch := first | omega | (simp -implicitDefEqProofs; done) | (simp -implicitDefEqProofs; omega)) [-List.map_map, BT.sub, ev_denI, ev_stI, ev_slfS, ev_slfE, ev_st0n, ev_mod, ev_div, ev_mul, ev_pow, ev_line, ev_rng1, ev_rng2, ev_ar, ev_arI, rangeD_length, extL_ev, l5, l6, tE_app2]
        unfold tE
        simp
      · simp only [List.length_append, List.length_map, List.length_cons, List.length_nil]
        omega
      · intro z m
        simp only [List.mem_append, List.mem_cons, List.not_mem_nil, or_false, List.mem_map] at m
        rcases m with ((m | m | m | m) | m) | ⟨b, _, m⟩
        · exact hfs z m
        · rw [m, List.length_append]; omega
        · rw [m]; omega
        · rw [m]; omega
        · rw [m]; omega
        · rw [← m]; simp; omega)
    have lW : fs.length ≤ 3000000 := by omega
    have pw : dPow (.int 10) (.int 30) = some (.int 1000000000000000000000000000000) := by rfl
    have ee : D.lst [.lst [], .lst [.int 0], .lst [.int 0, .int 9, .int 0], .lst [.int (-1), .int 0, .int (-1)], .lst [.int 0, .int 1000000000000000000000000000000, .int 0]] = .lst (ends31.map encI) := rfl
    have cat2 : dAdd (.lst (fs.map encI)) (.lst (ends31.map encI)) = some (.lst ((fs ++ ends31).map encI)) := by
      rw [ev_catL (by simp [ends31]; omega), List.map_append]
    refine ⟨fs ++ ends31, ?_, by simp [ends31]; omega, fun r m => (List.mem_append.mp m).elim (hfs r) fun m => ?_⟩
    · simp -implicitDefEqProofs (disch := first | omega | (simp -implicitDefEqProofs; done) | (simp -implicitDefEqProofs; omega)) [-List.map_map, BT.sub, ev_denI, ev_stI, ev_slfS, ev_slfE, ev_st0n, ev_mod, ev_div, ev_mul, ev_pow, ev_line, ev_rng1, ev_rng2, ev_ar, ev_arI, rangeD_length, pw, ee, cat2]
    · have : ∀ r ∈ ends31, r.length ≤ 100 := by decide
      exact this r m
  have e : ∀ (f : Nat → Int) (z : Int), nI ((List.range n.toNat).map f ++ [z]) 0 = f 0 := by
    intro f z
    have := nI_nat (xs := (List.range n.toNat).map f ++ [z]) (i := 0) (by simp)
    rw [show ((0 : Nat) : Int) = 0 from rfl] at this
    rw [this, List.getElem_append_left (by simp; omega), List.getElem_map, List.getElem_range]
  have r1 : RgA n ((List.range n.toNat).map (fun k : Nat => (k : Int)) ++ [0]) := by
    refine ⟨by simp; omega, by simp; omega, ?_⟩
    rw [e]
    exact ⟨Int.le_refl 0, by show (0 : Int) < n; omega⟩
  have r2 : RgA n ((List.range n.toNat).map (fun k : Nat => n - 1 - (k : Int)) ++ [n - 1]) := by
    refine ⟨by simp; omega, by simp; omega, ?_⟩
    rw [e]
    show 0 ≤ n - 1 - ((0 : Nat) : Int) ∧ n - 1 - ((0 : Nat) : Int) < n
    omega
  have k := key _ _ r1 r2
  clear key
  have c1 : dAdd (.lst (((List.range n.toNat).map (fun k : Nat => (k : Int))).map .int)) (.lst [.int 0]) = some (encI ((List.range n.toNat).map (fun k : Nat => (k : Int)) ++ [0])) := by
    rw [ev_catL (by simp; omega)]
    unfold encI
    rw [List.map_append]
    rfl
  have c2 : dAdd (.lst (((List.range n.toNat).map (fun k : Nat => n - 1 - (k : Int))).map .int)) (.lst [.int (n - 1)]) = some (encI ((List.range n.toNat).map (fun k : Nat => n - 1 - (k : Int)) ++ [n - 1])) := by
    rw [ev_catL (by simp; omega)]
    unfold encI
    rw [List.map_append]
    rfl
  generalize (List.range n.toNat).map (fun k : Nat => (k : Int)) ++ [0] = q1 at *
  generalize (List.range n.toNat).map (fun k : Nat => n - 1 - (k : Int)) ++ [n - 1] = q2 at *
  simp -implicitDefEqProofs (disch := first | omega | (simp -implicitDefEqProofs; done) | (simp -implicitDefEqProofs; omega)) [-List.map_map, BT.sub, ev_denI, ev_stI, ev_slfS, ev_slfE, ev_st0n, ev_mod, ev_div, ev_mul, ev_pow, ev_line, ev_rng1, ev_rng2, ev_ar, ev_arI, rangeD_length, ln, n16]
  generalize hC : compL _ _ _ _ _ = oc
  have qz := comp (α := Nat) hC D.int (fun k : Nat => (k : Int)) fun x m => ⟨_, rfl, rfl, by simp -implicitDefEqProofs (disch := first | omega | (simp -implicitDefEqProofs; done) | (simp -implicitDefEqProofs; omega)) [-List.map_map, BT.sub, ev_denI, ev_stI, ev_slfS, ev_slfE, ev_st0n, ev_mod, ev_div, ev_mul, ev_pow, ev_line, ev_rng1, ev_rng2, ev_ar, ev_arI, rangeD_length]⟩
  subst qz
  clear hC
  simp -implicitDefEqProofs (disch := first | omega | (simp -implicitDefEqProofs; done) | (simp -implicitDefEqProofs; omega)) [-List.map_map, BT.sub, ev_denI, ev_stI, ev_slfS, ev_slfE, ev_st0n, ev_mod, ev_div, ev_mul, ev_pow, ev_line, ev_rng1, ev_rng2, ev_ar, ev_arI, rangeD_length, c1, n16]
  generalize hC : compL _ _ _ _ _ = oc
  have qz := comp (α := Nat) hC D.int (fun k : Nat => n - 1 - (k : Int)) fun x m => ⟨_, rfl, rfl, by simp -implicitDefEqProofs (disch := first | omega | (simp -implicitDefEqProofs; done) | (simp -implicitDefEqProofs; omega)) [-List.map_map, BT.sub, ev_denI, ev_stI, ev_slfS, ev_slfE, ev_st0n, ev_mod, ev_div, ev_mul, ev_pow, ev_line, ev_rng1, ev_rng2, ev_ar, ev_arI, rangeD_length]⟩
  subst qz
  clear hC
  simp -implicitDefEqProofs (disch := first | omega | (simp -implicitDefEqProofs; done) | (simp -implicitDefEqProofs; omega)) [-List.map_map, BT.sub, ev_denI, ev_stI, ev_slfS, ev_slfE, ev_st0n, ev_mod, ev_div, ev_mul, ev_pow, ev_line, ev_rng1, ev_rng2, ev_ar, ev_arI, rangeD_length, c2]
  exact k
end FR
end
section
set_option Elab.async false
set_option linter.all false
set_option maxRecDepth 100000
namespace FR
open PySem L2 DI
/-! xs[j] = v for ints -/
theorem ev_setIS {i : Nat} {f : LS → R T} {g : LS → R D} {st : LS} {xs : List Int} {j v : Int} (h1 : st[i]? = some (some (tE D.int xs))) (h2 : f st = .ok (.im (.int v))) (h3 : g st = .ok (.int j)) (h4 : 0 ≤ j) (h5 : j < xs.length) :
    setIS i f g st = .nx (st.set i (some (tE D.int (xs.set j.toNat v)))) := by
  have e1 : ownL st[i]? = some (xs.map (T.im ∘ D.int)) := by rw [h1]; rfl
  have e2 : placeD (xs.map (T.im ∘ D.int)).length (.int j) = some j.toNat := by
    show ixN (xs.map (T.im ∘ D.int)).length j = _
    unfold ixN
    rw [if_pos h4, if_pos (by rw [List.length_map]; exact h5)]
  unfold setIS
  rw [e1]
  show (f st).out st _ = _
  rw [h2]
  show (g st).out st _ = _
  rw [h3]
  show (match placeD (xs.map (T.im ∘ D.int)).length (.int j) with
    | some j => Out.nx (st.set i (some (.lst ((xs.map (T.im ∘ D.int)).set j (.im (.int v))))))
    | none => .bad) = _
  rw [e2]
  unfold tE
  rw [List.map_set]
  rfl
end FR
end
section
set_option Elab.async false
set_option linter.all false
set_option maxRecDepth 100000
namespace FR
open PySem L2 DI
section
variable {n : Int} {ls : List (Int × Int)} {pic : List Int}
theorem step_lead_ok (hl : Lines n ls) (hp : pic.length = n.toNat) {a b : Int} (a0 : 0 ≤ a) (a1 : a < n) (b0 : 0 ≤ b) (b1 : b < n) : d_step_lead [scnD (webD n ls) pic, .int a, .int b] = .ok (.int (leadI (nI pic a) (nI pic b))) := by
  unfold d_step_lead
  have fp : dFld fl_picture (scnD (webD n ls) pic) = some (.tup (pic.map .int)) := rfl
  have i1 : dIdx (.tup (pic.map .int)) (.int a) = some (.int (nI pic a)) := ev_idxIT a0 (by omega)
  have i2 : dIdx (.tup (pic.map .int)) (.int b) = some (.int (nI pic b)) := ev_idxIT b0 (by omega)
  have lo := lead_ok (nI pic a) (nI pic b)
  simp -implicitDefEqProofs (disch := first | omega | (simp -implicitDefEqProofs; done) | (simp -implicitDefEqProofs; omega)) [-List.map_map, BT.sub, ev_denI, ev_stI, ev_slfS, ev_slfE, ev_st0n, ev_mod, ev_div, ev_mul, ev_pow, ev_line, ev_rng1, ev_rng2, ev_ar, ev_arI, rangeD_length, fp, i1, i2, lo]
end
end FR
end
section
set_option Elab.async false
set_option linter.all false
set_option maxRecDepth 100000
namespace FR
open PySem L2 DI
/-! k31: slopes -/
theorem mulq {q l : Int} (q0 : 0 ≤ q) (h : -1 ≤ l ∧ l ≤ 1) : -q ≤ q * l ∧ q * l ≤ q := by
  have : l = -1 ∨ l = 0 ∨ l = 1 := by omega
  rcases this with rfl | rfl | rfl <;> omega
def Bnd (C : List Int) (b : Int) (xs : List Int) : Prop := xs.length = C.length ∧ ∀ x ∈ xs, 0 ≤ x ∧ x ≤ b
def GrQ (n : Int) (ls : List (Int × Int)) (pic C : List Int) (p q b : Int) (s : LS) : Prop := ∃ xs j7 j8 j9 j10, s = [some (.im (rowsL (arnd n ls))), some (.im (.tup (pic.map .int))), some (.im (.lst (C.map .int))), some (.im (.int p)), some (.im (.int q)), none, some (tE D.int xs), j7, j8, j9, j10] ∧ Bnd C b xs
theorem GrQ.up {n : Int} {ls : List (Int × Int)} {pic C : List Int} {p q b b' : Int} {s : LS} (h : GrQ n ls pic C p q b s) (l : b ≤ b') : GrQ n ls pic C p q b' s := by
  obtain ⟨xs, j7, j8, j9, j10, e, h1, h2⟩ := h
  exact ⟨xs, j7, j8, j9, j10, e, h1, fun x m => ⟨(h2 x m).1, Int.le_trans (h2 x m).2 l⟩⟩
section
variable {n : Int} {ls : List (Int × Int)} {pic C : List Int}
theorem qI_ix {st : LS} {i j : Nat} {x : Int} (hx : x ∈ C) (h1 : st[i]? = some (some (.im (.lst (C.map .int))))) (h2 : st[j]? = some (some (.im (.int x)))) : idxE (vi i) (vi j) st = .ok (.int (qI C x)) := by
  rw [ev_idxE' (ds := C.map .int) (d := .int x) (by unfold vi; rw [h1]; rfl) (by unfold vi; rw [h2]; rfl), ev_fst x C hx]
  rfl
set_option maxHeartbeats 4000000 in
theorem grown_ok {p q : Int} (hl : Lines n ls) (hls : ls.length ≤ 64) (hn : pic.length = n.toNat) (gp : GpC n ls C) (hCl : C.length ≤ 64) (p0 : 0 ≤ p ∧ p ≤ 20000) (q0 : 0 ≤ q ∧ q ≤ 20000) :
    ∃ xs, d__law_grown [rowsL (arnd n ls), .tup (pic.map .int), .lst (C.map .int), .int p, .int q] = .ok (.lst (xs.map .int)) ∧ Bnd C 30000000000 xs := by
  unfold d__law_grown
  have C16 : C.length ≤ 16777216 := by omega
  have lC : dLen [.lst (C.map .int)] = some (.int (C.length : Int)) := by rw [ev_lenL, List.length_map]
  generalize hG : seqS (forS (callI rng1 _) _ _) _ = G
  simp -implicitDefEqProofs (disch := first | omega | (simp -implicitDefEqProofs; done) | (simp -implicitDefEqProofs; omega)) [-List.map_map, BT.sub, ev_denI, ev_stI, ev_slfS, ev_slfE, ev_st0n, ev_mod, ev_div, ev_mul, ev_pow, ev_line, ev_rng1, ev_rng2, ev_ar, ev_arI, rangeD_length, C16]
  generalize hC : compL _ _ _ _ _ = oc
  have qz := comp hC D.int (fun _ => (0 : Int)) fun x m => ⟨_, rfl, rfl, by simp -implicitDefEqProofs (disch := first | omega | (simp -implicitDefEqProofs; done) | (simp -implicitDefEqProofs; omega)) [-List.map_map, BT.sub, ev_denI, ev_stI, ev_slfS, ev_slfE, ev_st0n, ev_mod, ev_div, ev_mul, ev_pow, ev_line, ev_rng1, ev_rng2, ev_ar, ev_arI, rangeD_length]⟩
  subst qz
  clear hC
  simp -implicitDefEqProofs (disch := first | omega | (simp -implicitDefEqProofs; done) | (simp -implicitDefEqProofs; omega)) [-List.map_map, BT.sub, ev_denI, ev_stI, ev_slfS, ev_slfE, ev_st0n, ev_mod, ev_div, ev_mul, ev_pow, ev_line, ev_rng1, ev_rng2, ev_ar, ev_arI, rangeD_length]
  rw [tE_imT]
  subst hG
  simp -implicitDefEqProofs (disch := first | omega | (simp -implicitDefEqProofs; done) | (simp -implicitDefEqProofs; omega)) [-List.map_map, BT.sub, ev_denI, ev_stI, ev_slfS, ev_slfE, ev_st0n, ev_mod, ev_div, ev_mul, ev_pow, ev_line, ev_rng1, ev_rng2, ev_ar, ev_arI, rangeD_length, lC, C16]
  generalize hL : forL _ _ _ _ = o
  obtain ⟨s', rfl, xs, j7, j8, j9, j10, rfl, hb⟩ := loop (α := Nat) hL (fun pr s => GrQ n ls pic C p q (327680000 * pr.length) s) ⟨C.map fun _ => 0, _, _, _, _, rfl, by simp [Bnd], fun x m => by
      obtain ⟨_, _, e⟩ := List.mem_map.mp m
      simp at e ⊢
      omega⟩ (by
    rintro pr k po s q1 ⟨xs, j7, j8, j9, j10, rfl, hb⟩
    rw [List.length_append, List.length_singleton]
    simp -implicitDefEqProofs (disch := first | omega | (simp -implicitDefEqProofs; done) | (simp -implicitDefEqProofs; omega)) [-List.map_map, BT.sub, ev_denI, ev_stI, ev_slfS, ev_slfE, ev_st0n, ev_mod, ev_div, ev_mul, ev_pow, ev_line, ev_rng1, ev_rng2, ev_ar, ev_arI, rangeD_length, lC, C16]
    generalize hL2 : forL _ _ _ _ = o2
    obtain ⟨s2, rfl, hs2⟩ := loop (α := Nat) hL2 (fun pr2 s => GrQ n ls pic C p q (327680000 * pr.length + 5120000 * pr2.length) s) ⟨xs, _, _, _, _, rfl, by simpa using hb⟩ (by
      rintro pr2 i po2 s q2 ⟨xs, j7, j8, j9, j10, rfl, hb⟩
      rw [List.length_append, List.length_singleton]
      obtain ⟨e1, e2, e3⟩ := range_split q2
      subst e1
      generalize pr2.length = i at *
      have iC : (i : Int) < (C.length : Int) := by omega
      have ik : dIdx (.lst (C.map .int)) (.int (i : Int)) = some (.int (nI C (i : Int))) := ev_idxI (by omega) iC
      have xC : nI C (i : Int) ∈ C := nI_mem (by omega) iC
      have xr := gp.rng _ xC
      have nx := near_idx (n := n) (ls := ls) xr.1 xr.2
      have rb := rowAt_bound (n := n) (ls := ls) (i := nI C (i : Int))
      have r16 : (rowAt n ls (nI C (i : Int))).length ≤ 16777216 := by omega
      have pk : dIdx (.tup (pic.map .int)) (.int (nI C (i : Int))) = some (.int (nI pic (nI C (i : Int)))) := ev_idxIT xr.1 (by omega)
      simp -implicitDefEqProofs (disch := first | omega | (simp -implicitDefEqProofs; done) | (simp -implicitDefEqProofs; omega)) [-List.map_map, BT.sub, ev_denI, ev_stI, ev_slfS, ev_slfE, ev_st0n, ev_mod, ev_div, ev_mul, ev_pow, ev_line, ev_rng1, ev_rng2, ev_ar, ev_arI, rangeD_length, ik, nx, r16]
      generalize hL3 : forL _ _ _ _ = o3
      obtain ⟨s3, rfl, hs3⟩ := loop hL3 (fun pr3 s => GrQ n ls pic C p q (327680000 * pr.length + 5120000 * i + 40000 * pr3.length) s ∧ s[8]? = some (some (.im (.int (i : Int))))) ⟨⟨xs, _, _, _, _, rfl, by simpa using hb⟩, rfl⟩ (by
        rintro pr3 y po3 s q3 ⟨⟨xs, j7, j8, j9, j10, rfl, h1, h2⟩, e8⟩
        rw [List.length_append, List.length_singleton]
        obtain rfl : j8 = some (.im (.int (i : Int))) := by simpa using e8
        have ym : y ∈ rowAt n ls (nI C (i : Int)) := by rw [q3]; simp
        have yC := gp.cl _ xC y ym
        have yr := gp.rng y yC
        have py : dIdx (.tup (pic.map .int)) (.int y) = some (.int (nI pic y)) := ev_idxIT yr.1 (by omega)
        have ll := llead_ok (nI pic (nI C (i : Int))) (nI pic y)
        have lb := leadI_b (nI pic (nI C (i : Int))) (nI pic y)
        generalize leadI (nI pic (nI C (i : Int))) (nI pic y) = l at *
        have mb := mulq q0.1 lb
        have m1 : dMul (.int q) (.int l) = some (.int (q * l)) := ev_mul (by omega) (by omega) (by omega) (by omega)
        generalize q * l = ql at *
        have qy := (qI_of yC).1
        have ix : ∀ j7 j10, idxE (vi 2) (vi 9) [some (.im (rowsL (arnd n ls))), some (.im (.tup (pic.map .int))), some (.im (.lst (C.map .int))), some (.im (.int p)), some (.im (.int q)), none, some (tE D.int xs), j7, some (.im (.int (i : Int))), some (.im (.int y)), j10] = .ok (.int (qI C y)) := fun _ _ => qI_ix yC rfl rfl
        have v1 : dIdx (.lst (xs.map .int)) (.int (qI C y)) = some (.int (nI xs (qI C y))) := ev_idxI qy.1 (by omega)
        have v2 : dIdx (.lst (xs.map .int)) (.int (i : Int)) = some (.int (nI xs (i : Int))) := ev_idxI (by omega) (by omega)
        have b1 := h2 _ (nI_mem (xs := xs) (i := qI C y) qy.1 (by omega))
        have b2 := h2 _ (nI_mem (xs := xs) (i := (i : Int)) (by omega) (by omega))
        have si : ∀ j7, setIS 6 (fun st => ((callE dMax2 (consA (DI.bin dIdx (vv 6) (vi 8)) (consA (vi 10) nilA))) st).bind fun d => .ok (.im d)) (vi 8) [some (.im (rowsL (arnd n ls))), some (.im (.tup (pic.map .int))), some (.im (.lst (C.map .int))), some (.im (.int p)), some (.im (.int q)), none, some (tE D.int xs), j7, some (.im (.int (i : Int))), some (.im (.int y)), some (.im (.int (ql - p + nI xs (qI C y))))] = .nx [some (.im (rowsL (arnd n ls))), some (.im (.tup (pic.map .int))), some (.im (.lst (C.map .int))), some (.im (.int p)), some (.im (.int q)), none, some (tE D.int (xs.set (i : Int).toNat (max (nI xs (i : Int)) (ql - p + nI xs (qI C y))))), j7, some (.im (.int (i : Int))), some (.im (.int y)), some (.im (.int (ql - p + nI xs (qI C y))))] := fun j7 =>
          ev_setIS rfl (by simp -implicitDefEqProofs (disch := first | omega | (simp -implicitDefEqProofs; done) | (simp -implicitDefEqProofs; omega)) [-List.map_map, BT.sub, ev_denI, ev_stI, ev_slfS, ev_slfE, ev_st0n, ev_mod, ev_div, ev_mul, ev_pow, ev_line, ev_rng1, ev_rng2, ev_ar, ev_arI, rangeD_length, v2]) rfl (by omega) (by omega)
        refine ⟨_, ?_, ⟨xs.set (i : Int).toNat (max (nI xs (i : Int)) (ql - p + nI xs (qI C y))), j7, some (.im (.int (i : Int))), some (.im (.int y)), some (.im (.int (ql - p + nI xs (qI C y)))), rfl, by rw [List.length_set]; exact h1, fun x m => ?_⟩, rfl⟩
        · simp -implicitDefEqProofs (disch := first | omega | (simp -implicitDefEqProofs; done) | (simp -implicitDefEqProofs; omega)) [-List.map_map, BT.sub, ev_denI, ev_stI, ev_slfS, ev_slfE, ev_st0n, ev_mod, ev_div, ev_mul, ev_pow, ev_line, ev_rng1, ev_rng2, ev_ar, ev_arI, rangeD_length, ik, pk, py, ll, m1, ix, v1]
          exact si _
        · rcases List.mem_or_eq_of_mem_set m with m | m
          · have := h2 x m
            omega
          · rw [m]; omega)
      exact ⟨_, rfl, hs3.1.up (by
        have : ((rowAt n ls (nI C (i : Int))).length : Int) ≤ 128 := by omega
        omega)⟩)
    exact ⟨_, rfl, hs2.up (by rw [List.length_range]; omega)⟩)
  refine ⟨xs, ?_, hb.1, fun x m => ⟨(hb.2 x m).1, Int.le_trans (hb.2 x m).2 (by rw [List.length_range]; omega)⟩⟩
  simp -implicitDefEqProofs (disch := first | omega | (simp -implicitDefEqProofs; done) | (simp -implicitDefEqProofs; omega)) [-List.map_map, BT.sub, ev_denI, ev_stI, ev_slfS, ev_slfE, ev_st0n, ev_mod, ev_div, ev_mul, ev_pow, ev_line, ev_rng1, ev_rng2, ev_ar, ev_arI, rangeD_length]
end
end FR
end
section
set_option Elab.async false
set_option linter.all false
set_option maxRecDepth 100000
namespace FR
open PySem L2 DI
theorem foldD_zip : ∀ (ks : List Key) (ds : List D) (ks0 : List Key) (ds0 : List D), ks.length = ds.length → (ks0 ++ ks).Nodup → foldD ks0 ds0 ((ks.zip ds).map fun p => .tup [keyT p.1, p.2]) = some (ks0 ++ ks, ds0 ++ ds)
  | [], [], ks0, ds0, _, _ => by simp [foldD]
  | k :: ks, d :: ds, ks0, ds0, h, nd => by
    rw [List.zip_cons_cons, List.map_cons]
    have hk : keyD (keyT k) = some k := by cases k <;> rfl
    have nk : k ∉ ks0 := fun m => (List.nodup_append.mp nd).2.2 k m k List.mem_cons_self rfl
    have ix : kIx ks0 k = none := by
      cases q : kIx ks0 k with
      | none => rfl
      | some j => exact absurd (List.mem_of_getElem? (kIx_some q).1) nk
    have e1 : putKs ks0 k = ks0 ++ [k] := by unfold putKs; rw [ix]
    have e2 : putXs ks0 ds0 k d = ds0 ++ [d] := by unfold putXs; rw [ix]
    show (match keyD (keyT k) with
      | some k => foldD (putKs ks0 k) (putXs ks0 ds0 k d) _
      | none => none) = _
    rw [hk]
    simp only [e1, e2]
    have := foldD_zip ks ds (ks0 ++ [k]) (ds0 ++ [d]) (by simpa using h) (by simpa using nd)
    rw [this]
    simp
  | [], _ :: _, _, _, h, _ => by simp at h
  | _ :: _, [], _, _, h, _ => by simp at h
end FR
end
section
set_option Elab.async false
set_option linter.all false
set_option maxRecDepth 100000
namespace FR
open PySem L2 DI
/-! dicts over a sorted piece -/
theorem enumL_ints : ∀ (c : Nat) (xs : List Int), enumL (c : Int) (xs.map D.int) = (xs.zipIdx c).map fun p => D.tup [.int (p.2 : Int), .int p.1]
  | _, [] => rfl
  | c, x :: xs => by
    rw [List.map_cons, List.zipIdx_cons, List.map_cons]
    show D.tup [.int (c : Int), .int x] :: enumL ((c : Int) + 1) (xs.map D.int) = _
    have e : (c : Int) + 1 = ((c + 1 : Nat) : Int) := by omega
    rw [e, enumL_ints (c + 1) xs]
theorem val_pairs {C xs : List Int} (h : xs.length = C.length) : ((xs.zipIdx 0).map fun p => D.tup [.int (nI C (p.2 : Int)), .int p.1]) = ((kI C).zip (xs.map D.int)).map fun p => .tup [keyT p.1, p.2] := by
  refine List.ext_getElem (by simp [kI, h]) fun i h1 h2 => ?_
  have hi : i < xs.length := by simpa using h1
  simp only [List.getElem_map, List.getElem_zipIdx, List.getElem_zip, kI, Nat.zero_add]
  rw [nI_nat (by omega)]
  rfl
theorem vals_ok {C xs : List Int} (up : C.Pairwise (· < ·)) (h : xs.length = C.length) : dctOfT ((xs.zipIdx 0).map fun p => D.tup [.int (nI C (p.2 : Int)), .int p.1]) = some (kd C fun x => .int (nI xs (qI C x))) := by
  unfold dctOfT
  have nd : (([] : List Key) ++ kI C).Nodup := by
    rw [List.nil_append, kI, List.nodup_iff_pairwise_ne, List.pairwise_map]
    refine up.imp fun {a b} z e => ?_
    have := Sum.inl.inj e
    omega
  rw [val_pairs h, foldD_zip (kI C) (xs.map D.int) [] [] (by simp [kI, h]) nd]
  show some (T.dct ([] ++ kI C) (([] ++ xs.map D.int).map .im)) = some (kd C _)
  unfold kd
  rw [List.nil_append, List.nil_append]
  congr 3
  refine List.ext_getElem (by simp [h]) fun i h1 h2 => ?_
  have hi : i < xs.length := by simpa using h1
  have hc : i < C.length := by omega
  have q : qI C C[i] = (i : Int) := by
    have := qI_nI up (i := (i : Int)) (by omega) (by omega)
    rwa [nI_nat hc] at this
  simp only [List.getElem_map, q]
  rw [nI_nat hi]
end FR
end
section
set_option Elab.async false
set_option linter.all false
set_option maxRecDepth 100000
namespace FR
open PySem L2 DI
/-! k31: the judges of slopes -/
section
variable {n : Int} {ls : List (Int × Int)} {pic C xs : List Int}
def GoodA (n : Int) (ls : List (Int × Int)) (pic C xs : List Int) (p q a : Int) : Prop := ∀ b ∈ rowAt n ls a, q * leadI (nI pic a) (nI pic b) - p ≤ nI xs (qI C a) - nI xs (qI C b)
def SlopeP (n : Int) (ls : List (Int × Int)) (pic C xs : List Int) (p q : Int) : Prop := xs.length = C.length ∧ ∀ a ∈ C, GoodA n ls pic C xs p q a
theorem mulE {p q l : Int} (sm : SmP p q) (h : -1 ≤ l ∧ l ≤ 1) : dMul (.int q) (.int l) = some (.int (q * l)) := by
  obtain ⟨_, s3, s4⟩ := sm
  exact ev_mul (by omega) (by omega) (by omega) (by omega)
set_option maxHeartbeats 4000000 in
theorem lslope_ok {p q : Int} (hl : Lines n ls) (hls : ls.length ≤ 64) (hn : pic.length = n.toNat) (gp : GpC n ls C) (hCl : C.length ≤ 64) (hx : xs.length ≤ 1000) (sm : SmP p q) :
    Tells (d__law_slope [rowsL (arnd n ls), .tup (pic.map .int), .lst (C.map .int), .lst (xs.map .int), .int p, .int q]) (SlopeP n ls pic C xs p q) := by
  unfold d__law_slope
  have C16 : C.length ≤ 16777216 := by omega
  have lC : dLen [.lst (C.map .int)] = some (.int (C.length : Int)) := by rw [ev_lenL, List.length_map]
  have lX : dLen [.lst (xs.map .int)] = some (.int (xs.length : Int)) := by rw [ev_lenL, List.length_map]
  by_cases c : xs.length = C.length
  case neg =>
    have ci : ¬ (xs.length : Int) = (C.length : Int) := by omega
    have ne : dNe (.int (xs.length : Int)) (.int (C.length : Int)) = some (.bl true) := by
      rw [ev_neI]
      simp
      omega
    refine ⟨false, ?_, by simp [SlopeP, c]⟩
    simp -implicitDefEqProofs (disch := first | omega | (simp -implicitDefEqProofs; done) | (simp -implicitDefEqProofs; omega)) [-List.map_map, BT.sub, ev_denI, ev_stI, ev_slfS, ev_slfE, ev_st0n, ev_mod, ev_div, ev_mul, ev_pow, ev_line, ev_rng1, ev_rng2, ev_ar, ev_arI, rangeD_length, ev_if, lC, lX, ne]
  have ne : dNe (.int (xs.length : Int)) (.int (C.length : Int)) = some (.bl false) := by
    rw [ev_neI]
    simp [c]
  generalize hF : forS (items (DI.bin dIdx (vi 0) (vi 6))) (gN 7) _ = FS
  have inn : ∀ a ∈ C, ∀ j7 j8 : Option DI.T, (GoodA n ls pic C xs p q a ∧ ∃ j7' j8', FS [some (.im (rowsL (arnd n ls))), some (.im (.tup (pic.map .int))), some (.im (.lst (C.map .int))), some (.im (.lst (xs.map .int))), some (.im (.int p)), some (.im (.int q)), some (.im (.int a)), j7, j8] = .nx [some (.im (rowsL (arnd n ls))), some (.im (.tup (pic.map .int))), some (.im (.lst (C.map .int))), some (.im (.lst (xs.map .int))), some (.im (.int p)), some (.im (.int q)), some (.im (.int a)), j7', j8'])
      ∨ (¬ GoodA n ls pic C xs p q a ∧ FS [some (.im (rowsL (arnd n ls))), some (.im (.tup (pic.map .int))), some (.im (.lst (C.map .int))), some (.im (.lst (xs.map .int))), some (.im (.int p)), some (.im (.int q)), some (.im (.int a)), j7, j8] = .rt (.bl false)) := by
    intro a aC j7 j8
    have ar := gp.rng a aC
    have nx := near_idx (n := n) (ls := ls) ar.1 ar.2
    have rb := rowAt_bound (n := n) (ls := ls) (i := a)
    have r16 : (rowAt n ls a).length ≤ 16777216 := by omega
    have pa : dIdx (.tup (pic.map .int)) (.int a) = some (.int (nI pic a)) := ev_idxIT ar.1 (by omega)
    have qa := (qI_of aC).1
    have va : dIdx (.lst (xs.map .int)) (.int (qI C a)) = some (.int (nI xs (qI C a))) := ev_idxI qa.1 (by omega)
    subst hF
    simp -implicitDefEqProofs (disch := first | omega | (simp -implicitDefEqProofs; done) | (simp -implicitDefEqProofs; omega)) [-List.map_map, BT.sub, ev_denI, ev_stI, ev_slfS, ev_slfE, ev_st0n, ev_mod, ev_div, ev_mul, ev_pow, ev_line, ev_rng1, ev_rng2, ev_ar, ev_arI, rangeD_length, nx, r16]
    generalize hL : forL _ _ _ _ = o
    rcases loopR hL (fun pr s => (∀ b ∈ pr, q * leadI (nI pic a) (nI pic b) - p ≤ nI xs (qI C a) - nI xs (qI C b)) ∧ ∃ j7 j8, s = [some (.im (rowsL (arnd n ls))), some (.im (.tup (pic.map .int))), some (.im (.lst (C.map .int))), some (.im (.lst (xs.map .int))), some (.im (.int p)), some (.im (.int q)), some (.im (.int a)), j7, j8]) (fun d => d = .bl false ∧ ¬ GoodA n ls pic C xs p q a) ⟨fun _ m => (nomatch m), _, _, rfl⟩ (by
      rintro pr b po s q3 ⟨hg, j7, j8, rfl⟩
      have bm : b ∈ rowAt n ls a := by rw [q3]; simp
      have bC := gp.cl a aC b bm
      have br := gp.rng b bC
      have pb : dIdx (.tup (pic.map .int)) (.int b) = some (.int (nI pic b)) := ev_idxIT br.1 (by omega)
      have qb := (qI_of bC).1
      have vb : dIdx (.lst (xs.map .int)) (.int (qI C b)) = some (.int (nI xs (qI C b))) := ev_idxI qb.1 (by omega)
      have ll := llead_ok (nI pic a) (nI pic b)
      have lb := leadI_b (nI pic a) (nI pic b)
      have m1 := mulE sm lb
      have ixa : ∀ j8, idxE (vi 2) (vi 6) [some (.im (rowsL (arnd n ls))), some (.im (.tup (pic.map .int))), some (.im (.lst (C.map .int))), some (.im (.lst (xs.map .int))), some (.im (.int p)), some (.im (.int q)), some (.im (.int a)), some (.im (.int b)), j8] = .ok (.int (qI C a)) := fun _ => qI_ix aC rfl rfl
      have ixb : ∀ j8, idxE (vi 2) (vi 7) [some (.im (rowsL (arnd n ls))), some (.im (.tup (pic.map .int))), some (.im (.lst (C.map .int))), some (.im (.lst (xs.map .int))), some (.im (.int p)), some (.im (.int q)), some (.im (.int a)), some (.im (.int b)), j8] = .ok (.int (qI C b)) := fun _ => qI_ix bC rfl rfl
      by_cases g : q * leadI (nI pic a) (nI pic b) - p ≤ nI xs (qI C a) - nI xs (qI C b)
      · refine .inl ⟨[some (.im (rowsL (arnd n ls))), some (.im (.tup (pic.map .int))), some (.im (.lst (C.map .int))), some (.im (.lst (xs.map .int))), some (.im (.int p)), some (.im (.int q)), some (.im (.int a)), some (.im (.int b)), some (.im (.int (nI xs (qI C a) - nI xs (qI C b))))], ?_, fun z m => (List.mem_append.mp m).elim (hg z) fun m => by rw [List.mem_singleton.mp m]; exact g, _, _, rfl⟩
        generalize q * leadI (nI pic a) (nI pic b) = ql at *
        have ng : ¬ nI xs (qI C a) - nI xs (qI C b) < ql - p := by omega
        simp -implicitDefEqProofs (disch := first | omega | (simp -implicitDefEqProofs; done) | (simp -implicitDefEqProofs; omega)) [-List.map_map, BT.sub, ev_denI, ev_stI, ev_slfS, ev_slfE, ev_st0n, ev_mod, ev_div, ev_mul, ev_pow, ev_line, ev_rng1, ev_rng2, ev_ar, ev_arI, rangeD_length, ev_if, ixa, ixb, va, vb, pa, pb, ll, m1, ng]
      · refine .inr ⟨.bl false, ?_, rfl, fun z => g (z b bm)⟩
        generalize q * leadI (nI pic a) (nI pic b) = ql at *
        have ng : nI xs (qI C a) - nI xs (qI C b) < ql - p := by omega
        simp -implicitDefEqProofs (disch := first | omega | (simp -implicitDefEqProofs; done) | (simp -implicitDefEqProofs; omega)) [-List.map_map, BT.sub, ev_denI, ev_stI, ev_slfS, ev_slfE, ev_st0n, ev_mod, ev_div, ev_mul, ev_pow, ev_line, ev_rng1, ev_rng2, ev_ar, ev_arI, rangeD_length, ev_if, ixa, ixb, va, vb, pa, pb, ll, m1, ng]) with ⟨s', rfl, hg, j7', j8', rfl⟩ | ⟨d, rfl, rfl, hn⟩
    · exact .inl ⟨hg, j7', j8', rfl⟩
    · exact .inr ⟨hn, rfl⟩
  simp -implicitDefEqProofs (disch := first | omega | (simp -implicitDefEqProofs; done) | (simp -implicitDefEqProofs; omega)) [-List.map_map, BT.sub, ev_denI, ev_stI, ev_slfS, ev_slfE, ev_st0n, ev_mod, ev_div, ev_mul, ev_pow, ev_line, ev_rng1, ev_rng2, ev_ar, ev_arI, rangeD_length, ev_if, lC, lX, ne, C16]
  generalize hL : forL _ _ _ _ = o
  rcases loopR hL (fun pr s => (∀ a ∈ pr, GoodA n ls pic C xs p q a) ∧ ∃ j6 j7 j8, s = [some (.im (rowsL (arnd n ls))), some (.im (.tup (pic.map .int))), some (.im (.lst (C.map .int))), some (.im (.lst (xs.map .int))), some (.im (.int p)), some (.im (.int q)), j6, j7, j8]) (fun d => d = .bl false ∧ ¬ SlopeP n ls pic C xs p q) ⟨fun _ m => (nomatch m), _, _, _, rfl⟩ (by
    rintro pr a po s q3 ⟨hg, j6, j7, j8, rfl⟩
    have aC : a ∈ C := by rw [q3]; simp
    rcases inn a aC j7 j8 with ⟨g, j7', j8', e⟩ | ⟨g, e⟩
    · refine .inl ⟨_, ?_, fun z m => (List.mem_append.mp m).elim (hg z) fun m => by rw [List.mem_singleton.mp m]; exact g, some (.im (.int a)), j7', j8', rfl⟩
      simp -implicitDefEqProofs (disch := first | omega | (simp -implicitDefEqProofs; done) | (simp -implicitDefEqProofs; omega)) [-List.map_map, BT.sub, ev_denI, ev_stI, ev_slfS, ev_slfE, ev_st0n, ev_mod, ev_div, ev_mul, ev_pow, ev_line, ev_rng1, ev_rng2, ev_ar, ev_arI, rangeD_length, e]
    · refine .inr ⟨.bl false, ?_, rfl, fun z => g (z.2 a aC)⟩
      simp -implicitDefEqProofs (disch := first | omega | (simp -implicitDefEqProofs; done) | (simp -implicitDefEqProofs; omega)) [-List.map_map, BT.sub, ev_denI, ev_stI, ev_slfS, ev_slfE, ev_st0n, ev_mod, ev_div, ev_mul, ev_pow, ev_line, ev_rng1, ev_rng2, ev_ar, ev_arI, rangeD_length, e]) with ⟨s', rfl, hg, j6, j7, j8, rfl⟩ | ⟨d, rfl, rfl, hn⟩
  · exact ⟨true, by simp -implicitDefEqProofs (disch := first | omega | (simp -implicitDefEqProofs; done) | (simp -implicitDefEqProofs; omega)) [-List.map_map, BT.sub, ev_denI, ev_stI, ev_slfS, ev_slfE, ev_st0n, ev_mod, ev_div, ev_mul, ev_pow, ev_line, ev_rng1, ev_rng2, ev_ar, ev_arI, rangeD_length], by simp [SlopeP, c]; exact hg⟩
  · exact ⟨false, rfl, by simp [hn]⟩
set_option maxHeartbeats 4000000 in
theorem pslope_ok {p q x : Int} (hl : Lines n ls) (hls : ls.length ≤ 64) (hn : pic.length = n.toNat) (hn2 : n ≤ 1000) (gp : GpC n ls C) (hxC : x ∈ C) (hCl : C.length ≤ 64) (hx : xs.length ≤ 1000) (sm : SmP p q) (e d : D) (he : e = .lst [.int p, .int q] ∨ e = .tup [.int p, .int q]) (hd : d = .lst (xs.map .int) ∨ d = .tup (xs.map .int)) :
    Tells (d_are_slopes [scnD (webD n ls) pic, .int x, e, d]) (SlopeP n ls pic C xs p q) := by
  unfold d_are_slopes
  have fw : dFld fl_web (scnD (webD n ls) pic) = some (webD n ls) := rfl
  have fa : dFld fl_around (webD n ls) = some (rowsT (arnd n ls)) := rfl
  have xr := gp.rng x hxC
  have ck := place_ok n ls x xr.1 xr.2
  have po := piece_of_ok hl hn2 x xr.1 xr.2
  rw [gp.own x hxC] at po
  have fr : d_frozen 6 [d] = .ok (.tup (xs.map .int)) := by
    rcases hd with rfl | rfl
    · exact frozen_ints 4 xs (by omega)
    · exact frozen_intsT 4 xs (by omega)
  have i0 : dIdx e (.int 0) = some (.int p) := by rcases he with rfl | rfl <;> rfl
  have i1 : dIdx e (.int 1) = some (.int q) := by rcases he with rfl | rfl <;> rfl
  have C16 : C.length ≤ 16777216 := by omega
  have lC : dLen [.tup (C.map .int)] = some (.int (C.length : Int)) := by simp
  have lX : dLen [.tup (xs.map .int)] = some (.int (xs.length : Int)) := by simp
  by_cases c : xs.length = C.length
  case neg =>
    have ne : dNe (.int (xs.length : Int)) (.int (C.length : Int)) = some (.bl true) := by
      rw [ev_neI]
      simp
      omega
    refine ⟨false, ?_, by simp [SlopeP, c]⟩
    simp -implicitDefEqProofs (disch := first | omega | (simp -implicitDefEqProofs; done) | (simp -implicitDefEqProofs; omega)) [-List.map_map, BT.sub, ev_denI, ev_stI, ev_slfS, ev_slfE, ev_st0n, ev_mod, ev_div, ev_mul, ev_pow, ev_line, ev_rng1, ev_rng2, ev_ar, ev_arI, rangeD_length, ev_if, fw, ck, po, fr, lC, lX, ne]
  have ne : dNe (.int (xs.length : Int)) (.int (C.length : Int)) = some (.bl false) := by
    rw [ev_neI]
    simp [c]
  have dc : ∀ a6 a7 a8 a9 a10 : Option DI.T, dctcF (enumI (consA (vi 5) nilA)) [6, 7] (gT 2 (gsCons (gN 6) (gsCons (gN 7) gsNil))) yesT (DI.bin dIdx (vi 4) (vi 6)) (vi 7) [some (.im (scnD (webD n ls) pic)), some (.im (.int x)), some (.im e), some (.im d), some (.im (.tup (C.map .int))), some (.im (.tup (xs.map .int))), a6, a7, a8, a9, a10] = .ok (kd C fun x => .int (nI xs (qI C x))) := by
    intro a6 a7 a8 a9 a10
    unfold dctcF
    have cr : compR (enumI (consA (vi 5) nilA)) [6, 7] (gT 2 (gsCons (gN 6) (gsCons (gN 7) gsNil))) yesT (pairE (DI.bin dIdx (vi 4) (vi 6)) (vi 7)) [some (.im (scnD (webD n ls) pic)), some (.im (.int x)), some (.im e), some (.im d), some (.im (.tup (C.map .int))), some (.im (.tup (xs.map .int))), a6, a7, a8, a9, a10] = .ok ((xs.zipIdx 0).map fun p => D.tup [.int (nI C (p.2 : Int)), .int p.1]) := by
      unfold compR
      have it : enumI (consA (vi 5) nilA) [some (.im (scnD (webD n ls) pic)), some (.im (.int x)), some (.im e), some (.im d), some (.im (.tup (C.map .int))), some (.im (.tup (xs.map .int))), a6, a7, a8, a9, a10] = .ok (enumL ((0 : Nat) : Int) (xs.map .int)) := rfl
      rw [it, enumL_ints 0 xs]
      show (if ((xs.zipIdx 0).map fun p => D.tup [.int (p.2 : Int), .int p.1]).length ≤ sizeLine then _ else _) = _
      rw [if_pos (by rw [List.length_map, List.length_zipIdx]; show xs.length ≤ 16777216; omega)]
      refine compL_map (φ := fun p : Int × Nat => .tup [.int (nI C (p.2 : Int)), .int p.1]) fun p m => ⟨[some (.im (scnD (webD n ls) pic)), some (.im (.int x)), some (.im e), some (.im d), some (.im (.tup (C.map .int))), some (.im (.tup (xs.map .int))), some (.im (.int (p.2 : Int))), some (.im (.int p.1)), a8, a9, a10], rfl, rfl, ?_⟩
      have pl : p.2 < xs.length := by
        have := (List.mk_mem_zipIdx_iff_getElem?.mp (show (p.1, p.2) ∈ xs.zipIdx from m))
        exact (List.getElem?_eq_some_iff.mp this).1
      have ix : dIdx (.tup (C.map .int)) (.int (p.2 : Int)) = some (.int (nI C (p.2 : Int))) := ev_idxIT (by omega) (by omega)
      unfold pairE
      simp -implicitDefEqProofs (disch := first | omega | (simp -implicitDefEqProofs; done) | (simp -implicitDefEqProofs; omega)) [-List.map_map, BT.sub, ev_denI, ev_stI, ev_slfS, ev_slfE, ev_st0n, ev_mod, ev_div, ev_mul, ev_pow, ev_line, ev_rng1, ev_rng2, ev_ar, ev_arI, rangeD_length, ix]
    rw [cr]
    show R.of (dctOfT _) = _
    rw [vals_ok gp.up c]
    rfl
  generalize hF : forS (items (DI.bin dIdx (un (dFld fl_around) (un (dFld fl_web) (vi 0))) (vi 9))) (gN 10) _ = FS
  have inn : ∀ a ∈ C, ∀ j10 : Option DI.T, (GoodA n ls pic C xs p q a ∧ ∃ j10', FS [some (.im (scnD (webD n ls) pic)), some (.im (.int x)), some (.im e), some (.im d), some (.im (.tup (C.map .int))), some (.im (.tup (xs.map .int))), none, none, some (kd C fun x => .int (nI xs (qI C x))), some (.im (.int a)), j10] = .nx [some (.im (scnD (webD n ls) pic)), some (.im (.int x)), some (.im e), some (.im d), some (.im (.tup (C.map .int))), some (.im (.tup (xs.map .int))), none, none, some (kd C fun x => .int (nI xs (qI C x))), some (.im (.int a)), j10'])
      ∨ (¬ GoodA n ls pic C xs p q a ∧ FS [some (.im (scnD (webD n ls) pic)), some (.im (.int x)), some (.im e), some (.im d), some (.im (.tup (C.map .int))), some (.im (.tup (xs.map .int))), none, none, some (kd C fun x => .int (nI xs (qI C x))), some (.im (.int a)), j10] = .rt (.bl false)) := by
    intro a aC j10
    have ar := gp.rng a aC
    have nx := around_idx (n := n) (ls := ls) ar.1 ar.2
    have rb := rowAt_bound (n := n) (ls := ls) (i := a)
    have r16 : (rowAt n ls a).length ≤ 16777216 := by omega
    subst hF
    simp -implicitDefEqProofs (disch := first | omega | (simp -implicitDefEqProofs; done) | (simp -implicitDefEqProofs; omega)) [-List.map_map, BT.sub, ev_denI, ev_stI, ev_slfS, ev_slfE, ev_st0n, ev_mod, ev_div, ev_mul, ev_pow, ev_line, ev_rng1, ev_rng2, ev_ar, ev_arI, rangeD_length, fw, fa, nx, r16]
    generalize hL : forL _ _ _ _ = o
    rcases loopR hL (fun pr s => (∀ b ∈ pr, q * leadI (nI pic a) (nI pic b) - p ≤ nI xs (qI C a) - nI xs (qI C b)) ∧ ∃ j10, s = [some (.im (scnD (webD n ls) pic)), some (.im (.int x)), some (.im e), some (.im d), some (.im (.tup (C.map .int))), some (.im (.tup (xs.map .int))), none, none, some (kd C fun x => .int (nI xs (qI C x))), some (.im (.int a)), j10]) (fun d => d = .bl false ∧ ¬ GoodA n ls pic C xs p q a) ⟨fun _ m => (nomatch m), _, rfl⟩ (by
      rintro pr b po s q3 ⟨hg, j10, rfl⟩
      have bm : b ∈ rowAt n ls a := by rw [q3]; simp
      have bC := gp.cl a aC b bm
      have br := gp.rng b bC
      have sl := step_lead_ok hl hn ar.1 ar.2 br.1 br.2
      have lb := leadI_b (nI pic a) (nI pic b)
      have m1 := mulE sm lb
      have ixa : dixE 8 (vi 9) [some (.im (scnD (webD n ls) pic)), some (.im (.int x)), some (.im e), some (.im d), some (.im (.tup (C.map .int))), some (.im (.tup (xs.map .int))), none, none, some (kd C fun x => .int (nI xs (qI C x))), some (.im (.int a)), some (.im (.int b))] = .ok (.int (nI xs (qI C a))) := ev_dix (e := fun x => .int (nI xs (qI C x))) rfl rfl aC
      have ixb : dixE 8 (vi 10) [some (.im (scnD (webD n ls) pic)), some (.im (.int x)), some (.im e), some (.im d), some (.im (.tup (C.map .int))), some (.im (.tup (xs.map .int))), none, none, some (kd C fun x => .int (nI xs (qI C x))), some (.im (.int a)), some (.im (.int b))] = .ok (.int (nI xs (qI C b))) := ev_dix (e := fun x => .int (nI xs (qI C x))) rfl rfl bC
      by_cases g : q * leadI (nI pic a) (nI pic b) - p ≤ nI xs (qI C a) - nI xs (qI C b)
      · refine .inl ⟨[some (.im (scnD (webD n ls) pic)), some (.im (.int x)), some (.im e), some (.im d), some (.im (.tup (C.map .int))), some (.im (.tup (xs.map .int))), none, none, some (kd C fun x => .int (nI xs (qI C x))), some (.im (.int a)), some (.im (.int b))], ?_, fun z m => (List.mem_append.mp m).elim (hg z) fun m => by rw [List.mem_singleton.mp m]; exact g, _, rfl⟩
        generalize q * leadI (nI pic a) (nI pic b) = ql at *
        have ng : ¬ nI xs (qI C a) - nI xs (qI C b) < ql - p := by omega
        simp -implicitDefEqProofs (disch := first | omega | (simp -implicitDefEqProofs; done) | (simp -implicitDefEqProofs; omega)) [-List.map_map, BT.sub, ev_denI, ev_stI, ev_slfS, ev_slfE, ev_st0n, ev_mod, ev_div, ev_mul, ev_pow, ev_line, ev_rng1, ev_rng2, ev_ar, ev_arI, rangeD_length, ev_if, i0, i1, sl, m1, ixa, ixb, ng]
      · refine .inr ⟨.bl false, ?_, rfl, fun z => g (z b bm)⟩
        generalize q * leadI (nI pic a) (nI pic b) = ql at *
        have ng : nI xs (qI C a) - nI xs (qI C b) < ql - p := by omega
        simp -implicitDefEqProofs (disch := first | omega | (simp -implicitDefEqProofs; done) | (simp -implicitDefEqProofs; omega)) [-List.map_map, BT.sub, ev_denI, ev_stI, ev_slfS, ev_slfE, ev_st0n, ev_mod, ev_div, ev_mul, ev_pow, ev_line, ev_rng1, ev_rng2, ev_ar, ev_arI, rangeD_length, ev_if, i0, i1, sl, m1, ixa, ixb, ng]) with ⟨s', rfl, hg, j10', rfl⟩ | ⟨d, rfl, rfl, hn⟩
    · exact .inl ⟨hg, j10', rfl⟩
    · exact .inr ⟨hn, rfl⟩
  simp -implicitDefEqProofs (disch := first | omega | (simp -implicitDefEqProofs; done) | (simp -implicitDefEqProofs; omega)) [-List.map_map, BT.sub, ev_denI, ev_stI, ev_slfS, ev_slfE, ev_st0n, ev_mod, ev_div, ev_mul, ev_pow, ev_line, ev_rng1, ev_rng2, ev_ar, ev_arI, rangeD_length, ev_if, fw, ck, po, fr, lC, lX, ne, dc, C16]
  generalize hL : forL _ _ _ _ = o
  rcases loopR hL (fun pr s => (∀ a ∈ pr, GoodA n ls pic C xs p q a) ∧ ∃ j9 j10, s = [some (.im (scnD (webD n ls) pic)), some (.im (.int x)), some (.im e), some (.im d), some (.im (.tup (C.map .int))), some (.im (.tup (xs.map .int))), none, none, some (kd C fun x => .int (nI xs (qI C x))), j9, j10]) (fun d => d = .bl false ∧ ¬ SlopeP n ls pic C xs p q) ⟨fun _ m => (nomatch m), _, _, rfl⟩ (by
    rintro pr a po s q3 ⟨hg, j9, j10, rfl⟩
    have aC : a ∈ C := by rw [q3]; simp
    rcases inn a aC j10 with ⟨g, j10', e⟩ | ⟨g, e⟩
    · refine .inl ⟨_, ?_, fun z m => (List.mem_append.mp m).elim (hg z) fun m => by rw [List.mem_singleton.mp m]; exact g, some (.im (.int a)), j10', rfl⟩
      simp -implicitDefEqProofs (disch := first | omega | (simp -implicitDefEqProofs; done) | (simp -implicitDefEqProofs; omega)) [-List.map_map, BT.sub, ev_denI, ev_stI, ev_slfS, ev_slfE, ev_st0n, ev_mod, ev_div, ev_mul, ev_pow, ev_line, ev_rng1, ev_rng2, ev_ar, ev_arI, rangeD_length, e]
    · refine .inr ⟨.bl false, ?_, rfl, fun z => g (z.2 a aC)⟩
      simp -implicitDefEqProofs (disch := first | omega | (simp -implicitDefEqProofs; done) | (simp -implicitDefEqProofs; omega)) [-List.map_map, BT.sub, ev_denI, ev_stI, ev_slfS, ev_slfE, ev_st0n, ev_mod, ev_div, ev_mul, ev_pow, ev_line, ev_rng1, ev_rng2, ev_ar, ev_arI, rangeD_length, e]) with ⟨s', rfl, hg, j9, j10, rfl⟩ | ⟨d, rfl, rfl, hn⟩
  · exact ⟨true, by simp -implicitDefEqProofs (disch := first | omega | (simp -implicitDefEqProofs; done) | (simp -implicitDefEqProofs; omega)) [-List.map_map, BT.sub, ev_denI, ev_stI, ev_slfS, ev_slfE, ev_st0n, ev_mod, ev_div, ev_mul, ev_pow, ev_line, ev_rng1, ev_rng2, ev_ar, ev_arI, rangeD_length], by simp [SlopeP, c]; exact hg⟩
  · exact ⟨false, rfl, by simp [hn]⟩
end
end FR
end
section
set_option Elab.async false
set_option linter.all false
set_option maxRecDepth 100000
namespace FR
open PySem L2 DI
/-! k31: all rings, the own share, refusals -/
theorem nb_ints31 (r : List Int) : nb 2 (encI r) = true := by
  unfold encI
  simp [nb]
theorem picC_len31 {pic C : List Int} : (picC pic C).length = ((C.length : Int)).toNat := by unfold picC; simp
theorem picC_pic31 {n : Int} {pic C : List Int} (hp : Pic pic) (hn : pic.length = n.toNat) (hC : ∀ x ∈ C, 0 ≤ x ∧ x < n) : Pic (picC pic C) := by
  intro v hv
  obtain ⟨x, hx, rfl⟩ := List.mem_map.mp hv
  have := hC x hx
  exact hp _ (nI_mem (by omega) (by omega))
section
variable {n : Int} {ls : List (Int × Int)} {pic C : List Int}
set_option maxHeartbeats 4000000 in
theorem rings_asked_ok (hl : Lines n ls) (hn1 : 1 ≤ n) (hn7 : n ≤ 7) (hls : ls.length ≤ 64) (hx : pic.length = n.toNat) (sh : List (Int × Int)) (h1 : sh.length ≤ 100) (h2 : ∀ p ∈ sh, SmP p.1 p.2) :
    d__law_rings_asked [scnD (webD n ls) pic, rowsL (arnd n ls), .tup (pic.map .int), .lst (sh.map dP)] = .ok (.bl true) := by
  unfold d__law_rings_asked
  obtain ⟨rs, er, lr, rlen⟩ := rings_ok n ls hn1 hn7 hl hls
  have rs16 : rs.length ≤ 16777216 := by omega
  have eq : dEq (.lst (rs.map encI)) (.lst (rs.map encI)) = some (.bl true) := by
    rw [ev_eqN 3 (by simp [nb, nb_ints31]) (by simp [nb, nb_ints31]) (by omega)]
    simp
  simp -implicitDefEqProofs (disch := first | omega | (simp -implicitDefEqProofs; done) | (simp -implicitDefEqProofs; omega)) [-List.map_map, BT.sub, ev_denI, ev_stI, ev_slfS, ev_slfE, ev_st0n, ev_mod, ev_div, ev_mul, ev_pow, ev_line, ev_rng1, ev_rng2, ev_ar, ev_arI, rangeD_length, er, rs16]
  generalize hL : forL _ _ _ _ = o
  obtain ⟨s', rfl, j5, j6, j7, rfl⟩ := loop hL (fun pr s => ∃ j5 j6 j7, s = [some (.im (scnD (webD n ls) pic)), some (.im (rowsL (arnd n ls))), some (.im (.tup (pic.map .int))), some (.im (.lst (sh.map dP))), some (.im (.lst (rs.map encI))), j5, j6, j7]) ⟨_, _, _, rfl⟩ (by
    rintro pr w po s q ⟨j5, j6, j7, rfl⟩
    have wl := rlen w (by rw [q]; simp)
    have en : encI w = .lst (w.map .int) := rfl
    have w16 : w.length ≤ 16777216 := by omega
    rw [en]
    obtain ⟨prs, eo, lp, hp⟩ := own_pairs_ok (n := n) (ls := ls) (pic := pic) (w := w) (by omega) hx (by omega) (by omega)
    have cat : dAdd (.lst (sh.map dP)) (.lst (prs.map dP)) = some (.lst ((sh ++ prs).map dP)) := by
      rw [ev_catL (by simp; omega), List.map_append]
    have hall : ∀ p ∈ sh ++ prs, SmP p.1 p.2 := fun p m => (List.mem_append.mp m).elim (h2 p) (hp p)
    have hlen : (sh ++ prs).length ≤ 200 := by rw [List.length_append]; omega
    generalize sh ++ prs = ps at *
    have p16 : ps.length ≤ 16777216 := by omega
    simp -implicitDefEqProofs (disch := first | omega | (simp -implicitDefEqProofs; done) | (simp -implicitDefEqProofs; omega)) [-List.map_map, BT.sub, ev_denI, ev_stI, ev_slfS, ev_slfE, ev_st0n, ev_mod, ev_div, ev_mul, ev_pow, ev_line, ev_rng1, ev_rng2, ev_ar, ev_arI, rangeD_length, eo, cat, p16]
    generalize hL2 : forL _ _ _ _ = o2
    obtain ⟨s2, rfl, j6', j7', rfl⟩ := loop hL2 (fun pr2 s => ∃ j6 j7, s = [some (.im (scnD (webD n ls) pic)), some (.im (rowsL (arnd n ls))), some (.im (.tup (pic.map .int))), some (.im (.lst (sh.map dP))), some (.im (.lst (rs.map encI))), some (.im (.lst (w.map .int))), j6, j7]) ⟨_, _, rfl⟩ (by
      rintro pr2 p po2 s q2 ⟨j6, j7, rfl⟩
      have sm := hall p (by rw [q2]; simp)
      obtain ⟨b, e1, hb⟩ := lring_ok (ls := ls) (w := w) (show 0 ≤ n by omega) hx (by omega) (by omega) sm
      have e2 := (pring_ok hl hx (by omega) sm (.lst (w.map .int)) (dP p) (.inl rfl) (.inr rfl)).eq hb
      have e3 := (pring_ok hl hx (by omega) sm (.tup (w.map .int)) (.lst [.int p.1, .int p.2]) (.inr rfl) (.inl rfl)).eq hb
      have i0 : dIdx (dP p) (.int 0) = some (.int p.1) := rfl
      have i1 : dIdx (dP p) (.int 1) = some (.int p.2) := rfl
      have lp : dListF [dP p] = some [.int p.1, .int p.2] := rfl
      have ag := agree_ok b
      refine ⟨_, ?_, some (.im (dP p)), some (.im (.bl b)), rfl⟩
      generalize dP p = dp at *
      simp -implicitDefEqProofs (disch := first | omega | (simp -implicitDefEqProofs; done) | (simp -implicitDefEqProofs; omega)) [-List.map_map, BT.sub, ev_denI, ev_stI, ev_slfS, ev_slfE, ev_st0n, ev_mod, ev_div, ev_mul, ev_pow, ev_line, ev_rng1, ev_rng2, ev_ar, ev_arI, rangeD_length, ev_if, i0, i1, w16, e1, e2, e3, lp, ag])
    exact ⟨_, rfl, _, _, _, rfl⟩)
  simp -implicitDefEqProofs (disch := first | omega | (simp -implicitDefEqProofs; done) | (simp -implicitDefEqProofs; omega)) [-List.map_map, BT.sub, ev_denI, ev_stI, ev_slfS, ev_slfE, ev_st0n, ev_mod, ev_div, ev_mul, ev_pow, ev_line, ev_rng1, ev_rng2, ev_ar, ev_arI, rangeD_length, er, eq]
theorem share31_ok (hl : Lines n ls) (hls : ls.length < 64) (hPP : Pic pic) (hn : pic.length = n.toNat) (hn2 : n ≤ 1000) (gp : GpC n ls C) (hCl : C.length ≤ 7) (C0 : 0 < C.length) :
    ∃ a b : Int, (0 ≤ a ∧ a ≤ 20000) ∧ (1 ≤ b ∧ b ≤ 20000) ∧ d__law_share [rowsL (arnd n ls), .tup (pic.map .int), .lst (C.map .int)] = .ok (.tup [.int a, .int b]) := by
  have lC := lsC_lines hl gp.up
  have pC := picC_pic31 hPP hn gp.rng
  have pl := picC_len31 (pic := pic) (C := C)
  have pll : (picC pic C).length = C.length := by unfold picC; simp
  have ln : (lsC ls C).length ≤ 10000 := by
    have := List.length_filter_le (fun p : Int × Int => decide (p.1 ∈ C ∧ p.2 ∈ C)) ls
    unfold lsC
    rw [List.length_map]
    omega
  have few : 3 ^ (picC pic C).length * (1 : Int).toNat ≤ 19999 := by
    have : 3 ^ (picC pic C).length ≤ 3 ^ 7 := Nat.pow_le_pow_right (by omega) (by omega)
    have e7 : 3 ^ 7 = 2187 := rfl
    rw [e7] at this
    show 3 ^ (picC pic C).length * 1 ≤ 19999
    omega
  obtain ⟨j, T, r, hT, e⟩ := lround_ok (n := (C.length : Int)) (ls := lsC ls C) (xs0 := picC pic C) [] 1 (.lst ((picC pic C).map .int)) (.inr rfl) (by omega) (by simp) ln lC pl pC (by omega) few
  have e : d__law_round [rowsL (arnd (C.length : Int) (lsC ls C)), .lst ((picC pic C).map .int), .int 1, .lst []] = .ok (rndD (C.length : Int) (lsC ls C) (picC pic C) 1 [] j T) := e
  have lt := r.lt
  have cu := cnt_up' (n := (C.length : Int)) (ls := lsC ls C) (xs0 := picC pic C) (pk := pkP 1 []) j 0 (T - j)
  rw [show j + (T - j) = T by omega] at cu
  have th := third pC r (i := 0) (by omega) (by omega)
  obtain ⟨F, hF⟩ : ∃ F : Nat, (F : Int) = cnt C.length (lsC ls C) (picC pic C) (pkP 1 []) T 0 - cnt C.length (lsC ls C) (picC pic C) (pkP 1 []) j 0 := ⟨(cnt C.length (lsC ls C) (picC pic C) (pkP 1 []) T 0 - cnt C.length (lsC ls C) (picC pic C) (pkP 1 []) j 0).toNat, by omega⟩
  have tj : ((T : Int) - j) = ((T - j : Nat) : Int) := by omega
  have ll := llowest_ok (F := F) (p := T - j) (by omega) (by omega) (by omega)
  have e0 : 0 < Nat.gcd F (T - j) := Nat.gcd_pos_of_pos_right _ (by omega)
  have b1 : F / Nat.gcd F (T - j) ≤ F := Nat.div_le_self _ _
  have b2 : (T - j) / Nat.gcd F (T - j) ≤ T - j := Nat.div_le_self _ _
  have b3 : 0 < (T - j) / Nat.gcd F (T - j) := Nat.div_pos (Nat.gcd_le_right _ (by omega)) e0
  rw [← tj] at ll
  generalize F / Nat.gcd F (T - j) = y1 at *
  generalize (T - j) / Nat.gcd F (T - j) = y2 at *
  refine ⟨(y1 : Int), (y2 : Int), by omega, by omega, ?_⟩
  generalize (y1 : Int) = x1 at *
  generalize (y2 : Int) = x2 at *
  have eg := lgains_ok r hT (by omega)
  have g0 : dIdx (.lst ((gainL C.length (lsC ls C) (picC pic C) (pkP 1 []) j T).map .int)) (.int 0) = some (.int (F : Int)) := by
    rw [hF]
    unfold gainL
    rw [List.map_map]
    exact ev_idxE (enc := D.int ∘ fun i : Nat => cnt C.length (lsC ls C) (picC pic C) (pkP 1 []) T i - cnt C.length (lsC ls C) (picC pic C) (pkP 1 []) j i) (x := 0) (by omega) (by
      show (List.range (picC pic C).length)[0]? = some 0
      rw [List.getElem?_range (by omega)])
  have ix1 : dIdx (rndD (C.length : Int) (lsC ls C) (picC pic C) 1 [] j T) (.int 1) = some (.int ((T : Int) - j)) := ev_ix1
  generalize gainL C.length (lsC ls C) (picC pic C) (pkP 1 []) j T = gs at *
  generalize rndD (C.length : Int) (lsC ls C) (picC pic C) 1 [] j T = rd at *
  unfold d__law_share
  have C16 : C.length ≤ 16777216 := by omega
  generalize hG : seqS (setS 7 _) _ = G
  simp -implicitDefEqProofs (disch := first | omega | (simp -implicitDefEqProofs; done) | (simp -implicitDefEqProofs; omega)) [-List.map_map, BT.sub, ev_denI, ev_stI, ev_slfS, ev_slfE, ev_st0n, ev_mod, ev_div, ev_mul, ev_pow, ev_line, ev_rng1, ev_rng2, ev_ar, ev_arI, rangeD_length, C16]
  generalize hC : compL _ _ _ _ _ = oc
  have qz := comp hC encI (fun x => (rowAt n ls x).map (qI C)) fun x hx => ⟨_, rfl, rfl, by
    have rx := gp.rng x hx
    have nx := near_idx (ls := ls) rx.1 rx.2
    have rb := rowAt_bound (n := n) (ls := ls) (i := x)
    have r16 : (rowAt n ls x).length ≤ 16777216 := by omega
    simp -implicitDefEqProofs (disch := first | omega | (simp -implicitDefEqProofs; done) | (simp -implicitDefEqProofs; omega)) [-List.map_map, BT.sub, ev_denI, ev_stI, ev_slfS, ev_slfE, ev_st0n, ev_mod, ev_div, ev_mul, ev_pow, ev_line, ev_rng1, ev_rng2, ev_ar, ev_arI, rangeD_length, nx]
    generalize hC2 : compL _ _ _ _ _ = oc2
    have qz := comp hC2 D.int (qI C) fun y hy => ⟨_, rfl, rfl, by
      have yC := gp.cl x hx y hy
      have ix := ev_fst y C yC
      rw [ev_idxE' (ds := C.map .int) (d := .int y) rfl rfl, ix]
      rfl⟩
    subst qz
    simp -implicitDefEqProofs (disch := first | omega | (simp -implicitDefEqProofs; done) | (simp -implicitDefEqProofs; omega)) [-List.map_map, BT.sub, ev_denI, ev_stI, ev_slfS, ev_slfE, ev_st0n, ev_mod, ev_div, ev_mul, ev_pow, ev_line, ev_rng1, ev_rng2, ev_ar, ev_arI, rangeD_length, r16]
    rfl⟩
  subst qz
  clear hC
  rw [mine_eq hl gp.up gp.rng gp.cl]
  have rl : D.lst ((arnd (C.length : Int) (lsC ls C)).map fun r => D.lst (r.map .int)) = rowsL (arnd (C.length : Int) (lsC ls C)) := rfl
  generalize hM : ((arnd (C.length : Int) (lsC ls C)).map fun r => D.lst (r.map .int)) = M at *
  simp -implicitDefEqProofs (disch := first | omega | (simp -implicitDefEqProofs; done) | (simp -implicitDefEqProofs; omega)) [-List.map_map, BT.sub, ev_denI, ev_stI, ev_slfS, ev_slfE, ev_st0n, ev_mod, ev_div, ev_mul, ev_pow, ev_line, ev_rng1, ev_rng2, ev_ar, ev_arI, rangeD_length, rl]
  clear hM rl
  clear M
  subst hG
  simp -implicitDefEqProofs (disch := first | omega | (simp -implicitDefEqProofs; done) | (simp -implicitDefEqProofs; omega)) [-List.map_map, BT.sub, ev_denI, ev_stI, ev_slfS, ev_slfE, ev_st0n, ev_mod, ev_div, ev_mul, ev_pow, ev_line, ev_rng1, ev_rng2, ev_ar, ev_arI, rangeD_length, C16]
  generalize hC : compL _ _ _ _ _ = oc
  have qz := comp hC D.int (fun x => nI pic x) fun x hx => ⟨_, rfl, rfl, by
    have rx := gp.rng x hx
    have i1 : dIdx (.tup (pic.map .int)) (.int x) = some (.int (nI pic x)) := ev_idxIT rx.1 (by omega)
    simp -implicitDefEqProofs (disch := first | omega | (simp -implicitDefEqProofs; done) | (simp -implicitDefEqProofs; omega)) [-List.map_map, BT.sub, ev_denI, ev_stI, ev_slfS, ev_slfE, ev_st0n, ev_mod, ev_div, ev_mul, ev_pow, ev_line, ev_rng1, ev_rng2, ev_ar, ev_arI, rangeD_length, i1]⟩
  have qz : oc = .ok ((picC pic C).map .int) := qz
  subst qz
  clear hC
  simp -implicitDefEqProofs (disch := first | omega | (simp -implicitDefEqProofs; done) | (simp -implicitDefEqProofs; omega)) [-List.map_map, BT.sub, ev_denI, ev_stI, ev_slfS, ev_slfE, ev_st0n, ev_mod, ev_div, ev_mul, ev_pow, ev_line, ev_rng1, ev_rng2, ev_ar, ev_arI, rangeD_length, e, eg, g0, ix1, ll]
end
theorem slopes_refused_ok (n : Int) (ls : List (Int × Int)) (pic : List Int) (bad : Int) (h : bad < 0 ∨ n ≤ bad) : d__law_refused [scnD (webD n ls) pic, .int bad] = .ok (.bl true) := by
  unfold d__law_refused
  have ck := place_bad n ls bad h
  have fw : dFld fl_web (scnD (webD n ls) pic) = some (webD n ls) := rfl
  have sh : d_are_slopes [scnD (webD n ls) pic, .int bad, .tup [.int 0, .int 1], .tup [.int 0]] = .ex (6, [.int bad]) := by
    unfold d_are_slopes
    simp -implicitDefEqProofs (disch := first | omega | (simp -implicitDefEqProofs; done) | (simp -implicitDefEqProofs; omega)) [-List.map_map, BT.sub, ev_denI, ev_stI, ev_slfS, ev_slfE, ev_st0n, ev_mod, ev_div, ev_mul, ev_pow, ev_line, ev_rng1, ev_rng2, ev_ar, ev_arI, rangeD_length, fw, ck]
  have xf : ∀ st : LS, xfE xl_place (6, [.int bad]) st = .ok (.int bad) := fun _ => rfl
  have m6 : (6 : Nat) ∈ xsL := by decide
  have s6 : subC 6 6 = true := by decide
  have any9 : [XT.c 9].any (XT.sub subC 6) = false := by decide
  have any5 : [XT.c 5].any (XT.sub subC 6) = true := by decide
  have anyV : [XT.b "ValueError"].any (XT.sub subC 6) = true := by decide
  have x1 : ∀ st, xisE subC xsL [.c 9] (6, [.int bad]) st = .ok (.bl false) := fun st => (xis_ev (e := (6, [.int bad])) m6).trans (by rw [any9])
  have x2 : ∀ st, xisE subC xsL [.c 5] (6, [.int bad]) st = .ok (.bl true) := fun st => (xis_ev (e := (6, [.int bad])) m6).trans (by rw [any5])
  have x3 : ∀ st, xisE subC xsL [.b "ValueError"] (6, [.int bad]) st = .ok (.bl true) := fun st => (xis_ev (e := (6, [.int bad])) m6).trans (by rw [anyV])
  have w := whole_ok bad
  show (tryS subC xsL 6 2 _ _ _).end = _
  rw [try_ex1 (e := (6, [.int bad])) (d := .bl true) (by simp -implicitDefEqProofs (disch := first | omega | (simp -implicitDefEqProofs; done) | (simp -implicitDefEqProofs; omega)) [-List.map_map, BT.sub, ev_denI, ev_stI, ev_slfS, ev_slfE, ev_st0n, ev_mod, ev_div, ev_mul, ev_pow, ev_line, ev_rng1, ev_rng2, ev_ar, ev_arI, rangeD_length, sh]; rfl) m6 s6 (by simp [st0]) (by simp -implicitDefEqProofs (disch := first | omega | (simp -implicitDefEqProofs; done) | (simp -implicitDefEqProofs; omega)) [-List.map_map, BT.sub, ev_denI, ev_stI, ev_slfS, ev_slfE, ev_st0n, ev_mod, ev_div, ev_mul, ev_pow, ev_line, ev_rng1, ev_rng2, ev_ar, ev_arI, rangeD_length, ev_if, x1, x2, x3, xf, w])]
  rfl
/-- every place is in a group -/
theorem grp_cov {n : Int} {ls : List (Int × Int)} (hl : Lines n ls) : ∀ k : Nat, k ≤ n.toNat → (∀ x ∈ (grp n ls k).2, ∃ g ∈ (grp n ls k).1, x ∈ g) ∧ ∀ i : Nat, i < k → ∃ g ∈ (grp n ls k).1, (i : Int) ∈ g
  | 0, _ => ⟨fun _ m => (nomatch m), fun i h => absurd h (Nat.not_lt_zero i)⟩
  | k + 1, h => by
    obtain ⟨a, b⟩ := grp_cov hl k (by omega)
    unfold grp
    split
    · rename_i c
      refine ⟨a, fun i hi => ?_⟩
      by_cases e : i = k
      · rw [e]; exact a _ c
      · exact b i (by omega)
    · have self : (k : Int) ∈ srtI (pieceQ n ls (k : Int)) := (srtI_perm _).mem_iff.mpr ((piece_iff hl (by omega) (by omega)).mpr (Rch.refl _))
      refine ⟨fun x m => ?_, fun i hi => ?_⟩
      · rcases List.mem_append.mp m with m | m
        · obtain ⟨g, h1, h2⟩ := a x m
          exact ⟨g, List.mem_append_left _ h1, h2⟩
        · exact ⟨_, List.mem_append_right _ List.mem_cons_self, (srtI_perm _).mem_iff.mpr m⟩
      · by_cases e : i = k
        · rw [e]; exact ⟨_, List.mem_append_right _ List.mem_cons_self, self⟩
        · obtain ⟨g, h1, h2⟩ := b i (by omega)
          exact ⟨g, List.mem_append_left _ h1, h2⟩
end FR
end
section
set_option Elab.async false
set_option linter.all false
set_option maxRecDepth 100000
namespace FR
open PySem L2 DI
/-! main of k31 -/
def sz31 : List Int := [7, 4, 9, 3, 7, 9]
set_option maxHeartbeats 16000000 in
theorem main : ∀ ns : List Int, ns.length ≤ 63 → (∀ z ∈ ns, Builtin.Int.intBits z ≤ 1048576) → d_law [.scr (ns.map D.int)] = .ok (.bl true) := by
  intro ns _ _
  unfold d_law
  obtain ⟨n, ls, pic, s1, n1, n7, nM, hl, few, p1, p2⟩ := scene_ok ns 0 6 (by omega) (by omega) (by omega) (by omega)
  obtain ⟨z2, hz2⟩ := cell_ok ns 2 (by omega) (by omega)
  obtain ⟨row, hr, hd⟩ := digits_ok z2 sz31 (by decide) (by decide)
  have hr : d__law_digits [.int z2, .lst [.int 7, .int 4, .int 9, .int 3, .int 7, .int 9]] = .ok (.lst (row.map D.int)) := hr
  have lrow : row.length = 6 := hd.1
  have r0 : 0 ≤ nI row 0 ∧ nI row 0 < 7 := hd.gi (i := 0) (by omega) (by decide)
  have r1 : 0 ≤ nI row 1 ∧ nI row 1 < 4 := hd.gi (i := 1) (by omega) (by decide)
  have r2 : 0 ≤ nI row 2 ∧ nI row 2 < 9 := hd.gi (i := 2) (by omega) (by decide)
  have r3 : 0 ≤ nI row 3 ∧ nI row 3 < 3 := hd.gi (i := 3) (by omega) (by decide)
  have r4 : 0 ≤ nI row 4 ∧ nI row 4 < 7 := hd.gi (i := 4) (by omega) (by decide)
  have r5 : 0 ≤ nI row 5 ∧ nI row 5 < 9 := hd.gi (i := 5) (by omega) (by decide)
  have e0 : ∀ i : Int, 0 ≤ i → i < 6 → dIdx (.lst (row.map D.int)) (.int i) = some (.int (nI row i)) := fun i a b => ev_idxI a (by omega)
  have c0 := e0 0 (by omega) (by omega)
  have c1 := e0 1 (by omega) (by omega)
  have c2 := e0 2 (by omega) (by omega)
  have c3 := e0 3 (by omega) (by omega)
  have c4 := e0 4 (by omega) (by omega)
  have c5 := e0 5 (by omega) (by omega)
  generalize nI row 0 = t0 at *
  generalize nI row 1 = t1 at *
  generalize nI row 2 = t2 at *
  generalize nI row 3 = t3 at *
  generalize nI row 4 = t4 at *
  generalize nI row 5 = t5 at *
  have i0 : dIdx (.lst [.int n, .lst (ls.map dP), .tup (pic.map .int)]) (.int 0) = some (.int n) := rfl
  have i1 : dIdx (.lst [.int n, .lst (ls.map dP), .tup (pic.map .int)]) (.int 1) = some (.lst (ls.map dP)) := rfl
  have i2 : dIdx (.lst [.int n, .lst (ls.map dP), .tup (pic.map .int)]) (.int 2) = some (.tup (pic.map .int)) := rfl
  generalize D.lst [.int n, .lst (ls.map dP), .tup (pic.map .int)] = sd at *
  have near := near_ok n ls (by omega) (by omega) hl (by omega)
  have web := web_init n ls (by omega) (by omega) hl (by omega)
  have sc : d_Scene___init__ [.ins 46 (webF n ls), .tup (pic.map .int)] = .ok [.ins 46 (webF n ls), .tup (pic.map .int)] := scene_init n ls pic (by omega) (by omega) p1 p2
  have wdD : D.ins 39 [.ins 46 (webF n ls), .tup (pic.map .int)] = scnD (webD n ls) pic := rfl
  have lp := lpieces_ok hl (by omega) (by omega) (by omega)
  have gps := fun C hC => gp_of hl (grp_piece hl n.toNat (Nat.le_refl _) C hC)
  have x0 := Int.emod_nonneg t0 (show n ≠ 0 by omega)
  have x1 := Int.emod_lt_of_pos t0 (show 0 < n by omega)
  have md : dMod (.int t0) (.int n) = some (.int (t0 % n)) := ev_mod (by omega)
  generalize t0 % n = x at *
  obtain ⟨g, hg1, hg2⟩ := (grp_cov hl n.toNat (Nat.le_refl _)).2 x.toNat (by omega)
  rw [show ((x.toNat : Nat) : Int) = x by omega] at hg2
  have grl := (grp_len hl n.toNat (Nat.le_refl _)).2
  generalize hGS : (grp n ls n.toNat).1 = GS at *
  obtain ⟨C, GS', hGS2⟩ : ∃ C GS', GS.filter (fun g => decide (x ∈ g)) = C :: GS' := by
    cases q : GS.filter (fun g => decide (x ∈ g)) with
    | nil =>
      have : g ∈ GS.filter (fun g => decide (x ∈ g)) := List.mem_filter.mpr ⟨hg1, decide_eq_true hg2⟩
      rw [q] at this
      cases this
    | cons C GS' => exact ⟨C, GS', rfl⟩
  have hC : C ∈ GS.filter (fun g => decide (x ∈ g)) := by rw [hGS2]; exact List.mem_cons_self
  obtain ⟨hC1, hC2⟩ := List.mem_filter.mp hC
  have xC : x ∈ C := of_decide_eq_true hC2
  have gp := gps C hC1
  have C0 : 0 < C.length := List.length_pos_of_mem xC
  have Cn : C.length ≤ 7 := by
    have := queue_len hl x0 x1 n.toNat
    have o := gp.own x xC
    rw [← o, (srtI_perm _).length_eq]
    unfold pieceQ
    omega
  obtain ⟨a, b, ha, hb, shr⟩ := share31_ok hl (by omega) p2 p1 (by omega) gp Cn C0
  have ma : dMul (.int 2) (.int a) = some (.int (2 * a)) := ev_mul (by omega) (by omega) (by omega) (by omega)
  have mb : dMul (.int 2) (.int b) = some (.int (2 * b)) := ev_mul (by omega) (by omega) (by omega) (by omega)
  have ia : dIdx (.tup [.int a, .int b]) (.int 0) = some (.int a) := rfl
  have ib : dIdx (.tup [.int a, .int b]) (.int 1) = some (.int b) := rfl
  obtain ⟨SH, hSH⟩ : ∃ SH : List (Int × Int), SH = [(a, b), (2 * a, 2 * b), (1, 3), (0, 1), (t1, 4 + t2)] := ⟨_, rfl⟩
  have shD : D.lst [.tup [.int a, .int b], .tup [.int (2 * a), .int (2 * b)], .tup [.int 1, .int 3], .tup [.int 0, .int 1], .tup [.int t1, .int (4 + t2)]] = .lst (SH.map dP) := by rw [hSH]; rfl
  have shl : SH.length ≤ 100 := by rw [hSH]; simp
  have shs : ∀ p ∈ SH, SmP p.1 p.2 := by
    intro p m
    rw [hSH] at m
    simp only [List.mem_cons, List.not_mem_nil, or_false] at m
    unfold SmP
    rcases m with rfl | rfl | rfl | rfl | rfl <;> simp only <;> omega
  clear hSH
  have asked := rings_asked_ok hl n1 n7 (by omega) p1 SH shl shs
  obtain ⟨xs, gx, bx⟩ := grown_ok (p := a) (q := b) hl (by omega) p1 gp (by omega) (by omega) (by omega)
  obtain ⟨zs, gz, bz⟩ := grown_ok (p := 1) (q := 3) hl (by omega) p1 gp (by omega) (by omega) (by omega)
  have lx := bx.1
  have lz := bz.1
  have lC : dLen [.lst (C.map .int)] = some (.int (C.length : Int)) := by rw [ev_lenL, List.length_map]
  have md4 : dMod (.int t4) (.int (C.length : Int)) = some (.int (t4 % (C.length : Int))) := ev_mod (by omega)
  have k0 := Int.emod_nonneg t4 (show (C.length : Int) ≠ 0 by omega)
  have k1 := Int.emod_lt_of_pos t4 (show (0 : Int) < C.length by omega)
  generalize t4 % (C.length : Int) = k at *
  have GS16 : GS.length ≤ 16777216 := by omega
  have xs16 : xs.length ≤ 16777216 := by omega
  have C16 : C.length ≤ 16777216 := by omega
  have vk : dIdx (.lst (xs.map .int)) (.int k) = some (.int (nI xs k)) := ev_idxI k0 (by omega)
  have inGS : ∀ g : List Int, dIn (.int x) (encI g) = some (.bl (decide (x ∈ g))) := fun g => ev_inL (x := x) (xs := g)
  have rf1 := slopes_refused_ok n ls pic (-1) (by omega)
  have rf2 := slopes_refused_ok n ls pic (n + t5) (by omega)
  generalize hG : seqS (ifS (notB (tb (callU (ar 4 d__law_rings_asked) _ _))) _ _) _ = G
  simp -implicitDefEqProofs (disch := first | omega | (simp -implicitDefEqProofs; done) | (simp -implicitDefEqProofs; omega)) [-List.map_map, BT.sub, ev_denI, ev_stI, ev_slfS, ev_slfE, ev_st0n, ev_mod, ev_div, ev_mul, ev_pow, ev_line, ev_rng1, ev_rng2, ev_ar, ev_arI, rangeD_length, s1, i0, i1, i2, near, hz2, hr, web, sc, wdD, c0, c1, c2, md, lp, GS16]
  generalize hCL : compL _ _ _ _ _ = oc
  have qz := compP hCL (fun g => decide (x ∈ g)) encI id fun g m => ⟨_, rfl, by simp -implicitDefEqProofs (disch := first | omega | (simp -implicitDefEqProofs; done) | (simp -implicitDefEqProofs; omega)) [-List.map_map, BT.sub, ev_denI, ev_stI, ev_slfS, ev_slfE, ev_st0n, ev_mod, ev_div, ev_mul, ev_pow, ev_line, ev_rng1, ev_rng2, ev_ar, ev_arI, rangeD_length, inGS], fun _ => by simp -implicitDefEqProofs (disch := first | omega | (simp -implicitDefEqProofs; done) | (simp -implicitDefEqProofs; omega)) [-List.map_map, BT.sub, ev_denI, ev_stI, ev_slfS, ev_slfE, ev_st0n, ev_mod, ev_div, ev_mul, ev_pow, ev_line, ev_rng1, ev_rng2, ev_ar, ev_arI, rangeD_length]⟩
  rw [List.map_id, hGS2] at qz
  subst qz
  clear hCL
  have en : encI C = .lst (C.map .int) := rfl
  have ih : dIdx (.lst ((C :: GS').map encI)) (.int 0) = some (.lst (C.map .int)) := ev_idxE (enc := encI) (x := C) (by omega) rfl
  generalize (C :: GS').map encI = gl at *
  simp -implicitDefEqProofs (disch := first | omega | (simp -implicitDefEqProofs; done) | (simp -implicitDefEqProofs; omega)) [-List.map_map, BT.sub, ev_denI, ev_stI, ev_slfS, ev_slfE, ev_st0n, ev_mod, ev_div, ev_mul, ev_pow, ev_line, ev_rng1, ev_rng2, ev_ar, ev_arI, rangeD_length, ih, shr, ia, ib, ma, mb, shD, c1, c2]
  subst hG
  have v : Int := 0
  obtain ⟨ys, hys⟩ : ∃ ys, ys = xs.set k.toNat (nI xs k + t3 - 1) := ⟨_, rfl⟩
  have ly : ys.length = C.length := by rw [hys, List.length_set]; exact lx
  have si : setIS 13 (fun st => ((DI.bin dSub (DI.bin dAdd (DI.bin dIdx (vv 13) (DI.bin dMod (DI.bin dIdx (vi 5) (cc (.int 4))) (callE dLen (consA (vi 9) nilA)))) (DI.bin dIdx (vi 5) (cc (.int 3)))) (cc (.int 1))) st).bind fun d => .ok (.im d)) (DI.bin dMod (DI.bin dIdx (vi 5) (cc (.int 4))) (callE dLen (consA (vi 9) nilA))) [some (.im (.scr (ns.map .int))), some (.im sd), some (.im (.int n)), some (.im (.tup (pic.map .int))), some (.im (rowsL (arnd n ls))), some (.im (.lst (row.map .int))), some (.im (scnD (webD n ls) pic)), some (.im (.int x)), none, some (.im (.lst (C.map .int))), some (.im (.tup [.int a, .int b])), some (.im (.lst (SH.map dP))), some (.im (.lst (xs.map .int))), some (tE D.int xs), none, none, none, none, none, none, none, none, none, none] = .nx [some (.im (.scr (ns.map .int))), some (.im sd), some (.im (.int n)), some (.im (.tup (pic.map .int))), some (.im (rowsL (arnd n ls))), some (.im (.lst (row.map .int))), some (.im (scnD (webD n ls) pic)), some (.im (.int x)), none, some (.im (.lst (C.map .int))), some (.im (.tup [.int a, .int b])), some (.im (.lst (SH.map dP))), some (.im (.lst (xs.map .int))), some (tE D.int ys), none, none, none, none, none, none, none, none, none, none] := by
    rw [hys]
    exact ev_setIS rfl (by simp -implicitDefEqProofs (disch := first | omega | (simp -implicitDefEqProofs; done) | (simp -implicitDefEqProofs; omega)) [-List.map_map, BT.sub, ev_denI, ev_stI, ev_slfS, ev_slfE, ev_st0n, ev_mod, ev_div, ev_mul, ev_pow, ev_line, ev_rng1, ev_rng2, ev_ar, ev_arI, rangeD_length, c4, lC, md4, vk, c3]) (by simp -implicitDefEqProofs (disch := first | omega | (simp -implicitDefEqProofs; done) | (simp -implicitDefEqProofs; omega)) [-List.map_map, BT.sub, ev_denI, ev_stI, ev_slfS, ev_slfE, ev_st0n, ev_mod, ev_div, ev_mul, ev_pow, ev_line, ev_rng1, ev_rng2, ev_ar, ev_arI, rangeD_length, c4, lC, md4]) k0 (by omega)
  generalize hG : seqS (setIS 13 _ _) _ = G
  simp -implicitDefEqProofs (disch := first | omega | (simp -implicitDefEqProofs; done) | (simp -implicitDefEqProofs; omega)) [-List.map_map, BT.sub, ev_denI, ev_stI, ev_slfS, ev_slfE, ev_st0n, ev_mod, ev_div, ev_mul, ev_pow, ev_line, ev_rng1, ev_rng2, ev_ar, ev_arI, rangeD_length, ev_if, asked, gx, ia, ib, xs16]
  rw [tE_imT]
  subst hG
  refine (congrArg Out.end (show (_ : Out) = _ from (congrArg (fun o => Out.seq o _) si).trans rfl)).trans ?_
  clear si
  generalize hK : seqS (extS 19 _) _ = K
  have SH16 : SH.length ≤ 16777216 := by omega
  have ys16 : ys.length ≤ 16777216 := by omega
  have key : ∀ (R : List (List Int)) (tw fl : List Int), R.length ≤ 100 → (∀ r ∈ R, r.length ≤ 1000) → (K [some (.im (.scr (ns.map .int))), some (.im sd), some (.im (.int n)), some (.im (.tup (pic.map .int))), some (.im (rowsL (arnd n ls))), some (.im (.lst (row.map .int))), some (.im (scnD (webD n ls) pic)), some (.im (.int x)), none, some (.im (.lst (C.map .int))), some (.im (.tup [.int a, .int b])), some (.im (.lst (SH.map dP))), some (.im (.lst (xs.map .int))), some (.im (.lst (ys.map .int))), some (.im (.lst (zs.map .int))), none, some (.im (.lst (tw.map .int))), none, some (.im (.lst (fl.map .int))), some (tE encI R), none, none, none, none]).end = .ok (.bl true) := by
    intro R tw fl hR1 hR2
    subst hK
    generalize hG : seqS (forS (items (vi 11)) _ _) _ = G
    have pw : dPow (.int 10) (.int 30) = some (.int 1000000000000000000000000000000) := by rfl
    simp -implicitDefEqProofs (disch := first | omega | (simp -implicitDefEqProofs; done) | (simp -implicitDefEqProofs; omega)) [-List.map_map, BT.sub, ev_denI, ev_stI, ev_slfS, ev_slfE, ev_st0n, ev_mod, ev_div, ev_mul, ev_pow, ev_line, ev_rng1, ev_rng2, ev_ar, ev_arI, rangeD_length, ext_ev, ys16]
    generalize hC1 : compL _ _ _ _ _ = oc
    have qz := comp hC1 D.int (fun x => x + 1000000000000000000000000000000) fun x m => ⟨_, rfl, rfl, by simp -implicitDefEqProofs (disch := first | omega | (simp -implicitDefEqProofs; done) | (simp -implicitDefEqProofs; omega)) [-List.map_map, BT.sub, ev_denI, ev_stI, ev_slfS, ev_slfE, ev_st0n, ev_mod, ev_div, ev_mul, ev_pow, ev_line, ev_rng1, ev_rng2, ev_ar, ev_arI, rangeD_length, pw]⟩
    subst qz
    clear hC1
    simp -implicitDefEqProofs (disch := first | omega | (simp -implicitDefEqProofs; done) | (simp -implicitDefEqProofs; omega)) [-List.map_map, BT.sub, ev_denI, ev_stI, ev_slfS, ev_slfE, ev_st0n, ev_mod, ev_div, ev_mul, ev_pow, ev_line, ev_rng1, ev_rng2, ev_ar, ev_arI, rangeD_length, xs16]
    generalize hC1 : compL _ _ _ _ _ = oc
    have qz := comp hC1 D.int (fun _ => (0 : Int)) fun x m => ⟨_, rfl, rfl, by simp -implicitDefEqProofs (disch := first | omega | (simp -implicitDefEqProofs; done) | (simp -implicitDefEqProofs; omega)) [-List.map_map, BT.sub, ev_denI, ev_stI, ev_slfS, ev_slfE, ev_st0n, ev_mod, ev_div, ev_mul, ev_pow, ev_line, ev_rng1, ev_rng2, ev_ar, ev_arI, rangeD_length]⟩
    subst qz
    clear hC1
    have el : D.lst [.lst ((ys.map fun x => x + 1000000000000000000000000000000).map .int), .lst ((xs.map fun _ => (0 : Int)).map .int), .lst []] = .lst ([ys.map fun x => x + 1000000000000000000000000000000, xs.map fun _ => (0 : Int), []].map encI) := rfl
    obtain ⟨R2, hR2e⟩ : ∃ R2 : List (List Int), R2 = [ys.map fun x => x + 1000000000000000000000000000000, xs.map fun _ => (0 : Int), []] := ⟨_, rfl⟩
    have hR2l : R2.length = 3 := by rw [hR2e]; rfl
    have hR2m : ∀ r ∈ R2, r.length ≤ 1000 := by
      intro r m
      rw [hR2e] at m
      simp only [List.mem_cons, List.not_mem_nil, or_false] at m
      rcases m with rfl | rfl | rfl
      · rw [List.length_map]; omega
      · rw [List.length_map]; omega
      · show 0 ≤ 1000; omega
    rw [← hR2e] at el
    have lE : R.length + R2.length ≤ 16777216 := by omega
    simp -implicitDefEqProofs (disch := first | omega | (simp -implicitDefEqProofs; done) | (simp -implicitDefEqProofs; omega)) [-List.map_map, BT.sub, ev_denI, ev_stI, ev_slfS, ev_slfE, ev_st0n, ev_mod, ev_div, ev_mul, ev_pow, ev_line, ev_rng1, ev_rng2, ev_ar, ev_arI, rangeD_length, el, extL_ev, lE, tE_app2]
    have hall : ∀ r ∈ R ++ R2, r.length ≤ 1000 := fun r m => (List.mem_append.mp m).elim (hR2 r) (hR2m r)
    have hlen : (R ++ R2).length ≤ 200 := by rw [List.length_append]; omega
    generalize R ++ R2 = RS at *
    have RS16 : RS.length ≤ 16777216 := by omega
    subst hG
    generalize hF : forS (items (vi 19)) (gN 21) _ = FS
    have inn : ∀ p ∈ SH, ∀ j21 j22 j23 : Option DI.T, ∃ j21' j22' j23' : Option DI.T, FS [some (.im (.scr (ns.map .int))), some (.im sd), some (.im (.int n)), some (.im (.tup (pic.map .int))), some (.im (rowsL (arnd n ls))), some (.im (.lst (row.map .int))), some (.im (scnD (webD n ls) pic)), some (.im (.int x)), none, some (.im (.lst (C.map .int))), some (.im (.tup [.int a, .int b])), some (.im (.lst (SH.map dP))), some (.im (.lst (xs.map .int))), some (.im (.lst (ys.map .int))), some (.im (.lst (zs.map .int))), none, some (.im (.lst (tw.map .int))), none, some (.im (.lst (fl.map .int))), some (.im (.lst (RS.map encI))), some (.im (dP p)), j21, j22, j23] = .nx [some (.im (.scr (ns.map .int))), some (.im sd), some (.im (.int n)), some (.im (.tup (pic.map .int))), some (.im (rowsL (arnd n ls))), some (.im (.lst (row.map .int))), some (.im (scnD (webD n ls) pic)), some (.im (.int x)), none, some (.im (.lst (C.map .int))), some (.im (.tup [.int a, .int b])), some (.im (.lst (SH.map dP))), some (.im (.lst (xs.map .int))), some (.im (.lst (ys.map .int))), some (.im (.lst (zs.map .int))), none, some (.im (.lst (tw.map .int))), none, some (.im (.lst (fl.map .int))), some (.im (.lst (RS.map encI))), some (.im (dP p)), j21', j22', j23'] := by
      intro p hp j21 j22 j23
      have sm := shs p hp
      have i0 : dIdx (dP p) (.int 0) = some (.int p.1) := rfl
      have i1 : dIdx (dP p) (.int 1) = some (.int p.2) := rfl
      have lp : dListF [dP p] = some [.int p.1, .int p.2] := rfl
      have ep : dP p = .tup [.int p.1, .int p.2] := rfl
      generalize dP p = dp at *
      subst hF
      simp -implicitDefEqProofs (disch := first | omega | (simp -implicitDefEqProofs; done) | (simp -implicitDefEqProofs; omega)) [-List.map_map, BT.sub, ev_denI, ev_stI, ev_slfS, ev_slfE, ev_st0n, ev_mod, ev_div, ev_mul, ev_pow, ev_line, ev_rng1, ev_rng2, ev_ar, ev_arI, rangeD_length, RS16]
      generalize hL2 : forL _ _ _ _ = o2
      obtain ⟨s2, rfl, j21', j22', j23', rfl⟩ := loop hL2 (fun pr2 s => ∃ j21 j22 j23, s = [some (.im (.scr (ns.map .int))), some (.im sd), some (.im (.int n)), some (.im (.tup (pic.map .int))), some (.im (rowsL (arnd n ls))), some (.im (.lst (row.map .int))), some (.im (scnD (webD n ls) pic)), some (.im (.int x)), none, some (.im (.lst (C.map .int))), some (.im (.tup [.int a, .int b])), some (.im (.lst (SH.map dP))), some (.im (.lst (xs.map .int))), some (.im (.lst (ys.map .int))), some (.im (.lst (zs.map .int))), none, some (.im (.lst (tw.map .int))), none, some (.im (.lst (fl.map .int))), some (.im (.lst (RS.map encI))), some (.im dp), j21, j22, j23]) ⟨_, _, _, rfl⟩ (by
        rintro pr2 w po2 s q2 ⟨j21, j22, j23, rfl⟩
        have wl := hall w (by rw [q2]; simp)
        have en : encI w = .lst (w.map .int) := rfl
        have w16 : w.length ≤ 16777216 := by omega
        rw [en]
        obtain ⟨bb, e1, hb⟩ := lslope_ok (xs := w) hl (by omega) p1 gp (by omega) (by omega) sm
        have e2 := (pslope_ok (xs := w) hl (by omega) p1 (by omega) gp xC (by omega) (by omega) sm dp (.lst (w.map .int)) (.inr ep) (.inl rfl)).eq hb
        have e3 := (pslope_ok (xs := w) hl (by omega) p1 (by omega) gp xC (by omega) (by omega) sm (.lst [.int p.1, .int p.2]) (.tup (w.map .int)) (.inl rfl) (.inr rfl)).eq hb
        have ag := agree_ok bb
        have ne : dNe (.lst (w.map .int)) (.lst (w.map .int)) = some (.bl false) := ev_neR (by rw [ints_sh]; rfl)
        refine ⟨_, ?_, some (.im (.lst (w.map .int))), some (.im (.bl bb)), some (.im (.lst (w.map .int))), rfl⟩
        simp -implicitDefEqProofs (disch := first | omega | (simp -implicitDefEqProofs; done) | (simp -implicitDefEqProofs; omega)) [-List.map_map, BT.sub, ev_denI, ev_stI, ev_slfS, ev_slfE, ev_st0n, ev_mod, ev_div, ev_mul, ev_pow, ev_line, ev_rng1, ev_rng2, ev_ar, ev_arI, rangeD_length, ev_if, i0, i1, e1, e2, e3, ag, ne, lp, w16])
      exact ⟨j21', j22', j23', rfl⟩
    simp -implicitDefEqProofs (disch := first | omega | (simp -implicitDefEqProofs; done) | (simp -implicitDefEqProofs; omega)) [-List.map_map, BT.sub, ev_denI, ev_stI, ev_slfS, ev_slfE, ev_st0n, ev_mod, ev_div, ev_mul, ev_pow, ev_line, ev_rng1, ev_rng2, ev_ar, ev_arI, rangeD_length, SH16]
    generalize hL : forL _ _ _ _ = o
    obtain ⟨s', rfl, j19, j20, j21, j22, j23, rfl, hj⟩ := loop hL (fun pr s => ∃ j19 j20 j21 j22 j23, s = [some (.im (.scr (ns.map .int))), some (.im sd), some (.im (.int n)), some (.im (.tup (pic.map .int))), some (.im (rowsL (arnd n ls))), some (.im (.lst (row.map .int))), some (.im (scnD (webD n ls) pic)), some (.im (.int x)), none, some (.im (.lst (C.map .int))), some (.im (.tup [.int a, .int b])), some (.im (.lst (SH.map dP))), some (.im (.lst (xs.map .int))), some (.im (.lst (ys.map .int))), some (.im (.lst (zs.map .int))), none, some (.im (.lst (tw.map .int))), none, some (.im (.lst (fl.map .int))), some j19, j20, j21, j22, j23] ∧ (j19 = tE encI RS ∨ j19 = .im (.lst (RS.map encI)))) ⟨_, _, _, _, _, rfl, .inl rfl⟩ (by
      rintro pr p po s q ⟨j19, j20, j21, j22, j23, rfl, hj⟩
      obtain ⟨j21', j22', j23', e⟩ := inn p (by rw [q]; simp) j21 j22 j23
      rcases hj with rfl | rfl
      · refine ⟨_, ?_, _, some (.im (dP p)), j21', j22', j23', rfl, .inr rfl⟩
        simp -implicitDefEqProofs (disch := first | omega | (simp -implicitDefEqProofs; done) | (simp -implicitDefEqProofs; omega)) [-List.map_map, BT.sub, ev_denI, ev_stI, ev_slfS, ev_slfE, ev_st0n, ev_mod, ev_div, ev_mul, ev_pow, ev_line, ev_rng1, ev_rng2, ev_ar, ev_arI, rangeD_length, e]
      · refine ⟨_, ?_, _, some (.im (dP p)), j21', j22', j23', rfl, .inr rfl⟩
        simp -implicitDefEqProofs (disch := first | omega | (simp -implicitDefEqProofs; done) | (simp -implicitDefEqProofs; omega)) [-List.map_map, BT.sub, ev_denI, ev_stI, ev_slfS, ev_slfE, ev_st0n, ev_mod, ev_div, ev_mul, ev_pow, ev_line, ev_rng1, ev_rng2, ev_ar, ev_arI, rangeD_length, e])
    simp -implicitDefEqProofs (disch := first | omega | (simp -implicitDefEqProofs; done) | (simp -implicitDefEqProofs; omega)) [-List.map_map, BT.sub, ev_denI, ev_stI, ev_slfS, ev_slfE, ev_st0n, ev_mod, ev_div, ev_mul, ev_pow, ev_line, ev_rng1, ev_rng2, ev_ar, ev_arI, rangeD_length, rf1, rf2, c5]
  generalize hG : seqS (frzS 13 _) _ = G
  simp -implicitDefEqProofs (disch := first | omega | (simp -implicitDefEqProofs; done) | (simp -implicitDefEqProofs; omega)) [-List.map_map, BT.sub, ev_denI, ev_stI, ev_slfS, ev_slfE, ev_st0n, ev_mod, ev_div, ev_mul, ev_pow, ev_line, ev_rng1, ev_rng2, ev_ar, ev_arI, rangeD_length, gz, xs16]
  generalize hC1 : compL _ _ _ _ _ = oc
  have qz := comp hC1 D.int (fun x => 2 * x) fun y m => ⟨_, rfl, rfl, by
    have yb := bx.2 y m
    have my : dMul (.int 2) (.int y) = some (.int (2 * y)) := ev_mul (by omega) (by omega) (by omega) (by omega)
    simp -implicitDefEqProofs (disch := first | omega | (simp -implicitDefEqProofs; done) | (simp -implicitDefEqProofs; omega)) [-List.map_map, BT.sub, ev_denI, ev_stI, ev_slfS, ev_slfE, ev_st0n, ev_mod, ev_div, ev_mul, ev_pow, ev_line, ev_rng1, ev_rng2, ev_ar, ev_arI, rangeD_length, my]⟩
  obtain ⟨tw, htw⟩ : ∃ tw, tw = xs.map fun x => 2 * x := ⟨_, rfl⟩
  rw [← htw] at qz
  have ltw : tw.length = C.length := by rw [htw, List.length_map]; exact lx
  subst qz
  clear hC1
  simp -implicitDefEqProofs (disch := first | omega | (simp -implicitDefEqProofs; done) | (simp -implicitDefEqProofs; omega)) [-List.map_map, BT.sub, ev_denI, ev_stI, ev_slfS, ev_slfE, ev_st0n, ev_mod, ev_div, ev_mul, ev_pow, ev_line, ev_rng1, ev_rng2, ev_ar, ev_arI, rangeD_length, lC, C16]
  generalize hC1 : compL _ _ _ _ _ = oc
  have qz := comp (α := Nat) hC1 D.int (fun j : Nat => nI xs ((C.length : Int) - 1 - (j : Int))) fun j m => ⟨_, rfl, rfl, by
    have jl := List.mem_range.mp m
    have ix : dIdx (.lst (xs.map .int)) (.int ((C.length : Int) - 1 - (j : Int))) = some (.int (nI xs ((C.length : Int) - 1 - (j : Int)))) := ev_idxI (by omega) (by omega)
    simp -implicitDefEqProofs (disch := first | omega | (simp -implicitDefEqProofs; done) | (simp -implicitDefEqProofs; omega)) [-List.map_map, BT.sub, ev_denI, ev_stI, ev_slfS, ev_slfE, ev_st0n, ev_mod, ev_div, ev_mul, ev_pow, ev_line, ev_rng1, ev_rng2, ev_ar, ev_arI, rangeD_length, lC, ix]⟩
  obtain ⟨fl, hfl⟩ : ∃ fl, fl = (List.range C.length).map fun j : Nat => nI xs ((C.length : Int) - 1 - (j : Int)) := ⟨_, rfl⟩
  have lfl : fl.length = C.length := by rw [hfl]; simp
  rw [← hfl] at qz
  subst qz
  clear hC1
  subst hG
  obtain ⟨x0s, hx0⟩ : ∃ x0s, x0s = xs ++ [0] := ⟨_, rfl⟩
  have lx0 : x0s.length = xs.length + 1 := by rw [hx0, List.length_append]; rfl
  have cat : dAdd (.lst (xs.map .int)) (.lst [.int 0]) = some (.lst (x0s.map .int)) := by
    rw [ev_catL (by simp; omega), hx0, List.map_append]
    rfl
  have cut := dSl_map D.int xs (some 1) none
  have cutl := cutL_len xs (some 1) none
  generalize cutL xs (some 1) none = ct at *
  simp -implicitDefEqProofs (disch := first | omega | (simp -implicitDefEqProofs; done) | (simp -implicitDefEqProofs; omega)) [-List.map_map, BT.sub, ev_denI, ev_stI, ev_slfS, ev_slfE, ev_st0n, ev_mod, ev_div, ev_mul, ev_pow, ev_line, ev_rng1, ev_rng2, ev_ar, ev_arI, rangeD_length, cat, cut, xs16]
  generalize hC1 : compL _ _ _ _ _ = oc
  have qz := comp hC1 D.int (fun x => x - 7) fun y m => ⟨_, rfl, rfl, by simp -implicitDefEqProofs (disch := first | omega | (simp -implicitDefEqProofs; done) | (simp -implicitDefEqProofs; omega)) [-List.map_map, BT.sub, ev_denI, ev_stI, ev_slfS, ev_slfE, ev_st0n, ev_mod, ev_div, ev_mul, ev_pow, ev_line, ev_rng1, ev_rng2, ev_ar, ev_arI, rangeD_length]⟩
  obtain ⟨mi, hmi⟩ : ∃ mi, mi = xs.map fun x => x - 7 := ⟨_, rfl⟩
  have lmi : mi.length = C.length := by rw [hmi, List.length_map]; exact lx
  rw [← hmi] at qz
  subst qz
  clear hC1
  have k8 := key [xs, ys, zs, tw, fl, x0s, ct, mi] tw fl (by simp) (by
    intro r m
    simp only [List.mem_cons, List.not_mem_nil, or_false] at m
    rcases m with rfl | rfl | rfl | rfl | rfl | rfl | rfl | rfl
    · omega
    · omega
    · omega
    · omega
    · omega
    · omega
    · omega
    · omega)
  simp -implicitDefEqProofs (disch := first | omega | (simp -implicitDefEqProofs; done) | (simp -implicitDefEqProofs; omega)) [-List.map_map, BT.sub, ev_denI, ev_stI, ev_slfS, ev_slfE, ev_st0n, ev_mod, ev_div, ev_mul, ev_pow, ev_line, ev_rng1, ev_rng2, ev_ar, ev_arI, rangeD_length]
  exact k8
end FR
end
section
set_option Elab.async false
set_option linter.all false
set_option maxRecDepth 100000
set_option maxHeartbeats 2000000
namespace FR
open PySem PySem.Spec PyProof.Rows L2 DI
def top (i : Nat) : Stmt := PySem.Challenge.pw_firerest_k31_share_judges.main.body.getD i (.Pass ⟨0, 0, 0, 0⟩)
abbrev s__law_web : Stmt := top 33
abbrev s__law_digits : Stmt := top 32
abbrev s__law_cell : Stmt := top 31
abbrev s__law_picture : Stmt := top 34
abbrev s__law_scene : Stmt := top 35
abbrev s__law_near : Stmt := top 36
abbrev s_frozen : Stmt := top 2
abbrev s_BadPicture___init__ : Stmt := inClass (top 8) 0
abbrev s_Scene___init__ : Stmt := inClass (top 28) 0
abbrev s_BadLine___init__ : Stmt := inClass (top 6) 0
abbrev s_checked_lines : Stmt := top 12
abbrev s_neighbour_rows : Stmt := top 13
abbrev s_Web___init__ : Stmt := inClass (top 11) 0
abbrev s__law_pieces : Stmt := top 41
abbrev s__law_step : Stmt := top 37
abbrev s__law_round : Stmt := top 40
abbrev s__law_lowest : Stmt := top 46
abbrev s__law_counts : Stmt := top 38
abbrev s__law_gains : Stmt := top 45
abbrev s__law_share : Stmt := top 49
abbrev s__law_rings : Stmt := top 52
abbrev s__law_whole : Stmt := top 30
abbrev s__law_is_walk : Stmt := top 43
abbrev s__law_sum : Stmt := top 44
abbrev s__law_lead : Stmt := top 39
abbrev s__law_lead_rows : Stmt := top 42
abbrev s__law_own_pairs : Stmt := top 53
abbrev s__law_has_share : Stmt := top 47
abbrev s__law_agree : Stmt := top 51
abbrev s_is_walk : Stmt := top 15
abbrev s_is_ring : Stmt := top 16
abbrev s_NotAWalk___init__ : Stmt := inClass (top 9) 0
abbrev s_check_walk : Stmt := top 19
abbrev s_state_lead : Stmt := top 18
abbrev s_lead_sum : Stmt := top 20
abbrev s_is_share_ring : Stmt := top 25
abbrev s__law_rings_asked : Stmt := top 54
abbrev s__law_grown : Stmt := top 50
abbrev s__law_slope : Stmt := top 48
abbrev s_NoPlace___init__ : Stmt := inClass (top 5) 0
abbrev s_check_place : Stmt := top 14
abbrev s_piece_of : Stmt := top 22
abbrev s_step_lead : Stmt := top 24
abbrev s_are_slopes : Stmt := top 26
abbrev s__law_refused : Stmt := top 55
abbrev s_law : Stmt := top 56
structure Txt (P : Program) (w : World) (K : PySem.W.Frag) (mg : Str → Option Value) (cm : CM) : Prop where
  hset : cm.setO = SetTO P w
  hnd : cm.nd = NDO P w
  m_ValueError : mg "ValueError" = none
  m_bool : mg "bool" = none
  m_enumerate : mg "enumerate" = none
  m_int : mg "int" = none
  m_isinstance : mg "isinstance" = none
  m_len : mg "len" = none
  m_list : mg "list" = none
  m_max : mg "max" = none
  m_min : mg "min" = none
  m_range : mg "range" = none
  m_sorted : mg "sorted" = none
  m_sum : mg "sum" = none
  m_tuple : mg "tuple" = none
  m_zip : mg "zip" = none
  cls : ∀ c ∈ cm.cls, ClsOk K (cm.addr c)
  kb_bool : KitOk K cm subC (.b .bool)
  kb_int : KitOk K cm subC (.b .int)
  kb_list : KitOk K cm subC (.b .list)
  kb_tuple : KitOk K cm subC (.b .tuple)
  f_around : ∀ p ∈ fl_around, p.1 ∈ cm.cls → FldOk K cm "around" p.1 p.2
  f_lines : ∀ p ∈ fl_lines, p.1 ∈ cm.cls → FldOk K cm "lines" p.1 p.2
  f_picture : ∀ p ∈ fl_picture, p.1 ∈ cm.cls → FldOk K cm "picture" p.1 p.2
  f_size : ∀ p ∈ fl_size, p.1 ∈ cm.cls → FldOk K cm "size" p.1 p.2
  f_web : ∀ p ∈ fl_web, p.1 ∈ cm.cls → FldOk K cm "web" p.1 p.2
  nm_Scene : cm.names 39 = (["web", "picture"] : List Str)
  in_Scene : 39 ∈ cm.cls
  nm_Web : cm.names 46 = (["size", "lines", "around"] : List Str)
  in_Web : 46 ∈ cm.cls
  xok_BadPicture : XOk K (cm.addr 10)
  xnm_BadPicture : cm.names 10 = (["index"] : List Str)
  xno_BadPicture_index : PySem.W.findIn K (.ref (cm.addr 10)) "index" = some none
  xok_BadLine : XOk K (cm.addr 7)
  xnm_BadLine : cm.names 7 = (["index"] : List Str)
  xno_BadLine_index : PySem.W.findIn K (.ref (cm.addr 7)) "index" = some none
  xok_NotAWalk : XOk K (cm.addr 12)
  xnm_NotAWalk : cm.names 12 = (["index"] : List Str)
  xno_NotAWalk_index : PySem.W.findIn K (.ref (cm.addr 12)) "index" = some none
  xok_NoPlace : XOk K (cm.addr 6)
  xnm_NoPlace : cm.names 6 = (["place"] : List Str)
  xno_NoPlace_place : PySem.W.findIn K (.ref (cm.addr 6)) "place" = some none
  xl : ∀ c ∈ xsL, XOk K (cm.addr c)
  xcg_FirerestError : mg "FirerestError" = some (.ref (cm.addr 5))
  xcg_NoLine : mg "NoLine" = some (.ref (cm.addr 9))
  xcg_NoPlace : mg "NoPlace" = some (.ref (cm.addr 6))
  xk_FirerestError : XKit K cm subC xsL (.c 5)
  xk_NoLine : XKit K cm subC xsL (.c 9)
  xkb_ValueError : XKit K cm subC xsL (.b "ValueError")
  xh_NoPlace : ∀ t ∈ xsL, PySem.W.exmOne K (.ref (cm.addr t)) (.ref (cm.addr 6)) = some (subC t 6)
  xf_place : ∀ p ∈ xl_place, XFld K cm "place" p.1 p.2
section
variable {P : Program} {w : World} {K : PySem.W.Frag} {mg : Str → Option Value} {base : Heap} {cm : CM}
theorem sc__law_web : FnScope ["_law_row", "_law_most", "_law_size", "_law_known", "_law_k", "_law_mate", "_law_a", "_law_b", "_law_lines"] ["_law_row", "_law_most"] (defScope s__law_web) := ⟨rfl, rfl, rfl, by decide +kernel, rfl, by decide +kernel, by decide +kernel⟩
theorem ok__law_web {f__law_web : Addr} {fd : FuncData} (FD : FunD K "_law_web" "_law_web" (defArgs s__law_web) (defBody s__law_web) (defScope s__law_web) [] [] f__law_web fd) (T : Txt P w K mg cm)   : DefP P w K mg base cm 1 2 f__law_web d__law_web [] := by
  refine ⟨fd, ["_law_row", "_law_most"], [], fn_ok FD sc__law_web (fun cdv A outer s H E S0 F0 hr tk => ?_), fun S => .nil, ?_⟩
  ·
    exact (s_cons (s_set sc__law_web.nd rfl (by first | exact Or.inl rfl | exact Or.inr rfl) (e_callB (call_min2 rfl) d_min2 T.m_min b_min (va_cons (pv_ (e_var 1)) (va_cons (pv_ (e_ix (pv_ (e_lst (a_cons (e_int) (a_cons (e_int) (a_cons (e_int) (a_cons (e_int) (a_cons (e_int) (a_cons (e_int) (a_cons (e_int) (a_cons (e_int) (a_cons (e_int) (a_cons (e_int) (a_cons (e_int) (a_cons (e_int) (a_nil))))))))))))))) (pv_ (e_ix (pv_ (e_var 0)) (pv_ (e_int)))))) (va_nil)))))
  (s_cons (s_setF sc__law_web.nd rfl (by first | exact Or.inl rfl | exact Or.inr rfl) (f_lst (a_nil)))
  (s_cons (s_for (i_range2 T.m_range (a_cons (e_int) (a_cons (e_var 2) (a_nil)))) (g_name sc__law_web.nd rfl (by first | exact Or.inl rfl | exact Or.inr rfl))
  (s_cons (s_set sc__law_web.nd rfl (by first | exact Or.inl rfl | exact Or.inr rfl) (e_ix (pv_ (e_lst (a_cons (e_op op_sub d_sub (pv_ (e_var 4)) (pv_ (e_int))) (a_cons (e_op op_sub d_sub (pv_ (e_var 4)) (pv_ (e_int))) (a_cons (e_op op_sub d_sub (pv_ (e_var 4)) (pv_ (e_int))) (a_cons (e_int) (a_cons (e_op op_fdivW d_div (pv_ (e_var 4)) (pv_ (e_int))) (a_cons (e_int) (a_nil))))))))) (pv_ (e_ix (pv_ (e_var 0)) (pv_ (e_op or_mul d_mul (pv_ (e_int)) (pv_ (e_var 4))))))))
  (s_cons (s_if (t_cmp op_lt d_lt (pv_ (e_ix (pv_ (e_var 0)) (pv_ (e_int)))) (pv_ (e_int)) (by rfl))
  (s_one (s_set sc__law_web.nd rfl (by first | exact Or.inl rfl | exact Or.inr rfl) (e_op op_sub d_sub (pv_ (e_var 4)) (pv_ (e_int)))))
  (s_nil))
  (s_one (s_if (t_cmp op_lt d_lt (pv_ (e_ix (pv_ (e_var 0)) (pv_ (e_op op_sub d_sub (pv_ (e_op or_mul d_mul (pv_ (e_int)) (pv_ (e_var 4)))) (pv_ (e_int)))))) (pv_ (e_int)) (by rfl))
  (s_one (s_app (pe_bm PySem.F.plainAttrs_list PySem.F.slot_list_append PySem.F.type_list_append mt_append (pe_var rfl (by first | exact Or.inl rfl | exact Or.inr (Or.inl rfl) | exact Or.inr (Or.inr rfl))) (pa_cons (f_e (e_tup (a_cons (e_var 5) (a_cons (e_var 4) (a_nil))))) pa_nil))))
  (s_nil))))))
  (s_cons (s_if (t_w (w_and (t_cmp op_gt d_gt (pv_ (e_var 2)) (pv_ (e_int)) (by rfl)) (w_and1 (t_cmp op_lt d_lt (pv_ (e_ix (pv_ (e_var 0)) (pv_ (e_int)))) (pv_ (e_int)) (by rfl)))))
  (s_one (s_app (pe_bm PySem.F.plainAttrs_list PySem.F.slot_list_append PySem.F.type_list_append mt_append (pe_var rfl (by first | exact Or.inl rfl | exact Or.inr (Or.inl rfl) | exact Or.inr (Or.inr rfl))) (pa_cons (f_e (e_tup (a_cons (e_int) (a_cons (e_op op_sub d_sub (pv_ (e_var 2)) (pv_ (e_int))) (a_nil))))) pa_nil))))
  (s_nil))
  (s_cons (s_for (i_range1 T.m_range (a_cons (e_int) (a_nil))) (g_name sc__law_web.nd rfl (by first | exact Or.inl rfl | exact Or.inr rfl))
  (s_cons (s_set sc__law_web.nd rfl (by first | exact Or.inl rfl | exact Or.inr rfl) (e_op op_mod d_mod (pv_ (e_ix (pv_ (e_var 0)) (pv_ (e_op or_add d_add (pv_ (e_int)) (pv_ (e_op or_mul d_mul (pv_ (e_int)) (pv_ (e_var 4)))))))) (pv_ (e_var 2))))
  (s_cons (s_set sc__law_web.nd rfl (by first | exact Or.inl rfl | exact Or.inr rfl) (e_op op_mod d_mod (pv_ (e_ix (pv_ (e_var 0)) (pv_ (e_op or_add d_add (pv_ (e_int)) (pv_ (e_op or_mul d_mul (pv_ (e_int)) (pv_ (e_var 4)))))))) (pv_ (e_var 2))))
  (s_one (s_if (t_w (w_and (t_cmp op_lt d_lt (pv_ (e_var 6)) (pv_ (e_var 7)) (by rfl)) (w_and1 (t_cmp op_gt d_gt (pv_ (e_ix (pv_ (e_var 0)) (pv_ (e_op or_add d_add (pv_ (e_int)) (pv_ (e_op or_mul d_mul (pv_ (e_int)) (pv_ (e_var 4)))))))) (pv_ (e_int)) (by rfl)))))
  (s_one (s_app (pe_bm PySem.F.plainAttrs_list PySem.F.slot_list_append PySem.F.type_list_append mt_append (pe_var rfl (by first | exact Or.inl rfl | exact Or.inr (Or.inl rfl) | exact Or.inr (Or.inr rfl))) (pa_cons (f_e (e_tup (a_cons (e_var 6) (a_cons (e_var 7) (a_nil))))) pa_nil))))
  (s_nil))))))
  (s_cons (s_setF sc__law_web.nd rfl (by first | exact Or.inl rfl | exact Or.inr rfl) (f_lst (a_nil)))
  (s_cons (s_for (i_range1 T.m_range (a_cons (e_var 2) (a_nil))) (g_name sc__law_web.nd rfl (by first | exact Or.inl rfl | exact Or.inr rfl))
  (s_one (s_for (i_range2 T.m_range (a_cons (e_op or_add d_add (pv_ (e_var 6)) (pv_ (e_int))) (a_cons (e_var 2) (a_nil)))) (g_name sc__law_web.nd rfl (by first | exact Or.inl rfl | exact Or.inr rfl))
  (s_one (s_frz 3 (s_if (t_cmp (or_in hr) d_in (pv_ (e_tup (a_cons (e_var 6) (a_cons (e_var 7) (a_nil))))) (pv_ (e_var 3)) (by rfl))
  (s_one (s_app (pe_bm PySem.F.plainAttrs_list PySem.F.slot_list_append PySem.F.type_list_append mt_append (pe_var rfl (by first | exact Or.inl rfl | exact Or.inr (Or.inl rfl) | exact Or.inr (Or.inr rfl))) (pa_cons (f_e (e_tup (a_cons (e_var 6) (a_cons (e_var 7) (a_nil))))) pa_nil))))
  (s_nil)))))))
  (s_one (s_frz 8 (s_ret (e_lst (a_cons (e_var 2) (a_cons (e_var 8) (a_nil))))))))))))))
  · exact fun j hj => ⟨[], by cases j <;> first | exact .nil | (exact absurd hj (by simp)), FD.bindsN fun _ _ _ _ _ _ us hl => match us, hl with | [_, _], _ => rfl⟩
theorem sc__law_digits : FnScope ["_law_cell_here", "_law_sizes", "_law_row", "_law_rest", "_law_size", "_law_seed", "_law_k", "_law_twice"] ["_law_cell_here", "_law_sizes"] (defScope s__law_digits) := ⟨rfl, rfl, rfl, by decide +kernel, rfl, by decide +kernel, by decide +kernel⟩
theorem ok__law_digits {f__law_digits : Addr} {fd : FuncData} (FD : FunD K "_law_digits" "_law_digits" (defArgs s__law_digits) (defBody s__law_digits) (defScope s__law_digits) [] [] f__law_digits fd) (T : Txt P w K mg cm)   : DefP P w K mg base cm 1 2 f__law_digits d__law_digits [] := by
  refine ⟨fd, ["_law_cell_here", "_law_sizes"], [], fn_ok FD sc__law_digits (fun cdv A outer s H E S0 F0 hr tk => ?_), fun S => .nil, ?_⟩
  ·
    exact (s_cons (s_setF sc__law_digits.nd rfl (by first | exact Or.inl rfl | exact Or.inr rfl) (f_lst (a_nil)))
  (s_cons (s_set sc__law_digits.nd rfl (by first | exact Or.inl rfl | exact Or.inr rfl) (e_callT call_int1 d_toInt T.m_int b_int (va_cons (pv_ (e_var 0)) (va_nil))))
  (s_cons (s_if (t_cmp op_ge d_ge (pv_ (e_var 3)) (pv_ (e_op op_pow d_pow (pv_ (e_int)) (pv_ (e_int)))) (by rfl))
  (s_cons (s_set sc__law_digits.nd rfl (by first | exact Or.inl rfl | exact Or.inr rfl) (e_op op_sub d_sub (pv_ (e_var 3)) (pv_ (e_op op_pow d_pow (pv_ (e_int)) (pv_ (e_int))))))
  (s_cons (s_for (i_e (e_var 1)) (g_name sc__law_digits.nd rfl (by first | exact Or.inl rfl | exact Or.inr rfl))
  (s_cons (s_app (pe_bm PySem.F.plainAttrs_list PySem.F.slot_list_append PySem.F.type_list_append mt_append (pe_var rfl (by first | exact Or.inl rfl | exact Or.inr (Or.inl rfl) | exact Or.inr (Or.inr rfl))) (pa_cons (f_e (e_op op_mod d_mod (pv_ (e_callT call_int1 d_toInt T.m_int b_int (va_cons (pv_ (e_var 3)) (va_nil)))) (pv_ (e_var 4)))) pa_nil)))
  (s_one (s_set sc__law_digits.nd rfl (by first | exact Or.inl rfl | exact Or.inr rfl) (e_op op_fdivW d_div (pv_ (e_callT call_int1 d_toInt T.m_int b_int (va_cons (pv_ (e_var 3)) (va_nil)))) (pv_ (e_var 4)))))))
  (s_one (s_frz 2 (s_ret (e_var 2))))))
  (s_nil))
  (s_cons (s_set sc__law_digits.nd rfl (by first | exact Or.inl rfl | exact Or.inr rfl) (e_op op_mod d_mod (pv_ (e_callT call_int1 d_toInt T.m_int b_int (va_cons (pv_ (e_var 3)) (va_nil)))) (pv_ (e_int))))
  (s_cons (s_for (i_range1 T.m_range (a_cons (e_callB c_len d_len T.m_len b_len (va_cons (pv_ (e_var 1)) (va_nil))) (a_nil))) (g_name sc__law_digits.nd rfl (by first | exact Or.inl rfl | exact Or.inr rfl))
  (s_cons (s_set sc__law_digits.nd rfl (by first | exact Or.inl rfl | exact Or.inr rfl) (e_op op_mod d_mod (pv_ (e_callT call_int1 d_toInt T.m_int b_int (va_cons (pv_ (e_op or_add d_add (pv_ (e_op or_add d_add (pv_ (e_op or_mul d_mul (pv_ (e_var 5)) (pv_ (e_int)))) (pv_ (e_op or_mul d_mul (pv_ (e_int)) (pv_ (e_var 6)))))) (pv_ (e_int)))) (va_nil)))) (pv_ (e_int))))
  (s_cons (s_set sc__law_digits.nd rfl (by first | exact Or.inl rfl | exact Or.inr rfl) (e_op op_mod d_mod (pv_ (e_callT call_int1 d_toInt T.m_int b_int (va_cons (pv_ (e_op or_mul d_mul (pv_ (e_var 5)) (pv_ (e_op or_add d_add (pv_ (e_op op_fdivW d_div (pv_ (e_var 5)) (pv_ (e_int)))) (pv_ (e_int)))))) (va_nil)))) (pv_ (e_int))))
  (s_one (s_app (pe_bm PySem.F.plainAttrs_list PySem.F.slot_list_append PySem.F.type_list_append mt_append (pe_var rfl (by first | exact Or.inl rfl | exact Or.inr (Or.inl rfl) | exact Or.inr (Or.inr rfl))) (pa_cons (f_e (e_op op_mod d_mod (pv_ (e_op op_fdivW d_div (pv_ (e_var 7)) (pv_ (e_int)))) (pv_ (e_ix (pv_ (e_var 1)) (pv_ (e_var 6)))))) pa_nil)))))))
  (s_one (s_frz 2 (s_ret (e_var 2)))))))))
  · exact fun j hj => ⟨[], by cases j <;> first | exact .nil | (exact absurd hj (by simp)), FD.bindsN fun _ _ _ _ _ _ us hl => match us, hl with | [_, _], _ => rfl⟩
theorem sc__law_cell : FnScope ["_law_script", "_law_k", "_law_seed", "_law_cell_here"] ["_law_script", "_law_k"] (defScope s__law_cell) := ⟨rfl, rfl, rfl, by decide +kernel, rfl, by decide +kernel, by decide +kernel⟩
theorem ok__law_cell {f__law_cell : Addr} {fd : FuncData} (FD : FunD K "_law_cell" "_law_cell" (defArgs s__law_cell) (defBody s__law_cell) (defScope s__law_cell) [] [] f__law_cell fd) (T : Txt P w K mg cm)   : DefP P w K mg base cm 1 2 f__law_cell d__law_cell [] := by
  refine ⟨fd, ["_law_script", "_law_k"], [], fn_ok FD sc__law_cell (fun cdv A outer s H E S0 F0 hr tk => ?_), fun S => .nil, ?_⟩
  ·
    exact (s_cons (s_if (t_cmp op_lt d_lt (pv_ (e_var 1)) (pv_ (e_callB c_len d_len T.m_len b_len (va_cons (pv_ (e_var 0)) (va_nil)))) (by rfl))
  (s_one (s_ret (e_ix (pv_ (e_var 0)) (pv_ (e_var 1)))))
  (s_nil))
  (s_cons (s_set sc__law_cell.nd rfl (by first | exact Or.inl rfl | exact Or.inr rfl) (e_int))
  (s_cons (s_for (i_e (e_var 0)) (g_name sc__law_cell.nd rfl (by first | exact Or.inl rfl | exact Or.inr rfl))
  (s_one (s_set sc__law_cell.nd rfl (by first | exact Or.inl rfl | exact Or.inr rfl) (e_op op_mod d_mod (pv_ (e_callT call_int1 d_toInt T.m_int b_int (va_cons (pv_ (e_op or_add d_add (pv_ (e_op or_mul d_mul (pv_ (e_var 2)) (pv_ (e_int)))) (pv_ (e_op op_mod d_mod (pv_ (e_callT call_int1 d_toInt T.m_int b_int (va_cons (pv_ (e_var 3)) (va_nil)))) (pv_ (e_int)))))) (va_nil)))) (pv_ (e_int))))))
  (s_one (s_ret (e_op op_mod d_mod (pv_ (e_callT call_int1 d_toInt T.m_int b_int (va_cons (pv_ (e_op or_mul d_mul (pv_ (e_op or_mul d_mul (pv_ (e_op or_add d_add (pv_ (e_var 2)) (pv_ (e_int)))) (pv_ (e_op or_add d_add (pv_ (e_var 1)) (pv_ (e_int)))))) (pv_ (e_int)))) (va_nil)))) (pv_ (e_int))))))))
  · exact fun j hj => ⟨[], by cases j <;> first | exact .nil | (exact absurd hj (by simp)), FD.bindsN fun _ _ _ _ _ _ us hl => match us, hl with | [_, _], _ => rfl⟩
theorem sc__law_picture : FnScope ["_law_row", "_law_size", "_law_k"] ["_law_row", "_law_size"] (defScope s__law_picture) := ⟨rfl, rfl, rfl, by decide +kernel, rfl, by decide +kernel, by decide +kernel⟩
theorem ok__law_picture {f__law_picture : Addr} {fd : FuncData} (FD : FunD K "_law_picture" "_law_picture" (defArgs s__law_picture) (defBody s__law_picture) (defScope s__law_picture) [] [] f__law_picture fd) (T : Txt P w K mg cm)   : DefP P w K mg base cm 1 2 f__law_picture d__law_picture [] := by
  refine ⟨fd, ["_law_row", "_law_size"], [], fn_ok FD sc__law_picture (fun cdv A outer s H E S0 F0 hr tk => ?_), fun S => .nil, ?_⟩
  ·
    exact (s_cons (s_if (t_w (w_and (t_cmp op_ge d_ge (pv_ (e_ix (pv_ (e_var 0)) (pv_ (e_int)))) (pv_ (e_int)) (by rfl)) (w_and1 (t_cmp op_le d_le (pv_ (e_ix (pv_ (e_var 0)) (pv_ (e_int)))) (pv_ (e_int)) (by rfl)))))
  (s_one (s_ret (e_callT call_tuple_of d_tuple T.m_tuple b_tuple (va_cons (pv_ (e_lc (own := [("_law_k", 2)]) (i_v (i_range1 T.m_range (a_cons (e_var 1) (a_nil)))) (blkOk_by (by kernel_rfl)) (fun _ _ _ _ _ => g_name sc__law_picture.nd rfl (by first | exact Or.inl rfl | exact Or.inr rfl)) (fun _ _ _ _ _ => ts_nil) (fun _ _ _ _ _ => e_op op_mod d_mod (pv_ (e_callT call_int1 d_toInt T.m_int b_int (va_cons (pv_ (e_op or_add d_add (pv_ (e_var 2)) (pv_ (e_ix (pv_ (e_var 0)) (pv_ (e_int)))))) (va_nil)))) (pv_ (e_int))) sc__law_picture.nd)) (va_nil)))))
  (s_nil))
  (s_cons (s_if (t_cmp (or_eq hr) d_eq (pv_ (e_ix (pv_ (e_var 0)) (pv_ (e_int)))) (pv_ (e_int)) (by rfl))
  (s_one (s_ret (e_callT call_tuple_of d_tuple T.m_tuple b_tuple (va_cons (pv_ (e_lc (own := [("_law_k", 2)]) (i_v (i_range1 T.m_range (a_cons (e_var 1) (a_nil)))) (blkOk_by (by kernel_rfl)) (fun _ _ _ _ _ => g_name sc__law_picture.nd rfl (by first | exact Or.inl rfl | exact Or.inr rfl)) (fun _ _ _ _ _ => ts_nil) (fun _ _ _ _ _ => e_op or_mul d_mul (pv_ (e_op op_mod d_mod (pv_ (e_callT call_int1 d_toInt T.m_int b_int (va_cons (pv_ (e_op or_add d_add (pv_ (e_var 2)) (pv_ (e_ix (pv_ (e_var 0)) (pv_ (e_int)))))) (va_nil)))) (pv_ (e_int)))) (pv_ (e_callT call_int1 d_toInt T.m_int b_int (va_cons (pv_ (e_cmp (or_ne hr) d_ne (pv_ (e_var 2)) (pv_ (e_op or_add d_add (pv_ (e_ix (pv_ (e_var 0)) (pv_ (e_int)))) (pv_ (e_int)))) (by rfl))) (va_nil))))) sc__law_picture.nd)) (va_nil)))))
  (s_nil))
  (s_cons (s_if (t_cmp (or_eq hr) d_eq (pv_ (e_ix (pv_ (e_var 0)) (pv_ (e_int)))) (pv_ (e_int)) (by rfl))
  (s_one (s_ret (e_callT call_tuple_of d_tuple T.m_tuple b_tuple (va_cons (pv_ (e_lc (own := [("_law_k", 2)]) (i_v (i_range1 T.m_range (a_cons (e_var 1) (a_nil)))) (blkOk_by (by kernel_rfl)) (fun _ _ _ _ _ => g_name sc__law_picture.nd rfl (by first | exact Or.inl rfl | exact Or.inr rfl)) (fun _ _ _ _ _ => ts_nil) (fun _ _ _ _ _ => e_callT call_int1 d_toInt T.m_int b_int (va_cons (pv_ (e_cmp (or_eq hr) d_eq (pv_ (e_var 2)) (pv_ (e_ix (pv_ (e_var 0)) (pv_ (e_int)))) (by rfl))) (va_nil))) sc__law_picture.nd)) (va_nil)))))
  (s_nil))
  (s_one (s_ret (e_callT call_tuple_of d_tuple T.m_tuple b_tuple (va_cons (pv_ (e_lc (own := [("_law_k", 2)]) (i_v (i_range1 T.m_range (a_cons (e_var 1) (a_nil)))) (blkOk_by (by kernel_rfl)) (fun _ _ _ _ _ => g_name sc__law_picture.nd rfl (by first | exact Or.inl rfl | exact Or.inr rfl)) (fun _ _ _ _ _ => ts_nil) (fun _ _ _ _ _ => e_ix (pv_ (e_var 0)) (pv_ (e_op or_add d_add (pv_ (e_int)) (pv_ (e_var 2))))) sc__law_picture.nd)) (va_nil))))))))
  · exact fun j hj => ⟨[], by cases j <;> first | exact .nil | (exact absurd hj (by simp)), FD.bindsN fun _ _ _ _ _ _ us hl => match us, hl with | [_, _], _ => rfl⟩
theorem sc__law_scene : FnScope ["_law_script", "_law_at", "_law_most", "_law_web_here", "_law_picture_here"] ["_law_script", "_law_at", "_law_most"] (defScope s__law_scene) := ⟨rfl, rfl, rfl, by decide +kernel, rfl, by decide +kernel, by decide +kernel⟩
theorem ok__law_scene {f__law_cell : Addr} {f__law_digits : Addr} {f__law_picture : Addr} {f__law_scene : Addr} {f__law_web : Addr} {fd : FuncData} (FD : FunD K "_law_scene" "_law_scene" (defArgs s__law_scene) (defBody s__law_scene) (defScope s__law_scene) [] [] f__law_scene fd) (T : Txt P w K mg cm)  (G__law_web : DefP P w K mg base cm 1 2 f__law_web d__law_web []) (A__law_web : At K mg "_law_web" f__law_web) (G__law_digits : DefP P w K mg base cm 1 2 f__law_digits d__law_digits []) (A__law_digits : At K mg "_law_digits" f__law_digits) (G__law_cell : DefP P w K mg base cm 1 2 f__law_cell d__law_cell []) (A__law_cell : At K mg "_law_cell" f__law_cell) (G__law_picture : DefP P w K mg base cm 1 2 f__law_picture d__law_picture []) (A__law_picture : At K mg "_law_picture" f__law_picture) : DefP P w K mg base cm 2 3 f__law_scene d__law_scene [] := by
  refine ⟨fd, ["_law_script", "_law_at", "_law_most"], [], fn_ok FD sc__law_scene (fun cdv A outer s H E S0 F0 hr tk => ?_), fun S => .nil, ?_⟩
  ·
    exact (s_cons (s_set sc__law_scene.nd rfl (by first | exact Or.inl rfl | exact Or.inr rfl) (e_callP 0 G__law_web A__law_web tk (hr.mono (by decide)) (by decide) (a_cons (e_callP 0 G__law_digits A__law_digits tk (hr.mono (by decide)) (by decide) (a_cons (e_callP 0 G__law_cell A__law_cell tk (hr.mono (by decide)) (by decide) (a_cons (e_var 0) (a_cons (e_var 1) (a_nil)))) (a_cons (e_op or_add d_add (pv_ (e_op or_add d_add (pv_ (e_op or_add d_add (pv_ (e_lst (a_cons (e_int) (a_nil)))) (pv_ (e_op or_mul d_mul (pv_ (e_lst (a_cons (e_int) (a_cons (e_int) (a_nil))))) (pv_ (e_int)))))) (pv_ (e_lst (a_cons (e_int) (a_nil)))))) (pv_ (e_op or_mul d_mul (pv_ (e_lst (a_cons (e_int) (a_cons (e_int) (a_nil))))) (pv_ (e_int))))) (a_nil)))) (a_cons (e_var 2) (a_nil)))))
  (s_cons (s_set sc__law_scene.nd rfl (by first | exact Or.inl rfl | exact Or.inr rfl) (e_callP 0 G__law_picture A__law_picture tk (hr.mono (by decide)) (by decide) (a_cons (e_callP 0 G__law_digits A__law_digits tk (hr.mono (by decide)) (by decide) (a_cons (e_callP 0 G__law_cell A__law_cell tk (hr.mono (by decide)) (by decide) (a_cons (e_var 0) (a_cons (e_op or_add d_add (pv_ (e_var 1)) (pv_ (e_int))) (a_nil)))) (a_cons (e_op or_add d_add (pv_ (e_lst (a_cons (e_int) (a_cons (e_int) (a_nil))))) (pv_ (e_op or_mul d_mul (pv_ (e_lst (a_cons (e_int) (a_nil)))) (pv_ (e_int))))) (a_nil)))) (a_cons (e_ix (pv_ (e_var 3)) (pv_ (e_int))) (a_nil)))))
  (s_one (s_ret (e_lst (a_cons (e_ix (pv_ (e_var 3)) (pv_ (e_int))) (a_cons (e_ix (pv_ (e_var 3)) (pv_ (e_int))) (a_cons (e_var 4) (a_nil)))))))))
  · exact fun j hj => ⟨[], by cases j <;> first | exact .nil | (exact absurd hj (by simp)), FD.bindsN fun _ _ _ _ _ _ us hl => match us, hl with | [_, _, _], _ => rfl⟩
theorem sc__law_near : FnScope ["_law_size", "_law_lines", "_law_k", "_law_near_here", "_law_line", "_law_row"] ["_law_size", "_law_lines"] (defScope s__law_near) := ⟨rfl, rfl, rfl, by decide +kernel, rfl, by decide +kernel, by decide +kernel⟩
theorem ok__law_near {f__law_near : Addr} {fd : FuncData} (FD : FunD K "_law_near" "_law_near" (defArgs s__law_near) (defBody s__law_near) (defScope s__law_near) [] [] f__law_near fd) (T : Txt P w K mg cm)   : DefP P w K mg base cm 1 2 f__law_near d__law_near [] := by
  refine ⟨fd, ["_law_size", "_law_lines"], [], fn_ok FD sc__law_near (fun cdv A outer s H E S0 F0 hr tk => ?_), fun S => .nil, ?_⟩
  ·
    exact (s_cons (s_setLcT sc__law_near.nd rfl rfl rfl (own := [("_law_k", 2)]) (i_v (i_range1 T.m_range (a_cons (e_var 0) (a_nil)))) (blkOk_by (by kernel_rfl)) (fun _ _ _ _ _ => g_name sc__law_near.nd rfl (by first | exact Or.inl rfl | exact Or.inr rfl)) (fun _ _ _ _ _ => ts_nil) (fun _ _ _ _ _ => f_lst (a_nil)))
  (s_cons (s_for (i_e (e_var 1)) (g_name sc__law_near.nd rfl (by first | exact Or.inl rfl | exact Or.inr rfl))
  (s_cons (s_appP (pe_bm PySem.F.plainAttrs_list PySem.F.slot_list_append PySem.F.type_list_append mt_append (pe_ix ix_seq (pe_var rfl (by first | exact Or.inl rfl | exact Or.inr (Or.inl rfl) | exact Or.inr (Or.inr rfl))) (pv_ (e_ix (pv_ (e_var 4)) (pv_ (e_int)))) (fun _ _ => rfl)) (pa_cons (f_e (e_ix (pv_ (e_var 4)) (pv_ (e_int)))) pa_nil)))
  (s_one (s_appP (pe_bm PySem.F.plainAttrs_list PySem.F.slot_list_append PySem.F.type_list_append mt_append (pe_ix ix_seq (pe_var rfl (by first | exact Or.inl rfl | exact Or.inr (Or.inl rfl) | exact Or.inr (Or.inr rfl))) (pv_ (e_ix (pv_ (e_var 4)) (pv_ (e_int)))) (fun _ _ => rfl)) (pa_cons (f_e (e_ix (pv_ (e_var 4)) (pv_ (e_int)))) pa_nil))))))
  (s_one (s_frz 3 (s_ret (e_lc (own := [("_law_row", 5)]) (i_view (pv_ (e_var 3))) (blkOk_by (by kernel_rfl)) (fun _ _ _ _ _ => g_name sc__law_near.nd rfl (by first | exact Or.inl rfl | exact Or.inr rfl)) (fun _ _ _ _ _ => ts_nil) (fun _ _ _ _ _ => e_callB cr_sortedI (opN_of d_sortF) T.m_sorted b_sorted (va_cons (pv_ (e_var 5)) (va_nil))) sc__law_near.nd))))))
  · exact fun j hj => ⟨[], by cases j <;> first | exact .nil | (exact absurd hj (by simp)), FD.bindsN fun _ _ _ _ _ _ us hl => match us, hl with | [_, _], _ => rfl⟩
theorem sc_frozen : FnScope ["value", "item"] ["value"] (defScope s_frozen) := ⟨rfl, rfl, rfl, by decide +kernel, rfl, by decide +kernel, by decide +kernel⟩
theorem ok_frozen {f_frozen : Addr} {fd : FuncData} (FD : FunD K "frozen" "frozen" (defArgs s_frozen) (defBody s_frozen) (defScope s_frozen) [] [] f_frozen fd) (T : Txt P w K mg cm)   (A_self : At K mg "frozen" f_frozen) : ∀ k : Nat, DefP P w K mg base cm (1 + k) 1 f_frozen (d_frozen k) []
  | 0 => ⟨fd, ["value"], [], (fn_ok FD sc_frozen (F := neverS) fun cdv A outer s H E S0 F0 hr tk => ss_never), fun S => .nil, fun j hj => ⟨[], by cases j <;> first | exact .nil | (exact absurd hj (by simp)), FD.bindsN fun _ _ _ _ _ _ us hl => match us, hl with | [_], _ => rfl⟩⟩
  | k + 1 => by
    have G_self := ok_frozen FD T  A_self k
    refine ⟨fd, ["value"], [], fn_ok FD sc_frozen (fun cdv A outer s H E S0 F0 hr tk => ?_), fun S => .nil, fun j hj => ⟨[], by cases j <;> first | exact .nil | (exact absurd hj (by simp)), FD.bindsN fun _ _ _ _ _ _ us hl => match us, hl with | [_], _ => rfl⟩⟩
    exact (s_cons (s_if (t_val (e_isiT T.cls (List.forall_mem_cons.mpr ⟨T.kb_list, List.forall_mem_cons.mpr ⟨T.kb_tuple, List.forall_mem_nil _⟩⟩) (by decide) T.m_isinstance (pv_ (e_var 0)) (pa_cons (pe_bltn rfl T.m_list b_list rfl) (pa_cons (pe_bltn rfl T.m_tuple b_tuple rfl) (pa_nil)))))
  (s_one (s_ret (e_callT call_tuple_of d_tuple T.m_tuple b_tuple (va_cons (pv_ (e_lc (own := [("item", 1)]) (i_view (pv_ (e_var 0))) (blkOk_by (by kernel_rfl)) (fun _ _ _ _ _ => g_name sc_frozen.nd rfl (by first | exact Or.inl rfl | exact Or.inr rfl)) (fun _ _ _ _ _ => ts_nil) (fun _ _ _ _ _ => e_callP 0 G_self A_self takesF hr (Nat.zero_le _) (a_cons (e_var 1) (a_nil))) sc_frozen.nd)) (va_nil)))))
  (s_nil))
  (s_one (s_ret (e_var 0))))
theorem sc_BadPicture___init__ : FnScope ["self", "index"] ["self", "index"] (defScope s_BadPicture___init__) := ⟨rfl, rfl, rfl, by decide +kernel, rfl, by decide +kernel, by decide +kernel⟩
theorem okx_BadPicture___init__ {f_BadPicture___init__ : Addr} {fd : FuncData} (FD : FunD K "__init__" "BadPicture.__init__" (defArgs s_BadPicture___init__) (defBody s_BadPicture___init__) (defScope s_BadPicture___init__) [] [] f_BadPicture___init__ fd) : XP1 P w K mg base 1 f_BadPicture___init__ "index" := ⟨fd, ["self", "index"], rfl, xinit1 FD sc_BadPicture___init__ (fun cdv A outer s H E => pss_one (ps_ost (pe_var rfl (Or.inl rfl)) (pe_var rfl (Or.inl rfl)))), FD.bindsN fun _ _ _ _ _ _ us hl => match us, hl with | [_, _], _ => rfl⟩
theorem sc_Scene___init__ : FnScope ["self", "web", "picture", "states", "index"] ["self", "web", "picture"] (defScope s_Scene___init__) := ⟨rfl, rfl, rfl, by decide +kernel, rfl, by decide +kernel, by decide +kernel⟩
theorem ok_Scene___init__ {f_BadPicture___init__ : Addr} {f_Scene___init__ : Addr} {f_frozen : Addr} {fd : FuncData} (FD : FunD K "__init__" "Scene.__init__" (defArgs s_Scene___init__) (defBody s_Scene___init__) (defScope s_Scene___init__) [] [] f_Scene___init__ fd) (T : Txt P w K mg cm)  (G_frozen : DefP P w K mg base cm 7 1 f_frozen (d_frozen 6) []) (A_frozen : At K mg "frozen" f_frozen) (GX_BadPicture : XP1 P w K mg base 1 f_BadPicture___init__ "index") (XA_BadPicture : XAt K mg cm "BadPicture" 10 f_BadPicture___init__) : IniP P w K mg base cm 8 2 39 f_Scene___init__ d_Scene___init__ [] := by
  refine ⟨fd, ["self", "web", "picture"], [], init_ok T.in_Scene FD sc_Scene___init__ rfl (fun cdv A outer s H E S0 F0 x hr tk => ?_), fun S => .nil, ?_⟩
  ·
    exact (s_cons (s_set sc_Scene___init__.nd rfl (by first | exact Or.inl rfl | exact Or.inr rfl) (e_callP 0 G_frozen A_frozen tk (hr.mono (by decide)) (by decide) (a_cons (e_var 2) (a_nil))))
  (s_cons (s_for (i_range1 T.m_range (a_cons (e_callB (call_max2 rfl) d_max2 T.m_max b_max (va_cons (pv_ (e_fld T.f_size (e_var 1))) (va_cons (pv_ (e_callB c_len d_len T.m_len b_len (va_cons (pv_ (e_var 3)) (va_nil)))) (va_nil)))) (a_nil))) (g_name sc_Scene___init__.nd rfl (by first | exact Or.inl rfl | exact Or.inr rfl))
  (s_one (s_if (t_w (w_or (t_cmp op_ge d_ge (pv_ (e_var 4)) (pv_ (e_fld T.f_size (e_var 1))) (by rfl)) (w_or (t_cmp op_ge d_ge (pv_ (e_var 4)) (pv_ (e_callB c_len d_len T.m_len b_len (va_cons (pv_ (e_var 3)) (va_nil)))) (by rfl)) (w_or1 (t_cmp (or_notIn hr) d_notIn (pv_ (e_ix (pv_ (e_var 3)) (pv_ (e_var 4)))) (pv_ (e_tup (a_cons (e_int) (a_cons (e_int) (a_cons (e_int) (a_nil)))))) (by rfl))))))
  (s_one (s_raise1 GX_BadPicture XA_BadPicture T.xnm_BadPicture T.xno_BadPicture_index tk (hr.mono (by decide)) (e_var 4)))
  (s_nil))))
  (s_cons (s_slf (T.f_web (39, 0) (by decide) T.in_Scene) (by rw [T.nm_Scene]; decide) (pe_var rfl (Or.inl rfl)) (e_var 1))
  (s_one (s_slf (T.f_picture (39, 1) (by decide) T.in_Scene) (by rw [T.nm_Scene]; decide) (pe_var rfl (Or.inl rfl)) (e_var 3))))))
  · exact fun j hj => ⟨[], by cases j <;> first | exact .nil | (exact absurd hj (by simp)), FD.bindsN fun _ _ _ _ _ _ us hl => match us, hl with | [_, _, _], _ => rfl⟩
theorem sc_BadLine___init__ : FnScope ["self", "index"] ["self", "index"] (defScope s_BadLine___init__) := ⟨rfl, rfl, rfl, by decide +kernel, rfl, by decide +kernel, by decide +kernel⟩
theorem okx_BadLine___init__ {f_BadLine___init__ : Addr} {fd : FuncData} (FD : FunD K "__init__" "BadLine.__init__" (defArgs s_BadLine___init__) (defBody s_BadLine___init__) (defScope s_BadLine___init__) [] [] f_BadLine___init__ fd) : XP1 P w K mg base 1 f_BadLine___init__ "index" := ⟨fd, ["self", "index"], rfl, xinit1 FD sc_BadLine___init__ (fun cdv A outer s H E => pss_one (ps_ost (pe_var rfl (Or.inl rfl)) (pe_var rfl (Or.inl rfl)))), FD.bindsN fun _ _ _ _ _ _ us hl => match us, hl with | [_, _], _ => rfl⟩
theorem sc_checked_lines : FnScope ["size", "pairs", "index", "a", "b"] ["size", "pairs"] (defScope s_checked_lines) := ⟨rfl, rfl, rfl, by decide +kernel, rfl, by decide +kernel, by decide +kernel⟩
theorem ok_checked_lines {f_BadLine___init__ : Addr} {f_checked_lines : Addr} {fd : FuncData} (FD : FunD K "checked_lines" "checked_lines" (defArgs s_checked_lines) (defBody s_checked_lines) (defScope s_checked_lines) [] [] f_checked_lines fd) (T : Txt P w K mg cm)  (GX_BadLine : XP1 P w K mg base 1 f_BadLine___init__ "index") (XA_BadLine : XAt K mg cm "BadLine" 7 f_BadLine___init__) : DefP P w K mg base cm 3 2 f_checked_lines d_checked_lines [] := by
  refine ⟨fd, ["size", "pairs"], [], fn_ok FD sc_checked_lines (fun cdv A outer s H E S0 F0 hr tk => ?_), fun S => .nil, ?_⟩
  ·
    exact (s_cons (s_for (i_enum T.m_enumerate (a_cons (e_var 1) (a_nil))) (g_tup rfl (gs_cons (g_name sc_checked_lines.nd rfl (by first | exact Or.inl rfl | exact Or.inr rfl)) (gs_cons (g_tup rfl (gs_cons (g_name sc_checked_lines.nd rfl (by first | exact Or.inl rfl | exact Or.inr rfl)) (gs_cons (g_name sc_checked_lines.nd rfl (by first | exact Or.inl rfl | exact Or.inr rfl)) (gs_nil)))) (gs_nil))))
  (s_one (s_if (t_w (w_or (t_cmp (or_eq hr) d_eq (pv_ (e_var 3)) (pv_ (e_var 4)) (by rfl)) (w_or (t_not (t_chain op_le d_le op_lt d_lt (pv_ (e_int)) (pv_ (e_var 3)) (pv_ (e_var 0)))) (w_or1 (t_not (t_chain op_le d_le op_lt d_lt (pv_ (e_int)) (pv_ (e_var 4)) (pv_ (e_var 0))))))))
  (s_one (s_raise1 GX_BadLine XA_BadLine T.xnm_BadLine T.xno_BadLine_index tk (hr.mono (by decide)) (e_var 2)))
  (s_nil))))
  (s_one (s_ret (e_callT call_tuple_of d_tuple T.m_tuple b_tuple (va_cons (pv_ (e_callB (cr_sortedT rfl) (opN_of (d_sortU T.hset)) T.m_sorted b_sorted (va_cons (pv_ (e_sc T.hset hr (own := [("a", 3), ("b", 4)]) (i_view (pv_ (e_var 1))) (blkOk_by (by kernel_rfl)) (fun _ _ _ _ _ => g_tup rfl (gs_cons (g_name sc_checked_lines.nd rfl (by first | exact Or.inl rfl | exact Or.inr rfl)) (gs_cons (g_name sc_checked_lines.nd rfl (by first | exact Or.inl rfl | exact Or.inr rfl)) (gs_nil)))) (fun _ _ _ _ _ => ts_nil) (fun _ _ _ _ _ => e_tup (a_cons (e_callB (call_min2 rfl) d_min2 T.m_min b_min (va_cons (pv_ (e_var 3)) (va_cons (pv_ (e_var 4)) (va_nil)))) (a_cons (e_callB (call_max2 rfl) d_max2 T.m_max b_max (va_cons (pv_ (e_var 3)) (va_cons (pv_ (e_var 4)) (va_nil)))) (a_nil)))) sc_checked_lines.nd)) (va_nil)))) (va_nil))))))
  · exact fun j hj => ⟨[], by cases j <;> first | exact .nil | (exact absurd hj (by simp)), FD.bindsN fun _ _ _ _ _ _ us hl => match us, hl with | [_, _], _ => rfl⟩
theorem sc_neighbour_rows : FnScope ["size", "lines", "place", "rows", "a", "b", "row"] ["size", "lines"] (defScope s_neighbour_rows) := ⟨rfl, rfl, rfl, by decide +kernel, rfl, by decide +kernel, by decide +kernel⟩
theorem ok_neighbour_rows {f_neighbour_rows : Addr} {fd : FuncData} (FD : FunD K "neighbour_rows" "neighbour_rows" (defArgs s_neighbour_rows) (defBody s_neighbour_rows) (defScope s_neighbour_rows) [] [] f_neighbour_rows fd) (T : Txt P w K mg cm)   : DefP P w K mg base cm 1 2 f_neighbour_rows d_neighbour_rows [] := by
  refine ⟨fd, ["size", "lines"], [], fn_ok FD sc_neighbour_rows (fun cdv A outer s H E S0 F0 hr tk => ?_), fun S => .nil, ?_⟩
  ·
    exact (s_cons (s_setLcT sc_neighbour_rows.nd rfl rfl rfl (own := [("place", 2)]) (i_v (i_range1 T.m_range (a_cons (e_var 0) (a_nil)))) (blkOk_by (by kernel_rfl)) (fun _ _ _ _ _ => g_name sc_neighbour_rows.nd rfl (by first | exact Or.inl rfl | exact Or.inr rfl)) (fun _ _ _ _ _ => ts_nil) (fun _ _ _ _ _ => f_lst (a_nil)))
  (s_cons (s_for (i_e (e_var 1)) (g_tup rfl (gs_cons (g_name sc_neighbour_rows.nd rfl (by first | exact Or.inl rfl | exact Or.inr rfl)) (gs_cons (g_name sc_neighbour_rows.nd rfl (by first | exact Or.inl rfl | exact Or.inr rfl)) (gs_nil))))
  (s_cons (s_appP (pe_bm PySem.F.plainAttrs_list PySem.F.slot_list_append PySem.F.type_list_append mt_append (pe_ix ix_seq (pe_var rfl (by first | exact Or.inl rfl | exact Or.inr (Or.inl rfl) | exact Or.inr (Or.inr rfl))) (pv_ (e_var 4)) (fun _ _ => rfl)) (pa_cons (f_e (e_var 5)) pa_nil)))
  (s_one (s_appP (pe_bm PySem.F.plainAttrs_list PySem.F.slot_list_append PySem.F.type_list_append mt_append (pe_ix ix_seq (pe_var rfl (by first | exact Or.inl rfl | exact Or.inr (Or.inl rfl) | exact Or.inr (Or.inr rfl))) (pv_ (e_var 5)) (fun _ _ => rfl)) (pa_cons (f_e (e_var 4)) pa_nil))))))
  (s_one (s_frz 3 (s_ret (e_callT call_tuple_of d_tuple T.m_tuple b_tuple (va_cons (pv_ (e_lc (own := [("row", 6)]) (i_view (pv_ (e_var 3))) (blkOk_by (by kernel_rfl)) (fun _ _ _ _ _ => g_name sc_neighbour_rows.nd rfl (by first | exact Or.inl rfl | exact Or.inr rfl)) (fun _ _ _ _ _ => ts_nil) (fun _ _ _ _ _ => e_callT call_tuple_of d_tuple T.m_tuple b_tuple (va_cons (pv_ (e_callB cr_sortedI (opN_of d_sortF) T.m_sorted b_sorted (va_cons (pv_ (e_var 6)) (va_nil)))) (va_nil))) sc_neighbour_rows.nd)) (va_nil))))))))
  · exact fun j hj => ⟨[], by cases j <;> first | exact .nil | (exact absurd hj (by simp)), FD.bindsN fun _ _ _ _ _ _ us hl => match us, hl with | [_, _], _ => rfl⟩
theorem sc_Web___init__ : FnScope ["self", "size", "lines"] ["self", "size", "lines"] (defScope s_Web___init__) := ⟨rfl, rfl, rfl, by decide +kernel, rfl, by decide +kernel, by decide +kernel⟩
theorem ok_Web___init__ {f_Web___init__ : Addr} {f_checked_lines : Addr} {f_frozen : Addr} {f_neighbour_rows : Addr} {t0_Web___init__ : Addr} {fd : FuncData} (FD : FunD K "__init__" "Web.__init__" (defArgs s_Web___init__) (defBody s_Web___init__) (defScope s_Web___init__) [.ref t0_Web___init__] [] f_Web___init__ fd) (T : Txt P w K mg cm) (e0_Web___init__ : ∃ o m, K.lookup t0_Web___init__ = some o ∧ o.cls = .type "tuple" ∧ o.data = .seq #[] m) (G_checked_lines : DefP P w K mg base cm 3 2 f_checked_lines d_checked_lines []) (A_checked_lines : At K mg "checked_lines" f_checked_lines) (G_frozen : DefP P w K mg base cm 7 1 f_frozen (d_frozen 6) []) (A_frozen : At K mg "frozen" f_frozen) (G_neighbour_rows : DefP P w K mg base cm 1 2 f_neighbour_rows d_neighbour_rows []) (A_neighbour_rows : At K mg "neighbour_rows" f_neighbour_rows) : IniP P w K mg base cm 8 2 46 f_Web___init__ d_Web___init__ [.tup []] := by
  refine ⟨fd, ["self", "size", "lines"], [.ref t0_Web___init__], init_ok T.in_Web FD sc_Web___init__ rfl (fun cdv A outer s H E S0 F0 x hr tk => ?_), fun S => .cons (match e0_Web___init__ with | ⟨_, _, a, b, c⟩ => rep_t0 a b c S) .nil, ?_⟩
  ·
    exact (s_cons (s_slf (T.f_size (46, 0) (by decide) T.in_Web) (by rw [T.nm_Web]; decide) (pe_var rfl (Or.inl rfl)) (e_var 1))
  (s_cons (s_slf (T.f_lines (46, 1) (by decide) T.in_Web) (by rw [T.nm_Web]; decide) (pe_var rfl (Or.inl rfl)) (e_callP 0 G_checked_lines A_checked_lines tk (hr.mono (by decide)) (by decide) (a_cons (e_var 1) (a_cons (e_callP 0 G_frozen A_frozen tk (hr.mono (by decide)) (by decide) (a_cons (e_var 2) (a_nil))) (a_nil)))))
  (s_one (s_slf (T.f_around (46, 2) (by decide) T.in_Web) (by rw [T.nm_Web]; decide) (pe_var rfl (Or.inl rfl)) (e_callP 0 G_neighbour_rows A_neighbour_rows tk (hr.mono (by decide)) (by decide) (a_cons (e_var 1) (a_cons (e_slf (T.f_lines (46, 1) (by decide) T.in_Web) (pe_var rfl (Or.inl rfl))) (a_nil))))))))
  · exact fun j hj => match j, hj with
    | 0, _ => FD.binds1 2 0 (by simp) rfl fun _ _ _ _ _ _ _ us its hl hi => match us, its, hl, hi with | [_, _], [_], _, _ => ⟨_, rfl, rfl⟩
    | 1, _ => FD.binds1 3 1 (by simp) rfl fun _ _ _ _ _ _ _ us its hl hi => match us, its, hl, hi with | [_, _, _], [_], _, _ => ⟨_, rfl, rfl⟩
    | _ + 2, hj => absurd hj (by simp)
theorem sc__law_pieces : FnScope ["_law_near_here", "_law_groups", "_law_done", "_law_place", "_law_piece", "_law_k", "_law_other"] ["_law_near_here"] (defScope s__law_pieces) := ⟨rfl, rfl, rfl, by decide +kernel, rfl, by decide +kernel, by decide +kernel⟩
theorem ok__law_pieces {f__law_pieces : Addr} {fd : FuncData} (FD : FunD K "_law_pieces" "_law_pieces" (defArgs s__law_pieces) (defBody s__law_pieces) (defScope s__law_pieces) [] [] f__law_pieces fd) (T : Txt P w K mg cm)   : DefP P w K mg base cm 1 1 f__law_pieces d__law_pieces [] := by
  refine ⟨fd, ["_law_near_here"], [], fn_ok FD sc__law_pieces (fun cdv A outer s H E S0 F0 hr tk => ?_), fun S => .nil, ?_⟩
  ·
    exact (s_cons (s_setF sc__law_pieces.nd rfl (by first | exact Or.inl rfl | exact Or.inr rfl) (f_lst (a_nil)))
  (s_cons (s_setF sc__law_pieces.nd rfl (by first | exact Or.inl rfl | exact Or.inr rfl) (f_lst (a_nil)))
  (s_cons (s_for (i_range1 T.m_range (a_cons (e_callB c_len d_len T.m_len b_len (va_cons (pv_ (e_var 0)) (va_nil))) (a_nil))) (g_name sc__law_pieces.nd rfl (by first | exact Or.inl rfl | exact Or.inr rfl))
  (s_one (s_if (t_cmp (or_notIn hr) d_notIn (pv_ (e_var 3)) (v_var 2) (by rfl))
  (s_cons (s_setF sc__law_pieces.nd rfl (by first | exact Or.inl rfl | exact Or.inr rfl) (f_lst (a_cons (e_var 3) (a_nil))))
  (s_cons (s_for (i_range1 T.m_range (a_cons (e_callB c_len d_len T.m_len b_len (va_cons (pv_ (e_var 0)) (va_nil))) (a_nil))) (g_name sc__law_pieces.nd rfl (by first | exact Or.inl rfl | exact Or.inr rfl))
  (s_one (s_if (t_cmp op_lt d_lt (pv_ (e_var 5)) (pv_ (e_callB c_len d_len T.m_len b_len (va_cons (v_var 4) (va_nil)))) (by rfl))
  (s_one (s_ext (pe_bm PySem.F.plainAttrs_list PySem.F.slot_list_extend PySem.F.type_list_extend mt_extend (pe_var rfl (by first | exact Or.inl rfl | exact Or.inr (Or.inl rfl) | exact Or.inr (Or.inr rfl))) (pa_cons (e_lc (own := [("_law_other", 6)]) (i_view (pv_ (e_ix (pv_ (e_var 0)) (pv_ (e_ix (v_var 4) (pv_ (e_var 5))))))) (blkOk_by (by kernel_rfl)) (fun _ _ _ _ _ => g_name sc__law_pieces.nd rfl (by first | exact Or.inl rfl | exact Or.inr rfl)) (fun _ _ _ _ _ => ts_one (t_cmp (or_notIn hr) d_notIn (pv_ (e_var 6)) (v_var 4) (by rfl))) (fun _ _ _ _ _ => e_var 6) sc__law_pieces.nd) pa_nil))))
  (s_nil))))
  (s_cons (s_frz 4 (s_ext (pe_bm PySem.F.plainAttrs_list PySem.F.slot_list_extend PySem.F.type_list_extend mt_extend (pe_var rfl (by first | exact Or.inl rfl | exact Or.inr (Or.inl rfl) | exact Or.inr (Or.inr rfl))) (pa_cons (e_var 4) pa_nil))))
  (s_one (s_app (pe_bm PySem.F.plainAttrs_list PySem.F.slot_list_append PySem.F.type_list_append mt_append (pe_var rfl (by first | exact Or.inl rfl | exact Or.inr (Or.inl rfl) | exact Or.inr (Or.inr rfl))) (pa_cons (f_e (e_callB cr_sortedI (opN_of d_sortF) T.m_sorted b_sorted (va_cons (pv_ (e_var 4)) (va_nil)))) pa_nil)))))))
  (s_nil))))
  (s_one (s_frz 1 (s_ret (e_var 1)))))))
  · exact fun j hj => ⟨[], by cases j <;> first | exact .nil | (exact absurd hj (by simp)), FD.bindsN fun _ _ _ _ _ _ us hl => match us, hl with | [_], _ => rfl⟩
theorem sc__law_step : FnScope ["_law_near_here", "_law_picture_here", "_law_poked", "_law_later", "_law_place", "_law_state", "_law_other", "_law_heard"] ["_law_near_here", "_law_picture_here", "_law_poked"] (defScope s__law_step) := ⟨rfl, rfl, rfl, by decide +kernel, rfl, by decide +kernel, by decide +kernel⟩
theorem ok__law_step {f__law_step : Addr} {fd : FuncData} (FD : FunD K "_law_step" "_law_step" (defArgs s__law_step) (defBody s__law_step) (defScope s__law_step) [] [] f__law_step fd) (T : Txt P w K mg cm)   : DefP P w K mg base cm 1 3 f__law_step d__law_step [] := by
  refine ⟨fd, ["_law_near_here", "_law_picture_here", "_law_poked"], [], fn_ok FD sc__law_step (fun cdv A outer s H E S0 F0 hr tk => ?_), fun S => .nil, ?_⟩
  ·
    exact (s_cons (s_setF sc__law_step.nd rfl (by first | exact Or.inl rfl | exact Or.inr rfl) (f_lst (a_nil)))
  (s_cons (s_for (i_range1 T.m_range (a_cons (e_callB c_len d_len T.m_len b_len (va_cons (pv_ (e_var 1)) (va_nil))) (a_nil))) (g_name sc__law_step.nd rfl (by first | exact Or.inl rfl | exact Or.inr rfl))
  (s_cons (s_set sc__law_step.nd rfl (by first | exact Or.inl rfl | exact Or.inr rfl) (e_ix (pv_ (e_var 1)) (pv_ (e_var 4))))
  (s_one (s_if (t_cmp op_gt d_gt (pv_ (e_var 5)) (pv_ (e_int)) (by rfl))
  (s_one (s_app (pe_bm PySem.F.plainAttrs_list PySem.F.slot_list_append PySem.F.type_list_append mt_append (pe_var rfl (by first | exact Or.inl rfl | exact Or.inr (Or.inl rfl) | exact Or.inr (Or.inr rfl))) (pa_cons (f_e (e_ix (pv_ (e_lst (a_cons (e_int) (a_cons (e_int) (a_cons (e_int) (a_nil)))))) (pv_ (e_var 5)))) pa_nil))))
  (s_cons (s_setLc sc__law_step.nd rfl rfl rfl (own := [("_law_other", 6)]) (i_view (pv_ (e_ix (pv_ (e_var 0)) (pv_ (e_var 4))))) (blkOk_by (by kernel_rfl)) (fun _ _ _ _ _ => g_name sc__law_step.nd rfl (by first | exact Or.inl rfl | exact Or.inr rfl)) (fun _ _ _ _ _ => ts_one (t_cmp (or_eq hr) d_eq (pv_ (e_ix (pv_ (e_var 1)) (pv_ (e_var 6)))) (pv_ (e_int)) (by rfl))) (fun _ _ _ _ _ => e_var 6))
  (s_one (s_app (pe_bm PySem.F.plainAttrs_list PySem.F.slot_list_append PySem.F.type_list_append mt_append (pe_var rfl (by first | exact Or.inl rfl | exact Or.inr (Or.inl rfl) | exact Or.inr (Or.inr rfl))) (pa_cons (f_e (e_callT call_int1 d_toInt T.m_int b_int (va_cons (pv_ (e_or (e_cmp op_gt d_gt (pv_ (e_callB c_len d_len T.m_len b_len (va_cons (pv_ (e_var 7)) (va_nil)))) (pv_ (e_int)) (by rfl)) (e_one (e_cmp (or_in hr) d_in (pv_ (e_var 4)) (pv_ (e_var 2)) (by rfl))))) (va_nil)))) pa_nil)))))))))
  (s_one (s_frz 3 (s_ret (e_callT call_tuple_of d_tuple T.m_tuple b_tuple (va_cons (pv_ (e_var 3)) (va_nil))))))))
  · exact fun j hj => ⟨[], by cases j <;> first | exact .nil | (exact absurd hj (by simp)), FD.bindsN fun _ _ _ _ _ _ us hl => match us, hl with | [_, _, _], _ => rfl⟩
theorem sc__law_round : FnScope ["_law_near_here", "_law_picture_here", "_law_period", "_law_pokes", "_law_shots", "_law_known", "_law_beat", "_law_poke", "_law_later", "_law_key"] ["_law_near_here", "_law_picture_here", "_law_period", "_law_pokes"] (defScope s__law_round) := ⟨rfl, rfl, rfl, by decide +kernel, rfl, by decide +kernel, by decide +kernel⟩
theorem ok__law_round {f__law_round : Addr} {f__law_step : Addr} {fd : FuncData} (FD : FunD K "_law_round" "_law_round" (defArgs s__law_round) (defBody s__law_round) (defScope s__law_round) [] [] f__law_round fd) (T : Txt P w K mg cm)  (G__law_step : DefP P w K mg base cm 1 3 f__law_step d__law_step []) (A__law_step : At K mg "_law_step" f__law_step) : DefP P w K mg base cm 2 4 f__law_round d__law_round [] := by
  refine ⟨fd, ["_law_near_here", "_law_picture_here", "_law_period", "_law_pokes"], [], fn_ok FD sc__law_round (fun cdv A outer s H E S0 F0 hr tk => ?_), fun S => .nil, ?_⟩
  ·
    exact (s_cons (s_setF sc__law_round.nd rfl (by first | exact Or.inl rfl | exact Or.inr rfl) (f_lst (a_cons (e_callT call_tuple_of d_tuple T.m_tuple b_tuple (va_cons (pv_ (e_var 1)) (va_nil))) (a_nil))))
  (s_cons (s_setF sc__law_round.nd rfl (by first | exact Or.inl rfl | exact Or.inr rfl) (f_nlit T.hnd hr (e_tup (a_cons (e_callT call_tuple_of d_tuple T.m_tuple b_tuple (va_cons (pv_ (e_var 1)) (va_nil))) (a_cons (e_int) (a_nil)))) (e_int)))
  (s_cons (s_for (i_range1 T.m_range (a_cons (e_int) (a_nil))) (g_name sc__law_round.nd rfl (by first | exact Or.inl rfl | exact Or.inr rfl))
  (s_cons (s_set sc__law_round.nd rfl (by first | exact Or.inl rfl | exact Or.inr rfl) (e_callP 0 G__law_step A__law_step tk (hr.mono (by decide)) (by decide) (a_cons (e_var 0) (a_cons (e_ix (v_var 4) (pv_ (e_var 6))) (a_cons (e_lc (own := [("_law_poke", 7)]) (i_view (pv_ (e_var 3))) (blkOk_by (by kernel_rfl)) (fun _ _ _ _ _ => g_name sc__law_round.nd rfl (by first | exact Or.inl rfl | exact Or.inr rfl)) (fun _ _ _ _ _ => ts_one (t_cmp (or_eq hr) d_eq (pv_ (e_ix (pv_ (e_var 7)) (pv_ (e_int)))) (pv_ (e_op op_mod d_mod (pv_ (e_var 6)) (pv_ (e_var 2)))) (by rfl))) (fun _ _ _ _ _ => e_ix (pv_ (e_var 7)) (pv_ (e_int))) sc__law_round.nd) (a_nil))))))
  (s_cons (s_set sc__law_round.nd rfl (by first | exact Or.inl rfl | exact Or.inr rfl) (e_tup (a_cons (e_var 8) (a_cons (e_op op_mod d_mod (pv_ (e_callT call_int1 d_toInt T.m_int b_int (va_cons (pv_ (e_op or_add d_add (pv_ (e_var 6)) (pv_ (e_int)))) (va_nil)))) (pv_ (e_var 2))) (a_nil)))))
  (s_cons (s_if (t_nin T.hnd hr (e_var 9) (pe_var rfl (by first | exact Or.inl rfl | exact Or.inr (Or.inl rfl) | exact Or.inr (Or.inr rfl))))
  (s_one (s_frz 4 (s_ret (e_lst (a_cons (e_nix T.hnd hr (pe_var rfl (by first | exact Or.inl rfl | exact Or.inr (Or.inl rfl) | exact Or.inr (Or.inr rfl))) (e_var 9)) (a_cons (e_op op_sub d_sub (pv_ (e_op or_add d_add (pv_ (e_var 6)) (pv_ (e_int)))) (pv_ (e_nix T.hnd hr (pe_var rfl (by first | exact Or.inl rfl | exact Or.inr (Or.inl rfl) | exact Or.inr (Or.inr rfl))) (e_var 9)))) (a_cons (e_var 4) (a_nil))))))))
  (s_nil))
  (s_cons (s_nput T.hnd hr (pe_var rfl (by first | exact Or.inl rfl | exact Or.inr (Or.inl rfl) | exact Or.inr (Or.inr rfl))) (e_var 9) (e_op or_add d_add (pv_ (e_var 6)) (pv_ (e_int))))
  (s_one (s_app (pe_bm PySem.F.plainAttrs_list PySem.F.slot_list_append PySem.F.type_list_append mt_append (pe_var rfl (by first | exact Or.inl rfl | exact Or.inr (Or.inl rfl) | exact Or.inr (Or.inr rfl))) (pa_cons (f_e (e_var 8)) pa_nil)))))))))
  (s_one (s_frz 4 (s_ret (e_lst (a_cons (e_int) (a_cons (e_int) (a_cons (e_var 4) (a_nil)))))))))))
  · exact fun j hj => ⟨[], by cases j <;> first | exact .nil | (exact absurd hj (by simp)), FD.bindsN fun _ _ _ _ _ _ us hl => match us, hl with | [_, _, _, _], _ => rfl⟩
theorem sc__law_lowest : FnScope ["_law_p", "_law_q", "_law_a", "_law_b", "_law_k", "_law_rest"] ["_law_p", "_law_q"] (defScope s__law_lowest) := ⟨rfl, rfl, rfl, by decide +kernel, rfl, by decide +kernel, by decide +kernel⟩
theorem ok__law_lowest {f__law_lowest : Addr} {fd : FuncData} (FD : FunD K "_law_lowest" "_law_lowest" (defArgs s__law_lowest) (defBody s__law_lowest) (defScope s__law_lowest) [] [] f__law_lowest fd) (T : Txt P w K mg cm)   : DefP P w K mg base cm 1 2 f__law_lowest d__law_lowest [] := by
  refine ⟨fd, ["_law_p", "_law_q"], [], fn_ok FD sc__law_lowest (fun cdv A outer s H E S0 F0 hr tk => ?_), fun S => .nil, ?_⟩
  ·
    exact (s_cons (s_set sc__law_lowest.nd rfl (by first | exact Or.inl rfl | exact Or.inr rfl) (e_var 1))
  (s_cons (s_set sc__law_lowest.nd rfl (by first | exact Or.inl rfl | exact Or.inr rfl) (e_var 0))
  (s_cons (s_for (i_range1 T.m_range (a_cons (e_int) (a_nil))) (g_name sc__law_lowest.nd rfl (by first | exact Or.inl rfl | exact Or.inr rfl))
  (s_one (s_if (t_cmp op_gt d_gt (pv_ (e_var 3)) (pv_ (e_int)) (by rfl))
  (s_cons (s_set sc__law_lowest.nd rfl (by first | exact Or.inl rfl | exact Or.inr rfl) (e_op op_mod d_mod (pv_ (e_callT call_int1 d_toInt T.m_int b_int (va_cons (pv_ (e_var 2)) (va_nil)))) (pv_ (e_var 3))))
  (s_cons (s_set sc__law_lowest.nd rfl (by first | exact Or.inl rfl | exact Or.inr rfl) (e_var 3))
  (s_one (s_set sc__law_lowest.nd rfl (by first | exact Or.inl rfl | exact Or.inr rfl) (e_var 5)))))
  (s_nil))))
  (s_one (s_ret (e_tup (a_cons (e_op op_fdivW d_div (pv_ (e_var 0)) (pv_ (e_var 2))) (a_cons (e_op op_fdivW d_div (pv_ (e_var 1)) (pv_ (e_var 2))) (a_nil)))))))))
  · exact fun j hj => ⟨[], by cases j <;> first | exact .nil | (exact absurd hj (by simp)), FD.bindsN fun _ _ _ _ _ _ us hl => match us, hl with | [_, _], _ => rfl⟩
theorem sc__law_counts : FnScope ["_law_shots", "_law_place", "_law_picture_here"] ["_law_shots"] (defScope s__law_counts) := ⟨rfl, rfl, rfl, by decide +kernel, rfl, by decide +kernel, by decide +kernel⟩
theorem ok__law_counts {f__law_counts : Addr} {fd : FuncData} (FD : FunD K "_law_counts" "_law_counts" (defArgs s__law_counts) (defBody s__law_counts) (defScope s__law_counts) [] [] f__law_counts fd) (T : Txt P w K mg cm)   : DefP P w K mg base cm 1 1 f__law_counts d__law_counts [] := by
  refine ⟨fd, ["_law_shots"], [], fn_ok FD sc__law_counts (fun cdv A outer s H E S0 F0 hr tk => ?_), fun S => .nil, ?_⟩
  ·
    exact (s_one (s_ret (e_lc (own := [("_law_place", 1)]) (i_v (i_range1 T.m_range (a_cons (e_callB c_len d_len T.m_len b_len (va_cons (pv_ (e_ix (pv_ (e_var 0)) (pv_ (e_int)))) (va_nil))) (a_nil)))) (blkOk_by (by kernel_rfl)) (fun _ _ _ _ _ => g_name sc__law_counts.nd rfl (by first | exact Or.inl rfl | exact Or.inr rfl)) (fun _ _ _ _ _ => ts_nil) (fun _ _ _ _ _ => e_callB c_len d_len T.m_len b_len (va_cons (pv_ (e_lc (own := [("_law_picture_here", 2)]) (i_view (pv_ (e_sl (pv_ (e_var 0)) (o_some (pv_ (e_int))) (o_none)))) (blkOk_by (by kernel_rfl)) (fun _ _ _ _ _ => g_name sc__law_counts.nd rfl (by first | exact Or.inl rfl | exact Or.inr rfl)) (fun _ _ _ _ _ => ts_one (t_cmp (or_eq hr) d_eq (pv_ (e_ix (pv_ (e_var 2)) (pv_ (e_var 1)))) (pv_ (e_int)) (by rfl))) (fun _ _ _ _ _ => e_var 2) sc__law_counts.nd)) (va_nil))) sc__law_counts.nd)))
  · exact fun j hj => ⟨[], by cases j <;> first | exact .nil | (exact absurd hj (by simp)), FD.bindsN fun _ _ _ _ _ _ us hl => match us, hl with | [_], _ => rfl⟩
theorem sc__law_gains : FnScope ["_law_turn", "_law_before", "_law_behind", "_law_k"] ["_law_turn"] (defScope s__law_gains) := ⟨rfl, rfl, rfl, by decide +kernel, rfl, by decide +kernel, by decide +kernel⟩
theorem ok__law_gains {f__law_counts : Addr} {f__law_gains : Addr} {fd : FuncData} (FD : FunD K "_law_gains" "_law_gains" (defArgs s__law_gains) (defBody s__law_gains) (defScope s__law_gains) [] [] f__law_gains fd) (T : Txt P w K mg cm)  (G__law_counts : DefP P w K mg base cm 1 1 f__law_counts d__law_counts []) (A__law_counts : At K mg "_law_counts" f__law_counts) : DefP P w K mg base cm 2 1 f__law_gains d__law_gains [] := by
  refine ⟨fd, ["_law_turn"], [], fn_ok FD sc__law_gains (fun cdv A outer s H E S0 F0 hr tk => ?_), fun S => .nil, ?_⟩
  ·
    exact (s_cons (s_set sc__law_gains.nd rfl (by first | exact Or.inl rfl | exact Or.inr rfl) (e_callP 0 G__law_counts A__law_counts tk (hr.mono (by decide)) (by decide) (a_cons (e_sl (pv_ (e_ix (pv_ (e_var 0)) (pv_ (e_int)))) (o_none) (o_some (pv_ (e_op or_add d_add (pv_ (e_ix (pv_ (e_var 0)) (pv_ (e_int)))) (pv_ (e_int)))))) (a_nil))))
  (s_cons (s_set sc__law_gains.nd rfl (by first | exact Or.inl rfl | exact Or.inr rfl) (e_callP 0 G__law_counts A__law_counts tk (hr.mono (by decide)) (by decide) (a_cons (e_op or_add d_add (pv_ (e_ix (pv_ (e_var 0)) (pv_ (e_int)))) (pv_ (e_lst (a_cons (e_ix (pv_ (e_ix (pv_ (e_var 0)) (pv_ (e_int)))) (pv_ (e_ix (pv_ (e_var 0)) (pv_ (e_int))))) (a_nil))))) (a_nil))))
  (s_one (s_ret (e_lc (own := [("_law_k", 3)]) (i_v (i_range1 T.m_range (a_cons (e_callB c_len d_len T.m_len b_len (va_cons (pv_ (e_var 1)) (va_nil))) (a_nil)))) (blkOk_by (by kernel_rfl)) (fun _ _ _ _ _ => g_name sc__law_gains.nd rfl (by first | exact Or.inl rfl | exact Or.inr rfl)) (fun _ _ _ _ _ => ts_nil) (fun _ _ _ _ _ => e_op op_sub d_sub (pv_ (e_ix (pv_ (e_var 2)) (pv_ (e_var 3)))) (pv_ (e_ix (pv_ (e_var 1)) (pv_ (e_var 3))))) sc__law_gains.nd)))))
  · exact fun j hj => ⟨[], by cases j <;> first | exact .nil | (exact absurd hj (by simp)), FD.bindsN fun _ _ _ _ _ _ us hl => match us, hl with | [_], _ => rfl⟩
theorem sc__law_share : FnScope ["_law_near_here", "_law_picture_here", "_law_piece", "_law_a", "_law_b", "_law_mine", "_law_place", "_law_turn"] ["_law_near_here", "_law_picture_here", "_law_piece"] (defScope s__law_share) := ⟨rfl, rfl, rfl, by decide +kernel, rfl, by decide +kernel, by decide +kernel⟩
theorem ok__law_share {f__law_gains : Addr} {f__law_lowest : Addr} {f__law_round : Addr} {f__law_share : Addr} {fd : FuncData} (FD : FunD K "_law_share" "_law_share" (defArgs s__law_share) (defBody s__law_share) (defScope s__law_share) [] [] f__law_share fd) (T : Txt P w K mg cm)  (G__law_round : DefP P w K mg base cm 2 4 f__law_round d__law_round []) (A__law_round : At K mg "_law_round" f__law_round) (G__law_lowest : DefP P w K mg base cm 1 2 f__law_lowest d__law_lowest []) (A__law_lowest : At K mg "_law_lowest" f__law_lowest) (G__law_gains : DefP P w K mg base cm 2 1 f__law_gains d__law_gains []) (A__law_gains : At K mg "_law_gains" f__law_gains) : DefP P w K mg base cm 3 3 f__law_share d__law_share [] := by
  refine ⟨fd, ["_law_near_here", "_law_picture_here", "_law_piece"], [], fn_ok FD sc__law_share (fun cdv A outer s H E S0 F0 hr tk => ?_), fun S => .nil, ?_⟩
  ·
    exact (s_cons (s_setLc sc__law_share.nd rfl rfl rfl (own := [("_law_a", 3)]) (i_view (pv_ (e_var 2))) (blkOk_by (by kernel_rfl)) (fun _ _ _ _ _ => g_name sc__law_share.nd rfl (by first | exact Or.inl rfl | exact Or.inr rfl)) (fun _ _ _ _ _ => ts_nil) (fun _ _ _ _ _ => e_lc (own := [("_law_b", 4)]) (i_view (pv_ (e_ix (pv_ (e_var 0)) (pv_ (e_var 3))))) (blkOk_by (by kernel_rfl)) (fun _ _ _ _ _ => g_name sc__law_share.nd rfl (by first | exact Or.inl rfl | exact Or.inr rfl)) (fun _ _ _ _ _ => ts_nil) (fun _ _ _ _ _ => e_index hr (pv_ (e_var 2)) (pv_ (e_var 4))) sc__law_share.nd))
  (s_cons (s_set sc__law_share.nd rfl (by first | exact Or.inl rfl | exact Or.inr rfl) (e_callP 0 G__law_round A__law_round tk (hr.mono (by decide)) (by decide) (a_cons (e_var 5) (a_cons (e_lc (own := [("_law_place", 6)]) (i_view (pv_ (e_var 2))) (blkOk_by (by kernel_rfl)) (fun _ _ _ _ _ => g_name sc__law_share.nd rfl (by first | exact Or.inl rfl | exact Or.inr rfl)) (fun _ _ _ _ _ => ts_nil) (fun _ _ _ _ _ => e_ix (pv_ (e_var 1)) (pv_ (e_var 6))) sc__law_share.nd) (a_cons (e_int) (a_cons (e_lst (a_nil)) (a_nil)))))))
  (s_one (s_ret (e_callP 0 G__law_lowest A__law_lowest tk (hr.mono (by decide)) (by decide) (a_cons (e_ix (pv_ (e_callP 0 G__law_gains A__law_gains tk (hr.mono (by decide)) (by decide) (a_cons (e_var 7) (a_nil)))) (pv_ (e_int))) (a_cons (e_ix (pv_ (e_var 7)) (pv_ (e_int))) (a_nil))))))))
  · exact fun j hj => ⟨[], by cases j <;> first | exact .nil | (exact absurd hj (by simp)), FD.bindsN fun _ _ _ _ _ _ us hl => match us, hl with | [_, _, _], _ => rfl⟩
theorem sc__law_rings : FnScope ["_law_near_here", "_law_size", "_law_k", "_law_rings_here", "_law_a", "_law_b", "_law_c", "_law_found", "_law_way", "_law_ring", "_law_x"] ["_law_near_here"] (defScope s__law_rings) := ⟨rfl, rfl, rfl, by decide +kernel, rfl, by decide +kernel, by decide +kernel⟩
theorem ok__law_rings {f__law_rings : Addr} {fd : FuncData} (FD : FunD K "_law_rings" "_law_rings" (defArgs s__law_rings) (defBody s__law_rings) (defScope s__law_rings) [] [] f__law_rings fd) (T : Txt P w K mg cm)   : DefP P w K mg base cm 1 1 f__law_rings d__law_rings [] := by
  refine ⟨fd, ["_law_near_here"], [], fn_ok FD sc__law_rings (fun cdv A outer s H E S0 F0 hr tk => ?_), fun S => .nil, ?_⟩
  ·
    exact (s_cons (s_set sc__law_rings.nd rfl (by first | exact Or.inl rfl | exact Or.inr rfl) (e_callB c_len d_len T.m_len b_len (va_cons (pv_ (e_var 0)) (va_nil))))
  (s_cons (s_setF sc__law_rings.nd rfl (by first | exact Or.inl rfl | exact Or.inr rfl) (f_lst (a_cons (e_op or_add d_add (pv_ (e_lc (own := [("_law_k", 2)]) (i_v (i_range1 T.m_range (a_cons (e_var 1) (a_nil)))) (blkOk_by (by kernel_rfl)) (fun _ _ _ _ _ => g_name sc__law_rings.nd rfl (by first | exact Or.inl rfl | exact Or.inr rfl)) (fun _ _ _ _ _ => ts_nil) (fun _ _ _ _ _ => e_var 2) sc__law_rings.nd)) (pv_ (e_lst (a_cons (e_int) (a_nil))))) (a_cons (e_op or_add d_add (pv_ (e_lc (own := [("_law_k", 2)]) (i_v (i_range1 T.m_range (a_cons (e_var 1) (a_nil)))) (blkOk_by (by kernel_rfl)) (fun _ _ _ _ _ => g_name sc__law_rings.nd rfl (by first | exact Or.inl rfl | exact Or.inr rfl)) (fun _ _ _ _ _ => ts_nil) (fun _ _ _ _ _ => e_op op_sub d_sub (pv_ (e_op op_sub d_sub (pv_ (e_var 1)) (pv_ (e_int)))) (pv_ (e_var 2))) sc__law_rings.nd)) (pv_ (e_lst (a_cons (e_op op_sub d_sub (pv_ (e_var 1)) (pv_ (e_int))) (a_nil))))) (a_nil)))))
  (s_cons (s_for (i_range1 T.m_range (a_cons (e_var 1) (a_nil))) (g_name sc__law_rings.nd rfl (by first | exact Or.inl rfl | exact Or.inr rfl))
  (s_one (s_for (i_e (e_sl (pv_ (e_ix (pv_ (e_var 0)) (pv_ (e_var 4)))) (o_none) (o_some (pv_ (e_int))))) (g_name sc__law_rings.nd rfl (by first | exact Or.inl rfl | exact Or.inr rfl))
  (s_cons (s_app (pe_bm PySem.F.plainAttrs_list PySem.F.slot_list_append PySem.F.type_list_append mt_append (pe_var rfl (by first | exact Or.inl rfl | exact Or.inr (Or.inl rfl) | exact Or.inr (Or.inr rfl))) (pa_cons (f_e (e_lst (a_cons (e_var 4) (a_cons (e_var 5) (a_cons (e_var 4) (a_nil)))))) pa_nil)))
  (s_one (s_ext (pe_bm PySem.F.plainAttrs_list PySem.F.slot_list_extend PySem.F.type_list_extend mt_extend (pe_var rfl (by first | exact Or.inl rfl | exact Or.inr (Or.inl rfl) | exact Or.inr (Or.inr rfl))) (pa_cons (e_lc (own := [("_law_c", 6)]) (i_view (pv_ (e_ix (pv_ (e_var 0)) (pv_ (e_var 5))))) (blkOk_by (by kernel_rfl)) (fun _ _ _ _ _ => g_name sc__law_rings.nd rfl (by first | exact Or.inl rfl | exact Or.inr rfl)) (fun _ _ _ _ _ => ts_one (t_cmp (or_in hr) d_in (pv_ (e_var 4)) (pv_ (e_ix (pv_ (e_var 0)) (pv_ (e_var 6)))) (by rfl))) (fun _ _ _ _ _ => e_lst (a_cons (e_var 4) (a_cons (e_var 5) (a_cons (e_var 6) (a_cons (e_var 4) (a_nil)))))) sc__law_rings.nd) pa_nil))))))))
  (s_cons (s_frz 3 (s_setF sc__law_rings.nd rfl (by first | exact Or.inl rfl | exact Or.inr rfl) (f_callT call_list_of d_listF T.m_list b_list (va_cons (pv_ (e_sl (pv_ (e_var 3)) (o_none) (o_some (pv_ (e_int))))) (va_nil)))))
  (s_cons (s_for (i_e (e_op or_add d_add (pv_ (e_sl (pv_ (e_lc (own := [("_law_way", 8)]) (i_view (pv_ (e_var 3))) (blkOk_by (by kernel_rfl)) (fun _ _ _ _ _ => g_name sc__law_rings.nd rfl (by first | exact Or.inl rfl | exact Or.inr rfl)) (fun _ _ _ _ _ => ts_one (t_cmp op_gt d_gt (pv_ (e_callB c_len d_len T.m_len b_len (va_cons (pv_ (e_var 8)) (va_nil)))) (pv_ (e_int)) (by rfl))) (fun _ _ _ _ _ => e_var 8) sc__law_rings.nd)) (o_none) (o_some (pv_ (e_int))))) (pv_ (e_sl (pv_ (e_var 3)) (o_some (pv_ (e_int))) (o_some (pv_ (e_int))))))) (g_name sc__law_rings.nd rfl (by first | exact Or.inl rfl | exact Or.inr rfl))
  (s_cons (s_ext (pe_bm PySem.F.plainAttrs_list PySem.F.slot_list_extend PySem.F.type_list_extend mt_extend (pe_var rfl (by first | exact Or.inl rfl | exact Or.inr (Or.inl rfl) | exact Or.inr (Or.inr rfl))) (pa_cons (e_lst (a_cons (e_op or_add d_add (pv_ (e_var 9)) (pv_ (e_sl (pv_ (e_var 9)) (o_some (pv_ (e_int))) (o_none)))) (a_cons (e_sl (pv_ (e_var 9)) (o_none) (o_some (pv_ (e_op op_sub d_sub (pv_ (e_callB c_len d_len T.m_len b_len (va_cons (pv_ (e_var 9)) (va_nil)))) (pv_ (e_int)))))) (a_cons (e_lc (own := [("_law_x", 10)]) (i_view (pv_ (e_var 9))) (blkOk_by (by kernel_rfl)) (fun _ _ _ _ _ => g_name sc__law_rings.nd rfl (by first | exact Or.inl rfl | exact Or.inr rfl)) (fun _ _ _ _ _ => ts_nil) (fun _ _ _ _ _ => e_op op_sub d_sub (pv_ (e_var 10)) (pv_ (e_op or_mul d_mul (pv_ (e_var 1)) (pv_ (e_callT call_int1 d_toInt T.m_int b_int (va_cons (pv_ (e_cmp (or_eq hr) d_eq (pv_ (e_var 10)) (pv_ (e_ix (pv_ (e_var 9)) (pv_ (e_int)))) (by rfl))) (va_nil))))))) sc__law_rings.nd) (a_nil))))) pa_nil)))
  (s_cons (s_app (pe_bm PySem.F.plainAttrs_list PySem.F.slot_list_append PySem.F.type_list_append mt_append (pe_var rfl (by first | exact Or.inl rfl | exact Or.inr (Or.inl rfl) | exact Or.inr (Or.inr rfl))) (pa_cons (f_e (e_lc (own := [("_law_x", 10)]) (i_view (pv_ (e_var 9))) (blkOk_by (by kernel_rfl)) (fun _ _ _ _ _ => g_name sc__law_rings.nd rfl (by first | exact Or.inl rfl | exact Or.inr rfl)) (fun _ _ _ _ _ => ts_nil) (fun _ _ _ _ _ => e_op or_add d_add (pv_ (e_var 10)) (pv_ (e_op or_mul d_mul (pv_ (e_var 1)) (pv_ (e_callT call_int1 d_toInt T.m_int b_int (va_cons (pv_ (e_cmp (or_eq hr) d_eq (pv_ (e_var 10)) (pv_ (e_ix (pv_ (e_var 9)) (pv_ (e_int)))) (by rfl))) (va_nil))))))) sc__law_rings.nd)) pa_nil)))
  (s_one (s_ext (pe_bm PySem.F.plainAttrs_list PySem.F.slot_list_extend PySem.F.type_list_extend mt_extend (pe_var rfl (by first | exact Or.inl rfl | exact Or.inr (Or.inl rfl) | exact Or.inr (Or.inr rfl))) (pa_cons (e_lc (own := [("_law_b", 5)]) (i_view (pv_ (e_sl (pv_ (e_ix (pv_ (e_var 0)) (pv_ (e_ix (pv_ (e_var 9)) (pv_ (e_int)))))) (o_none) (o_some (pv_ (e_int)))))) (blkOk_by (by kernel_rfl)) (fun _ _ _ _ _ => g_name sc__law_rings.nd rfl (by first | exact Or.inl rfl | exact Or.inr rfl)) (fun _ _ _ _ _ => ts_nil) (fun _ _ _ _ _ => e_op or_add d_add (pv_ (e_var 9)) (pv_ (e_lst (a_cons (e_var 5) (a_cons (e_ix (pv_ (e_var 9)) (pv_ (e_int))) (a_nil)))))) sc__law_rings.nd) pa_nil)))))))
  (s_one (s_frz 7 (s_ret (e_op or_add d_add (pv_ (e_var 7)) (pv_ (e_lst (a_cons (e_lst (a_nil)) (a_cons (e_lst (a_cons (e_int) (a_nil))) (a_cons (e_lst (a_cons (e_int) (a_cons (e_int) (a_cons (e_int) (a_nil))))) (a_cons (e_lst (a_cons (e_op op_sub d_sub (pv_ (e_int)) (pv_ (e_int))) (a_cons (e_int) (a_cons (e_op op_sub d_sub (pv_ (e_int)) (pv_ (e_int))) (a_nil))))) (a_cons (e_lst (a_cons (e_int) (a_cons (e_op op_pow d_pow (pv_ (e_int)) (pv_ (e_int))) (a_cons (e_int) (a_nil))))) (a_nil)))))))))))))))))
  · exact fun j hj => ⟨[], by cases j <;> first | exact .nil | (exact absurd hj (by simp)), FD.bindsN fun _ _ _ _ _ _ us hl => match us, hl with | [_], _ => rfl⟩
theorem sc__law_whole : FnScope ["_law_value"] ["_law_value"] (defScope s__law_whole) := ⟨rfl, rfl, rfl, by decide +kernel, rfl, by decide +kernel, by decide +kernel⟩
theorem warm__law_whole {f__law_whole : Addr} {fd : FuncData} (FD : FunD K "_law_whole" "_law_whole" (defArgs s__law_whole) (defBody s__law_whole) (defScope s__law_whole) [] [] f__law_whole fd) (T : Txt P w K mg cm)   : WarmP P w K mg base cm 1 f__law_whole d__law_whole := warm_ok FD sc__law_whole (FD.bindsN fun _ _ _ _ _ _ us hl => match us, hl with | [_], _ => rfl) (fun cdv A outer s H E p W c => s_one (s_ret (e_and (e_isi T.cls T.kb_int T.m_isinstance (pv_ (e_var 0)) (pe_bltn rfl T.m_int b_int rfl)) (e_one (e_not (e_isi T.cls T.kb_bool T.m_isinstance (pv_ (e_var 0)) (pe_bltn rfl T.m_bool b_bool rfl)))))))
theorem ok__law_whole {f__law_whole : Addr} {fd : FuncData} (FD : FunD K "_law_whole" "_law_whole" (defArgs s__law_whole) (defBody s__law_whole) (defScope s__law_whole) [] [] f__law_whole fd) (T : Txt P w K mg cm)   : DefP P w K mg base cm 1 1 f__law_whole d__law_whole [] := by
  refine ⟨fd, ["_law_value"], [], fn_ok FD sc__law_whole (fun cdv A outer s H E S0 F0 hr tk => ?_), fun S => .nil, ?_⟩
  ·
    exact (s_one (s_ret (e_and (e_isi T.cls T.kb_int T.m_isinstance (pv_ (e_var 0)) (pe_bltn rfl T.m_int b_int rfl)) (e_one (e_not (e_isi T.cls T.kb_bool T.m_isinstance (pv_ (e_var 0)) (pe_bltn rfl T.m_bool b_bool rfl)))))))
  · exact fun j hj => ⟨[], by cases j <;> first | exact .nil | (exact absurd hj (by simp)), FD.bindsN fun _ _ _ _ _ _ us hl => match us, hl with | [_], _ => rfl⟩
theorem sc__law_is_walk : FnScope ["_law_near_here", "_law_walk", "_law_k"] ["_law_near_here", "_law_walk"] (defScope s__law_is_walk) := ⟨rfl, rfl, rfl, by decide +kernel, rfl, by decide +kernel, by decide +kernel⟩
theorem ok__law_is_walk {f__law_is_walk : Addr} {f__law_whole : Addr} {fd : FuncData} (FD : FunD K "_law_is_walk" "_law_is_walk" (defArgs s__law_is_walk) (defBody s__law_is_walk) (defScope s__law_is_walk) [] [] f__law_is_walk fd) (T : Txt P w K mg cm)  (G__law_whole : DefP P w K mg base cm 1 1 f__law_whole d__law_whole []) (A__law_whole : At K mg "_law_whole" f__law_whole) : DefP P w K mg base cm 2 2 f__law_is_walk d__law_is_walk [] := by
  refine ⟨fd, ["_law_near_here", "_law_walk"], [], fn_ok FD sc__law_is_walk (fun cdv A outer s H E S0 F0 hr tk => ?_), fun S => .nil, ?_⟩
  ·
    exact (s_cons (s_if (t_w (w_or (t_not (t_val (e_isi T.cls T.kb_tuple T.m_isinstance (pv_ (e_var 1)) (pe_bltn rfl T.m_tuple b_tuple rfl)))) (w_or1 (t_cmp (or_eq hr) d_eq (pv_ (e_callB c_len d_len T.m_len b_len (va_cons (pv_ (e_var 1)) (va_nil)))) (pv_ (e_int)) (by rfl)))))
  (s_one (s_ret (e_bl)))
  (s_nil))
  (s_cons (s_for (i_range1 T.m_range (a_cons (e_callB c_len d_len T.m_len b_len (va_cons (pv_ (e_var 1)) (va_nil))) (a_nil))) (g_name sc__law_is_walk.nd rfl (by first | exact Or.inl rfl | exact Or.inr rfl))
  (s_cons (s_if (t_w (w_or (t_not (t_val (e_callP 0 G__law_whole A__law_whole tk (hr.mono (by decide)) (by decide) (a_cons (e_ix (pv_ (e_var 1)) (pv_ (e_var 2))) (a_nil))))) (w_or (t_cmp op_lt d_lt (pv_ (e_ix (pv_ (e_var 1)) (pv_ (e_var 2)))) (pv_ (e_int)) (by rfl)) (w_or1 (t_cmp op_ge d_ge (pv_ (e_ix (pv_ (e_var 1)) (pv_ (e_var 2)))) (pv_ (e_callB c_len d_len T.m_len b_len (va_cons (pv_ (e_var 0)) (va_nil)))) (by rfl))))))
  (s_one (s_ret (e_bl)))
  (s_nil))
  (s_one (s_if (t_w (w_and (t_cmp op_gt d_gt (pv_ (e_var 2)) (pv_ (e_int)) (by rfl)) (w_and1 (t_cmp (or_notIn hr) d_notIn (pv_ (e_ix (pv_ (e_var 1)) (pv_ (e_var 2)))) (pv_ (e_ix (pv_ (e_var 0)) (pv_ (e_ix (pv_ (e_var 1)) (pv_ (e_op op_sub d_sub (pv_ (e_var 2)) (pv_ (e_int)))))))) (by rfl)))))
  (s_one (s_ret (e_bl)))
  (s_nil)))))
  (s_one (s_ret (e_bl)))))
  · exact fun j hj => ⟨[], by cases j <;> first | exact .nil | (exact absurd hj (by simp)), FD.bindsN fun _ _ _ _ _ _ us hl => match us, hl with | [_, _], _ => rfl⟩
theorem sc__law_sum : FnScope ["_law_rows", "_law_walk", "_law_k"] ["_law_rows", "_law_walk"] (defScope s__law_sum) := ⟨rfl, rfl, rfl, by decide +kernel, rfl, by decide +kernel, by decide +kernel⟩
theorem ok__law_sum {f__law_sum : Addr} {fd : FuncData} (FD : FunD K "_law_sum" "_law_sum" (defArgs s__law_sum) (defBody s__law_sum) (defScope s__law_sum) [] [] f__law_sum fd) (T : Txt P w K mg cm)   : DefP P w K mg base cm 1 2 f__law_sum d__law_sum [] := by
  refine ⟨fd, ["_law_rows", "_law_walk"], [], fn_ok FD sc__law_sum (fun cdv A outer s H E S0 F0 hr tk => ?_), fun S => .nil, ?_⟩
  ·
    exact (s_one (s_ret (e_callB (cr_sum rfl) d_sum T.m_sum b_sum (va_cons (pv_ (e_lc (own := [("_law_k", 2)]) (i_v (i_range1 T.m_range (a_cons (e_op op_sub d_sub (pv_ (e_callB c_len d_len T.m_len b_len (va_cons (pv_ (e_var 1)) (va_nil)))) (pv_ (e_int))) (a_nil)))) (blkOk_by (by kernel_rfl)) (fun _ _ _ _ _ => g_name sc__law_sum.nd rfl (by first | exact Or.inl rfl | exact Or.inr rfl)) (fun _ _ _ _ _ => ts_nil) (fun _ _ _ _ _ => e_ix (pv_ (e_ix (pv_ (e_var 0)) (pv_ (e_ix (pv_ (e_var 1)) (pv_ (e_var 2)))))) (pv_ (e_ix (pv_ (e_var 1)) (pv_ (e_op or_add d_add (pv_ (e_var 2)) (pv_ (e_int))))))) sc__law_sum.nd)) (va_nil)))))
  · exact fun j hj => ⟨[], by cases j <;> first | exact .nil | (exact absurd hj (by simp)), FD.bindsN fun _ _ _ _ _ _ us hl => match us, hl with | [_, _], _ => rfl⟩
theorem sc__law_lead : FnScope ["_law_one", "_law_other"] ["_law_one", "_law_other"] (defScope s__law_lead) := ⟨rfl, rfl, rfl, by decide +kernel, rfl, by decide +kernel, by decide +kernel⟩
theorem ok__law_lead {f__law_lead : Addr} {fd : FuncData} (FD : FunD K "_law_lead" "_law_lead" (defArgs s__law_lead) (defBody s__law_lead) (defScope s__law_lead) [] [] f__law_lead fd) (T : Txt P w K mg cm)   : DefP P w K mg base cm 1 2 f__law_lead d__law_lead [] := by
  refine ⟨fd, ["_law_one", "_law_other"], [], fn_ok FD sc__law_lead (fun cdv A outer s H E S0 F0 hr tk => ?_), fun S => .nil, ?_⟩
  ·
    exact (s_one (s_ret (e_op op_sub d_sub (pv_ (e_callT call_int1 d_toInt T.m_int b_int (va_cons (pv_ (e_and (e_cmp (or_eq hr) d_eq (pv_ (e_var 0)) (pv_ (e_int)) (by rfl)) (e_one (e_cmp (or_eq hr) d_eq (pv_ (e_var 1)) (pv_ (e_int)) (by rfl))))) (va_nil)))) (pv_ (e_callT call_int1 d_toInt T.m_int b_int (va_cons (pv_ (e_and (e_cmp (or_eq hr) d_eq (pv_ (e_var 0)) (pv_ (e_int)) (by rfl)) (e_one (e_cmp (or_eq hr) d_eq (pv_ (e_var 1)) (pv_ (e_int)) (by rfl))))) (va_nil)))))))
  · exact fun j hj => ⟨[], by cases j <;> first | exact .nil | (exact absurd hj (by simp)), FD.bindsN fun _ _ _ _ _ _ us hl => match us, hl with | [_, _], _ => rfl⟩
theorem sc__law_lead_rows : FnScope ["_law_picture_here", "_law_one", "_law_other"] ["_law_picture_here"] (defScope s__law_lead_rows) := ⟨rfl, rfl, rfl, by decide +kernel, rfl, by decide +kernel, by decide +kernel⟩
theorem ok__law_lead_rows {f__law_lead : Addr} {f__law_lead_rows : Addr} {fd : FuncData} (FD : FunD K "_law_lead_rows" "_law_lead_rows" (defArgs s__law_lead_rows) (defBody s__law_lead_rows) (defScope s__law_lead_rows) [] [] f__law_lead_rows fd) (T : Txt P w K mg cm)  (G__law_lead : DefP P w K mg base cm 1 2 f__law_lead d__law_lead []) (A__law_lead : At K mg "_law_lead" f__law_lead) : DefP P w K mg base cm 2 1 f__law_lead_rows d__law_lead_rows [] := by
  refine ⟨fd, ["_law_picture_here"], [], fn_ok FD sc__law_lead_rows (fun cdv A outer s H E S0 F0 hr tk => ?_), fun S => .nil, ?_⟩
  ·
    exact (s_one (s_ret (e_lc (own := [("_law_one", 1)]) (i_view (pv_ (e_var 0))) (blkOk_by (by kernel_rfl)) (fun _ _ _ _ _ => g_name sc__law_lead_rows.nd rfl (by first | exact Or.inl rfl | exact Or.inr rfl)) (fun _ _ _ _ _ => ts_nil) (fun _ _ _ _ _ => e_lc (own := [("_law_other", 2)]) (i_view (pv_ (e_var 0))) (blkOk_by (by kernel_rfl)) (fun _ _ _ _ _ => g_name sc__law_lead_rows.nd rfl (by first | exact Or.inl rfl | exact Or.inr rfl)) (fun _ _ _ _ _ => ts_nil) (fun _ _ _ _ _ => e_callP 0 G__law_lead A__law_lead takesF (hr.mono (by decide)) (by decide) (a_cons (e_var 1) (a_cons (e_var 2) (a_nil)))) sc__law_lead_rows.nd) sc__law_lead_rows.nd)))
  · exact fun j hj => ⟨[], by cases j <;> first | exact .nil | (exact absurd hj (by simp)), FD.bindsN fun _ _ _ _ _ _ us hl => match us, hl with | [_], _ => rfl⟩
theorem sc__law_own_pairs : FnScope ["_law_near_here", "_law_picture_here", "_law_ring", "_law_many", "_law_gain"] ["_law_near_here", "_law_picture_here", "_law_ring"] (defScope s__law_own_pairs) := ⟨rfl, rfl, rfl, by decide +kernel, rfl, by decide +kernel, by decide +kernel⟩
theorem ok__law_own_pairs {f__law_is_walk : Addr} {f__law_lead_rows : Addr} {f__law_own_pairs : Addr} {f__law_sum : Addr} {fd : FuncData} (FD : FunD K "_law_own_pairs" "_law_own_pairs" (defArgs s__law_own_pairs) (defBody s__law_own_pairs) (defScope s__law_own_pairs) [] [] f__law_own_pairs fd) (T : Txt P w K mg cm)  (G__law_is_walk : DefP P w K mg base cm 2 2 f__law_is_walk d__law_is_walk []) (A__law_is_walk : At K mg "_law_is_walk" f__law_is_walk) (G__law_sum : DefP P w K mg base cm 1 2 f__law_sum d__law_sum []) (A__law_sum : At K mg "_law_sum" f__law_sum) (G__law_lead_rows : DefP P w K mg base cm 2 1 f__law_lead_rows d__law_lead_rows []) (A__law_lead_rows : At K mg "_law_lead_rows" f__law_lead_rows) : DefP P w K mg base cm 3 3 f__law_own_pairs d__law_own_pairs [] := by
  refine ⟨fd, ["_law_near_here", "_law_picture_here", "_law_ring"], [], fn_ok FD sc__law_own_pairs (fun cdv A outer s H E S0 F0 hr tk => ?_), fun S => .nil, ?_⟩
  ·
    exact (s_cons (s_set sc__law_own_pairs.nd rfl (by first | exact Or.inl rfl | exact Or.inr rfl) (e_callB (call_max2 rfl) d_max2 T.m_max b_max (va_cons (pv_ (e_int)) (va_cons (pv_ (e_op op_sub d_sub (pv_ (e_callB c_len d_len T.m_len b_len (va_cons (pv_ (e_var 2)) (va_nil)))) (pv_ (e_int)))) (va_nil)))))
  (s_cons (s_if (t_w (w_or (t_not (t_val (e_callP 0 G__law_is_walk A__law_is_walk tk (hr.mono (by decide)) (by decide) (a_cons (e_var 0) (a_cons (e_callT call_tuple_of d_tuple T.m_tuple b_tuple (va_cons (pv_ (e_var 2)) (va_nil))) (a_nil)))))) (w_or1 (t_cmp op_lt d_lt (pv_ (e_callB c_len d_len T.m_len b_len (va_cons (pv_ (e_var 2)) (va_nil)))) (pv_ (e_int)) (by rfl)))))
  (s_one (s_ret (e_lst (a_cons (e_tup (a_cons (e_int) (a_cons (e_var 3) (a_nil)))) (a_cons (e_tup (a_cons (e_int) (a_cons (e_var 3) (a_nil)))) (a_cons (e_tup (a_cons (e_int) (a_cons (e_var 3) (a_nil)))) (a_nil)))))))
  (s_nil))
  (s_cons (s_set sc__law_own_pairs.nd rfl (by first | exact Or.inl rfl | exact Or.inr rfl) (e_callP 0 G__law_sum A__law_sum tk (hr.mono (by decide)) (by decide) (a_cons (e_callP 0 G__law_lead_rows A__law_lead_rows tk (hr.mono (by decide)) (by decide) (a_cons (e_var 1) (a_nil))) (a_cons (e_var 2) (a_nil)))))
  (s_cons (s_if (t_cmp op_lt d_lt (pv_ (e_var 4)) (pv_ (e_int)) (by rfl))
  (s_one (s_ret (e_lst (a_cons (e_tup (a_cons (e_op op_sub d_sub (pv_ (e_int)) (pv_ (e_var 4))) (a_cons (e_var 3) (a_nil)))) (a_nil)))))
  (s_nil))
  (s_one (s_ret (e_lst (a_cons (e_tup (a_cons (e_var 4) (a_cons (e_var 3) (a_nil)))) (a_cons (e_tup (a_cons (e_op or_mul d_mul (pv_ (e_int)) (pv_ (e_var 4))) (a_cons (e_op or_mul d_mul (pv_ (e_int)) (pv_ (e_var 3))) (a_nil)))) (a_cons (e_tup (a_cons (e_op or_add d_add (pv_ (e_var 4)) (pv_ (e_int))) (a_cons (e_var 3) (a_nil)))) (a_nil)))))))))))
  · exact fun j hj => ⟨[], by cases j <;> first | exact .nil | (exact absurd hj (by simp)), FD.bindsN fun _ _ _ _ _ _ us hl => match us, hl with | [_, _, _], _ => rfl⟩
theorem sc__law_has_share : FnScope ["_law_near_here", "_law_picture_here", "_law_ring", "_law_p", "_law_q"] ["_law_near_here", "_law_picture_here", "_law_ring", "_law_p", "_law_q"] (defScope s__law_has_share) := ⟨rfl, rfl, rfl, by decide +kernel, rfl, by decide +kernel, by decide +kernel⟩
theorem ok__law_has_share {f__law_has_share : Addr} {f__law_is_walk : Addr} {f__law_lead_rows : Addr} {f__law_sum : Addr} {fd : FuncData} (FD : FunD K "_law_has_share" "_law_has_share" (defArgs s__law_has_share) (defBody s__law_has_share) (defScope s__law_has_share) [] [] f__law_has_share fd) (T : Txt P w K mg cm)  (G__law_is_walk : DefP P w K mg base cm 2 2 f__law_is_walk d__law_is_walk []) (A__law_is_walk : At K mg "_law_is_walk" f__law_is_walk) (G__law_sum : DefP P w K mg base cm 1 2 f__law_sum d__law_sum []) (A__law_sum : At K mg "_law_sum" f__law_sum) (G__law_lead_rows : DefP P w K mg base cm 2 1 f__law_lead_rows d__law_lead_rows []) (A__law_lead_rows : At K mg "_law_lead_rows" f__law_lead_rows) : DefP P w K mg base cm 3 5 f__law_has_share d__law_has_share [] := by
  refine ⟨fd, ["_law_near_here", "_law_picture_here", "_law_ring", "_law_p", "_law_q"], [], fn_ok FD sc__law_has_share (fun cdv A outer s H E S0 F0 hr tk => ?_), fun S => .nil, ?_⟩
  ·
    exact (s_cons (s_if (t_w (w_or (t_not (t_val (e_callP 0 G__law_is_walk A__law_is_walk tk (hr.mono (by decide)) (by decide) (a_cons (e_var 0) (a_cons (e_var 2) (a_nil)))))) (w_or (t_cmp op_lt d_lt (pv_ (e_callB c_len d_len T.m_len b_len (va_cons (pv_ (e_var 2)) (va_nil)))) (pv_ (e_int)) (by rfl)) (w_or1 (t_cmp (or_ne hr) d_ne (pv_ (e_ix (pv_ (e_var 2)) (pv_ (e_int)))) (pv_ (e_ix (pv_ (e_var 2)) (pv_ (e_op op_sub d_sub (pv_ (e_callB c_len d_len T.m_len b_len (va_cons (pv_ (e_var 2)) (va_nil)))) (pv_ (e_int)))))) (by rfl))))))
  (s_one (s_ret (e_bl)))
  (s_nil))
  (s_one (s_ret (e_cmp (or_eq hr) d_eq (pv_ (e_op or_mul d_mul (pv_ (e_var 4)) (pv_ (e_callP 0 G__law_sum A__law_sum tk (hr.mono (by decide)) (by decide) (a_cons (e_callP 0 G__law_lead_rows A__law_lead_rows tk (hr.mono (by decide)) (by decide) (a_cons (e_var 1) (a_nil))) (a_cons (e_var 2) (a_nil))))))) (pv_ (e_op or_mul d_mul (pv_ (e_var 3)) (pv_ (e_op op_sub d_sub (pv_ (e_callB c_len d_len T.m_len b_len (va_cons (pv_ (e_var 2)) (va_nil)))) (pv_ (e_int)))))) (by rfl)))))
  · exact fun j hj => ⟨[], by cases j <;> first | exact .nil | (exact absurd hj (by simp)), FD.bindsN fun _ _ _ _ _ _ us hl => match us, hl with | [_, _, _, _, _], _ => rfl⟩
theorem sc__law_agree : FnScope ["_law_told", "_law_due"] ["_law_told", "_law_due"] (defScope s__law_agree) := ⟨rfl, rfl, rfl, by decide +kernel, rfl, by decide +kernel, by decide +kernel⟩
theorem ok__law_agree {f__law_agree : Addr} {fd : FuncData} (FD : FunD K "_law_agree" "_law_agree" (defArgs s__law_agree) (defBody s__law_agree) (defScope s__law_agree) [] [] f__law_agree fd) (T : Txt P w K mg cm)   : DefP P w K mg base cm 1 2 f__law_agree d__law_agree [] := by
  refine ⟨fd, ["_law_told", "_law_due"], [], fn_ok FD sc__law_agree (fun cdv A outer s H E S0 F0 hr tk => ?_), fun S => .nil, ?_⟩
  ·
    exact (s_one (s_ret (e_or (e_and (e_cmp op_isBl d_isBl (pv_ (e_var 0)) (pv_ (e_bl)) (by rfl)) (e_one (e_var 1))) (e_one (e_and (e_cmp op_isBl d_isBl (pv_ (e_var 0)) (pv_ (e_bl)) (by rfl)) (e_one (e_not (e_var 1))))))))
  · exact fun j hj => ⟨[], by cases j <;> first | exact .nil | (exact absurd hj (by simp)), FD.bindsN fun _ _ _ _ _ _ us hl => match us, hl with | [_, _], _ => rfl⟩
theorem sc_is_walk : FnScope ["web", "walk", "index", "place"] ["web", "walk"] (defScope s_is_walk) := ⟨rfl, rfl, rfl, by decide +kernel, rfl, by decide +kernel, by decide +kernel⟩
theorem ok_is_walk {f_is_walk : Addr} {fd : FuncData} (FD : FunD K "is_walk" "is_walk" (defArgs s_is_walk) (defBody s_is_walk) (defScope s_is_walk) [] [] f_is_walk fd) (T : Txt P w K mg cm)   : DefP P w K mg base cm 1 2 f_is_walk d_is_walk [] := by
  refine ⟨fd, ["web", "walk"], [], fn_ok FD sc_is_walk (fun cdv A outer s H E S0 F0 hr tk => ?_), fun S => .nil, ?_⟩
  ·
    exact (s_cons (s_for (i_enum T.m_enumerate (a_cons (e_var 1) (a_nil))) (g_tup rfl (gs_cons (g_name sc_is_walk.nd rfl (by first | exact Or.inl rfl | exact Or.inr rfl)) (gs_cons (g_name sc_is_walk.nd rfl (by first | exact Or.inl rfl | exact Or.inr rfl)) (gs_nil))))
  (s_cons (s_if (t_not (t_chain op_le d_le op_lt d_lt (pv_ (e_int)) (pv_ (e_var 3)) (pv_ (e_fld T.f_size (e_var 0)))))
  (s_one (s_ret (e_bl)))
  (s_nil))
  (s_one (s_if (t_w (w_and (t_cmp op_gt d_gt (pv_ (e_var 2)) (pv_ (e_int)) (by rfl)) (w_and1 (t_cmp (or_notIn hr) d_notIn (pv_ (e_var 3)) (pv_ (e_ix (pv_ (e_fld T.f_around (e_var 0))) (pv_ (e_ix (pv_ (e_var 1)) (pv_ (e_op op_sub d_sub (pv_ (e_var 2)) (pv_ (e_int)))))))) (by rfl)))))
  (s_one (s_ret (e_bl)))
  (s_nil)))))
  (s_one (s_ret (e_cmp op_gt d_gt (pv_ (e_callB c_len d_len T.m_len b_len (va_cons (pv_ (e_var 1)) (va_nil)))) (pv_ (e_int)) (by rfl)))))
  · exact fun j hj => ⟨[], by cases j <;> first | exact .nil | (exact absurd hj (by simp)), FD.bindsN fun _ _ _ _ _ _ us hl => match us, hl with | [_, _], _ => rfl⟩
theorem sc_is_ring : FnScope ["web", "walk"] ["web", "walk"] (defScope s_is_ring) := ⟨rfl, rfl, rfl, by decide +kernel, rfl, by decide +kernel, by decide +kernel⟩
theorem ok_is_ring {f_is_ring : Addr} {f_is_walk : Addr} {fd : FuncData} (FD : FunD K "is_ring" "is_ring" (defArgs s_is_ring) (defBody s_is_ring) (defScope s_is_ring) [] [] f_is_ring fd) (T : Txt P w K mg cm)  (G_is_walk : DefP P w K mg base cm 1 2 f_is_walk d_is_walk []) (A_is_walk : At K mg "is_walk" f_is_walk) : DefP P w K mg base cm 2 2 f_is_ring d_is_ring [] := by
  refine ⟨fd, ["web", "walk"], [], fn_ok FD sc_is_ring (fun cdv A outer s H E S0 F0 hr tk => ?_), fun S => .nil, ?_⟩
  ·
    exact (s_one (s_ret (e_and (e_callP 0 G_is_walk A_is_walk tk (hr.mono (by decide)) (by decide) (a_cons (e_var 0) (a_cons (e_var 1) (a_nil)))) (e_and (e_cmp op_gt d_gt (pv_ (e_callB c_len d_len T.m_len b_len (va_cons (pv_ (e_var 1)) (va_nil)))) (pv_ (e_int)) (by rfl)) (e_one (e_cmp (or_eq hr) d_eq (pv_ (e_ix (pv_ (e_var 1)) (pv_ (e_int)))) (pv_ (e_ix (pv_ (e_var 1)) (pv_ (e_un un_neg d_neg (pv_ (e_int)))))) (by rfl)))))))
  · exact fun j hj => ⟨[], by cases j <;> first | exact .nil | (exact absurd hj (by simp)), FD.bindsN fun _ _ _ _ _ _ us hl => match us, hl with | [_, _], _ => rfl⟩
theorem sc_NotAWalk___init__ : FnScope ["self", "index"] ["self", "index"] (defScope s_NotAWalk___init__) := ⟨rfl, rfl, rfl, by decide +kernel, rfl, by decide +kernel, by decide +kernel⟩
theorem okx_NotAWalk___init__ {f_NotAWalk___init__ : Addr} {fd : FuncData} (FD : FunD K "__init__" "NotAWalk.__init__" (defArgs s_NotAWalk___init__) (defBody s_NotAWalk___init__) (defScope s_NotAWalk___init__) [] [] f_NotAWalk___init__ fd) : XP1 P w K mg base 1 f_NotAWalk___init__ "index" := ⟨fd, ["self", "index"], rfl, xinit1 FD sc_NotAWalk___init__ (fun cdv A outer s H E => pss_one (ps_ost (pe_var rfl (Or.inl rfl)) (pe_var rfl (Or.inl rfl)))), FD.bindsN fun _ _ _ _ _ _ us hl => match us, hl with | [_, _], _ => rfl⟩
theorem sc_check_walk : FnScope ["web", "walk", "index", "place"] ["web", "walk"] (defScope s_check_walk) := ⟨rfl, rfl, rfl, by decide +kernel, rfl, by decide +kernel, by decide +kernel⟩
theorem ok_check_walk {f_NotAWalk___init__ : Addr} {f_check_walk : Addr} {fd : FuncData} (FD : FunD K "check_walk" "check_walk" (defArgs s_check_walk) (defBody s_check_walk) (defScope s_check_walk) [] [] f_check_walk fd) (T : Txt P w K mg cm)  (GX_NotAWalk : XP1 P w K mg base 1 f_NotAWalk___init__ "index") (XA_NotAWalk : XAt K mg cm "NotAWalk" 12 f_NotAWalk___init__) : DefP P w K mg base cm 3 2 f_check_walk d_check_walk [] := by
  refine ⟨fd, ["web", "walk"], [], fn_ok FD sc_check_walk (fun cdv A outer s H E S0 F0 hr tk => ?_), fun S => .nil, ?_⟩
  ·
    exact (s_cons (s_if (t_cmp (or_eq hr) d_eq (pv_ (e_callB c_len d_len T.m_len b_len (va_cons (pv_ (e_var 1)) (va_nil)))) (pv_ (e_int)) (by rfl))
  (s_one (s_raise1 GX_NotAWalk XA_NotAWalk T.xnm_NotAWalk T.xno_NotAWalk_index tk (hr.mono (by decide)) (e_int)))
  (s_nil))
  (s_one (s_for (i_enum T.m_enumerate (a_cons (e_var 1) (a_nil))) (g_tup rfl (gs_cons (g_name sc_check_walk.nd rfl (by first | exact Or.inl rfl | exact Or.inr rfl)) (gs_cons (g_name sc_check_walk.nd rfl (by first | exact Or.inl rfl | exact Or.inr rfl)) (gs_nil))))
  (s_cons (s_if (t_not (t_chain op_le d_le op_lt d_lt (pv_ (e_int)) (pv_ (e_var 3)) (pv_ (e_fld T.f_size (e_var 0)))))
  (s_one (s_raise1 GX_NotAWalk XA_NotAWalk T.xnm_NotAWalk T.xno_NotAWalk_index tk (hr.mono (by decide)) (e_var 2)))
  (s_nil))
  (s_one (s_if (t_w (w_and (t_cmp op_gt d_gt (pv_ (e_var 2)) (pv_ (e_int)) (by rfl)) (w_and1 (t_cmp (or_notIn hr) d_notIn (pv_ (e_var 3)) (pv_ (e_ix (pv_ (e_fld T.f_around (e_var 0))) (pv_ (e_ix (pv_ (e_var 1)) (pv_ (e_op op_sub d_sub (pv_ (e_var 2)) (pv_ (e_int)))))))) (by rfl)))))
  (s_one (s_raise1 GX_NotAWalk XA_NotAWalk T.xnm_NotAWalk T.xno_NotAWalk_index tk (hr.mono (by decide)) (e_var 2)))
  (s_nil)))))))
  · exact fun j hj => ⟨[], by cases j <;> first | exact .nil | (exact absurd hj (by simp)), FD.bindsN fun _ _ _ _ _ _ us hl => match us, hl with | [_, _], _ => rfl⟩
theorem sc_state_lead : FnScope ["one", "other"] ["one", "other"] (defScope s_state_lead) := ⟨rfl, rfl, rfl, by decide +kernel, rfl, by decide +kernel, by decide +kernel⟩
theorem ok_state_lead {f_state_lead : Addr} {fd : FuncData} (FD : FunD K "state_lead" "state_lead" (defArgs s_state_lead) (defBody s_state_lead) (defScope s_state_lead) [] [] f_state_lead fd) (T : Txt P w K mg cm)   : DefP P w K mg base cm 1 2 f_state_lead d_state_lead [] := by
  refine ⟨fd, ["one", "other"], [], fn_ok FD sc_state_lead (fun cdv A outer s H E S0 F0 hr tk => ?_), fun S => .nil, ?_⟩
  ·
    exact (s_cons (s_if (t_w (w_and (t_cmp (or_eq hr) d_eq (pv_ (e_var 0)) (pv_ (e_int)) (by rfl)) (w_and1 (t_cmp (or_eq hr) d_eq (pv_ (e_var 1)) (pv_ (e_int)) (by rfl)))))
  (s_one (s_ret (e_int)))
  (s_nil))
  (s_cons (s_if (t_w (w_and (t_cmp (or_eq hr) d_eq (pv_ (e_var 0)) (pv_ (e_int)) (by rfl)) (w_and1 (t_cmp (or_eq hr) d_eq (pv_ (e_var 1)) (pv_ (e_int)) (by rfl)))))
  (s_one (s_ret (e_un un_neg d_neg (pv_ (e_int)))))
  (s_nil))
  (s_one (s_ret (e_int)))))
  · exact fun j hj => ⟨[], by cases j <;> first | exact .nil | (exact absurd hj (by simp)), FD.bindsN fun _ _ _ _ _ _ us hl => match us, hl with | [_, _], _ => rfl⟩
theorem sc_lead_sum : FnScope ["scene", "walk", "place", "states", "one", "other"] ["scene", "walk"] (defScope s_lead_sum) := ⟨rfl, rfl, rfl, by decide +kernel, rfl, by decide +kernel, by decide +kernel⟩
theorem ok_lead_sum {f_check_walk : Addr} {f_lead_sum : Addr} {f_state_lead : Addr} {fd : FuncData} (FD : FunD K "lead_sum" "lead_sum" (defArgs s_lead_sum) (defBody s_lead_sum) (defScope s_lead_sum) [] [] f_lead_sum fd) (T : Txt P w K mg cm)  (G_check_walk : DefP P w K mg base cm 3 2 f_check_walk d_check_walk []) (A_check_walk : At K mg "check_walk" f_check_walk) (G_state_lead : DefP P w K mg base cm 1 2 f_state_lead d_state_lead []) (A_state_lead : At K mg "state_lead" f_state_lead) : DefP P w K mg base cm 4 2 f_lead_sum d_lead_sum [] := by
  refine ⟨fd, ["scene", "walk"], [], fn_ok FD sc_lead_sum (fun cdv A outer s H E S0 F0 hr tk => ?_), fun S => .nil, ?_⟩
  ·
    exact (s_cons (s_expr (e_callP 0 G_check_walk A_check_walk tk (hr.mono (by decide)) (by decide) (a_cons (e_fld T.f_web (e_var 0)) (a_cons (e_var 1) (a_nil)))))
  (s_cons (s_setLc sc_lead_sum.nd rfl rfl rfl (own := [("place", 2)]) (i_view (pv_ (e_var 1))) (blkOk_by (by kernel_rfl)) (fun _ _ _ _ _ => g_name sc_lead_sum.nd rfl (by first | exact Or.inl rfl | exact Or.inr rfl)) (fun _ _ _ _ _ => ts_nil) (fun _ _ _ _ _ => e_ix (pv_ (e_fld T.f_picture (e_var 0))) (pv_ (e_var 2))))
  (s_one (s_ret (e_callB (cr_sum rfl) d_sum T.m_sum b_sum (va_cons (pv_ (e_lc (own := [("one", 4), ("other", 5)]) (i_v (i_zip T.m_zip (a_cons (e_var 3) (a_cons (e_sl (pv_ (e_var 3)) (o_some (pv_ (e_int))) (o_none)) (a_nil))))) (blkOk_by (by kernel_rfl)) (fun _ _ _ _ _ => g_tup rfl (gs_cons (g_name sc_lead_sum.nd rfl (by first | exact Or.inl rfl | exact Or.inr rfl)) (gs_cons (g_name sc_lead_sum.nd rfl (by first | exact Or.inl rfl | exact Or.inr rfl)) (gs_nil)))) (fun _ _ _ _ _ => ts_nil) (fun _ _ _ _ _ => e_callP 0 G_state_lead A_state_lead takesF (hr.mono (by decide)) (by decide) (a_cons (e_var 4) (a_cons (e_var 5) (a_nil)))) sc_lead_sum.nd)) (va_nil)))))))
  · exact fun j hj => ⟨[], by cases j <;> first | exact .nil | (exact absurd hj (by simp)), FD.bindsN fun _ _ _ _ _ _ us hl => match us, hl with | [_, _], _ => rfl⟩
theorem sc_is_share_ring : FnScope ["scene", "share", "ring"] ["scene", "share", "ring"] (defScope s_is_share_ring) := ⟨rfl, rfl, rfl, by decide +kernel, rfl, by decide +kernel, by decide +kernel⟩
theorem ok_is_share_ring {f_is_ring : Addr} {f_is_share_ring : Addr} {f_lead_sum : Addr} {fd : FuncData} (FD : FunD K "is_share_ring" "is_share_ring" (defArgs s_is_share_ring) (defBody s_is_share_ring) (defScope s_is_share_ring) [] [] f_is_share_ring fd) (T : Txt P w K mg cm)  (G_is_ring : DefP P w K mg base cm 2 2 f_is_ring d_is_ring []) (A_is_ring : At K mg "is_ring" f_is_ring) (G_lead_sum : DefP P w K mg base cm 4 2 f_lead_sum d_lead_sum []) (A_lead_sum : At K mg "lead_sum" f_lead_sum) : DefP P w K mg base cm 5 3 f_is_share_ring d_is_share_ring [] := by
  refine ⟨fd, ["scene", "share", "ring"], [], fn_ok FD sc_is_share_ring (fun cdv A outer s H E S0 F0 hr tk => ?_), fun S => .nil, ?_⟩
  ·
    exact (s_cons (s_if (t_not (t_val (e_callP 0 G_is_ring A_is_ring tk (hr.mono (by decide)) (by decide) (a_cons (e_fld T.f_web (e_var 0)) (a_cons (e_var 2) (a_nil))))))
  (s_one (s_ret (e_bl)))
  (s_nil))
  (s_one (s_ret (e_cmp (or_eq hr) d_eq (pv_ (e_op or_mul d_mul (pv_ (e_ix (pv_ (e_var 1)) (pv_ (e_int)))) (pv_ (e_callP 0 G_lead_sum A_lead_sum tk (hr.mono (by decide)) (by decide) (a_cons (e_var 0) (a_cons (e_var 2) (a_nil))))))) (pv_ (e_op or_mul d_mul (pv_ (e_ix (pv_ (e_var 1)) (pv_ (e_int)))) (pv_ (e_op op_sub d_sub (pv_ (e_callB c_len d_len T.m_len b_len (va_cons (pv_ (e_var 2)) (va_nil)))) (pv_ (e_int)))))) (by rfl)))))
  · exact fun j hj => ⟨[], by cases j <;> first | exact .nil | (exact absurd hj (by simp)), FD.bindsN fun _ _ _ _ _ _ us hl => match us, hl with | [_, _, _], _ => rfl⟩
theorem sc__law_rings_asked : FnScope ["_law_scene_here", "_law_near_here", "_law_picture_here", "_law_shares", "_law_rings_here", "_law_ring", "_law_pair", "_law_due"] ["_law_scene_here", "_law_near_here", "_law_picture_here", "_law_shares"] (defScope s__law_rings_asked) := ⟨rfl, rfl, rfl, by decide +kernel, rfl, by decide +kernel, by decide +kernel⟩
theorem ok__law_rings_asked {f__law_agree : Addr} {f__law_has_share : Addr} {f__law_own_pairs : Addr} {f__law_rings : Addr} {f__law_rings_asked : Addr} {f_is_share_ring : Addr} {fd : FuncData} (FD : FunD K "_law_rings_asked" "_law_rings_asked" (defArgs s__law_rings_asked) (defBody s__law_rings_asked) (defScope s__law_rings_asked) [] [] f__law_rings_asked fd) (T : Txt P w K mg cm)  (G__law_rings : DefP P w K mg base cm 1 1 f__law_rings d__law_rings []) (A__law_rings : At K mg "_law_rings" f__law_rings) (G__law_own_pairs : DefP P w K mg base cm 3 3 f__law_own_pairs d__law_own_pairs []) (A__law_own_pairs : At K mg "_law_own_pairs" f__law_own_pairs) (G__law_has_share : DefP P w K mg base cm 3 5 f__law_has_share d__law_has_share []) (A__law_has_share : At K mg "_law_has_share" f__law_has_share) (G__law_agree : DefP P w K mg base cm 1 2 f__law_agree d__law_agree []) (A__law_agree : At K mg "_law_agree" f__law_agree) (G_is_share_ring : DefP P w K mg base cm 5 3 f_is_share_ring d_is_share_ring []) (A_is_share_ring : At K mg "is_share_ring" f_is_share_ring) : DefP P w K mg base cm 6 4 f__law_rings_asked d__law_rings_asked [] := by
  refine ⟨fd, ["_law_scene_here", "_law_near_here", "_law_picture_here", "_law_shares"], [], fn_ok FD sc__law_rings_asked (fun cdv A outer s H E S0 F0 hr tk => ?_), fun S => .nil, ?_⟩
  ·
    exact (s_cons (s_set sc__law_rings_asked.nd rfl (by first | exact Or.inl rfl | exact Or.inr rfl) (e_callP 0 G__law_rings A__law_rings tk (hr.mono (by decide)) (by decide) (a_cons (e_var 1) (a_nil))))
  (s_cons (s_for (i_e (e_var 4)) (g_name sc__law_rings_asked.nd rfl (by first | exact Or.inl rfl | exact Or.inr rfl))
  (s_one (s_for (i_e (e_op or_add d_add (pv_ (e_var 3)) (pv_ (e_callP 0 G__law_own_pairs A__law_own_pairs tk (hr.mono (by decide)) (by decide) (a_cons (e_var 1) (a_cons (e_var 2) (a_cons (e_var 5) (a_nil)))))))) (g_name sc__law_rings_asked.nd rfl (by first | exact Or.inl rfl | exact Or.inr rfl))
  (s_cons (s_set sc__law_rings_asked.nd rfl (by first | exact Or.inl rfl | exact Or.inr rfl) (e_callP 0 G__law_has_share A__law_has_share tk (hr.mono (by decide)) (by decide) (a_cons (e_var 1) (a_cons (e_var 2) (a_cons (e_callT call_tuple_of d_tuple T.m_tuple b_tuple (va_cons (pv_ (e_var 5)) (va_nil))) (a_cons (e_ix (pv_ (e_var 6)) (pv_ (e_int))) (a_cons (e_ix (pv_ (e_var 6)) (pv_ (e_int))) (a_nil))))))))
  (s_cons (s_if (t_not (t_val (e_callP 0 G__law_agree A__law_agree tk (hr.mono (by decide)) (by decide) (a_cons (e_callP 0 G_is_share_ring A_is_share_ring tk (hr.mono (by decide)) (by decide) (a_cons (e_var 0) (a_cons (e_var 6) (a_cons (e_var 5) (a_nil))))) (a_cons (e_var 7) (a_nil))))))
  (s_one (s_ret (e_bl)))
  (s_nil))
  (s_one (s_if (t_not (t_val (e_callP 0 G__law_agree A__law_agree tk (hr.mono (by decide)) (by decide) (a_cons (e_callP 0 G_is_share_ring A_is_share_ring tk (hr.mono (by decide)) (by decide) (a_cons (e_var 0) (a_cons (e_callT call_list_of (opN_of d_listF) T.m_list b_list (va_cons (pv_ (e_var 6)) (va_nil))) (a_cons (e_callT call_tuple_of d_tuple T.m_tuple b_tuple (va_cons (pv_ (e_var 5)) (va_nil))) (a_nil))))) (a_cons (e_var 7) (a_nil))))))
  (s_one (s_ret (e_bl)))
  (s_nil))))))))
  (s_one (s_ret (e_cmp (or_eq hr) d_eq (pv_ (e_var 4)) (pv_ (e_callP 0 G__law_rings A__law_rings tk (hr.mono (by decide)) (by decide) (a_cons (e_var 1) (a_nil)))) (by rfl))))))
  · exact fun j hj => ⟨[], by cases j <;> first | exact .nil | (exact absurd hj (by simp)), FD.bindsN fun _ _ _ _ _ _ us hl => match us, hl with | [_, _, _, _], _ => rfl⟩
theorem sc__law_grown : FnScope ["_law_near_here", "_law_picture_here", "_law_piece", "_law_p", "_law_q", "_law_place", "_law_slopes", "_law_turn", "_law_k", "_law_other", "_law_number"] ["_law_near_here", "_law_picture_here", "_law_piece", "_law_p", "_law_q"] (defScope s__law_grown) := ⟨rfl, rfl, rfl, by decide +kernel, rfl, by decide +kernel, by decide +kernel⟩
theorem ok__law_grown {f__law_grown : Addr} {f__law_lead : Addr} {fd : FuncData} (FD : FunD K "_law_grown" "_law_grown" (defArgs s__law_grown) (defBody s__law_grown) (defScope s__law_grown) [] [] f__law_grown fd) (T : Txt P w K mg cm)  (G__law_lead : DefP P w K mg base cm 1 2 f__law_lead d__law_lead []) (A__law_lead : At K mg "_law_lead" f__law_lead) : DefP P w K mg base cm 2 5 f__law_grown d__law_grown [] := by
  refine ⟨fd, ["_law_near_here", "_law_picture_here", "_law_piece", "_law_p", "_law_q"], [], fn_ok FD sc__law_grown (fun cdv A outer s H E S0 F0 hr tk => ?_), fun S => .nil, ?_⟩
  ·
    exact (s_cons (s_setLcF sc__law_grown.nd rfl rfl rfl (own := [("_law_place", 5)]) (i_view (pv_ (e_var 2))) (blkOk_by (by kernel_rfl)) (fun _ _ _ _ _ => g_name sc__law_grown.nd rfl (by first | exact Or.inl rfl | exact Or.inr rfl)) (fun _ _ _ _ _ => ts_nil) (fun _ _ _ _ _ => e_int))
  (s_cons (s_for (i_range1 T.m_range (a_cons (e_callB c_len d_len T.m_len b_len (va_cons (pv_ (e_var 2)) (va_nil))) (a_nil))) (g_name sc__law_grown.nd rfl (by first | exact Or.inl rfl | exact Or.inr rfl))
  (s_one (s_for (i_range1 T.m_range (a_cons (e_callB c_len d_len T.m_len b_len (va_cons (pv_ (e_var 2)) (va_nil))) (a_nil))) (g_name sc__law_grown.nd rfl (by first | exact Or.inl rfl | exact Or.inr rfl))
  (s_one (s_for (i_e (e_ix (pv_ (e_var 0)) (pv_ (e_ix (pv_ (e_var 2)) (pv_ (e_var 8)))))) (g_name sc__law_grown.nd rfl (by first | exact Or.inl rfl | exact Or.inr rfl))
  (s_cons (s_set sc__law_grown.nd rfl (by first | exact Or.inl rfl | exact Or.inr rfl) (e_op or_add d_add (pv_ (e_op op_sub d_sub (pv_ (e_op or_mul d_mul (pv_ (e_var 4)) (pv_ (e_callP 0 G__law_lead A__law_lead tk (hr.mono (by decide)) (by decide) (a_cons (e_ix (pv_ (e_var 1)) (pv_ (e_ix (pv_ (e_var 2)) (pv_ (e_var 8))))) (a_cons (e_ix (pv_ (e_var 1)) (pv_ (e_var 9))) (a_nil))))))) (pv_ (e_var 3)))) (pv_ (e_ix (v_var 6) (pv_ (e_index hr (pv_ (e_var 2)) (pv_ (e_var 9))))))))
  (s_one (s_setI (f_e (e_callB (call_max2 rfl) d_max2 T.m_max b_max (va_cons (pv_ (e_ix (v_var 6) (pv_ (e_var 8)))) (va_cons (pv_ (e_var 10)) (va_nil))))) (pg_sub (pe_var rfl (by first | exact Or.inl rfl | exact Or.inr (Or.inl rfl) | exact Or.inr (Or.inr rfl))) (pv_ (e_var 8)) set_list)))))))))
  (s_one (s_frz 6 (s_ret (e_var 6))))))
  · exact fun j hj => ⟨[], by cases j <;> first | exact .nil | (exact absurd hj (by simp)), FD.bindsN fun _ _ _ _ _ _ us hl => match us, hl with | [_, _, _, _, _], _ => rfl⟩
theorem sc__law_slope : FnScope ["_law_near_here", "_law_picture_here", "_law_piece", "_law_numbers", "_law_p", "_law_q", "_law_a", "_law_b", "_law_most"] ["_law_near_here", "_law_picture_here", "_law_piece", "_law_numbers", "_law_p", "_law_q"] (defScope s__law_slope) := ⟨rfl, rfl, rfl, by decide +kernel, rfl, by decide +kernel, by decide +kernel⟩
theorem ok__law_slope {f__law_lead : Addr} {f__law_slope : Addr} {fd : FuncData} (FD : FunD K "_law_slope" "_law_slope" (defArgs s__law_slope) (defBody s__law_slope) (defScope s__law_slope) [] [] f__law_slope fd) (T : Txt P w K mg cm)  (G__law_lead : DefP P w K mg base cm 1 2 f__law_lead d__law_lead []) (A__law_lead : At K mg "_law_lead" f__law_lead) : DefP P w K mg base cm 2 6 f__law_slope d__law_slope [] := by
  refine ⟨fd, ["_law_near_here", "_law_picture_here", "_law_piece", "_law_numbers", "_law_p", "_law_q"], [], fn_ok FD sc__law_slope (fun cdv A outer s H E S0 F0 hr tk => ?_), fun S => .nil, ?_⟩
  ·
    exact (s_cons (s_if (t_cmp (or_ne hr) d_ne (pv_ (e_callB c_len d_len T.m_len b_len (va_cons (pv_ (e_var 3)) (va_nil)))) (pv_ (e_callB c_len d_len T.m_len b_len (va_cons (pv_ (e_var 2)) (va_nil)))) (by rfl))
  (s_one (s_ret (e_bl)))
  (s_nil))
  (s_cons (s_for (i_e (e_var 2)) (g_name sc__law_slope.nd rfl (by first | exact Or.inl rfl | exact Or.inr rfl))
  (s_one (s_for (i_e (e_ix (pv_ (e_var 0)) (pv_ (e_var 6)))) (g_name sc__law_slope.nd rfl (by first | exact Or.inl rfl | exact Or.inr rfl))
  (s_cons (s_set sc__law_slope.nd rfl (by first | exact Or.inl rfl | exact Or.inr rfl) (e_op op_sub d_sub (pv_ (e_ix (pv_ (e_var 3)) (pv_ (e_index hr (pv_ (e_var 2)) (pv_ (e_var 6)))))) (pv_ (e_ix (pv_ (e_var 3)) (pv_ (e_index hr (pv_ (e_var 2)) (pv_ (e_var 7))))))))
  (s_one (s_if (t_cmp op_gt d_gt (pv_ (e_op op_sub d_sub (pv_ (e_op or_mul d_mul (pv_ (e_var 5)) (pv_ (e_callP 0 G__law_lead A__law_lead tk (hr.mono (by decide)) (by decide) (a_cons (e_ix (pv_ (e_var 1)) (pv_ (e_var 6))) (a_cons (e_ix (pv_ (e_var 1)) (pv_ (e_var 7))) (a_nil))))))) (pv_ (e_var 4)))) (pv_ (e_var 8)) (by rfl))
  (s_one (s_ret (e_bl)))
  (s_nil)))))))
  (s_one (s_ret (e_bl)))))
  · exact fun j hj => ⟨[], by cases j <;> first | exact .nil | (exact absurd hj (by simp)), FD.bindsN fun _ _ _ _ _ _ us hl => match us, hl with | [_, _, _, _, _, _], _ => rfl⟩
theorem sc_NoPlace___init__ : FnScope ["self", "place"] ["self", "place"] (defScope s_NoPlace___init__) := ⟨rfl, rfl, rfl, by decide +kernel, rfl, by decide +kernel, by decide +kernel⟩
theorem okx_NoPlace___init__ {f_NoPlace___init__ : Addr} {fd : FuncData} (FD : FunD K "__init__" "NoPlace.__init__" (defArgs s_NoPlace___init__) (defBody s_NoPlace___init__) (defScope s_NoPlace___init__) [] [] f_NoPlace___init__ fd) : XP1 P w K mg base 1 f_NoPlace___init__ "place" := ⟨fd, ["self", "place"], rfl, xinit1 FD sc_NoPlace___init__ (fun cdv A outer s H E => pss_one (ps_ost (pe_var rfl (Or.inl rfl)) (pe_var rfl (Or.inl rfl)))), FD.bindsN fun _ _ _ _ _ _ us hl => match us, hl with | [_, _], _ => rfl⟩
theorem sc_check_place : FnScope ["web", "place"] ["web", "place"] (defScope s_check_place) := ⟨rfl, rfl, rfl, by decide +kernel, rfl, by decide +kernel, by decide +kernel⟩
theorem ok_check_place {f_NoPlace___init__ : Addr} {f_check_place : Addr} {fd : FuncData} (FD : FunD K "check_place" "check_place" (defArgs s_check_place) (defBody s_check_place) (defScope s_check_place) [] [] f_check_place fd) (T : Txt P w K mg cm)  (GX_NoPlace : XP1 P w K mg base 1 f_NoPlace___init__ "place") (XA_NoPlace : XAt K mg cm "NoPlace" 6 f_NoPlace___init__) : DefP P w K mg base cm 3 2 f_check_place d_check_place [] := by
  refine ⟨fd, ["web", "place"], [], fn_ok FD sc_check_place (fun cdv A outer s H E S0 F0 hr tk => ?_), fun S => .nil, ?_⟩
  ·
    exact (s_one (s_if (t_not (t_chain op_le d_le op_lt d_lt (pv_ (e_int)) (pv_ (e_var 1)) (pv_ (e_fld T.f_size (e_var 0)))))
  (s_one (s_raise1 GX_NoPlace XA_NoPlace T.xnm_NoPlace T.xno_NoPlace_place tk (hr.mono (by decide)) (e_var 1)))
  (s_nil)))
  · exact fun j hj => ⟨[], by cases j <;> first | exact .nil | (exact absurd hj (by simp)), FD.bindsN fun _ _ _ _ _ _ us hl => match us, hl with | [_, _], _ => rfl⟩
theorem sc_piece_of : FnScope ["web", "place", "found", "known", "at", "other"] ["web", "place"] (defScope s_piece_of) := ⟨rfl, rfl, rfl, by decide +kernel, rfl, by decide +kernel, by decide +kernel⟩
theorem ok_piece_of {f_check_place : Addr} {f_piece_of : Addr} {fd : FuncData} (FD : FunD K "piece_of" "piece_of" (defArgs s_piece_of) (defBody s_piece_of) (defScope s_piece_of) [] [] f_piece_of fd) (T : Txt P w K mg cm)  (G_check_place : DefP P w K mg base cm 3 2 f_check_place d_check_place []) (A_check_place : At K mg "check_place" f_check_place) : DefP P w K mg base cm 4 2 f_piece_of d_piece_of [] := by
  refine ⟨fd, ["web", "place"], [], fn_ok FD sc_piece_of (fun cdv A outer s H E S0 F0 hr tk => ?_), fun S => .nil, ?_⟩
  ·
    exact (s_cons (s_expr (e_callP 0 G_check_place A_check_place tk (hr.mono (by decide)) (by decide) (a_cons (e_var 0) (a_cons (e_var 1) (a_nil)))))
  (s_cons (s_setF sc_piece_of.nd rfl (by first | exact Or.inl rfl | exact Or.inr rfl) (f_lst (a_cons (e_var 1) (a_nil))))
  (s_cons (s_setF sc_piece_of.nd rfl (by first | exact Or.inl rfl | exact Or.inr rfl) (f_dlit (e_var 1) (e_bl)))
  (s_cons (s_set sc_piece_of.nd rfl (by first | exact Or.inl rfl | exact Or.inr rfl) (e_int))
  (s_cons (s_while fuel (t_cmp op_lt d_lt (pv_ (e_var 4)) (pv_ (e_callB c_len d_len T.m_len b_len (va_cons (v_var 2) (va_nil)))) (by rfl))
  (s_cons (s_for (i_e (e_ix (pv_ (e_fld T.f_around (e_var 0))) (pv_ (e_ix (v_var 2) (pv_ (e_var 4)))))) (g_name sc_piece_of.nd rfl (by first | exact Or.inl rfl | exact Or.inr rfl))
  (s_one (s_if (t_dnin hr (e_var 5) (pe_var rfl (by first | exact Or.inl rfl | exact Or.inr (Or.inl rfl) | exact Or.inr (Or.inr rfl))))
  (s_cons (s_dput hr (pe_var rfl (by first | exact Or.inl rfl | exact Or.inr (Or.inl rfl) | exact Or.inr (Or.inr rfl))) (e_var 5) (e_bl))
  (s_one (s_app (pe_bm PySem.F.plainAttrs_list PySem.F.slot_list_append PySem.F.type_list_append mt_append (pe_var rfl (by first | exact Or.inl rfl | exact Or.inr (Or.inl rfl) | exact Or.inr (Or.inr rfl))) (pa_cons (f_e (e_var 5)) pa_nil)))))
  (s_nil))))
  (s_one (s_aug ip_add d_ipAdd sc_piece_of.nd rfl (by first | exact Or.inl rfl | exact Or.inr rfl) (e_int)))))
  (s_one (s_frz 2 (s_ret (e_callT call_tuple_of d_tuple T.m_tuple b_tuple (va_cons (pv_ (e_callB cr_sortedI (opN_of d_sortF) T.m_sorted b_sorted (va_cons (pv_ (e_var 2)) (va_nil)))) (va_nil)))))))))))
  · exact fun j hj => ⟨[], by cases j <;> first | exact .nil | (exact absurd hj (by simp)), FD.bindsN fun _ _ _ _ _ _ us hl => match us, hl with | [_, _], _ => rfl⟩
theorem sc_step_lead : FnScope ["scene", "a", "b"] ["scene", "a", "b"] (defScope s_step_lead) := ⟨rfl, rfl, rfl, by decide +kernel, rfl, by decide +kernel, by decide +kernel⟩
theorem ok_step_lead {f_state_lead : Addr} {f_step_lead : Addr} {fd : FuncData} (FD : FunD K "step_lead" "step_lead" (defArgs s_step_lead) (defBody s_step_lead) (defScope s_step_lead) [] [] f_step_lead fd) (T : Txt P w K mg cm)  (G_state_lead : DefP P w K mg base cm 1 2 f_state_lead d_state_lead []) (A_state_lead : At K mg "state_lead" f_state_lead) : DefP P w K mg base cm 2 3 f_step_lead d_step_lead [] := by
  refine ⟨fd, ["scene", "a", "b"], [], fn_ok FD sc_step_lead (fun cdv A outer s H E S0 F0 hr tk => ?_), fun S => .nil, ?_⟩
  ·
    exact (s_one (s_ret (e_callP 0 G_state_lead A_state_lead tk (hr.mono (by decide)) (by decide) (a_cons (e_ix (pv_ (e_fld T.f_picture (e_var 0))) (pv_ (e_var 1))) (a_cons (e_ix (pv_ (e_fld T.f_picture (e_var 0))) (pv_ (e_var 2))) (a_nil))))))
  · exact fun j hj => ⟨[], by cases j <;> first | exact .nil | (exact absurd hj (by simp)), FD.bindsN fun _ _ _ _ _ _ us hl => match us, hl with | [_, _, _], _ => rfl⟩
theorem sc_are_slopes : FnScope ["scene", "place", "share", "slopes", "piece", "numbers", "index", "number", "known", "a", "b"] ["scene", "place", "share", "slopes"] (defScope s_are_slopes) := ⟨rfl, rfl, rfl, by decide +kernel, rfl, by decide +kernel, by decide +kernel⟩
theorem ok_are_slopes {f_are_slopes : Addr} {f_check_place : Addr} {f_frozen : Addr} {f_piece_of : Addr} {f_step_lead : Addr} {fd : FuncData} (FD : FunD K "are_slopes" "are_slopes" (defArgs s_are_slopes) (defBody s_are_slopes) (defScope s_are_slopes) [] [] f_are_slopes fd) (T : Txt P w K mg cm)  (G_check_place : DefP P w K mg base cm 3 2 f_check_place d_check_place []) (A_check_place : At K mg "check_place" f_check_place) (G_piece_of : DefP P w K mg base cm 4 2 f_piece_of d_piece_of []) (A_piece_of : At K mg "piece_of" f_piece_of) (G_frozen : DefP P w K mg base cm 7 1 f_frozen (d_frozen 6) []) (A_frozen : At K mg "frozen" f_frozen) (G_step_lead : DefP P w K mg base cm 2 3 f_step_lead d_step_lead []) (A_step_lead : At K mg "step_lead" f_step_lead) : DefP P w K mg base cm 8 4 f_are_slopes d_are_slopes [] := by
  refine ⟨fd, ["scene", "place", "share", "slopes"], [], fn_ok FD sc_are_slopes (fun cdv A outer s H E S0 F0 hr tk => ?_), fun S => .nil, ?_⟩
  ·
    exact (s_cons (s_expr (e_callP 0 G_check_place A_check_place tk (hr.mono (by decide)) (by decide) (a_cons (e_fld T.f_web (e_var 0)) (a_cons (e_var 1) (a_nil)))))
  (s_cons (s_set sc_are_slopes.nd rfl (by first | exact Or.inl rfl | exact Or.inr rfl) (e_callP 0 G_piece_of A_piece_of tk (hr.mono (by decide)) (by decide) (a_cons (e_fld T.f_web (e_var 0)) (a_cons (e_var 1) (a_nil)))))
  (s_cons (s_set sc_are_slopes.nd rfl (by first | exact Or.inl rfl | exact Or.inr rfl) (e_callP 0 G_frozen A_frozen tk (hr.mono (by decide)) (by decide) (a_cons (e_var 3) (a_nil))))
  (s_cons (s_if (t_cmp (or_ne hr) d_ne (pv_ (e_callB c_len d_len T.m_len b_len (va_cons (pv_ (e_var 5)) (va_nil)))) (pv_ (e_callB c_len d_len T.m_len b_len (va_cons (pv_ (e_var 4)) (va_nil)))) (by rfl))
  (s_one (s_ret (e_bl)))
  (s_nil))
  (s_cons (s_setDcF sc_are_slopes.nd rfl rfl rfl (own := [("index", 6), ("number", 7)]) (i_v (i_enum T.m_enumerate (a_cons (e_var 5) (a_nil)))) (blkOk_by (by kernel_rfl)) (fun _ _ _ _ _ => g_tup rfl (gs_cons (g_name sc_are_slopes.nd rfl (by first | exact Or.inl rfl | exact Or.inr rfl)) (gs_cons (g_name sc_are_slopes.nd rfl (by first | exact Or.inl rfl | exact Or.inr rfl)) (gs_nil)))) (fun _ _ _ _ _ => ts_nil) (fun _ _ _ _ _ => e_ix (pv_ (e_var 4)) (pv_ (e_var 6))) (fun _ _ _ _ _ => e_var 7))
  (s_cons (s_for (i_e (e_var 4)) (g_name sc_are_slopes.nd rfl (by first | exact Or.inl rfl | exact Or.inr rfl))
  (s_one (s_for (i_e (e_ix (pv_ (e_fld T.f_around (e_fld T.f_web (e_var 0)))) (pv_ (e_var 9)))) (g_name sc_are_slopes.nd rfl (by first | exact Or.inl rfl | exact Or.inr rfl))
  (s_one (s_if (t_cmp op_gt d_gt (pv_ (e_op op_sub d_sub (pv_ (e_op or_mul d_mul (pv_ (e_ix (pv_ (e_var 2)) (pv_ (e_int)))) (pv_ (e_callP 0 G_step_lead A_step_lead tk (hr.mono (by decide)) (by decide) (a_cons (e_var 0) (a_cons (e_var 9) (a_cons (e_var 10) (a_nil)))))))) (pv_ (e_ix (pv_ (e_var 2)) (pv_ (e_int)))))) (pv_ (e_op op_sub d_sub (pv_ (e_dix hr (pe_var rfl (by first | exact Or.inl rfl | exact Or.inr (Or.inl rfl) | exact Or.inr (Or.inr rfl))) (e_var 9))) (pv_ (e_dix hr (pe_var rfl (by first | exact Or.inl rfl | exact Or.inr (Or.inl rfl) | exact Or.inr (Or.inr rfl))) (e_var 10))))) (by rfl))
  (s_one (s_ret (e_bl)))
  (s_nil))))))
  (s_one (s_ret (e_bl)))))))))
  · exact fun j hj => ⟨[], by cases j <;> first | exact .nil | (exact absurd hj (by simp)), FD.bindsN fun _ _ _ _ _ _ us hl => match us, hl with | [_, _, _, _], _ => rfl⟩
theorem sc__law_refused : FnScope ["_law_scene_here", "_law_bad", "e"] ["_law_scene_here", "_law_bad"] (defScope s__law_refused) := ⟨rfl, rfl, rfl, by decide +kernel, rfl, by decide +kernel, by decide +kernel⟩
theorem ok__law_refused {f__law_refused : Addr} {f__law_whole : Addr} {f_are_slopes : Addr} {fd : FuncData} (FD : FunD K "_law_refused" "_law_refused" (defArgs s__law_refused) (defBody s__law_refused) (defScope s__law_refused) [] [] f__law_refused fd) (T : Txt P w K mg cm)  (G_are_slopes : DefP P w K mg base cm 8 4 f_are_slopes d_are_slopes []) (A_are_slopes : At K mg "are_slopes" f_are_slopes) (G__law_whole : DefP P w K mg base cm 1 1 f__law_whole d__law_whole []) (A__law_whole : At K mg "_law_whole" f__law_whole) (GW__law_whole : WarmP P w K mg base cm 1 f__law_whole d__law_whole) : DefP P w K mg base cm 9 2 f__law_refused d__law_refused [] := by
  refine ⟨fd, ["_law_scene_here", "_law_bad"], [], fn_ok FD sc__law_refused (fun cdv A outer s H E S0 F0 hr tk => ?_), fun S => .nil, ?_⟩
  ·
    exact (s_one (s_try rfl rfl sc__law_refused.nd rfl rfl ⟨rfl, by decide, .inl T.xcg_NoPlace⟩ tk rfl T.xh_NoPlace (fun W' pn xe tk hp => s_cons (s_expr (e_callP 0 G_are_slopes A_are_slopes tk (hr.mono (by decide)) (by decide) (a_cons (e_var 0) (a_cons (e_var 1) (a_cons (e_tup (a_cons (e_int) (a_cons (e_int) (a_nil)))) (a_cons (e_tup (a_cons (e_int) (a_nil))) (a_nil)))))))
  (s_one (s_ret (e_bl))))
  (fun a oe cls d pn e S0 c' hz hd hx => s_cons (s_if (t_w (w_or (t_not (t_val (e_warm GW__law_whole A__law_whole (hr.mono (by decide) : Room 2 _) (a_cons (e_xf T.xf_place hz hd hx) (a_nil))))) (w_or (t_cmp (or_neX hr) d_ne (pv_ (e_xf T.xf_place hz hd hx)) (pv_ (e_var 1)) (by rfl)) (w_or1 (t_val (e_xis T.xl T.xk_NoLine T.m_isinstance hz hd hx (pe_glob rfl T.xcg_NoLine rfl)))))))
  (s_one (s_ret (e_bl)))
  (s_nil))
  (s_one (s_ret (e_and (e_xis T.xl T.xk_FirerestError T.m_isinstance hz hd hx (pe_glob rfl T.xcg_FirerestError rfl)) (e_one (e_xis T.xl T.xkb_ValueError T.m_isinstance hz hd hx (pe_bltn rfl T.m_ValueError PyProof.Rows.Boot.«ValueError» rfl)))))))))
  · exact fun j hj => ⟨[], by cases j <;> first | exact .nil | (exact absurd hj (by simp)), FD.bindsN fun _ _ _ _ _ _ us hl => match us, hl with | [_, _], _ => rfl⟩
theorem sc_law : FnScope ["_law_script", "_law_drawn", "_law_size", "_law_picture_here", "_law_near_here", "_law_row", "_law_scene_here", "_law_place", "_law_group", "_law_piece", "_law_due", "_law_shares", "_law_slopes", "_law_spoilt", "_law_steep", "_law_number", "_law_twice", "_law_k", "_law_flipped", "_law_rows", "_law_pair", "_law_numbers", "_law_good", "_law_handed"] ["_law_script"] (defScope s_law) := ⟨rfl, rfl, rfl, by decide +kernel, rfl, by decide +kernel, by decide +kernel⟩
theorem ok_law {f_Scene___init__ : Addr} {f_Web___init__ : Addr} {f__law_agree : Addr} {f__law_cell : Addr} {f__law_digits : Addr} {f__law_grown : Addr} {f__law_near : Addr} {f__law_pieces : Addr} {f__law_refused : Addr} {f__law_rings_asked : Addr} {f__law_scene : Addr} {f__law_share : Addr} {f__law_slope : Addr} {f_are_slopes : Addr} {f_law : Addr} {fd : FuncData} (FD : FunD K "law" "law" (defArgs s_law) (defBody s_law) (defScope s_law) [] [] f_law fd) (T : Txt P w K mg cm)  (G__law_scene : DefP P w K mg base cm 2 3 f__law_scene d__law_scene []) (A__law_scene : At K mg "_law_scene" f__law_scene) (G__law_near : DefP P w K mg base cm 1 2 f__law_near d__law_near []) (A__law_near : At K mg "_law_near" f__law_near) (G__law_digits : DefP P w K mg base cm 1 2 f__law_digits d__law_digits []) (A__law_digits : At K mg "_law_digits" f__law_digits) (G__law_cell : DefP P w K mg base cm 1 2 f__law_cell d__law_cell []) (A__law_cell : At K mg "_law_cell" f__law_cell) (G_Scene___init__ : IniP P w K mg base cm 8 2 39 f_Scene___init__ d_Scene___init__ []) (C_Scene : ClsAt K mg cm "Scene" 39 f_Scene___init__) (G_Web___init__ : IniP P w K mg base cm 8 2 46 f_Web___init__ d_Web___init__ [.tup []]) (C_Web : ClsAt K mg cm "Web" 46 f_Web___init__) (G__law_pieces : DefP P w K mg base cm 1 1 f__law_pieces d__law_pieces []) (A__law_pieces : At K mg "_law_pieces" f__law_pieces) (G__law_share : DefP P w K mg base cm 3 3 f__law_share d__law_share []) (A__law_share : At K mg "_law_share" f__law_share) (G__law_rings_asked : DefP P w K mg base cm 6 4 f__law_rings_asked d__law_rings_asked []) (A__law_rings_asked : At K mg "_law_rings_asked" f__law_rings_asked) (G__law_grown : DefP P w K mg base cm 2 5 f__law_grown d__law_grown []) (A__law_grown : At K mg "_law_grown" f__law_grown) (G__law_slope : DefP P w K mg base cm 2 6 f__law_slope d__law_slope []) (A__law_slope : At K mg "_law_slope" f__law_slope) (G__law_agree : DefP P w K mg base cm 1 2 f__law_agree d__law_agree []) (A__law_agree : At K mg "_law_agree" f__law_agree) (G_are_slopes : DefP P w K mg base cm 8 4 f_are_slopes d_are_slopes []) (A_are_slopes : At K mg "are_slopes" f_are_slopes) (G__law_refused : DefP P w K mg base cm 9 2 f__law_refused d__law_refused []) (A__law_refused : At K mg "_law_refused" f__law_refused) : FnOk P w K mg base (L2.CX P w) 10 f_law fd ["_law_script"] (spD K cm 1 d_law) := by
  refine fn_ok FD sc_law (fun cdv A outer s H E S0 F0 hr tk => ?_)
  exact (s_cons (s_set sc_law.nd rfl (by first | exact Or.inl rfl | exact Or.inr rfl) (e_callP 0 G__law_scene A__law_scene tk (hr.mono (by decide)) (by decide) (a_cons (e_var 0) (a_cons (e_int) (a_cons (e_int) (a_nil))))))
  (s_cons (s_set sc_law.nd rfl (by first | exact Or.inl rfl | exact Or.inr rfl) (e_ix (pv_ (e_var 1)) (pv_ (e_int))))
  (s_cons (s_set sc_law.nd rfl (by first | exact Or.inl rfl | exact Or.inr rfl) (e_ix (pv_ (e_var 1)) (pv_ (e_int))))
  (s_cons (s_set sc_law.nd rfl (by first | exact Or.inl rfl | exact Or.inr rfl) (e_callP 0 G__law_near A__law_near tk (hr.mono (by decide)) (by decide) (a_cons (e_var 2) (a_cons (e_ix (pv_ (e_var 1)) (pv_ (e_int))) (a_nil)))))
  (s_cons (s_set sc_law.nd rfl (by first | exact Or.inl rfl | exact Or.inr rfl) (e_callP 0 G__law_digits A__law_digits tk (hr.mono (by decide)) (by decide) (a_cons (e_callP 0 G__law_cell A__law_cell tk (hr.mono (by decide)) (by decide) (a_cons (e_var 0) (a_cons (e_int) (a_nil)))) (a_cons (e_lst (a_cons (e_int) (a_cons (e_int) (a_cons (e_int) (a_cons (e_int) (a_cons (e_int) (a_cons (e_int) (a_nil)))))))) (a_nil)))))
  (s_cons (s_set sc_law.nd rfl (by first | exact Or.inl rfl | exact Or.inr rfl) (e_makeP 0 G_Scene___init__ C_Scene tk (hr.mono (by decide)) (by decide) (a_cons (e_makeF G_Web___init__ C_Web tk (hr.mono (by decide)) (a_cons (e_var 2) (a_cons (e_ix (pv_ (e_var 1)) (pv_ (e_int))) (a_nil)))) (a_cons (e_var 3) (a_nil)))))
  (s_cons (s_set sc_law.nd rfl (by first | exact Or.inl rfl | exact Or.inr rfl) (e_op op_mod d_mod (pv_ (e_ix (pv_ (e_var 5)) (pv_ (e_int)))) (pv_ (e_var 2))))
  (s_cons (s_set sc_law.nd rfl (by first | exact Or.inl rfl | exact Or.inr rfl) (e_ix (pv_ (e_lc (own := [("_law_group", 8)]) (i_view (pv_ (e_callP 0 G__law_pieces A__law_pieces tk (hr.mono (by decide)) (by decide) (a_cons (e_var 4) (a_nil))))) (blkOk_by (by kernel_rfl)) (fun _ _ _ _ _ => g_name sc_law.nd rfl (by first | exact Or.inl rfl | exact Or.inr rfl)) (fun _ _ _ _ _ => ts_one (t_cmp (or_in hr) d_in (pv_ (e_var 7)) (pv_ (e_var 8)) (by rfl))) (fun _ _ _ _ _ => e_var 8) sc_law.nd)) (pv_ (e_int))))
  (s_cons (s_set sc_law.nd rfl (by first | exact Or.inl rfl | exact Or.inr rfl) (e_callP 0 G__law_share A__law_share tk (hr.mono (by decide)) (by decide) (a_cons (e_var 4) (a_cons (e_var 3) (a_cons (e_var 9) (a_nil))))))
  (s_cons (s_set sc_law.nd rfl (by first | exact Or.inl rfl | exact Or.inr rfl) (e_lst (a_cons (e_var 10) (a_cons (e_tup (a_cons (e_op or_mul d_mul (pv_ (e_int)) (pv_ (e_ix (pv_ (e_var 10)) (pv_ (e_int))))) (a_cons (e_op or_mul d_mul (pv_ (e_int)) (pv_ (e_ix (pv_ (e_var 10)) (pv_ (e_int))))) (a_nil)))) (a_cons (e_tup (a_cons (e_int) (a_cons (e_int) (a_nil)))) (a_cons (e_tup (a_cons (e_int) (a_cons (e_int) (a_nil)))) (a_cons (e_tup (a_cons (e_ix (pv_ (e_var 5)) (pv_ (e_int))) (a_cons (e_op or_add d_add (pv_ (e_int)) (pv_ (e_ix (pv_ (e_var 5)) (pv_ (e_int))))) (a_nil)))) (a_nil))))))))
  (s_cons (s_if (t_not (t_val (e_callP 0 G__law_rings_asked A__law_rings_asked tk (hr.mono (by decide)) (by decide) (a_cons (e_var 6) (a_cons (e_var 4) (a_cons (e_var 3) (a_cons (e_var 11) (a_nil))))))))
  (s_one (s_ret (e_bl)))
  (s_nil))
  (s_cons (s_set sc_law.nd rfl (by first | exact Or.inl rfl | exact Or.inr rfl) (e_callP 0 G__law_grown A__law_grown tk (hr.mono (by decide)) (by decide) (a_cons (e_var 4) (a_cons (e_var 3) (a_cons (e_var 9) (a_cons (e_ix (pv_ (e_var 10)) (pv_ (e_int))) (a_cons (e_ix (pv_ (e_var 10)) (pv_ (e_int))) (a_nil))))))))
  (s_cons (s_setF sc_law.nd rfl (by first | exact Or.inl rfl | exact Or.inr rfl) (f_callT call_list_of d_listF T.m_list b_list (va_cons (pv_ (e_var 12)) (va_nil))))
  (s_cons (s_setI (f_e (e_op op_sub d_sub (pv_ (e_op or_add d_add (pv_ (e_ix (v_var 13) (pv_ (e_op op_mod d_mod (pv_ (e_ix (pv_ (e_var 5)) (pv_ (e_int)))) (pv_ (e_callB c_len d_len T.m_len b_len (va_cons (pv_ (e_var 9)) (va_nil)))))))) (pv_ (e_ix (pv_ (e_var 5)) (pv_ (e_int)))))) (pv_ (e_int)))) (pg_sub (pe_var rfl (by first | exact Or.inl rfl | exact Or.inr (Or.inl rfl) | exact Or.inr (Or.inr rfl))) (pv_ (e_op op_mod d_mod (pv_ (e_ix (pv_ (e_var 5)) (pv_ (e_int)))) (pv_ (e_callB c_len d_len T.m_len b_len (va_cons (pv_ (e_var 9)) (va_nil)))))) set_list))
  (s_cons (s_set sc_law.nd rfl (by first | exact Or.inl rfl | exact Or.inr rfl) (e_callP 0 G__law_grown A__law_grown tk (hr.mono (by decide)) (by decide) (a_cons (e_var 4) (a_cons (e_var 3) (a_cons (e_var 9) (a_cons (e_int) (a_cons (e_int) (a_nil))))))))
  (s_cons (s_setLc sc_law.nd rfl rfl rfl (own := [("_law_number", 15)]) (i_view (pv_ (e_var 12))) (blkOk_by (by kernel_rfl)) (fun _ _ _ _ _ => g_name sc_law.nd rfl (by first | exact Or.inl rfl | exact Or.inr rfl)) (fun _ _ _ _ _ => ts_nil) (fun _ _ _ _ _ => e_op or_mul d_mul (pv_ (e_int)) (pv_ (e_var 15))))
  (s_cons (s_setLc sc_law.nd rfl rfl rfl (own := [("_law_k", 17)]) (i_v (i_range1 T.m_range (a_cons (e_callB c_len d_len T.m_len b_len (va_cons (pv_ (e_var 9)) (va_nil))) (a_nil)))) (blkOk_by (by kernel_rfl)) (fun _ _ _ _ _ => g_name sc_law.nd rfl (by first | exact Or.inl rfl | exact Or.inr rfl)) (fun _ _ _ _ _ => ts_nil) (fun _ _ _ _ _ => e_ix (pv_ (e_var 12)) (pv_ (e_op op_sub d_sub (pv_ (e_op op_sub d_sub (pv_ (e_callB c_len d_len T.m_len b_len (va_cons (pv_ (e_var 9)) (va_nil)))) (pv_ (e_int)))) (pv_ (e_var 17))))))
  (s_cons (s_frz 13 (s_setF sc_law.nd rfl (by first | exact Or.inl rfl | exact Or.inr rfl) (f_lst (a_cons (e_var 12) (a_cons (e_var 13) (a_cons (e_var 14) (a_cons (e_var 16) (a_cons (e_var 18) (a_cons (e_op or_add d_add (pv_ (e_var 12)) (pv_ (e_lst (a_cons (e_int) (a_nil))))) (a_cons (e_sl (pv_ (e_var 12)) (o_some (pv_ (e_int))) (o_none)) (a_cons (e_lc (own := [("_law_number", 15)]) (i_view (pv_ (e_var 12))) (blkOk_by (by kernel_rfl)) (fun _ _ _ _ _ => g_name sc_law.nd rfl (by first | exact Or.inl rfl | exact Or.inr rfl)) (fun _ _ _ _ _ => ts_nil) (fun _ _ _ _ _ => e_op op_sub d_sub (pv_ (e_var 15)) (pv_ (e_int))) sc_law.nd) (a_nil))))))))))))
  (s_cons (s_ext (pe_bm PySem.F.plainAttrs_list PySem.F.slot_list_extend PySem.F.type_list_extend mt_extend (pe_var rfl (by first | exact Or.inl rfl | exact Or.inr (Or.inl rfl) | exact Or.inr (Or.inr rfl))) (pa_cons (e_lst (a_cons (e_lc (own := [("_law_number", 15)]) (i_view (pv_ (e_var 13))) (blkOk_by (by kernel_rfl)) (fun _ _ _ _ _ => g_name sc_law.nd rfl (by first | exact Or.inl rfl | exact Or.inr rfl)) (fun _ _ _ _ _ => ts_nil) (fun _ _ _ _ _ => e_op or_add d_add (pv_ (e_var 15)) (pv_ (e_op op_pow d_pow (pv_ (e_int)) (pv_ (e_int))))) sc_law.nd) (a_cons (e_lc (own := [("_law_number", 15)]) (i_view (pv_ (e_var 12))) (blkOk_by (by kernel_rfl)) (fun _ _ _ _ _ => g_name sc_law.nd rfl (by first | exact Or.inl rfl | exact Or.inr rfl)) (fun _ _ _ _ _ => ts_nil) (fun _ _ _ _ _ => e_int) sc_law.nd) (a_cons (e_lst (a_nil)) (a_nil))))) pa_nil)))
  (s_cons (s_for (i_e (e_var 11)) (g_name sc_law.nd rfl (by first | exact Or.inl rfl | exact Or.inr rfl))
  (s_one (s_frz 19 (s_for (i_e (e_var 19)) (g_name sc_law.nd rfl (by first | exact Or.inl rfl | exact Or.inr rfl))
  (s_cons (s_set sc_law.nd rfl (by first | exact Or.inl rfl | exact Or.inr rfl) (e_callP 0 G__law_slope A__law_slope tk (hr.mono (by decide)) (by decide) (a_cons (e_var 4) (a_cons (e_var 3) (a_cons (e_var 9) (a_cons (e_var 21) (a_cons (e_ix (pv_ (e_var 20)) (pv_ (e_int))) (a_cons (e_ix (pv_ (e_var 20)) (pv_ (e_int))) (a_nil)))))))))
  (s_cons (s_set sc_law.nd rfl (by first | exact Or.inl rfl | exact Or.inr rfl) (e_callT call_list_of (opN_of d_listF) T.m_list b_list (va_cons (pv_ (e_var 21)) (va_nil))))
  (s_cons (s_if (t_w (w_or (t_not (t_val (e_callP 0 G__law_agree A__law_agree tk (hr.mono (by decide)) (by decide) (a_cons (e_callP 0 G_are_slopes A_are_slopes tk (hr.mono (by decide)) (by decide) (a_cons (e_var 6) (a_cons (e_var 7) (a_cons (e_var 20) (a_cons (e_var 23) (a_nil)))))) (a_cons (e_var 22) (a_nil)))))) (w_or1 (t_cmp (or_ne hr) d_ne (pv_ (e_var 23)) (pv_ (e_var 21)) (by rfl)))))
  (s_one (s_ret (e_bl)))
  (s_nil))
  (s_one (s_if (t_not (t_val (e_callP 0 G__law_agree A__law_agree tk (hr.mono (by decide)) (by decide) (a_cons (e_callP 0 G_are_slopes A_are_slopes tk (hr.mono (by decide)) (by decide) (a_cons (e_var 6) (a_cons (e_var 7) (a_cons (e_callT call_list_of (opN_of d_listF) T.m_list b_list (va_cons (pv_ (e_var 20)) (va_nil))) (a_cons (e_callT call_tuple_of d_tuple T.m_tuple b_tuple (va_cons (pv_ (e_var 21)) (va_nil))) (a_nil)))))) (a_cons (e_var 22) (a_nil))))))
  (s_one (s_ret (e_bl)))
  (s_nil))))))))))
  (s_one (s_ret (e_and (e_callP 0 G__law_refused A__law_refused tk (hr.mono (by decide)) (by decide) (a_cons (e_var 6) (a_cons (e_op op_sub d_sub (pv_ (e_int)) (pv_ (e_int))) (a_nil)))) (e_one (e_callP 0 G__law_refused A__law_refused tk (hr.mono (by decide)) (by decide) (a_cons (e_var 6) (a_cons (e_op or_add d_add (pv_ (e_var 2)) (pv_ (e_ix (pv_ (e_var 5)) (pv_ (e_int))))) (a_nil))))))))))))))))))))))))))))
end
end FR
end
section
set_option Elab.async false
set_option linter.all false
set_option maxRecDepth 100000
set_option maxHeartbeats 2000000
namespace FR
open PySem PySem.Spec PyProof.Rows L2 DI
set_option maxHeartbeats 4000000 in
theorem all_mk {l : PySem.W.OpenLaw} {w : World} {K : PySem.W.Frag} {h : Heap} {mg : Str → Option Value} {fa C_FirerestError C_NoPlace C_BadLine C_NoLine C_BadPicture C_NotAWalk C_Scene C_Web f__law_web f__law_digits f__law_cell f__law_picture f__law_scene f__law_near f_frozen f_BadPicture___init__ f_Scene___init__ f_BadLine___init__ f_checked_lines f_neighbour_rows f_Web___init__ T_Web___init__ t0_Web___init__ f__law_pieces f__law_step f__law_round f__law_lowest f__law_counts f__law_gains f__law_share f__law_rings f__law_whole f__law_is_walk f__law_sum f__law_lead f__law_lead_rows f__law_own_pairs f__law_has_share f__law_agree f_is_walk f_is_ring f_NotAWalk___init__ f_check_walk f_state_lead f_lead_sum f_is_share_ring f__law_rings_asked f__law_grown f__law_slope f_NoPlace___init__ f_check_place f_piece_of f_step_lead f_are_slopes f__law_refused f_law : Addr} (X : K.In h) (G : h.Ns mainGlobals mg) (hfa : mg "law" = some (.ref fa))
    {od__law_web an__law_web od__law_digits an__law_digits od__law_cell an__law_cell od__law_picture an__law_picture od__law_scene an__law_scene od__law_near an__law_near od_frozen an_frozen od_BadPicture___init__ an_BadPicture___init__ od_Scene___init__ an_Scene___init__ od_BadLine___init__ an_BadLine___init__ od_checked_lines an_checked_lines od_neighbour_rows an_neighbour_rows od_Web___init__ an_Web___init__ oD_Web___init__ o0_Web___init__ od__law_pieces an__law_pieces od__law_step an__law_step od__law_round an__law_round od__law_lowest an__law_lowest od__law_counts an__law_counts od__law_gains an__law_gains od__law_share an__law_share od__law_rings an__law_rings od__law_whole an__law_whole od__law_is_walk an__law_is_walk od__law_sum an__law_sum od__law_lead an__law_lead od__law_lead_rows an__law_lead_rows od__law_own_pairs an__law_own_pairs od__law_has_share an__law_has_share od__law_agree an__law_agree od_is_walk an_is_walk od_is_ring an_is_ring od_NotAWalk___init__ an_NotAWalk___init__ od_check_walk an_check_walk od_state_lead an_state_lead od_lead_sum an_lead_sum od_is_share_ring an_is_share_ring od__law_rings_asked an__law_rings_asked od__law_grown an__law_grown od__law_slope an__law_slope od_NoPlace___init__ an_NoPlace___init__ od_check_place an_check_place od_piece_of an_piece_of od_step_lead an_step_lead od_are_slopes an_are_slopes od__law_refused an__law_refused od_law an_law xd_BadPicture xd_BadLine xd_NotAWalk xd_NoPlace : Option Addr} {sl__law_web sl__law_digits sl__law_cell sl__law_picture sl__law_scene sl__law_near sl_frozen sl_BadPicture___init__ sl_Scene___init__ sl_BadLine___init__ sl_checked_lines sl_neighbour_rows sl_Web___init__ sT_Web___init__ s0_Web___init__ sl__law_pieces sl__law_step sl__law_round sl__law_lowest sl__law_counts sl__law_gains sl__law_share sl__law_rings sl__law_whole sl__law_is_walk sl__law_sum sl__law_lead sl__law_lead_rows sl__law_own_pairs sl__law_has_share sl__law_agree sl_is_walk sl_is_ring sl_NotAWalk___init__ sl_check_walk sl_state_lead sl_lead_sum sl_is_share_ring sl__law_rings_asked sl__law_grown sl__law_slope sl_NoPlace___init__ sl_check_place sl_piece_of sl_step_lead sl_are_slopes sl__law_refused sl_law xsl_BadPicture xsl_BadLine xsl_NotAWalk xsl_NoPlace : Array (Option Value)} {oc__law_web kV__law_web dc__law_web pm__law_web cd__law_web ct__law_web oc__law_digits kV__law_digits dc__law_digits pm__law_digits cd__law_digits ct__law_digits oc__law_cell kV__law_cell dc__law_cell pm__law_cell cd__law_cell ct__law_cell oc__law_picture kV__law_picture dc__law_picture pm__law_picture cd__law_picture ct__law_picture oc__law_scene kV__law_scene dc__law_scene pm__law_scene cd__law_scene ct__law_scene oc__law_near kV__law_near dc__law_near pm__law_near cd__law_near ct__law_near oc_frozen kV_frozen dc_frozen pm_frozen cd_frozen ct_frozen oc_BadPicture___init__ kV_BadPicture___init__ dc_BadPicture___init__ pm_BadPicture___init__ cd_BadPicture___init__ ct_BadPicture___init__ oc_Scene___init__ kV_Scene___init__ dc_Scene___init__ pm_Scene___init__ cd_Scene___init__ ct_Scene___init__ oc_BadLine___init__ kV_BadLine___init__ dc_BadLine___init__ pm_BadLine___init__ cd_BadLine___init__ ct_BadLine___init__ oc_checked_lines kV_checked_lines dc_checked_lines pm_checked_lines cd_checked_lines ct_checked_lines oc_neighbour_rows kV_neighbour_rows dc_neighbour_rows pm_neighbour_rows cd_neighbour_rows ct_neighbour_rows oc_Web___init__ kV_Web___init__ dc_Web___init__ pm_Web___init__ cd_Web___init__ ct_Web___init__ oT_Web___init__ oc__law_pieces kV__law_pieces dc__law_pieces pm__law_pieces cd__law_pieces ct__law_pieces oc__law_step kV__law_step dc__law_step pm__law_step cd__law_step ct__law_step oc__law_round kV__law_round dc__law_round pm__law_round cd__law_round ct__law_round oc__law_lowest kV__law_lowest dc__law_lowest pm__law_lowest cd__law_lowest ct__law_lowest oc__law_counts kV__law_counts dc__law_counts pm__law_counts cd__law_counts ct__law_counts oc__law_gains kV__law_gains dc__law_gains pm__law_gains cd__law_gains ct__law_gains oc__law_share kV__law_share dc__law_share pm__law_share cd__law_share ct__law_share oc__law_rings kV__law_rings dc__law_rings pm__law_rings cd__law_rings ct__law_rings oc__law_whole kV__law_whole dc__law_whole pm__law_whole cd__law_whole ct__law_whole oc__law_is_walk kV__law_is_walk dc__law_is_walk pm__law_is_walk cd__law_is_walk ct__law_is_walk oc__law_sum kV__law_sum dc__law_sum pm__law_sum cd__law_sum ct__law_sum oc__law_lead kV__law_lead dc__law_lead pm__law_lead cd__law_lead ct__law_lead oc__law_lead_rows kV__law_lead_rows dc__law_lead_rows pm__law_lead_rows cd__law_lead_rows ct__law_lead_rows oc__law_own_pairs kV__law_own_pairs dc__law_own_pairs pm__law_own_pairs cd__law_own_pairs ct__law_own_pairs oc__law_has_share kV__law_has_share dc__law_has_share pm__law_has_share cd__law_has_share ct__law_has_share oc__law_agree kV__law_agree dc__law_agree pm__law_agree cd__law_agree ct__law_agree oc_is_walk kV_is_walk dc_is_walk pm_is_walk cd_is_walk ct_is_walk oc_is_ring kV_is_ring dc_is_ring pm_is_ring cd_is_ring ct_is_ring oc_NotAWalk___init__ kV_NotAWalk___init__ dc_NotAWalk___init__ pm_NotAWalk___init__ cd_NotAWalk___init__ ct_NotAWalk___init__ oc_check_walk kV_check_walk dc_check_walk pm_check_walk cd_check_walk ct_check_walk oc_state_lead kV_state_lead dc_state_lead pm_state_lead cd_state_lead ct_state_lead oc_lead_sum kV_lead_sum dc_lead_sum pm_lead_sum cd_lead_sum ct_lead_sum oc_is_share_ring kV_is_share_ring dc_is_share_ring pm_is_share_ring cd_is_share_ring ct_is_share_ring oc__law_rings_asked kV__law_rings_asked dc__law_rings_asked pm__law_rings_asked cd__law_rings_asked ct__law_rings_asked oc__law_grown kV__law_grown dc__law_grown pm__law_grown cd__law_grown ct__law_grown oc__law_slope kV__law_slope dc__law_slope pm__law_slope cd__law_slope ct__law_slope oc_NoPlace___init__ kV_NoPlace___init__ dc_NoPlace___init__ pm_NoPlace___init__ cd_NoPlace___init__ ct_NoPlace___init__ oc_check_place kV_check_place dc_check_place pm_check_place cd_check_place ct_check_place oc_piece_of kV_piece_of dc_piece_of pm_piece_of cd_piece_of ct_piece_of oc_step_lead kV_step_lead dc_step_lead pm_step_lead cd_step_lead ct_step_lead oc_are_slopes kV_are_slopes dc_are_slopes pm_are_slopes cd_are_slopes ct_are_slopes oc__law_refused kV__law_refused dc__law_refused pm__law_refused cd__law_refused ct__law_refused oc_law kV_law dc_law pm_law cd_law ct_law : Value} {nT_Web___init__ n0_Web___init__ : Nat} {xcd_BadPicture xcd_BadLine xcd_NotAWalk xcd_NoPlace : ClassData}
    (aC_FirerestError : PySem.W.nsIn K mainGlobals "FirerestError" = some (some (.ref C_FirerestError)))
    (aC_NoPlace : PySem.W.nsIn K mainGlobals "NoPlace" = some (some (.ref C_NoPlace)))
    (aC_BadLine : PySem.W.nsIn K mainGlobals "BadLine" = some (some (.ref C_BadLine)))
    (aC_NoLine : PySem.W.nsIn K mainGlobals "NoLine" = some (some (.ref C_NoLine)))
    (aC_BadPicture : PySem.W.nsIn K mainGlobals "BadPicture" = some (some (.ref C_BadPicture)))
    (aC_NotAWalk : PySem.W.nsIn K mainGlobals "NotAWalk" = some (some (.ref C_NotAWalk)))
    (aC_Scene : PySem.W.nsIn K mainGlobals "Scene" = some (some (.ref C_Scene)))
    (aC_Web : PySem.W.nsIn K mainGlobals "Web" = some (some (.ref C_Web)))
    (a__law_web : PySem.W.nsIn K mainGlobals "_law_web" = some (some (.ref f__law_web)))
    (l__law_web : K.lookup f__law_web = some ⟨oc__law_web, od__law_web, .func (PySem.W.fnOf "_law_web" "_law_web" (defArgs s__law_web) (defBody s__law_web) (defScope s__law_web) .none kV__law_web dc__law_web pm__law_web an__law_web cd__law_web ct__law_web), sl__law_web⟩)
    (c__law_web : PySem.W.codeIn K cd__law_web "_law_web" = true)
    (k__law_web : PySem.W.keepIn K (.ref f__law_web) = true)
    (a__law_digits : PySem.W.nsIn K mainGlobals "_law_digits" = some (some (.ref f__law_digits)))
    (l__law_digits : K.lookup f__law_digits = some ⟨oc__law_digits, od__law_digits, .func (PySem.W.fnOf "_law_digits" "_law_digits" (defArgs s__law_digits) (defBody s__law_digits) (defScope s__law_digits) .none kV__law_digits dc__law_digits pm__law_digits an__law_digits cd__law_digits ct__law_digits), sl__law_digits⟩)
    (c__law_digits : PySem.W.codeIn K cd__law_digits "_law_digits" = true)
    (k__law_digits : PySem.W.keepIn K (.ref f__law_digits) = true)
    (a__law_cell : PySem.W.nsIn K mainGlobals "_law_cell" = some (some (.ref f__law_cell)))
    (l__law_cell : K.lookup f__law_cell = some ⟨oc__law_cell, od__law_cell, .func (PySem.W.fnOf "_law_cell" "_law_cell" (defArgs s__law_cell) (defBody s__law_cell) (defScope s__law_cell) .none kV__law_cell dc__law_cell pm__law_cell an__law_cell cd__law_cell ct__law_cell), sl__law_cell⟩)
    (c__law_cell : PySem.W.codeIn K cd__law_cell "_law_cell" = true)
    (k__law_cell : PySem.W.keepIn K (.ref f__law_cell) = true)
    (a__law_picture : PySem.W.nsIn K mainGlobals "_law_picture" = some (some (.ref f__law_picture)))
    (l__law_picture : K.lookup f__law_picture = some ⟨oc__law_picture, od__law_picture, .func (PySem.W.fnOf "_law_picture" "_law_picture" (defArgs s__law_picture) (defBody s__law_picture) (defScope s__law_picture) .none kV__law_picture dc__law_picture pm__law_picture an__law_picture cd__law_picture ct__law_picture), sl__law_picture⟩)
    (c__law_picture : PySem.W.codeIn K cd__law_picture "_law_picture" = true)
    (k__law_picture : PySem.W.keepIn K (.ref f__law_picture) = true)
    (a__law_scene : PySem.W.nsIn K mainGlobals "_law_scene" = some (some (.ref f__law_scene)))
    (l__law_scene : K.lookup f__law_scene = some ⟨oc__law_scene, od__law_scene, .func (PySem.W.fnOf "_law_scene" "_law_scene" (defArgs s__law_scene) (defBody s__law_scene) (defScope s__law_scene) .none kV__law_scene dc__law_scene pm__law_scene an__law_scene cd__law_scene ct__law_scene), sl__law_scene⟩)
    (c__law_scene : PySem.W.codeIn K cd__law_scene "_law_scene" = true)
    (k__law_scene : PySem.W.keepIn K (.ref f__law_scene) = true)
    (a__law_near : PySem.W.nsIn K mainGlobals "_law_near" = some (some (.ref f__law_near)))
    (l__law_near : K.lookup f__law_near = some ⟨oc__law_near, od__law_near, .func (PySem.W.fnOf "_law_near" "_law_near" (defArgs s__law_near) (defBody s__law_near) (defScope s__law_near) .none kV__law_near dc__law_near pm__law_near an__law_near cd__law_near ct__law_near), sl__law_near⟩)
    (c__law_near : PySem.W.codeIn K cd__law_near "_law_near" = true)
    (k__law_near : PySem.W.keepIn K (.ref f__law_near) = true)
    (a_frozen : PySem.W.nsIn K mainGlobals "frozen" = some (some (.ref f_frozen)))
    (l_frozen : K.lookup f_frozen = some ⟨oc_frozen, od_frozen, .func (PySem.W.fnOf "frozen" "frozen" (defArgs s_frozen) (defBody s_frozen) (defScope s_frozen) .none kV_frozen dc_frozen pm_frozen an_frozen cd_frozen ct_frozen), sl_frozen⟩)
    (c_frozen : PySem.W.codeIn K cd_frozen "frozen" = true)
    (k_frozen : PySem.W.keepIn K (.ref f_frozen) = true)
    (a_BadPicture___init__ : PySem.W.findIn K (.ref C_BadPicture) "__init__" = some (some (.ref f_BadPicture___init__)))
    (i_BadPicture___init__ : PySem.W.isFn K (.ref f_BadPicture___init__) = true)
    (xt_BadPicture___init__ : PySem.W.typeIn K (.ref f_BadPicture___init__) = some (.type "function"))
    (l_BadPicture___init__ : K.lookup f_BadPicture___init__ = some ⟨oc_BadPicture___init__, od_BadPicture___init__, .func (PySem.W.fnOf "__init__" "BadPicture.__init__" (defArgs s_BadPicture___init__) (defBody s_BadPicture___init__) (defScope s_BadPicture___init__) .none kV_BadPicture___init__ dc_BadPicture___init__ pm_BadPicture___init__ an_BadPicture___init__ cd_BadPicture___init__ ct_BadPicture___init__), sl_BadPicture___init__⟩)
    (c_BadPicture___init__ : PySem.W.codeIn K cd_BadPicture___init__ "BadPicture.__init__" = true)
    (k_BadPicture___init__ : PySem.W.keepIn K (.ref f_BadPicture___init__) = true)
    (a_Scene___init__ : PySem.W.findIn K (.ref C_Scene) "__init__" = some (some (.ref f_Scene___init__)))
    (i_Scene___init__ : PySem.W.isFn K (.ref f_Scene___init__) = true)
    (l_Scene___init__ : K.lookup f_Scene___init__ = some ⟨oc_Scene___init__, od_Scene___init__, .func (PySem.W.fnOf "__init__" "Scene.__init__" (defArgs s_Scene___init__) (defBody s_Scene___init__) (defScope s_Scene___init__) .none kV_Scene___init__ dc_Scene___init__ pm_Scene___init__ an_Scene___init__ cd_Scene___init__ ct_Scene___init__), sl_Scene___init__⟩)
    (c_Scene___init__ : PySem.W.codeIn K cd_Scene___init__ "Scene.__init__" = true)
    (k_Scene___init__ : PySem.W.keepIn K (.ref f_Scene___init__) = true)
    (a_BadLine___init__ : PySem.W.findIn K (.ref C_BadLine) "__init__" = some (some (.ref f_BadLine___init__)))
    (i_BadLine___init__ : PySem.W.isFn K (.ref f_BadLine___init__) = true)
    (xt_BadLine___init__ : PySem.W.typeIn K (.ref f_BadLine___init__) = some (.type "function"))
    (l_BadLine___init__ : K.lookup f_BadLine___init__ = some ⟨oc_BadLine___init__, od_BadLine___init__, .func (PySem.W.fnOf "__init__" "BadLine.__init__" (defArgs s_BadLine___init__) (defBody s_BadLine___init__) (defScope s_BadLine___init__) .none kV_BadLine___init__ dc_BadLine___init__ pm_BadLine___init__ an_BadLine___init__ cd_BadLine___init__ ct_BadLine___init__), sl_BadLine___init__⟩)
    (c_BadLine___init__ : PySem.W.codeIn K cd_BadLine___init__ "BadLine.__init__" = true)
    (k_BadLine___init__ : PySem.W.keepIn K (.ref f_BadLine___init__) = true)
    (a_checked_lines : PySem.W.nsIn K mainGlobals "checked_lines" = some (some (.ref f_checked_lines)))
    (l_checked_lines : K.lookup f_checked_lines = some ⟨oc_checked_lines, od_checked_lines, .func (PySem.W.fnOf "checked_lines" "checked_lines" (defArgs s_checked_lines) (defBody s_checked_lines) (defScope s_checked_lines) .none kV_checked_lines dc_checked_lines pm_checked_lines an_checked_lines cd_checked_lines ct_checked_lines), sl_checked_lines⟩)
    (c_checked_lines : PySem.W.codeIn K cd_checked_lines "checked_lines" = true)
    (k_checked_lines : PySem.W.keepIn K (.ref f_checked_lines) = true)
    (a_neighbour_rows : PySem.W.nsIn K mainGlobals "neighbour_rows" = some (some (.ref f_neighbour_rows)))
    (l_neighbour_rows : K.lookup f_neighbour_rows = some ⟨oc_neighbour_rows, od_neighbour_rows, .func (PySem.W.fnOf "neighbour_rows" "neighbour_rows" (defArgs s_neighbour_rows) (defBody s_neighbour_rows) (defScope s_neighbour_rows) .none kV_neighbour_rows dc_neighbour_rows pm_neighbour_rows an_neighbour_rows cd_neighbour_rows ct_neighbour_rows), sl_neighbour_rows⟩)
    (c_neighbour_rows : PySem.W.codeIn K cd_neighbour_rows "neighbour_rows" = true)
    (k_neighbour_rows : PySem.W.keepIn K (.ref f_neighbour_rows) = true)
    (a_Web___init__ : PySem.W.findIn K (.ref C_Web) "__init__" = some (some (.ref f_Web___init__)))
    (i_Web___init__ : PySem.W.isFn K (.ref f_Web___init__) = true)
    (l_Web___init__ : K.lookup f_Web___init__ = some ⟨oc_Web___init__, od_Web___init__, .func (PySem.W.fnOf "__init__" "Web.__init__" (defArgs s_Web___init__) (defBody s_Web___init__) (defScope s_Web___init__) (.ref T_Web___init__) kV_Web___init__ dc_Web___init__ pm_Web___init__ an_Web___init__ cd_Web___init__ ct_Web___init__), sl_Web___init__⟩)
    (c_Web___init__ : PySem.W.codeIn K cd_Web___init__ "Web.__init__" = true)
    (k_Web___init__ : PySem.W.keepIn K (.ref f_Web___init__) = true)
    (lT_Web___init__ : K.lookup T_Web___init__ = some ⟨oT_Web___init__, oD_Web___init__, .seq #[.ref t0_Web___init__] nT_Web___init__, sT_Web___init__⟩)
    (e0_Web___init__ : K.lookup t0_Web___init__ = some ⟨.type "tuple", o0_Web___init__, .seq #[] n0_Web___init__, s0_Web___init__⟩)
    (a__law_pieces : PySem.W.nsIn K mainGlobals "_law_pieces" = some (some (.ref f__law_pieces)))
    (l__law_pieces : K.lookup f__law_pieces = some ⟨oc__law_pieces, od__law_pieces, .func (PySem.W.fnOf "_law_pieces" "_law_pieces" (defArgs s__law_pieces) (defBody s__law_pieces) (defScope s__law_pieces) .none kV__law_pieces dc__law_pieces pm__law_pieces an__law_pieces cd__law_pieces ct__law_pieces), sl__law_pieces⟩)
    (c__law_pieces : PySem.W.codeIn K cd__law_pieces "_law_pieces" = true)
    (k__law_pieces : PySem.W.keepIn K (.ref f__law_pieces) = true)
    (a__law_step : PySem.W.nsIn K mainGlobals "_law_step" = some (some (.ref f__law_step)))
    (l__law_step : K.lookup f__law_step = some ⟨oc__law_step, od__law_step, .func (PySem.W.fnOf "_law_step" "_law_step" (defArgs s__law_step) (defBody s__law_step) (defScope s__law_step) .none kV__law_step dc__law_step pm__law_step an__law_step cd__law_step ct__law_step), sl__law_step⟩)
    (c__law_step : PySem.W.codeIn K cd__law_step "_law_step" = true)
    (k__law_step : PySem.W.keepIn K (.ref f__law_step) = true)
    (a__law_round : PySem.W.nsIn K mainGlobals "_law_round" = some (some (.ref f__law_round)))
    (l__law_round : K.lookup f__law_round = some ⟨oc__law_round, od__law_round, .func (PySem.W.fnOf "_law_round" "_law_round" (defArgs s__law_round) (defBody s__law_round) (defScope s__law_round) .none kV__law_round dc__law_round pm__law_round an__law_round cd__law_round ct__law_round), sl__law_round⟩)
    (c__law_round : PySem.W.codeIn K cd__law_round "_law_round" = true)
    (k__law_round : PySem.W.keepIn K (.ref f__law_round) = true)
    (a__law_lowest : PySem.W.nsIn K mainGlobals "_law_lowest" = some (some (.ref f__law_lowest)))
    (l__law_lowest : K.lookup f__law_lowest = some ⟨oc__law_lowest, od__law_lowest, .func (PySem.W.fnOf "_law_lowest" "_law_lowest" (defArgs s__law_lowest) (defBody s__law_lowest) (defScope s__law_lowest) .none kV__law_lowest dc__law_lowest pm__law_lowest an__law_lowest cd__law_lowest ct__law_lowest), sl__law_lowest⟩)
    (c__law_lowest : PySem.W.codeIn K cd__law_lowest "_law_lowest" = true)
    (k__law_lowest : PySem.W.keepIn K (.ref f__law_lowest) = true)
    (a__law_counts : PySem.W.nsIn K mainGlobals "_law_counts" = some (some (.ref f__law_counts)))
    (l__law_counts : K.lookup f__law_counts = some ⟨oc__law_counts, od__law_counts, .func (PySem.W.fnOf "_law_counts" "_law_counts" (defArgs s__law_counts) (defBody s__law_counts) (defScope s__law_counts) .none kV__law_counts dc__law_counts pm__law_counts an__law_counts cd__law_counts ct__law_counts), sl__law_counts⟩)
    (c__law_counts : PySem.W.codeIn K cd__law_counts "_law_counts" = true)
    (k__law_counts : PySem.W.keepIn K (.ref f__law_counts) = true)
    (a__law_gains : PySem.W.nsIn K mainGlobals "_law_gains" = some (some (.ref f__law_gains)))
    (l__law_gains : K.lookup f__law_gains = some ⟨oc__law_gains, od__law_gains, .func (PySem.W.fnOf "_law_gains" "_law_gains" (defArgs s__law_gains) (defBody s__law_gains) (defScope s__law_gains) .none kV__law_gains dc__law_gains pm__law_gains an__law_gains cd__law_gains ct__law_gains), sl__law_gains⟩)
    (c__law_gains : PySem.W.codeIn K cd__law_gains "_law_gains" = true)
    (k__law_gains : PySem.W.keepIn K (.ref f__law_gains) = true)
    (a__law_share : PySem.W.nsIn K mainGlobals "_law_share" = some (some (.ref f__law_share)))
    (l__law_share : K.lookup f__law_share = some ⟨oc__law_share, od__law_share, .func (PySem.W.fnOf "_law_share" "_law_share" (defArgs s__law_share) (defBody s__law_share) (defScope s__law_share) .none kV__law_share dc__law_share pm__law_share an__law_share cd__law_share ct__law_share), sl__law_share⟩)
    (c__law_share : PySem.W.codeIn K cd__law_share "_law_share" = true)
    (k__law_share : PySem.W.keepIn K (.ref f__law_share) = true)
    (a__law_rings : PySem.W.nsIn K mainGlobals "_law_rings" = some (some (.ref f__law_rings)))
    (l__law_rings : K.lookup f__law_rings = some ⟨oc__law_rings, od__law_rings, .func (PySem.W.fnOf "_law_rings" "_law_rings" (defArgs s__law_rings) (defBody s__law_rings) (defScope s__law_rings) .none kV__law_rings dc__law_rings pm__law_rings an__law_rings cd__law_rings ct__law_rings), sl__law_rings⟩)
    (c__law_rings : PySem.W.codeIn K cd__law_rings "_law_rings" = true)
    (k__law_rings : PySem.W.keepIn K (.ref f__law_rings) = true)
    (a__law_whole : PySem.W.nsIn K mainGlobals "_law_whole" = some (some (.ref f__law_whole)))
    (l__law_whole : K.lookup f__law_whole = some ⟨oc__law_whole, od__law_whole, .func (PySem.W.fnOf "_law_whole" "_law_whole" (defArgs s__law_whole) (defBody s__law_whole) (defScope s__law_whole) .none kV__law_whole dc__law_whole pm__law_whole an__law_whole cd__law_whole ct__law_whole), sl__law_whole⟩)
    (c__law_whole : PySem.W.codeIn K cd__law_whole "_law_whole" = true)
    (k__law_whole : PySem.W.keepIn K (.ref f__law_whole) = true)
    (a__law_is_walk : PySem.W.nsIn K mainGlobals "_law_is_walk" = some (some (.ref f__law_is_walk)))
    (l__law_is_walk : K.lookup f__law_is_walk = some ⟨oc__law_is_walk, od__law_is_walk, .func (PySem.W.fnOf "_law_is_walk" "_law_is_walk" (defArgs s__law_is_walk) (defBody s__law_is_walk) (defScope s__law_is_walk) .none kV__law_is_walk dc__law_is_walk pm__law_is_walk an__law_is_walk cd__law_is_walk ct__law_is_walk), sl__law_is_walk⟩)
    (c__law_is_walk : PySem.W.codeIn K cd__law_is_walk "_law_is_walk" = true)
    (k__law_is_walk : PySem.W.keepIn K (.ref f__law_is_walk) = true)
    (a__law_sum : PySem.W.nsIn K mainGlobals "_law_sum" = some (some (.ref f__law_sum)))
    (l__law_sum : K.lookup f__law_sum = some ⟨oc__law_sum, od__law_sum, .func (PySem.W.fnOf "_law_sum" "_law_sum" (defArgs s__law_sum) (defBody s__law_sum) (defScope s__law_sum) .none kV__law_sum dc__law_sum pm__law_sum an__law_sum cd__law_sum ct__law_sum), sl__law_sum⟩)
    (c__law_sum : PySem.W.codeIn K cd__law_sum "_law_sum" = true)
    (k__law_sum : PySem.W.keepIn K (.ref f__law_sum) = true)
    (a__law_lead : PySem.W.nsIn K mainGlobals "_law_lead" = some (some (.ref f__law_lead)))
    (l__law_lead : K.lookup f__law_lead = some ⟨oc__law_lead, od__law_lead, .func (PySem.W.fnOf "_law_lead" "_law_lead" (defArgs s__law_lead) (defBody s__law_lead) (defScope s__law_lead) .none kV__law_lead dc__law_lead pm__law_lead an__law_lead cd__law_lead ct__law_lead), sl__law_lead⟩)
    (c__law_lead : PySem.W.codeIn K cd__law_lead "_law_lead" = true)
    (k__law_lead : PySem.W.keepIn K (.ref f__law_lead) = true)
    (a__law_lead_rows : PySem.W.nsIn K mainGlobals "_law_lead_rows" = some (some (.ref f__law_lead_rows)))
    (l__law_lead_rows : K.lookup f__law_lead_rows = some ⟨oc__law_lead_rows, od__law_lead_rows, .func (PySem.W.fnOf "_law_lead_rows" "_law_lead_rows" (defArgs s__law_lead_rows) (defBody s__law_lead_rows) (defScope s__law_lead_rows) .none kV__law_lead_rows dc__law_lead_rows pm__law_lead_rows an__law_lead_rows cd__law_lead_rows ct__law_lead_rows), sl__law_lead_rows⟩)
    (c__law_lead_rows : PySem.W.codeIn K cd__law_lead_rows "_law_lead_rows" = true)
    (k__law_lead_rows : PySem.W.keepIn K (.ref f__law_lead_rows) = true)
    (a__law_own_pairs : PySem.W.nsIn K mainGlobals "_law_own_pairs" = some (some (.ref f__law_own_pairs)))
    (l__law_own_pairs : K.lookup f__law_own_pairs = some ⟨oc__law_own_pairs, od__law_own_pairs, .func (PySem.W.fnOf "_law_own_pairs" "_law_own_pairs" (defArgs s__law_own_pairs) (defBody s__law_own_pairs) (defScope s__law_own_pairs) .none kV__law_own_pairs dc__law_own_pairs pm__law_own_pairs an__law_own_pairs cd__law_own_pairs ct__law_own_pairs), sl__law_own_pairs⟩)
    (c__law_own_pairs : PySem.W.codeIn K cd__law_own_pairs "_law_own_pairs" = true)
    (k__law_own_pairs : PySem.W.keepIn K (.ref f__law_own_pairs) = true)
    (a__law_has_share : PySem.W.nsIn K mainGlobals "_law_has_share" = some (some (.ref f__law_has_share)))
    (l__law_has_share : K.lookup f__law_has_share = some ⟨oc__law_has_share, od__law_has_share, .func (PySem.W.fnOf "_law_has_share" "_law_has_share" (defArgs s__law_has_share) (defBody s__law_has_share) (defScope s__law_has_share) .none kV__law_has_share dc__law_has_share pm__law_has_share an__law_has_share cd__law_has_share ct__law_has_share), sl__law_has_share⟩)
    (c__law_has_share : PySem.W.codeIn K cd__law_has_share "_law_has_share" = true)
    (k__law_has_share : PySem.W.keepIn K (.ref f__law_has_share) = true)
    (a__law_agree : PySem.W.nsIn K mainGlobals "_law_agree" = some (some (.ref f__law_agree)))
    (l__law_agree : K.lookup f__law_agree = some ⟨oc__law_agree, od__law_agree, .func (PySem.W.fnOf "_law_agree" "_law_agree" (defArgs s__law_agree) (defBody s__law_agree) (defScope s__law_agree) .none kV__law_agree dc__law_agree pm__law_agree an__law_agree cd__law_agree ct__law_agree), sl__law_agree⟩)
    (c__law_agree : PySem.W.codeIn K cd__law_agree "_law_agree" = true)
    (k__law_agree : PySem.W.keepIn K (.ref f__law_agree) = true)
    (a_is_walk : PySem.W.nsIn K mainGlobals "is_walk" = some (some (.ref f_is_walk)))
    (l_is_walk : K.lookup f_is_walk = some ⟨oc_is_walk, od_is_walk, .func (PySem.W.fnOf "is_walk" "is_walk" (defArgs s_is_walk) (defBody s_is_walk) (defScope s_is_walk) .none kV_is_walk dc_is_walk pm_is_walk an_is_walk cd_is_walk ct_is_walk), sl_is_walk⟩)
    (c_is_walk : PySem.W.codeIn K cd_is_walk "is_walk" = true)
    (k_is_walk : PySem.W.keepIn K (.ref f_is_walk) = true)
    (a_is_ring : PySem.W.nsIn K mainGlobals "is_ring" = some (some (.ref f_is_ring)))
    (l_is_ring : K.lookup f_is_ring = some ⟨oc_is_ring, od_is_ring, .func (PySem.W.fnOf "is_ring" "is_ring" (defArgs s_is_ring) (defBody s_is_ring) (defScope s_is_ring) .none kV_is_ring dc_is_ring pm_is_ring an_is_ring cd_is_ring ct_is_ring), sl_is_ring⟩)
    (c_is_ring : PySem.W.codeIn K cd_is_ring "is_ring" = true)
    (k_is_ring : PySem.W.keepIn K (.ref f_is_ring) = true)
    (a_NotAWalk___init__ : PySem.W.findIn K (.ref C_NotAWalk) "__init__" = some (some (.ref f_NotAWalk___init__)))
    (i_NotAWalk___init__ : PySem.W.isFn K (.ref f_NotAWalk___init__) = true)
    (xt_NotAWalk___init__ : PySem.W.typeIn K (.ref f_NotAWalk___init__) = some (.type "function"))
    (l_NotAWalk___init__ : K.lookup f_NotAWalk___init__ = some ⟨oc_NotAWalk___init__, od_NotAWalk___init__, .func (PySem.W.fnOf "__init__" "NotAWalk.__init__" (defArgs s_NotAWalk___init__) (defBody s_NotAWalk___init__) (defScope s_NotAWalk___init__) .none kV_NotAWalk___init__ dc_NotAWalk___init__ pm_NotAWalk___init__ an_NotAWalk___init__ cd_NotAWalk___init__ ct_NotAWalk___init__), sl_NotAWalk___init__⟩)
    (c_NotAWalk___init__ : PySem.W.codeIn K cd_NotAWalk___init__ "NotAWalk.__init__" = true)
    (k_NotAWalk___init__ : PySem.W.keepIn K (.ref f_NotAWalk___init__) = true)
    (a_check_walk : PySem.W.nsIn K mainGlobals "check_walk" = some (some (.ref f_check_walk)))
    (l_check_walk : K.lookup f_check_walk = some ⟨oc_check_walk, od_check_walk, .func (PySem.W.fnOf "check_walk" "check_walk" (defArgs s_check_walk) (defBody s_check_walk) (defScope s_check_walk) .none kV_check_walk dc_check_walk pm_check_walk an_check_walk cd_check_walk ct_check_walk), sl_check_walk⟩)
    (c_check_walk : PySem.W.codeIn K cd_check_walk "check_walk" = true)
    (k_check_walk : PySem.W.keepIn K (.ref f_check_walk) = true)
    (a_state_lead : PySem.W.nsIn K mainGlobals "state_lead" = some (some (.ref f_state_lead)))
    (l_state_lead : K.lookup f_state_lead = some ⟨oc_state_lead, od_state_lead, .func (PySem.W.fnOf "state_lead" "state_lead" (defArgs s_state_lead) (defBody s_state_lead) (defScope s_state_lead) .none kV_state_lead dc_state_lead pm_state_lead an_state_lead cd_state_lead ct_state_lead), sl_state_lead⟩)
    (c_state_lead : PySem.W.codeIn K cd_state_lead "state_lead" = true)
    (k_state_lead : PySem.W.keepIn K (.ref f_state_lead) = true)
    (a_lead_sum : PySem.W.nsIn K mainGlobals "lead_sum" = some (some (.ref f_lead_sum)))
    (l_lead_sum : K.lookup f_lead_sum = some ⟨oc_lead_sum, od_lead_sum, .func (PySem.W.fnOf "lead_sum" "lead_sum" (defArgs s_lead_sum) (defBody s_lead_sum) (defScope s_lead_sum) .none kV_lead_sum dc_lead_sum pm_lead_sum an_lead_sum cd_lead_sum ct_lead_sum), sl_lead_sum⟩)
    (c_lead_sum : PySem.W.codeIn K cd_lead_sum "lead_sum" = true)
    (k_lead_sum : PySem.W.keepIn K (.ref f_lead_sum) = true)
    (a_is_share_ring : PySem.W.nsIn K mainGlobals "is_share_ring" = some (some (.ref f_is_share_ring)))
    (l_is_share_ring : K.lookup f_is_share_ring = some ⟨oc_is_share_ring, od_is_share_ring, .func (PySem.W.fnOf "is_share_ring" "is_share_ring" (defArgs s_is_share_ring) (defBody s_is_share_ring) (defScope s_is_share_ring) .none kV_is_share_ring dc_is_share_ring pm_is_share_ring an_is_share_ring cd_is_share_ring ct_is_share_ring), sl_is_share_ring⟩)
    (c_is_share_ring : PySem.W.codeIn K cd_is_share_ring "is_share_ring" = true)
    (k_is_share_ring : PySem.W.keepIn K (.ref f_is_share_ring) = true)
    (a__law_rings_asked : PySem.W.nsIn K mainGlobals "_law_rings_asked" = some (some (.ref f__law_rings_asked)))
    (l__law_rings_asked : K.lookup f__law_rings_asked = some ⟨oc__law_rings_asked, od__law_rings_asked, .func (PySem.W.fnOf "_law_rings_asked" "_law_rings_asked" (defArgs s__law_rings_asked) (defBody s__law_rings_asked) (defScope s__law_rings_asked) .none kV__law_rings_asked dc__law_rings_asked pm__law_rings_asked an__law_rings_asked cd__law_rings_asked ct__law_rings_asked), sl__law_rings_asked⟩)
    (c__law_rings_asked : PySem.W.codeIn K cd__law_rings_asked "_law_rings_asked" = true)
    (k__law_rings_asked : PySem.W.keepIn K (.ref f__law_rings_asked) = true)
    (a__law_grown : PySem.W.nsIn K mainGlobals "_law_grown" = some (some (.ref f__law_grown)))
    (l__law_grown : K.lookup f__law_grown = some ⟨oc__law_grown, od__law_grown, .func (PySem.W.fnOf "_law_grown" "_law_grown" (defArgs s__law_grown) (defBody s__law_grown) (defScope s__law_grown) .none kV__law_grown dc__law_grown pm__law_grown an__law_grown cd__law_grown ct__law_grown), sl__law_grown⟩)
    (c__law_grown : PySem.W.codeIn K cd__law_grown "_law_grown" = true)
    (k__law_grown : PySem.W.keepIn K (.ref f__law_grown) = true)
    (a__law_slope : PySem.W.nsIn K mainGlobals "_law_slope" = some (some (.ref f__law_slope)))
    (l__law_slope : K.lookup f__law_slope = some ⟨oc__law_slope, od__law_slope, .func (PySem.W.fnOf "_law_slope" "_law_slope" (defArgs s__law_slope) (defBody s__law_slope) (defScope s__law_slope) .none kV__law_slope dc__law_slope pm__law_slope an__law_slope cd__law_slope ct__law_slope), sl__law_slope⟩)
    (c__law_slope : PySem.W.codeIn K cd__law_slope "_law_slope" = true)
    (k__law_slope : PySem.W.keepIn K (.ref f__law_slope) = true)
    (a_NoPlace___init__ : PySem.W.findIn K (.ref C_NoPlace) "__init__" = some (some (.ref f_NoPlace___init__)))
    (i_NoPlace___init__ : PySem.W.isFn K (.ref f_NoPlace___init__) = true)
    (xt_NoPlace___init__ : PySem.W.typeIn K (.ref f_NoPlace___init__) = some (.type "function"))
    (l_NoPlace___init__ : K.lookup f_NoPlace___init__ = some ⟨oc_NoPlace___init__, od_NoPlace___init__, .func (PySem.W.fnOf "__init__" "NoPlace.__init__" (defArgs s_NoPlace___init__) (defBody s_NoPlace___init__) (defScope s_NoPlace___init__) .none kV_NoPlace___init__ dc_NoPlace___init__ pm_NoPlace___init__ an_NoPlace___init__ cd_NoPlace___init__ ct_NoPlace___init__), sl_NoPlace___init__⟩)
    (c_NoPlace___init__ : PySem.W.codeIn K cd_NoPlace___init__ "NoPlace.__init__" = true)
    (k_NoPlace___init__ : PySem.W.keepIn K (.ref f_NoPlace___init__) = true)
    (a_check_place : PySem.W.nsIn K mainGlobals "check_place" = some (some (.ref f_check_place)))
    (l_check_place : K.lookup f_check_place = some ⟨oc_check_place, od_check_place, .func (PySem.W.fnOf "check_place" "check_place" (defArgs s_check_place) (defBody s_check_place) (defScope s_check_place) .none kV_check_place dc_check_place pm_check_place an_check_place cd_check_place ct_check_place), sl_check_place⟩)
    (c_check_place : PySem.W.codeIn K cd_check_place "check_place" = true)
    (k_check_place : PySem.W.keepIn K (.ref f_check_place) = true)
    (a_piece_of : PySem.W.nsIn K mainGlobals "piece_of" = some (some (.ref f_piece_of)))
    (l_piece_of : K.lookup f_piece_of = some ⟨oc_piece_of, od_piece_of, .func (PySem.W.fnOf "piece_of" "piece_of" (defArgs s_piece_of) (defBody s_piece_of) (defScope s_piece_of) .none kV_piece_of dc_piece_of pm_piece_of an_piece_of cd_piece_of ct_piece_of), sl_piece_of⟩)
    (c_piece_of : PySem.W.codeIn K cd_piece_of "piece_of" = true)
    (k_piece_of : PySem.W.keepIn K (.ref f_piece_of) = true)
    (a_step_lead : PySem.W.nsIn K mainGlobals "step_lead" = some (some (.ref f_step_lead)))
    (l_step_lead : K.lookup f_step_lead = some ⟨oc_step_lead, od_step_lead, .func (PySem.W.fnOf "step_lead" "step_lead" (defArgs s_step_lead) (defBody s_step_lead) (defScope s_step_lead) .none kV_step_lead dc_step_lead pm_step_lead an_step_lead cd_step_lead ct_step_lead), sl_step_lead⟩)
    (c_step_lead : PySem.W.codeIn K cd_step_lead "step_lead" = true)
    (k_step_lead : PySem.W.keepIn K (.ref f_step_lead) = true)
    (a_are_slopes : PySem.W.nsIn K mainGlobals "are_slopes" = some (some (.ref f_are_slopes)))
    (l_are_slopes : K.lookup f_are_slopes = some ⟨oc_are_slopes, od_are_slopes, .func (PySem.W.fnOf "are_slopes" "are_slopes" (defArgs s_are_slopes) (defBody s_are_slopes) (defScope s_are_slopes) .none kV_are_slopes dc_are_slopes pm_are_slopes an_are_slopes cd_are_slopes ct_are_slopes), sl_are_slopes⟩)
    (c_are_slopes : PySem.W.codeIn K cd_are_slopes "are_slopes" = true)
    (k_are_slopes : PySem.W.keepIn K (.ref f_are_slopes) = true)
    (a__law_refused : PySem.W.nsIn K mainGlobals "_law_refused" = some (some (.ref f__law_refused)))
    (l__law_refused : K.lookup f__law_refused = some ⟨oc__law_refused, od__law_refused, .func (PySem.W.fnOf "_law_refused" "_law_refused" (defArgs s__law_refused) (defBody s__law_refused) (defScope s__law_refused) .none kV__law_refused dc__law_refused pm__law_refused an__law_refused cd__law_refused ct__law_refused), sl__law_refused⟩)
    (c__law_refused : PySem.W.codeIn K cd__law_refused "_law_refused" = true)
    (k__law_refused : PySem.W.keepIn K (.ref f__law_refused) = true)
    (a_law : PySem.W.nsIn K mainGlobals "law" = some (some (.ref f_law)))
    (l_law : K.lookup f_law = some ⟨oc_law, od_law, .func (PySem.W.fnOf "law" "law" (defArgs s_law) (defBody s_law) (defScope s_law) .none kV_law dc_law pm_law an_law cd_law ct_law), sl_law⟩)
    (c_law : PySem.W.codeIn K cd_law "law" = true)
    (k_law : PySem.W.keepIn K (.ref f_law) = true)
    (pg_Scene : PySem.W.plainGet K C_Scene Str.empty = true)
    (hd_Scene : PySem.W.hasDictIn K C_Scene = true)
    (po_Scene : PySem.W.plainOver K C_Scene = true)
    (sa_Scene : PySem.W.findIn K (.ref C_Scene) "__setattr__" = some (some (.builtin "object.__setattr__")))
    (ca_Scene : PySem.W.findIn K (.ref C_Scene) "__class__" = some (some (.builtin "object.__class__")))
    (cm_Scene : PySem.W.mroIn K C_Scene (.type "object") = some true)
    (mk_Scene : PySem.W.makesIn K C_Scene = true)
    (kc_Scene : PySem.W.keepIn K (.ref C_Scene) = true)
    (na_Scene_picture : PySem.W.findIn K (.ref C_Scene) "picture" = some none)
    (na_Scene_web : PySem.W.findIn K (.ref C_Scene) "web" = some none)
    (kb_Scene_bool : PySem.W.kitOne K (.ref C_Scene) (.type "bool") = some false)
    (kb_Scene_int : PySem.W.kitOne K (.ref C_Scene) (.type "int") = some false)
    (kb_Scene_list : PySem.W.kitOne K (.ref C_Scene) (.type "list") = some false)
    (kb_Scene_tuple : PySem.W.kitOne K (.ref C_Scene) (.type "tuple") = some false)
    (pg_Web : PySem.W.plainGet K C_Web Str.empty = true)
    (hd_Web : PySem.W.hasDictIn K C_Web = true)
    (po_Web : PySem.W.plainOver K C_Web = true)
    (sa_Web : PySem.W.findIn K (.ref C_Web) "__setattr__" = some (some (.builtin "object.__setattr__")))
    (ca_Web : PySem.W.findIn K (.ref C_Web) "__class__" = some (some (.builtin "object.__class__")))
    (cm_Web : PySem.W.mroIn K C_Web (.type "object") = some true)
    (mk_Web : PySem.W.makesIn K C_Web = true)
    (kc_Web : PySem.W.keepIn K (.ref C_Web) = true)
    (na_Web_around : PySem.W.findIn K (.ref C_Web) "around" = some none)
    (na_Web_lines : PySem.W.findIn K (.ref C_Web) "lines" = some none)
    (na_Web_size : PySem.W.findIn K (.ref C_Web) "size" = some none)
    (kb_Web_bool : PySem.W.kitOne K (.ref C_Web) (.type "bool") = some false)
    (kb_Web_int : PySem.W.kitOne K (.ref C_Web) (.type "int") = some false)
    (kb_Web_list : PySem.W.kitOne K (.ref C_Web) (.type "list") = some false)
    (kb_Web_tuple : PySem.W.kitOne K (.ref C_Web) (.type "tuple") = some false)
    (xex_FirerestError : PySem.W.subIn K (.ref C_FirerestError) (.type "BaseException") = some true)
    (xty_FirerestError : PySem.W.typeIn K (.ref C_FirerestError) = some (.type "type"))
    (xhd_FirerestError : PySem.W.hasDictIn K C_FirerestError = true)
    (xex_NoPlace : PySem.W.subIn K (.ref C_NoPlace) (.type "BaseException") = some true)
    (xty_NoPlace : PySem.W.typeIn K (.ref C_NoPlace) = some (.type "type"))
    (xhd_NoPlace : PySem.W.hasDictIn K C_NoPlace = true)
    (xex_BadLine : PySem.W.subIn K (.ref C_BadLine) (.type "BaseException") = some true)
    (xty_BadLine : PySem.W.typeIn K (.ref C_BadLine) = some (.type "type"))
    (xhd_BadLine : PySem.W.hasDictIn K C_BadLine = true)
    (xex_NoLine : PySem.W.subIn K (.ref C_NoLine) (.type "BaseException") = some true)
    (xty_NoLine : PySem.W.typeIn K (.ref C_NoLine) = some (.type "type"))
    (xhd_NoLine : PySem.W.hasDictIn K C_NoLine = true)
    (xex_BadPicture : PySem.W.subIn K (.ref C_BadPicture) (.type "BaseException") = some true)
    (xty_BadPicture : PySem.W.typeIn K (.ref C_BadPicture) = some (.type "type"))
    (xhd_BadPicture : PySem.W.hasDictIn K C_BadPicture = true)
    (xex_NotAWalk : PySem.W.subIn K (.ref C_NotAWalk) (.type "BaseException") = some true)
    (xty_NotAWalk : PySem.W.typeIn K (.ref C_NotAWalk) = some (.type "type"))
    (xhd_NotAWalk : PySem.W.hasDictIn K C_NotAWalk = true)
    (xlk_BadPicture : K.lookup C_BadPicture = some ⟨.type "type", xd_BadPicture, .cls xcd_BadPicture, xsl_BadPicture⟩)
    (ox_BadPicture : oexO C_BadPicture xcd_BadPicture xsl_BadPicture = true)
    (xsa_BadPicture : PySem.W.findIn K (.ref C_BadPicture) "__setattr__" = some (some (.builtin "object.__setattr__")))
    (xkp_BadPicture : PySem.W.keepIn K (.ref C_BadPicture) = true)
    (xga_BadPicture : PySem.W.findIn K (.ref C_BadPicture) "__getattribute__" = some (some (.builtin "BaseException.__getattribute__")))
    (xgg_BadPicture : PySem.W.findIn K (.ref C_BadPicture) "__getattr__" = some none)
    (xca_BadPicture : PySem.W.findIn K (.ref C_BadPicture) "__class__" = some (some (.builtin "object.__class__")))
    (xmo_BadPicture : PySem.W.mroIn K C_BadPicture (.type "object") = some true)
    (xna_BadPicture_index : PySem.W.findIn K (.ref C_BadPicture) "index" = some none)
    (xs_BadPicture_NoPlace : PySem.W.subIn K (.ref C_BadPicture) (.ref C_NoPlace) = some false)
    (ki_BadPicture_FirerestError : PySem.W.kitOne K (.ref C_BadPicture) (.ref C_FirerestError) = some true)
    (ki_BadPicture_NoLine : PySem.W.kitOne K (.ref C_BadPicture) (.ref C_NoLine) = some false)
    (kb_BadPicture_ValueError : PySem.W.kitOne K (.ref C_BadPicture) (.type "ValueError") = some true)
    (xlk_BadLine : K.lookup C_BadLine = some ⟨.type "type", xd_BadLine, .cls xcd_BadLine, xsl_BadLine⟩)
    (ox_BadLine : oexO C_BadLine xcd_BadLine xsl_BadLine = true)
    (xsa_BadLine : PySem.W.findIn K (.ref C_BadLine) "__setattr__" = some (some (.builtin "object.__setattr__")))
    (xkp_BadLine : PySem.W.keepIn K (.ref C_BadLine) = true)
    (xga_BadLine : PySem.W.findIn K (.ref C_BadLine) "__getattribute__" = some (some (.builtin "BaseException.__getattribute__")))
    (xgg_BadLine : PySem.W.findIn K (.ref C_BadLine) "__getattr__" = some none)
    (xca_BadLine : PySem.W.findIn K (.ref C_BadLine) "__class__" = some (some (.builtin "object.__class__")))
    (xmo_BadLine : PySem.W.mroIn K C_BadLine (.type "object") = some true)
    (xna_BadLine_index : PySem.W.findIn K (.ref C_BadLine) "index" = some none)
    (xs_BadLine_NoPlace : PySem.W.subIn K (.ref C_BadLine) (.ref C_NoPlace) = some false)
    (ki_BadLine_FirerestError : PySem.W.kitOne K (.ref C_BadLine) (.ref C_FirerestError) = some true)
    (ki_BadLine_NoLine : PySem.W.kitOne K (.ref C_BadLine) (.ref C_NoLine) = some false)
    (kb_BadLine_ValueError : PySem.W.kitOne K (.ref C_BadLine) (.type "ValueError") = some true)
    (xlk_NotAWalk : K.lookup C_NotAWalk = some ⟨.type "type", xd_NotAWalk, .cls xcd_NotAWalk, xsl_NotAWalk⟩)
    (ox_NotAWalk : oexO C_NotAWalk xcd_NotAWalk xsl_NotAWalk = true)
    (xsa_NotAWalk : PySem.W.findIn K (.ref C_NotAWalk) "__setattr__" = some (some (.builtin "object.__setattr__")))
    (xkp_NotAWalk : PySem.W.keepIn K (.ref C_NotAWalk) = true)
    (xga_NotAWalk : PySem.W.findIn K (.ref C_NotAWalk) "__getattribute__" = some (some (.builtin "BaseException.__getattribute__")))
    (xgg_NotAWalk : PySem.W.findIn K (.ref C_NotAWalk) "__getattr__" = some none)
    (xca_NotAWalk : PySem.W.findIn K (.ref C_NotAWalk) "__class__" = some (some (.builtin "object.__class__")))
    (xmo_NotAWalk : PySem.W.mroIn K C_NotAWalk (.type "object") = some true)
    (xna_NotAWalk_index : PySem.W.findIn K (.ref C_NotAWalk) "index" = some none)
    (xs_NotAWalk_NoPlace : PySem.W.subIn K (.ref C_NotAWalk) (.ref C_NoPlace) = some false)
    (ki_NotAWalk_FirerestError : PySem.W.kitOne K (.ref C_NotAWalk) (.ref C_FirerestError) = some true)
    (ki_NotAWalk_NoLine : PySem.W.kitOne K (.ref C_NotAWalk) (.ref C_NoLine) = some false)
    (kb_NotAWalk_ValueError : PySem.W.kitOne K (.ref C_NotAWalk) (.type "ValueError") = some true)
    (xlk_NoPlace : K.lookup C_NoPlace = some ⟨.type "type", xd_NoPlace, .cls xcd_NoPlace, xsl_NoPlace⟩)
    (ox_NoPlace : oexO C_NoPlace xcd_NoPlace xsl_NoPlace = true)
    (xsa_NoPlace : PySem.W.findIn K (.ref C_NoPlace) "__setattr__" = some (some (.builtin "object.__setattr__")))
    (xkp_NoPlace : PySem.W.keepIn K (.ref C_NoPlace) = true)
    (xga_NoPlace : PySem.W.findIn K (.ref C_NoPlace) "__getattribute__" = some (some (.builtin "BaseException.__getattribute__")))
    (xgg_NoPlace : PySem.W.findIn K (.ref C_NoPlace) "__getattr__" = some none)
    (xca_NoPlace : PySem.W.findIn K (.ref C_NoPlace) "__class__" = some (some (.builtin "object.__class__")))
    (xmo_NoPlace : PySem.W.mroIn K C_NoPlace (.type "object") = some true)
    (xna_NoPlace_place : PySem.W.findIn K (.ref C_NoPlace) "place" = some none)
    (xs_NoPlace_NoPlace : PySem.W.subIn K (.ref C_NoPlace) (.ref C_NoPlace) = some true)
    (ki_NoPlace_FirerestError : PySem.W.kitOne K (.ref C_NoPlace) (.ref C_FirerestError) = some true)
    (ki_NoPlace_NoLine : PySem.W.kitOne K (.ref C_NoPlace) (.ref C_NoLine) = some false)
    (kb_NoPlace_ValueError : PySem.W.kitOne K (.ref C_NoPlace) (.type "ValueError") = some true)
    (cn : PySem.W.specialIn K (.builtin "object.__class__") "__get__" = some (some (.builtin "getset_descriptor.__get__")))
    (ctk : PySem.W.takesIn K (.builtin "object.__class__") = some true)
    (z_ValueError : PySem.W.nsIn K mainGlobals "ValueError" = some none)
    (z_bool : PySem.W.nsIn K mainGlobals "bool" = some none)
    (z_enumerate : PySem.W.nsIn K mainGlobals "enumerate" = some none)
    (z_int : PySem.W.nsIn K mainGlobals "int" = some none)
    (z_isinstance : PySem.W.nsIn K mainGlobals "isinstance" = some none)
    (z_len : PySem.W.nsIn K mainGlobals "len" = some none)
    (z_list : PySem.W.nsIn K mainGlobals "list" = some none)
    (z_max : PySem.W.nsIn K mainGlobals "max" = some none)
    (z_min : PySem.W.nsIn K mainGlobals "min" = some none)
    (z_range : PySem.W.nsIn K mainGlobals "range" = some none)
    (z_sorted : PySem.W.nsIn K mainGlobals "sorted" = some none)
    (z_sum : PySem.W.nsIn K mainGlobals "sum" = some none)
    (z_tuple : PySem.W.nsIn K mainGlobals "tuple" = some none)
    (z_zip : PySem.W.nsIn K mainGlobals "zip" = some none)
    (main : ∀ ns : List Int, ns.length ≤ 63 → (∀ z ∈ ns, Builtin.Int.intBits z ≤ 1048576) → d_law [.scr (ns.map D.int)] = .ok (.bl true)) :
    ∃ fd : FuncData, (∀ (s : Shared) (v : Value), BindsTo s fd ⟨[v], []⟩ [("_law_script", v)]) ∧ ∀ base : Heap, K.In base → base.Ns mainGlobals mg → FnOk l.prog w K mg base (L2.CX l.prog w) 10 fa fd ["_law_script"] (spLaw K) := by
  have e2 : f_law = fa := by
    have e := hfa.symm.trans (PySem.W.mg_of X G a_law)
    cases e
    rfl
  subst e2
  let cm : CM := mkCMx l.prog w [(39, C_Scene, ["web", "picture"]), (46, C_Web, ["size", "lines", "around"])] [(5, C_FirerestError, []), (6, C_NoPlace, ["place"]), (7, C_BadLine, ["index"]), (9, C_NoLine, []), (10, C_BadPicture, ["index"]), (12, C_NotAWalk, ["index"])]
  have xo_BadPicture : XOk K C_BadPicture := ⟨oexC_of xlk_BadPicture ox_BadPicture xsa_BadPicture xex_BadPicture xty_BadPicture xkp_BadPicture, ⟨xga_BadPicture, xgg_BadPicture, xex_BadPicture, xhd_BadPicture⟩, xca_BadPicture, cn, ctk, xmo_BadPicture⟩
  have xo_BadLine : XOk K C_BadLine := ⟨oexC_of xlk_BadLine ox_BadLine xsa_BadLine xex_BadLine xty_BadLine xkp_BadLine, ⟨xga_BadLine, xgg_BadLine, xex_BadLine, xhd_BadLine⟩, xca_BadLine, cn, ctk, xmo_BadLine⟩
  have xo_NotAWalk : XOk K C_NotAWalk := ⟨oexC_of xlk_NotAWalk ox_NotAWalk xsa_NotAWalk xex_NotAWalk xty_NotAWalk xkp_NotAWalk, ⟨xga_NotAWalk, xgg_NotAWalk, xex_NotAWalk, xhd_NotAWalk⟩, xca_NotAWalk, cn, ctk, xmo_NotAWalk⟩
  have xo_NoPlace : XOk K C_NoPlace := ⟨oexC_of xlk_NoPlace ox_NoPlace xsa_NoPlace xex_NoPlace xty_NoPlace xkp_NoPlace, ⟨xga_NoPlace, xgg_NoPlace, xex_NoPlace, xhd_NoPlace⟩, xca_NoPlace, cn, ctk, xmo_NoPlace⟩
  have cl_Scene : Cls K C_Scene := ⟨pg_Scene, hd_Scene, po_Scene, sa_Scene⟩
  have co_Scene : ClsOk K C_Scene := ⟨cl_Scene, ca_Scene, cn, ctk, cm_Scene⟩
  have cl_Web : Cls K C_Web := ⟨pg_Web, hd_Web, po_Web, sa_Web⟩
  have co_Web : ClsOk K C_Web := ⟨cl_Web, ca_Web, cn, ctk, cm_Web⟩
  have T : Txt l.prog w K mg cm := ⟨rfl,
    rfl,
    PySem.W.mg_none_of X G z_ValueError,
    PySem.W.mg_none_of X G z_bool,
    PySem.W.mg_none_of X G z_enumerate,
    PySem.W.mg_none_of X G z_int,
    PySem.W.mg_none_of X G z_isinstance,
    PySem.W.mg_none_of X G z_len,
    PySem.W.mg_none_of X G z_list,
    PySem.W.mg_none_of X G z_max,
    PySem.W.mg_none_of X G z_min,
    PySem.W.mg_none_of X G z_range,
    PySem.W.mg_none_of X G z_sorted,
    PySem.W.mg_none_of X G z_sum,
    PySem.W.mg_none_of X G z_tuple,
    PySem.W.mg_none_of X G z_zip,
    fa_cons (co_Scene) (fa_cons (co_Web) (fa_nil)),
    fa_cons (kb_Scene_bool) (fa_cons (kb_Web_bool) (fa_nil)),
    fa_cons (kb_Scene_int) (fa_cons (kb_Web_int) (fa_nil)),
    fa_cons (kb_Scene_list) (fa_cons (kb_Web_list) (fa_nil)),
    fa_cons (kb_Scene_tuple) (fa_cons (kb_Web_tuple) (fa_nil)),
    fp_cons (fun _ => ⟨cl_Web, na_Web_around, rfl, show (["size", "lines", "around"] : List Str).Nodup from by decide +kernel⟩) (fp_nil),
    fp_cons (fun m => absurd m (show ¬ (32 ∈ ([39, 46] : List Nat)) from by decide)) (fp_cons (fun m => absurd m (show ¬ (35 ∈ ([39, 46] : List Nat)) from by decide)) (fp_cons (fun m => absurd m (show ¬ (45 ∈ ([39, 46] : List Nat)) from by decide)) (fp_cons (fun _ => ⟨cl_Web, na_Web_lines, rfl, show (["size", "lines", "around"] : List Str).Nodup from by decide +kernel⟩) (fp_nil)))),
    fp_cons (fun _ => ⟨cl_Scene, na_Scene_picture, rfl, show (["web", "picture"] : List Str).Nodup from by decide +kernel⟩) (fp_nil),
    fp_cons (fun m => absurd m (show ¬ (42 ∈ ([39, 46] : List Nat)) from by decide)) (fp_cons (fun _ => ⟨cl_Web, na_Web_size, rfl, show (["size", "lines", "around"] : List Str).Nodup from by decide +kernel⟩) (fp_nil)),
    fp_cons (fun _ => ⟨cl_Scene, na_Scene_web, rfl, show (["web", "picture"] : List Str).Nodup from by decide +kernel⟩) (fp_nil),
    rfl,
    show 39 ∈ ([39, 46] : List Nat) from by decide,
    rfl,
    show 46 ∈ ([39, 46] : List Nat) from by decide,
    xo_BadPicture,
    rfl,
    xna_BadPicture_index,
    xo_BadLine,
    rfl,
    xna_BadLine_index,
    xo_NotAWalk,
    rfl,
    xna_NotAWalk_index,
    xo_NoPlace,
    rfl,
    xna_NoPlace_place,
    fa_cons (xo_BadPicture) (fa_cons (xo_BadLine) (fa_cons (xo_NotAWalk) (fa_cons (xo_NoPlace) (fa_nil)))),
    PySem.W.mg_of X G aC_FirerestError,
    PySem.W.mg_of X G aC_NoLine,
    PySem.W.mg_of X G aC_NoPlace,
    fa_cons (ki_BadPicture_FirerestError) (fa_cons (ki_BadLine_FirerestError) (fa_cons (ki_NotAWalk_FirerestError) (fa_cons (ki_NoPlace_FirerestError) (fa_nil)))),
    fa_cons (ki_BadPicture_NoLine) (fa_cons (ki_BadLine_NoLine) (fa_cons (ki_NotAWalk_NoLine) (fa_cons (ki_NoPlace_NoLine) (fa_nil)))),
    fa_cons (kb_BadPicture_ValueError) (fa_cons (kb_BadLine_ValueError) (fa_cons (kb_NotAWalk_ValueError) (fa_cons (kb_NoPlace_ValueError) (fa_nil)))),
    fa_cons (PySem.W.exm_ref xex_NoPlace xhd_NoPlace xty_NoPlace xs_BadPicture_NoPlace) (fa_cons (PySem.W.exm_ref xex_NoPlace xhd_NoPlace xty_NoPlace xs_BadLine_NoPlace) (fa_cons (PySem.W.exm_ref xex_NoPlace xhd_NoPlace xty_NoPlace xs_NotAWalk_NoPlace) (fa_cons (PySem.W.exm_ref xex_NoPlace xhd_NoPlace xty_NoPlace xs_NoPlace_NoPlace) (fa_nil)))),
    fp_cons (⟨⟨xga_NoPlace, xgg_NoPlace, xex_NoPlace, xhd_NoPlace⟩, xna_NoPlace_place, rfl, show (["place"] : List Str).Nodup from by decide +kernel⟩) (fp_nil)⟩
  have FD__law_web : FunD K "_law_web" "_law_web" (defArgs s__law_web) (defBody s__law_web) (defScope s__law_web) [] [] f__law_web _ := ⟨⟨_, _, _, _, _, _, _, _, _, _, rfl, l__law_web, c__law_web, .inl ⟨rfl, rfl⟩, .inl rfl⟩, k__law_web⟩
  have FD__law_digits : FunD K "_law_digits" "_law_digits" (defArgs s__law_digits) (defBody s__law_digits) (defScope s__law_digits) [] [] f__law_digits _ := ⟨⟨_, _, _, _, _, _, _, _, _, _, rfl, l__law_digits, c__law_digits, .inl ⟨rfl, rfl⟩, .inl rfl⟩, k__law_digits⟩
  have FD__law_cell : FunD K "_law_cell" "_law_cell" (defArgs s__law_cell) (defBody s__law_cell) (defScope s__law_cell) [] [] f__law_cell _ := ⟨⟨_, _, _, _, _, _, _, _, _, _, rfl, l__law_cell, c__law_cell, .inl ⟨rfl, rfl⟩, .inl rfl⟩, k__law_cell⟩
  have FD__law_picture : FunD K "_law_picture" "_law_picture" (defArgs s__law_picture) (defBody s__law_picture) (defScope s__law_picture) [] [] f__law_picture _ := ⟨⟨_, _, _, _, _, _, _, _, _, _, rfl, l__law_picture, c__law_picture, .inl ⟨rfl, rfl⟩, .inl rfl⟩, k__law_picture⟩
  have FD__law_scene : FunD K "_law_scene" "_law_scene" (defArgs s__law_scene) (defBody s__law_scene) (defScope s__law_scene) [] [] f__law_scene _ := ⟨⟨_, _, _, _, _, _, _, _, _, _, rfl, l__law_scene, c__law_scene, .inl ⟨rfl, rfl⟩, .inl rfl⟩, k__law_scene⟩
  have FD__law_near : FunD K "_law_near" "_law_near" (defArgs s__law_near) (defBody s__law_near) (defScope s__law_near) [] [] f__law_near _ := ⟨⟨_, _, _, _, _, _, _, _, _, _, rfl, l__law_near, c__law_near, .inl ⟨rfl, rfl⟩, .inl rfl⟩, k__law_near⟩
  have FD_frozen : FunD K "frozen" "frozen" (defArgs s_frozen) (defBody s_frozen) (defScope s_frozen) [] [] f_frozen _ := ⟨⟨_, _, _, _, _, _, _, _, _, _, rfl, l_frozen, c_frozen, .inl ⟨rfl, rfl⟩, .inl rfl⟩, k_frozen⟩
  have FD_BadPicture___init__ : FunD K "__init__" "BadPicture.__init__" (defArgs s_BadPicture___init__) (defBody s_BadPicture___init__) (defScope s_BadPicture___init__) [] [] f_BadPicture___init__ _ := ⟨⟨_, _, _, _, _, _, _, _, _, _, rfl, l_BadPicture___init__, c_BadPicture___init__, .inl ⟨rfl, rfl⟩, .inl rfl⟩, k_BadPicture___init__⟩
  have FD_Scene___init__ : FunD K "__init__" "Scene.__init__" (defArgs s_Scene___init__) (defBody s_Scene___init__) (defScope s_Scene___init__) [] [] f_Scene___init__ _ := ⟨⟨_, _, _, _, _, _, _, _, _, _, rfl, l_Scene___init__, c_Scene___init__, .inl ⟨rfl, rfl⟩, .inl rfl⟩, k_Scene___init__⟩
  have FD_BadLine___init__ : FunD K "__init__" "BadLine.__init__" (defArgs s_BadLine___init__) (defBody s_BadLine___init__) (defScope s_BadLine___init__) [] [] f_BadLine___init__ _ := ⟨⟨_, _, _, _, _, _, _, _, _, _, rfl, l_BadLine___init__, c_BadLine___init__, .inl ⟨rfl, rfl⟩, .inl rfl⟩, k_BadLine___init__⟩
  have FD_checked_lines : FunD K "checked_lines" "checked_lines" (defArgs s_checked_lines) (defBody s_checked_lines) (defScope s_checked_lines) [] [] f_checked_lines _ := ⟨⟨_, _, _, _, _, _, _, _, _, _, rfl, l_checked_lines, c_checked_lines, .inl ⟨rfl, rfl⟩, .inl rfl⟩, k_checked_lines⟩
  have FD_neighbour_rows : FunD K "neighbour_rows" "neighbour_rows" (defArgs s_neighbour_rows) (defBody s_neighbour_rows) (defScope s_neighbour_rows) [] [] f_neighbour_rows _ := ⟨⟨_, _, _, _, _, _, _, _, _, _, rfl, l_neighbour_rows, c_neighbour_rows, .inl ⟨rfl, rfl⟩, .inl rfl⟩, k_neighbour_rows⟩
  have FD_Web___init__ : FunD K "__init__" "Web.__init__" (defArgs s_Web___init__) (defBody s_Web___init__) (defScope s_Web___init__) [.ref t0_Web___init__] [] f_Web___init__ _ := ⟨⟨_, _, _, _, _, _, _, _, _, _, rfl, l_Web___init__, c_Web___init__, .inr ⟨by simp, T_Web___init__, _, [.ref t0_Web___init__], nT_Web___init__, rfl, lT_Web___init__, rfl, .cons rfl (.nil)⟩, .inl rfl⟩, k_Web___init__⟩
  have FD__law_pieces : FunD K "_law_pieces" "_law_pieces" (defArgs s__law_pieces) (defBody s__law_pieces) (defScope s__law_pieces) [] [] f__law_pieces _ := ⟨⟨_, _, _, _, _, _, _, _, _, _, rfl, l__law_pieces, c__law_pieces, .inl ⟨rfl, rfl⟩, .inl rfl⟩, k__law_pieces⟩
  have FD__law_step : FunD K "_law_step" "_law_step" (defArgs s__law_step) (defBody s__law_step) (defScope s__law_step) [] [] f__law_step _ := ⟨⟨_, _, _, _, _, _, _, _, _, _, rfl, l__law_step, c__law_step, .inl ⟨rfl, rfl⟩, .inl rfl⟩, k__law_step⟩
  have FD__law_round : FunD K "_law_round" "_law_round" (defArgs s__law_round) (defBody s__law_round) (defScope s__law_round) [] [] f__law_round _ := ⟨⟨_, _, _, _, _, _, _, _, _, _, rfl, l__law_round, c__law_round, .inl ⟨rfl, rfl⟩, .inl rfl⟩, k__law_round⟩
  have FD__law_lowest : FunD K "_law_lowest" "_law_lowest" (defArgs s__law_lowest) (defBody s__law_lowest) (defScope s__law_lowest) [] [] f__law_lowest _ := ⟨⟨_, _, _, _, _, _, _, _, _, _, rfl, l__law_lowest, c__law_lowest, .inl ⟨rfl, rfl⟩, .inl rfl⟩, k__law_lowest⟩
  have FD__law_counts : FunD K "_law_counts" "_law_counts" (defArgs s__law_counts) (defBody s__law_counts) (defScope s__law_counts) [] [] f__law_counts _ := ⟨⟨_, _, _, _, _, _, _, _, _, _, rfl, l__law_counts, c__law_counts, .inl ⟨rfl, rfl⟩, .inl rfl⟩, k__law_counts⟩
  have FD__law_gains : FunD K "_law_gains" "_law_gains" (defArgs s__law_gains) (defBody s__law_gains) (defScope s__law_gains) [] [] f__law_gains _ := ⟨⟨_, _, _, _, _, _, _, _, _, _, rfl, l__law_gains, c__law_gains, .inl ⟨rfl, rfl⟩, .inl rfl⟩, k__law_gains⟩
  have FD__law_share : FunD K "_law_share" "_law_share" (defArgs s__law_share) (defBody s__law_share) (defScope s__law_share) [] [] f__law_share _ := ⟨⟨_, _, _, _, _, _, _, _, _, _, rfl, l__law_share, c__law_share, .inl ⟨rfl, rfl⟩, .inl rfl⟩, k__law_share⟩
  have FD__law_rings : FunD K "_law_rings" "_law_rings" (defArgs s__law_rings) (defBody s__law_rings) (defScope s__law_rings) [] [] f__law_rings _ := ⟨⟨_, _, _, _, _, _, _, _, _, _, rfl, l__law_rings, c__law_rings, .inl ⟨rfl, rfl⟩, .inl rfl⟩, k__law_rings⟩
  have FD__law_whole : FunD K "_law_whole" "_law_whole" (defArgs s__law_whole) (defBody s__law_whole) (defScope s__law_whole) [] [] f__law_whole _ := ⟨⟨_, _, _, _, _, _, _, _, _, _, rfl, l__law_whole, c__law_whole, .inl ⟨rfl, rfl⟩, .inl rfl⟩, k__law_whole⟩
  have FD__law_is_walk : FunD K "_law_is_walk" "_law_is_walk" (defArgs s__law_is_walk) (defBody s__law_is_walk) (defScope s__law_is_walk) [] [] f__law_is_walk _ := ⟨⟨_, _, _, _, _, _, _, _, _, _, rfl, l__law_is_walk, c__law_is_walk, .inl ⟨rfl, rfl⟩, .inl rfl⟩, k__law_is_walk⟩
  have FD__law_sum : FunD K "_law_sum" "_law_sum" (defArgs s__law_sum) (defBody s__law_sum) (defScope s__law_sum) [] [] f__law_sum _ := ⟨⟨_, _, _, _, _, _, _, _, _, _, rfl, l__law_sum, c__law_sum, .inl ⟨rfl, rfl⟩, .inl rfl⟩, k__law_sum⟩
  have FD__law_lead : FunD K "_law_lead" "_law_lead" (defArgs s__law_lead) (defBody s__law_lead) (defScope s__law_lead) [] [] f__law_lead _ := ⟨⟨_, _, _, _, _, _, _, _, _, _, rfl, l__law_lead, c__law_lead, .inl ⟨rfl, rfl⟩, .inl rfl⟩, k__law_lead⟩
  have FD__law_lead_rows : FunD K "_law_lead_rows" "_law_lead_rows" (defArgs s__law_lead_rows) (defBody s__law_lead_rows) (defScope s__law_lead_rows) [] [] f__law_lead_rows _ := ⟨⟨_, _, _, _, _, _, _, _, _, _, rfl, l__law_lead_rows, c__law_lead_rows, .inl ⟨rfl, rfl⟩, .inl rfl⟩, k__law_lead_rows⟩
  have FD__law_own_pairs : FunD K "_law_own_pairs" "_law_own_pairs" (defArgs s__law_own_pairs) (defBody s__law_own_pairs) (defScope s__law_own_pairs) [] [] f__law_own_pairs _ := ⟨⟨_, _, _, _, _, _, _, _, _, _, rfl, l__law_own_pairs, c__law_own_pairs, .inl ⟨rfl, rfl⟩, .inl rfl⟩, k__law_own_pairs⟩
  have FD__law_has_share : FunD K "_law_has_share" "_law_has_share" (defArgs s__law_has_share) (defBody s__law_has_share) (defScope s__law_has_share) [] [] f__law_has_share _ := ⟨⟨_, _, _, _, _, _, _, _, _, _, rfl, l__law_has_share, c__law_has_share, .inl ⟨rfl, rfl⟩, .inl rfl⟩, k__law_has_share⟩
  have FD__law_agree : FunD K "_law_agree" "_law_agree" (defArgs s__law_agree) (defBody s__law_agree) (defScope s__law_agree) [] [] f__law_agree _ := ⟨⟨_, _, _, _, _, _, _, _, _, _, rfl, l__law_agree, c__law_agree, .inl ⟨rfl, rfl⟩, .inl rfl⟩, k__law_agree⟩
  have FD_is_walk : FunD K "is_walk" "is_walk" (defArgs s_is_walk) (defBody s_is_walk) (defScope s_is_walk) [] [] f_is_walk _ := ⟨⟨_, _, _, _, _, _, _, _, _, _, rfl, l_is_walk, c_is_walk, .inl ⟨rfl, rfl⟩, .inl rfl⟩, k_is_walk⟩
  have FD_is_ring : FunD K "is_ring" "is_ring" (defArgs s_is_ring) (defBody s_is_ring) (defScope s_is_ring) [] [] f_is_ring _ := ⟨⟨_, _, _, _, _, _, _, _, _, _, rfl, l_is_ring, c_is_ring, .inl ⟨rfl, rfl⟩, .inl rfl⟩, k_is_ring⟩
  have FD_NotAWalk___init__ : FunD K "__init__" "NotAWalk.__init__" (defArgs s_NotAWalk___init__) (defBody s_NotAWalk___init__) (defScope s_NotAWalk___init__) [] [] f_NotAWalk___init__ _ := ⟨⟨_, _, _, _, _, _, _, _, _, _, rfl, l_NotAWalk___init__, c_NotAWalk___init__, .inl ⟨rfl, rfl⟩, .inl rfl⟩, k_NotAWalk___init__⟩
  have FD_check_walk : FunD K "check_walk" "check_walk" (defArgs s_check_walk) (defBody s_check_walk) (defScope s_check_walk) [] [] f_check_walk _ := ⟨⟨_, _, _, _, _, _, _, _, _, _, rfl, l_check_walk, c_check_walk, .inl ⟨rfl, rfl⟩, .inl rfl⟩, k_check_walk⟩
  have FD_state_lead : FunD K "state_lead" "state_lead" (defArgs s_state_lead) (defBody s_state_lead) (defScope s_state_lead) [] [] f_state_lead _ := ⟨⟨_, _, _, _, _, _, _, _, _, _, rfl, l_state_lead, c_state_lead, .inl ⟨rfl, rfl⟩, .inl rfl⟩, k_state_lead⟩
  have FD_lead_sum : FunD K "lead_sum" "lead_sum" (defArgs s_lead_sum) (defBody s_lead_sum) (defScope s_lead_sum) [] [] f_lead_sum _ := ⟨⟨_, _, _, _, _, _, _, _, _, _, rfl, l_lead_sum, c_lead_sum, .inl ⟨rfl, rfl⟩, .inl rfl⟩, k_lead_sum⟩
  have FD_is_share_ring : FunD K "is_share_ring" "is_share_ring" (defArgs s_is_share_ring) (defBody s_is_share_ring) (defScope s_is_share_ring) [] [] f_is_share_ring _ := ⟨⟨_, _, _, _, _, _, _, _, _, _, rfl, l_is_share_ring, c_is_share_ring, .inl ⟨rfl, rfl⟩, .inl rfl⟩, k_is_share_ring⟩
  have FD__law_rings_asked : FunD K "_law_rings_asked" "_law_rings_asked" (defArgs s__law_rings_asked) (defBody s__law_rings_asked) (defScope s__law_rings_asked) [] [] f__law_rings_asked _ := ⟨⟨_, _, _, _, _, _, _, _, _, _, rfl, l__law_rings_asked, c__law_rings_asked, .inl ⟨rfl, rfl⟩, .inl rfl⟩, k__law_rings_asked⟩
  have FD__law_grown : FunD K "_law_grown" "_law_grown" (defArgs s__law_grown) (defBody s__law_grown) (defScope s__law_grown) [] [] f__law_grown _ := ⟨⟨_, _, _, _, _, _, _, _, _, _, rfl, l__law_grown, c__law_grown, .inl ⟨rfl, rfl⟩, .inl rfl⟩, k__law_grown⟩
  have FD__law_slope : FunD K "_law_slope" "_law_slope" (defArgs s__law_slope) (defBody s__law_slope) (defScope s__law_slope) [] [] f__law_slope _ := ⟨⟨_, _, _, _, _, _, _, _, _, _, rfl, l__law_slope, c__law_slope, .inl ⟨rfl, rfl⟩, .inl rfl⟩, k__law_slope⟩
  have FD_NoPlace___init__ : FunD K "__init__" "NoPlace.__init__" (defArgs s_NoPlace___init__) (defBody s_NoPlace___init__) (defScope s_NoPlace___init__) [] [] f_NoPlace___init__ _ := ⟨⟨_, _, _, _, _, _, _, _, _, _, rfl, l_NoPlace___init__, c_NoPlace___init__, .inl ⟨rfl, rfl⟩, .inl rfl⟩, k_NoPlace___init__⟩
  have FD_check_place : FunD K "check_place" "check_place" (defArgs s_check_place) (defBody s_check_place) (defScope s_check_place) [] [] f_check_place _ := ⟨⟨_, _, _, _, _, _, _, _, _, _, rfl, l_check_place, c_check_place, .inl ⟨rfl, rfl⟩, .inl rfl⟩, k_check_place⟩
  have FD_piece_of : FunD K "piece_of" "piece_of" (defArgs s_piece_of) (defBody s_piece_of) (defScope s_piece_of) [] [] f_piece_of _ := ⟨⟨_, _, _, _, _, _, _, _, _, _, rfl, l_piece_of, c_piece_of, .inl ⟨rfl, rfl⟩, .inl rfl⟩, k_piece_of⟩
  have FD_step_lead : FunD K "step_lead" "step_lead" (defArgs s_step_lead) (defBody s_step_lead) (defScope s_step_lead) [] [] f_step_lead _ := ⟨⟨_, _, _, _, _, _, _, _, _, _, rfl, l_step_lead, c_step_lead, .inl ⟨rfl, rfl⟩, .inl rfl⟩, k_step_lead⟩
  have FD_are_slopes : FunD K "are_slopes" "are_slopes" (defArgs s_are_slopes) (defBody s_are_slopes) (defScope s_are_slopes) [] [] f_are_slopes _ := ⟨⟨_, _, _, _, _, _, _, _, _, _, rfl, l_are_slopes, c_are_slopes, .inl ⟨rfl, rfl⟩, .inl rfl⟩, k_are_slopes⟩
  have FD__law_refused : FunD K "_law_refused" "_law_refused" (defArgs s__law_refused) (defBody s__law_refused) (defScope s__law_refused) [] [] f__law_refused _ := ⟨⟨_, _, _, _, _, _, _, _, _, _, rfl, l__law_refused, c__law_refused, .inl ⟨rfl, rfl⟩, .inl rfl⟩, k__law_refused⟩
  have FD_law : FunD K "law" "law" (defArgs s_law) (defBody s_law) (defScope s_law) [] [] f_law _ := ⟨⟨_, _, _, _, _, _, _, _, _, _, rfl, l_law, c_law, .inl ⟨rfl, rfl⟩, .inl rfl⟩, k_law⟩
  refine ⟨_, fun s v => FD_law.bindsA (ps := ["_law_script"]) (fun _ _ _ _ _ _ us hl => match us, hl with | [_], _ => rfl) s [v] rfl, fun base _ _ => ?_⟩
  have A__law_web : At K mg "_law_web" f__law_web := ⟨PySem.W.mg_of X G a__law_web, k__law_web⟩
  have G__law_web := ok__law_web (base := base) FD__law_web T  
  have A__law_digits : At K mg "_law_digits" f__law_digits := ⟨PySem.W.mg_of X G a__law_digits, k__law_digits⟩
  have G__law_digits := ok__law_digits (base := base) FD__law_digits T  
  have A__law_cell : At K mg "_law_cell" f__law_cell := ⟨PySem.W.mg_of X G a__law_cell, k__law_cell⟩
  have G__law_cell := ok__law_cell (base := base) FD__law_cell T  
  have A__law_picture : At K mg "_law_picture" f__law_picture := ⟨PySem.W.mg_of X G a__law_picture, k__law_picture⟩
  have G__law_picture := ok__law_picture (base := base) FD__law_picture T  
  have A__law_scene : At K mg "_law_scene" f__law_scene := ⟨PySem.W.mg_of X G a__law_scene, k__law_scene⟩
  have G__law_scene := ok__law_scene (base := base) FD__law_scene T  G__law_web A__law_web G__law_digits A__law_digits G__law_cell A__law_cell G__law_picture A__law_picture
  have A__law_near : At K mg "_law_near" f__law_near := ⟨PySem.W.mg_of X G a__law_near, k__law_near⟩
  have G__law_near := ok__law_near (base := base) FD__law_near T  
  have A_frozen : At K mg "frozen" f_frozen := ⟨PySem.W.mg_of X G a_frozen, k_frozen⟩
  have G_frozen := ok_frozen (base := base) FD_frozen T   A_frozen 6
  have XA_BadPicture : XAt K mg cm "BadPicture" 10 f_BadPicture___init__ := ⟨PySem.W.mg_of X G aC_BadPicture, xo_BadPicture, a_BadPicture___init__, xt_BadPicture___init__⟩
  have GX_BadPicture := okx_BadPicture___init__ (P := l.prog) (w := w) (mg := mg) (base := base) FD_BadPicture___init__
  have C_Scene : ClsAt K mg cm "Scene" 39 f_Scene___init__ := ⟨PySem.W.mg_of X G aC_Scene, ⟨mk_Scene, a_Scene___init__, i_Scene___init__, kc_Scene⟩, T.in_Scene⟩
  have G_Scene___init__ := ok_Scene___init__ (base := base) FD_Scene___init__ T  G_frozen A_frozen GX_BadPicture XA_BadPicture
  have XA_BadLine : XAt K mg cm "BadLine" 7 f_BadLine___init__ := ⟨PySem.W.mg_of X G aC_BadLine, xo_BadLine, a_BadLine___init__, xt_BadLine___init__⟩
  have GX_BadLine := okx_BadLine___init__ (P := l.prog) (w := w) (mg := mg) (base := base) FD_BadLine___init__
  have A_checked_lines : At K mg "checked_lines" f_checked_lines := ⟨PySem.W.mg_of X G a_checked_lines, k_checked_lines⟩
  have G_checked_lines := ok_checked_lines (base := base) FD_checked_lines T  GX_BadLine XA_BadLine
  have A_neighbour_rows : At K mg "neighbour_rows" f_neighbour_rows := ⟨PySem.W.mg_of X G a_neighbour_rows, k_neighbour_rows⟩
  have G_neighbour_rows := ok_neighbour_rows (base := base) FD_neighbour_rows T  
  have C_Web : ClsAt K mg cm "Web" 46 f_Web___init__ := ⟨PySem.W.mg_of X G aC_Web, ⟨mk_Web, a_Web___init__, i_Web___init__, kc_Web⟩, T.in_Web⟩
  have G_Web___init__ := ok_Web___init__ (base := base) FD_Web___init__ T ⟨_, _, e0_Web___init__, rfl, rfl⟩ G_checked_lines A_checked_lines G_frozen A_frozen G_neighbour_rows A_neighbour_rows
  have A__law_pieces : At K mg "_law_pieces" f__law_pieces := ⟨PySem.W.mg_of X G a__law_pieces, k__law_pieces⟩
  have G__law_pieces := ok__law_pieces (base := base) FD__law_pieces T  
  have A__law_step : At K mg "_law_step" f__law_step := ⟨PySem.W.mg_of X G a__law_step, k__law_step⟩
  have G__law_step := ok__law_step (base := base) FD__law_step T  
  have A__law_round : At K mg "_law_round" f__law_round := ⟨PySem.W.mg_of X G a__law_round, k__law_round⟩
  have G__law_round := ok__law_round (base := base) FD__law_round T  G__law_step A__law_step
  have A__law_lowest : At K mg "_law_lowest" f__law_lowest := ⟨PySem.W.mg_of X G a__law_lowest, k__law_lowest⟩
  have G__law_lowest := ok__law_lowest (base := base) FD__law_lowest T  
  have A__law_counts : At K mg "_law_counts" f__law_counts := ⟨PySem.W.mg_of X G a__law_counts, k__law_counts⟩
  have G__law_counts := ok__law_counts (base := base) FD__law_counts T  
  have A__law_gains : At K mg "_law_gains" f__law_gains := ⟨PySem.W.mg_of X G a__law_gains, k__law_gains⟩
  have G__law_gains := ok__law_gains (base := base) FD__law_gains T  G__law_counts A__law_counts
  have A__law_share : At K mg "_law_share" f__law_share := ⟨PySem.W.mg_of X G a__law_share, k__law_share⟩
  have G__law_share := ok__law_share (base := base) FD__law_share T  G__law_round A__law_round G__law_lowest A__law_lowest G__law_gains A__law_gains
  have A__law_rings : At K mg "_law_rings" f__law_rings := ⟨PySem.W.mg_of X G a__law_rings, k__law_rings⟩
  have G__law_rings := ok__law_rings (base := base) FD__law_rings T  
  have A__law_whole : At K mg "_law_whole" f__law_whole := ⟨PySem.W.mg_of X G a__law_whole, k__law_whole⟩
  have GW__law_whole := warm__law_whole (base := base) FD__law_whole T  
  have G__law_whole := ok__law_whole (base := base) FD__law_whole T  
  have A__law_is_walk : At K mg "_law_is_walk" f__law_is_walk := ⟨PySem.W.mg_of X G a__law_is_walk, k__law_is_walk⟩
  have G__law_is_walk := ok__law_is_walk (base := base) FD__law_is_walk T  G__law_whole A__law_whole
  have A__law_sum : At K mg "_law_sum" f__law_sum := ⟨PySem.W.mg_of X G a__law_sum, k__law_sum⟩
  have G__law_sum := ok__law_sum (base := base) FD__law_sum T  
  have A__law_lead : At K mg "_law_lead" f__law_lead := ⟨PySem.W.mg_of X G a__law_lead, k__law_lead⟩
  have G__law_lead := ok__law_lead (base := base) FD__law_lead T  
  have A__law_lead_rows : At K mg "_law_lead_rows" f__law_lead_rows := ⟨PySem.W.mg_of X G a__law_lead_rows, k__law_lead_rows⟩
  have G__law_lead_rows := ok__law_lead_rows (base := base) FD__law_lead_rows T  G__law_lead A__law_lead
  have A__law_own_pairs : At K mg "_law_own_pairs" f__law_own_pairs := ⟨PySem.W.mg_of X G a__law_own_pairs, k__law_own_pairs⟩
  have G__law_own_pairs := ok__law_own_pairs (base := base) FD__law_own_pairs T  G__law_is_walk A__law_is_walk G__law_sum A__law_sum G__law_lead_rows A__law_lead_rows
  have A__law_has_share : At K mg "_law_has_share" f__law_has_share := ⟨PySem.W.mg_of X G a__law_has_share, k__law_has_share⟩
  have G__law_has_share := ok__law_has_share (base := base) FD__law_has_share T  G__law_is_walk A__law_is_walk G__law_sum A__law_sum G__law_lead_rows A__law_lead_rows
  have A__law_agree : At K mg "_law_agree" f__law_agree := ⟨PySem.W.mg_of X G a__law_agree, k__law_agree⟩
  have G__law_agree := ok__law_agree (base := base) FD__law_agree T  
  have A_is_walk : At K mg "is_walk" f_is_walk := ⟨PySem.W.mg_of X G a_is_walk, k_is_walk⟩
  have G_is_walk := ok_is_walk (base := base) FD_is_walk T  
  have A_is_ring : At K mg "is_ring" f_is_ring := ⟨PySem.W.mg_of X G a_is_ring, k_is_ring⟩
  have G_is_ring := ok_is_ring (base := base) FD_is_ring T  G_is_walk A_is_walk
  have XA_NotAWalk : XAt K mg cm "NotAWalk" 12 f_NotAWalk___init__ := ⟨PySem.W.mg_of X G aC_NotAWalk, xo_NotAWalk, a_NotAWalk___init__, xt_NotAWalk___init__⟩
  have GX_NotAWalk := okx_NotAWalk___init__ (P := l.prog) (w := w) (mg := mg) (base := base) FD_NotAWalk___init__
  have A_check_walk : At K mg "check_walk" f_check_walk := ⟨PySem.W.mg_of X G a_check_walk, k_check_walk⟩
  have G_check_walk := ok_check_walk (base := base) FD_check_walk T  GX_NotAWalk XA_NotAWalk
  have A_state_lead : At K mg "state_lead" f_state_lead := ⟨PySem.W.mg_of X G a_state_lead, k_state_lead⟩
  have G_state_lead := ok_state_lead (base := base) FD_state_lead T  
  have A_lead_sum : At K mg "lead_sum" f_lead_sum := ⟨PySem.W.mg_of X G a_lead_sum, k_lead_sum⟩
  have G_lead_sum := ok_lead_sum (base := base) FD_lead_sum T  G_check_walk A_check_walk G_state_lead A_state_lead
  have A_is_share_ring : At K mg "is_share_ring" f_is_share_ring := ⟨PySem.W.mg_of X G a_is_share_ring, k_is_share_ring⟩
  have G_is_share_ring := ok_is_share_ring (base := base) FD_is_share_ring T  G_is_ring A_is_ring G_lead_sum A_lead_sum
  have A__law_rings_asked : At K mg "_law_rings_asked" f__law_rings_asked := ⟨PySem.W.mg_of X G a__law_rings_asked, k__law_rings_asked⟩
  have G__law_rings_asked := ok__law_rings_asked (base := base) FD__law_rings_asked T  G__law_rings A__law_rings G__law_own_pairs A__law_own_pairs G__law_has_share A__law_has_share G__law_agree A__law_agree G_is_share_ring A_is_share_ring
  have A__law_grown : At K mg "_law_grown" f__law_grown := ⟨PySem.W.mg_of X G a__law_grown, k__law_grown⟩
  have G__law_grown := ok__law_grown (base := base) FD__law_grown T  G__law_lead A__law_lead
  have A__law_slope : At K mg "_law_slope" f__law_slope := ⟨PySem.W.mg_of X G a__law_slope, k__law_slope⟩
  have G__law_slope := ok__law_slope (base := base) FD__law_slope T  G__law_lead A__law_lead
  have XA_NoPlace : XAt K mg cm "NoPlace" 6 f_NoPlace___init__ := ⟨PySem.W.mg_of X G aC_NoPlace, xo_NoPlace, a_NoPlace___init__, xt_NoPlace___init__⟩
  have GX_NoPlace := okx_NoPlace___init__ (P := l.prog) (w := w) (mg := mg) (base := base) FD_NoPlace___init__
  have A_check_place : At K mg "check_place" f_check_place := ⟨PySem.W.mg_of X G a_check_place, k_check_place⟩
  have G_check_place := ok_check_place (base := base) FD_check_place T  GX_NoPlace XA_NoPlace
  have A_piece_of : At K mg "piece_of" f_piece_of := ⟨PySem.W.mg_of X G a_piece_of, k_piece_of⟩
  have G_piece_of := ok_piece_of (base := base) FD_piece_of T  G_check_place A_check_place
  have A_step_lead : At K mg "step_lead" f_step_lead := ⟨PySem.W.mg_of X G a_step_lead, k_step_lead⟩
  have G_step_lead := ok_step_lead (base := base) FD_step_lead T  G_state_lead A_state_lead
  have A_are_slopes : At K mg "are_slopes" f_are_slopes := ⟨PySem.W.mg_of X G a_are_slopes, k_are_slopes⟩
  have G_are_slopes := ok_are_slopes (base := base) FD_are_slopes T  G_check_place A_check_place G_piece_of A_piece_of G_frozen A_frozen G_step_lead A_step_lead
  have A__law_refused : At K mg "_law_refused" f__law_refused := ⟨PySem.W.mg_of X G a__law_refused, k__law_refused⟩
  have G__law_refused := ok__law_refused (base := base) FD__law_refused T  G_are_slopes A_are_slopes G__law_whole A__law_whole GW__law_whole
  have A_law : At K mg "law" f_law := ⟨PySem.W.mg_of X G a_law, k_law⟩
  exact (ok_law (base := base) FD_law T G__law_scene A__law_scene G__law_near A__law_near G__law_digits A__law_digits G__law_cell A__law_cell G_Scene___init__ C_Scene G_Web___init__ C_Web G__law_pieces A__law_pieces G__law_share A__law_share G__law_rings_asked A__law_rings_asked G__law_grown A__law_grown G__law_slope A__law_slope G__law_agree A__law_agree G_are_slopes A_are_slopes G__law_refused A__law_refused).imp (law_sp main)
end FR
end
section
set_option Elab.async false
set_option linter.all false
set_option maxRecDepth 100000
set_option maxHeartbeats 2000000
open PySem PySem.W PyProof.Rows in
set_option maxRecDepth 100000 in
set_option maxHeartbeats 0 in
theorem PySem.Challenge.cw_firerest_k31_share_judges_holds : PySem.Challenge.rw_firerest_k31_share_judges.Holds := by
  w_on; o_law; k_head; (case hw => w_witness2)
  k_fill
  refine DI.walk (k := 10) (l := PySem.Challenge.rw_firerest_k31_share_judges) rfl rfl ⟨rfl, by decide, by decide⟩ (fun w h Y => PySem.W.kIn_of Y) ?F
  case F =>
    intro w mg fa h KX G hmg
    refine' FR.all_mk KX G hmg ?aC_FirerestError ?aC_NoPlace ?aC_BadLine ?aC_NoLine ?aC_BadPicture ?aC_NotAWalk ?aC_Scene ?aC_Web ?a__law_web ?l__law_web ?c__law_web ?k__law_web ?a__law_digits ?l__law_digits ?c__law_digits ?k__law_digits ?a__law_cell ?l__law_cell ?c__law_cell ?k__law_cell ?a__law_picture ?l__law_picture ?c__law_picture ?k__law_picture ?a__law_scene ?l__law_scene ?c__law_scene ?k__law_scene ?a__law_near ?l__law_near ?c__law_near ?k__law_near ?a_frozen ?l_frozen ?c_frozen ?k_frozen ?a_BadPicture___init__ ?i_BadPicture___init__ ?xt_BadPicture___init__ ?l_BadPicture___init__ ?c_BadPicture___init__ ?k_BadPicture___init__ ?a_Scene___init__ ?i_Scene___init__ ?l_Scene___init__ ?c_Scene___init__ ?k_Scene___init__ ?a_BadLine___init__ ?i_BadLine___init__ ?xt_BadLine___init__ ?l_BadLine___init__ ?c_BadLine___init__ ?k_BadLine___init__ ?a_checked_lines ?l_checked_lines ?c_checked_lines ?k_checked_lines ?a_neighbour_rows ?l_neighbour_rows ?c_neighbour_rows ?k_neighbour_rows ?a_Web___init__ ?i_Web___init__ ?l_Web___init__ ?c_Web___init__ ?k_Web___init__ ?lT_Web___init__ ?e0_Web___init__ ?a__law_pieces ?l__law_pieces ?c__law_pieces ?k__law_pieces ?a__law_step ?l__law_step ?c__law_step ?k__law_step ?a__law_round ?l__law_round ?c__law_round ?k__law_round ?a__law_lowest ?l__law_lowest ?c__law_lowest ?k__law_lowest ?a__law_counts ?l__law_counts ?c__law_counts ?k__law_counts ?a__law_gains ?l__law_gains ?c__law_gains ?k__law_gains ?a__law_share ?l__law_share ?c__law_share ?k__law_share ?a__law_rings ?l__law_rings ?c__law_rings ?k__law_rings ?a__law_whole ?l__law_whole ?c__law_whole ?k__law_whole ?a__law_is_walk ?l__law_is_walk ?c__law_is_walk ?k__law_is_walk ?a__law_sum ?l__law_sum ?c__law_sum ?k__law_sum ?a__law_lead ?l__law_lead ?c__law_lead ?k__law_lead ?a__law_lead_rows ?l__law_lead_rows ?c__law_lead_rows ?k__law_lead_rows ?a__law_own_pairs ?l__law_own_pairs ?c__law_own_pairs ?k__law_own_pairs ?a__law_has_share ?l__law_has_share ?c__law_has_share ?k__law_has_share ?a__law_agree ?l__law_agree ?c__law_agree ?k__law_agree ?a_is_walk ?l_is_walk ?c_is_walk ?k_is_walk ?a_is_ring ?l_is_ring ?c_is_ring ?k_is_ring ?a_NotAWalk___init__ ?i_NotAWalk___init__ ?xt_NotAWalk___init__ ?l_NotAWalk___init__ ?c_NotAWalk___init__ ?k_NotAWalk___init__ ?a_check_walk ?l_check_walk ?c_check_walk ?k_check_walk ?a_state_lead ?l_state_lead ?c_state_lead ?k_state_lead ?a_lead_sum ?l_lead_sum ?c_lead_sum ?k_lead_sum ?a_is_share_ring ?l_is_share_ring ?c_is_share_ring ?k_is_share_ring ?a__law_rings_asked ?l__law_rings_asked ?c__law_rings_asked ?k__law_rings_asked ?a__law_grown ?l__law_grown ?c__law_grown ?k__law_grown ?a__law_slope ?l__law_slope ?c__law_slope ?k__law_slope ?a_NoPlace___init__ ?i_NoPlace___init__ ?xt_NoPlace___init__ ?l_NoPlace___init__ ?c_NoPlace___init__ ?k_NoPlace___init__ ?a_check_place ?l_check_place ?c_check_place ?k_check_place ?a_piece_of ?l_piece_of ?c_piece_of ?k_piece_of ?a_step_lead ?l_step_lead ?c_step_lead ?k_step_lead ?a_are_slopes ?l_are_slopes ?c_are_slopes ?k_are_slopes ?a__law_refused ?l__law_refused ?c__law_refused ?k__law_refused ?a_law ?l_law ?c_law ?k_law ?pg_Scene ?hd_Scene ?po_Scene ?sa_Scene ?ca_Scene ?cm_Scene ?mk_Scene ?kc_Scene ?na_Scene_picture ?na_Scene_web ?kb_Scene_bool ?kb_Scene_int ?kb_Scene_list ?kb_Scene_tuple ?pg_Web ?hd_Web ?po_Web ?sa_Web ?ca_Web ?cm_Web ?mk_Web ?kc_Web ?na_Web_around ?na_Web_lines ?na_Web_size ?kb_Web_bool ?kb_Web_int ?kb_Web_list ?kb_Web_tuple ?xex_FirerestError ?xty_FirerestError ?xhd_FirerestError ?xex_NoPlace ?xty_NoPlace ?xhd_NoPlace ?xex_BadLine ?xty_BadLine ?xhd_BadLine ?xex_NoLine ?xty_NoLine ?xhd_NoLine ?xex_BadPicture ?xty_BadPicture ?xhd_BadPicture ?xex_NotAWalk ?xty_NotAWalk ?xhd_NotAWalk ?xlk_BadPicture ?ox_BadPicture ?xsa_BadPicture ?xkp_BadPicture ?xga_BadPicture ?xgg_BadPicture ?xca_BadPicture ?xmo_BadPicture ?xna_BadPicture_index ?xs_BadPicture_NoPlace ?ki_BadPicture_FirerestError ?ki_BadPicture_NoLine ?kb_BadPicture_ValueError ?xlk_BadLine ?ox_BadLine ?xsa_BadLine ?xkp_BadLine ?xga_BadLine ?xgg_BadLine ?xca_BadLine ?xmo_BadLine ?xna_BadLine_index ?xs_BadLine_NoPlace ?ki_BadLine_FirerestError ?ki_BadLine_NoLine ?kb_BadLine_ValueError ?xlk_NotAWalk ?ox_NotAWalk ?xsa_NotAWalk ?xkp_NotAWalk ?xga_NotAWalk ?xgg_NotAWalk ?xca_NotAWalk ?xmo_NotAWalk ?xna_NotAWalk_index ?xs_NotAWalk_NoPlace ?ki_NotAWalk_FirerestError ?ki_NotAWalk_NoLine ?kb_NotAWalk_ValueError ?xlk_NoPlace ?ox_NoPlace ?xsa_NoPlace ?xkp_NoPlace ?xga_NoPlace ?xgg_NoPlace ?xca_NoPlace ?xmo_NoPlace ?xna_NoPlace_place ?xs_NoPlace_NoPlace ?ki_NoPlace_FirerestError ?ki_NoPlace_NoLine ?kb_NoPlace_ValueError ?cn ?ctk ?z_ValueError ?z_bool ?z_enumerate ?z_int ?z_isinstance ?z_len ?z_list ?z_max ?z_min ?z_range ?z_sorted ?z_sum ?z_tuple ?z_zip FR.main
    (case aC_FirerestError => k_is)
    (case aC_NoPlace => k_is)
    (case aC_BadLine => k_is)
    (case aC_NoLine => k_is)
    (case aC_BadPicture => k_is)
    (case aC_NotAWalk => k_is)
    (case aC_Scene => k_is)
    (case aC_Web => k_is)
    (case a__law_web => k_is)
    (case l__law_web => k_is)
    (case c__law_web => k_is)
    (case k__law_web => k_is)
    (case a__law_digits => k_is)
    (case l__law_digits => k_is)
    (case c__law_digits => k_is)
    (case k__law_digits => k_is)
    (case a__law_cell => k_is)
    (case l__law_cell => k_is)
    (case c__law_cell => k_is)
    (case k__law_cell => k_is)
    (case a__law_picture => k_is)
    (case l__law_picture => k_is)
    (case c__law_picture => k_is)
    (case k__law_picture => k_is)
    (case a__law_scene => k_is)
    (case l__law_scene => k_is)
    (case c__law_scene => k_is)
    (case k__law_scene => k_is)
    (case a__law_near => k_is)
    (case l__law_near => k_is)
    (case c__law_near => k_is)
    (case k__law_near => k_is)
    (case a_frozen => k_is)
    (case l_frozen => k_is)
    (case c_frozen => k_is)
    (case k_frozen => k_is)
    (case a_BadPicture___init__ => k_is)
    (case i_BadPicture___init__ => k_is)
    (case xt_BadPicture___init__ => k_is)
    (case l_BadPicture___init__ => k_is)
    (case c_BadPicture___init__ => k_is)
    (case k_BadPicture___init__ => k_is)
    (case a_Scene___init__ => k_is)
    (case i_Scene___init__ => k_is)
    (case l_Scene___init__ => k_is)
    (case c_Scene___init__ => k_is)
    (case k_Scene___init__ => k_is)
    (case a_BadLine___init__ => k_is)
    (case i_BadLine___init__ => k_is)
    (case xt_BadLine___init__ => k_is)
    (case l_BadLine___init__ => k_is)
    (case c_BadLine___init__ => k_is)
    (case k_BadLine___init__ => k_is)
    (case a_checked_lines => k_is)
    (case l_checked_lines => k_is)
    (case c_checked_lines => k_is)
    (case k_checked_lines => k_is)
    (case a_neighbour_rows => k_is)
    (case l_neighbour_rows => k_is)
    (case c_neighbour_rows => k_is)
    (case k_neighbour_rows => k_is)
    (case a_Web___init__ => k_is)
    (case i_Web___init__ => k_is)
    (case l_Web___init__ => k_is)
    (case c_Web___init__ => k_is)
    (case k_Web___init__ => k_is)
    (case lT_Web___init__ => k_is)
    (case e0_Web___init__ => k_is)
    (case a__law_pieces => k_is)
    (case l__law_pieces => k_is)
    (case c__law_pieces => k_is)
    (case k__law_pieces => k_is)
    (case a__law_step => k_is)
    (case l__law_step => k_is)
    (case c__law_step => k_is)
    (case k__law_step => k_is)
    (case a__law_round => k_is)
    (case l__law_round => k_is)
    (case c__law_round => k_is)
    (case k__law_round => k_is)
    (case a__law_lowest => k_is)
    (case l__law_lowest => k_is)
    (case c__law_lowest => k_is)
    (case k__law_lowest => k_is)
    (case a__law_counts => k_is)
    (case l__law_counts => k_is)
    (case c__law_counts => k_is)
    (case k__law_counts => k_is)
    (case a__law_gains => k_is)
    (case l__law_gains => k_is)
    (case c__law_gains => k_is)
    (case k__law_gains => k_is)
    (case a__law_share => k_is)
    (case l__law_share => k_is)
    (case c__law_share => k_is)
    (case k__law_share => k_is)
    (case a__law_rings => k_is)
    (case l__law_rings => k_is)
    (case c__law_rings => k_is)
    (case k__law_rings => k_is)
    (case a__law_whole => k_is)
    (case l__law_whole => k_is)
    (case c__law_whole => k_is)
    (case k__law_whole => k_is)
    (case a__law_is_walk => k_is)
    (case l__law_is_walk => k_is)
    (case c__law_is_walk => k_is)
    (case k__law_is_walk => k_is)
    (case a__law_sum => k_is)
    (case l__law_sum => k_is)
    (case c__law_sum => k_is)
    (case k__law_sum => k_is)
    (case a__law_lead => k_is)
    (case l__law_lead => k_is)
    (case c__law_lead => k_is)
    (case k__law_lead => k_is)
    (case a__law_lead_rows => k_is)
    (case l__law_lead_rows => k_is)
    (case c__law_lead_rows => k_is)
    (case k__law_lead_rows => k_is)
    (case a__law_own_pairs => k_is)
    (case l__law_own_pairs => k_is)
    (case c__law_own_pairs => k_is)
    (case k__law_own_pairs => k_is)
    (case a__law_has_share => k_is)
    (case l__law_has_share => k_is)
    (case c__law_has_share => k_is)
    (case k__law_has_share => k_is)
    (case a__law_agree => k_is)
    (case l__law_agree => k_is)
    (case c__law_agree => k_is)
    (case k__law_agree => k_is)
    (case a_is_walk => k_is)
    (case l_is_walk => k_is)
    (case c_is_walk => k_is)
    (case k_is_walk => k_is)
    (case a_is_ring => k_is)
    (case l_is_ring => k_is)
    (case c_is_ring => k_is)
    (case k_is_ring => k_is)
    (case a_NotAWalk___init__ => k_is)
    (case i_NotAWalk___init__ => k_is)
    (case xt_NotAWalk___init__ => k_is)
    (case l_NotAWalk___init__ => k_is)
    (case c_NotAWalk___init__ => k_is)
    (case k_NotAWalk___init__ => k_is)
    (case a_check_walk => k_is)
    (case l_check_walk => k_is)
    (case c_check_walk => k_is)
    (case k_check_walk => k_is)
    (case a_state_lead => k_is)
    (case l_state_lead => k_is)
    (case c_state_lead => k_is)
    (case k_state_lead => k_is)
    (case a_lead_sum => k_is)
    (case l_lead_sum => k_is)
    (case c_lead_sum => k_is)
    (case k_lead_sum => k_is)
    (case a_is_share_ring => k_is)
    (case l_is_share_ring => k_is)
    (case c_is_share_ring => k_is)
    (case k_is_share_ring => k_is)
    (case a__law_rings_asked => k_is)
    (case l__law_rings_asked => k_is)
    (case c__law_rings_asked => k_is)
    (case k__law_rings_asked => k_is)
    (case a__law_grown => k_is)
    (case l__law_grown => k_is)
    (case c__law_grown => k_is)
    (case k__law_grown => k_is)
    (case a__law_slope => k_is)
    (case l__law_slope => k_is)
    (case c__law_slope => k_is)
    (case k__law_slope => k_is)
    (case a_NoPlace___init__ => k_is)
    (case i_NoPlace___init__ => k_is)
    (case xt_NoPlace___init__ => k_is)
    (case l_NoPlace___init__ => k_is)
    (case c_NoPlace___init__ => k_is)
    (case k_NoPlace___init__ => k_is)
    (case a_check_place => k_is)
    (case l_check_place => k_is)
    (case c_check_place => k_is)
    (case k_check_place => k_is)
    (case a_piece_of => k_is)
    (case l_piece_of => k_is)
    (case c_piece_of => k_is)
    (case k_piece_of => k_is)
    (case a_step_lead => k_is)
    (case l_step_lead => k_is)
    (case c_step_lead => k_is)
    (case k_step_lead => k_is)
    (case a_are_slopes => k_is)
    (case l_are_slopes => k_is)
    (case c_are_slopes => k_is)
    (case k_are_slopes => k_is)
    (case a__law_refused => k_is)
    (case l__law_refused => k_is)
    (case c__law_refused => k_is)
    (case k__law_refused => k_is)
    (case a_law => k_is)
    (case l_law => k_is)
    (case c_law => k_is)
    (case k_law => k_is)
    (case pg_Scene => k_is)
    (case hd_Scene => k_is)
    (case po_Scene => k_is)
    (case sa_Scene => k_is)
    (case ca_Scene => k_is)
    (case cm_Scene => k_is)
    (case mk_Scene => k_is)
    (case kc_Scene => k_is)
    (case na_Scene_picture => k_is)
    (case na_Scene_web => k_is)
    (case kb_Scene_bool => kit_is)
    (case kb_Scene_int => kit_is)
    (case kb_Scene_list => kit_is)
    (case kb_Scene_tuple => kit_is)
    (case pg_Web => k_is)
    (case hd_Web => k_is)
    (case po_Web => k_is)
    (case sa_Web => k_is)
    (case ca_Web => k_is)
    (case cm_Web => k_is)
    (case mk_Web => k_is)
    (case kc_Web => k_is)
    (case na_Web_around => k_is)
    (case na_Web_lines => k_is)
    (case na_Web_size => k_is)
    (case kb_Web_bool => kit_is)
    (case kb_Web_int => kit_is)
    (case kb_Web_list => kit_is)
    (case kb_Web_tuple => kit_is)
    (case xex_FirerestError => k_is)
    (case xty_FirerestError => k_is)
    (case xhd_FirerestError => k_is)
    (case xex_NoPlace => k_is)
    (case xty_NoPlace => k_is)
    (case xhd_NoPlace => k_is)
    (case xex_BadLine => k_is)
    (case xty_BadLine => k_is)
    (case xhd_BadLine => k_is)
    (case xex_NoLine => k_is)
    (case xty_NoLine => k_is)
    (case xhd_NoLine => k_is)
    (case xex_BadPicture => k_is)
    (case xty_BadPicture => k_is)
    (case xhd_BadPicture => k_is)
    (case xex_NotAWalk => k_is)
    (case xty_NotAWalk => k_is)
    (case xhd_NotAWalk => k_is)
    (case xlk_BadPicture => k_is)
    (case ox_BadPicture => decide +kernel)
    (case xsa_BadPicture => k_is)
    (case xkp_BadPicture => k_is)
    (case xga_BadPicture => k_is)
    (case xgg_BadPicture => k_is)
    (case xca_BadPicture => k_is)
    (case xmo_BadPicture => k_is)
    (case xna_BadPicture_index => k_is)
    (case xs_BadPicture_NoPlace => k_is)
    (case ki_BadPicture_FirerestError => kit_is)
    (case ki_BadPicture_NoLine => kit_is)
    (case kb_BadPicture_ValueError => kit_is)
    (case xlk_BadLine => k_is)
    (case ox_BadLine => decide +kernel)
    (case xsa_BadLine => k_is)
    (case xkp_BadLine => k_is)
    (case xga_BadLine => k_is)
    (case xgg_BadLine => k_is)
    (case xca_BadLine => k_is)
    (case xmo_BadLine => k_is)
    (case xna_BadLine_index => k_is)
    (case xs_BadLine_NoPlace => k_is)
    (case ki_BadLine_FirerestError => kit_is)
    (case ki_BadLine_NoLine => kit_is)
    (case kb_BadLine_ValueError => kit_is)
    (case xlk_NotAWalk => k_is)
    (case ox_NotAWalk => decide +kernel)
    (case xsa_NotAWalk => k_is)
    (case xkp_NotAWalk => k_is)
    (case xga_NotAWalk => k_is)
    (case xgg_NotAWalk => k_is)
    (case xca_NotAWalk => k_is)
    (case xmo_NotAWalk => k_is)
    (case xna_NotAWalk_index => k_is)
    (case xs_NotAWalk_NoPlace => k_is)
    (case ki_NotAWalk_FirerestError => kit_is)
    (case ki_NotAWalk_NoLine => kit_is)
    (case kb_NotAWalk_ValueError => kit_is)
    (case xlk_NoPlace => k_is)
    (case ox_NoPlace => decide +kernel)
    (case xsa_NoPlace => k_is)
    (case xkp_NoPlace => k_is)
    (case xga_NoPlace => k_is)
    (case xgg_NoPlace => k_is)
    (case xca_NoPlace => k_is)
    (case xmo_NoPlace => k_is)
    (case xna_NoPlace_place => k_is)
    (case xs_NoPlace_NoPlace => k_is)
    (case ki_NoPlace_FirerestError => kit_is)
    (case ki_NoPlace_NoLine => kit_is)
    (case kb_NoPlace_ValueError => kit_is)
    (case cn => k_is)
    (case ctk => k_is)
    (case z_ValueError => k_is)
    (case z_bool => k_is)
    (case z_enumerate => k_is)
    (case z_int => k_is)
    (case z_isinstance => k_is)
    (case z_len => k_is)
    (case z_list => k_is)
    (case z_max => k_is)
    (case z_min => k_is)
    (case z_range => k_is)
    (case z_sorted => k_is)
    (case z_sum => k_is)
    (case z_tuple => k_is)
    (case z_zip => k_is)
end
