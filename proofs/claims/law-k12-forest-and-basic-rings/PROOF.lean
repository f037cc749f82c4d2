import PyProof.Rows.All
import HandS.ForMost
import HandS.Exc
import HandS.ExcOwn
import HandS.TryOnly
import HandS.CallSlots
import HandS.IsInst
import HandS.SortInts
import HandS.WordsExc
import KE.KDictKeyed
import KE.KeyNested
import HandS.Wide
import HandS.TupAny
import HandS.Deep
import HandS.Defaults
import HandS.SetBool
import HandS.TupSets
import HandS.SlotsOwn
import HandS.Iter
import KE.GoesEnum
import HandS.EndBits
import HandS.ExcInit
import HandS.ExcField
import HandS.ExcIs
import KE.KExcIs
import HandS.HotCalls
import PyProof.WalkInts
import HandS.Style
import HandS.SetKeys
import HandS.DictComp
import KE.KDictDisplayH
import KE.GoesMore
import HandS.Gcd
import HandS.WideBits
import HandS.IterVal
import HandS.SetFor
import HandS.Strs
import HandS.Text
import PySem.Challenge.RW_firerest_k12_forest_and_basic_rings
section
set_option Elab.async false
set_option linter.all false
set_option maxRecDepth 100000
set_option maxHeartbeats 2000000
/-! DI: data, and what represents them. -/
namespace DI
open PySem PySem.Spec PyProof.Rows L2
/-- the slots of a frame -/
abbrev Sg := L2.St
/-- data: what a Python value is worth, without addresses -/
inductive D where
  | non
  | bl (b : Bool)
  | int (i : Int)
  | str (x : Str)
  | tup (xs : List D)
  | lst (xs : List D)
  | ins (c : Nat) (ds : List D)
  /-- a list that nobody may change: the script -/
  | scr (xs : List D)
  /-- a set of tuples of numbers, in the order in which they came -/
  | tset (xs : List (List Int))
  /-- a dict with keys that are numbers and texts; l: it is locked -/
  | dct (l : Bool) (ks : List Key) (ds : List D)
  /-- a range object -/
  | rng (lo hi : Int)
  /-- a dict whose keys are nested tuples -/
  | nd (ks : List NestedKey) (ds : List D)
/-- a value under construction: nodes that one slot alone holds, over data -/
inductive T where
  | im (d : D)
  | lst (ts : List T)
  | ins (c : Nat) (ds : List D)
  | dct (ks : List Key) (ts : List T)
  | nd (ks : List NestedKey) (ds : List D)
/-! what a datum is as a key -/
mutual
def kN0 : D → Option NestedKey
  | .non => some .none
  | .bl b => some (.num (if b = true then 1 else 0))
  | .int i => some (.num i)
  | .str x => some (.text x)
  | .tup ds => (kNs ds).map .tup
  | .lst _ => none
  | .ins _ _ => none
  | .scr _ => none
  | .tset _ => none
  | .dct _ _ _ => none
  | .rng _ _ => none
  | .nd _ _ => none
def kNs : List D → Option (List NestedKey)
  | [] => some []
  | d :: ds => match kN0 d, kNs ds with
    | some k, some ks => some (k :: ks)
    | _, _ => none
end
def kN (d : D) : Option NestedKey := match d with
  | .tup ds => (kN0 (.tup ds)).bind fun k => if k.depth ≤ 8 then some k else none
  | _ => none
/-- an error: the class's tag, its fields -/
abbrev Ex := Nat × List D
/-- the classes by their tags: where they stand, what their fields are called, in the order in which __init__ sets them -/
structure CM where
  addr : Nat → Addr
  names : Nat → List Str
  setO : Addr → List (Addr × List Int) → HO
  nd : Addr → List (NestedKey × Addr × V) → HO
  /-- the classes that may stand in data -/
  cls : List Nat
/-- a computation's end: nothing is promised, a value, an error -/
inductive R (α : Type) where
  | bad
  | ok (a : α)
  | ex (e : Ex)
def R.bind {α β : Type} (r : R α) (f : α → R β) : R β := match r with
  | .bad => .bad
  | .ok a => f a
  | .ex e => .ex e
instance : Monad R where
  pure := R.ok
  bind := R.bind
def R.of {α : Type} : Option α → R α
  | none => .bad
  | some a => .ok a
def R.Res {α : Type} (r : R α) (P : α → Prop) (E : Ex → Prop) : Prop := match r with
  | .bad => False
  | .ok a => P a
  | .ex e => E e
theorem R.Res.mono {α : Type} {r : R α} {P P' : α → Prop} {E E' : Ex → Prop} (h : r.Res P E) (hp : ∀ a, P a → P' a) (he : ∀ e, E e → E' e) : r.Res P' E' := by
  cases r with
  | bad => exact h
  | ok a => exact hp a h
  | ex e => exact he e h
theorem R.Res.bind {α β : Type} {r : R α} {f : α → R β} {P : β → Prop} {E : Ex → Prop} : (r.bind f).Res P E ↔ r.Res (fun a => (f a).Res P E) E := by
  cases r <;> exact Iff.rfl
theorem R.Res.of {α : Type} {o : Option α} {P : α → Prop} {E : Ex → Prop} (h : (R.of o).Res P E) : ∃ a, o = some a ∧ P a := by
  cases o with
  | none => exact h.elim
  | some a => exact ⟨a, rfl, h⟩
/-! ### heaps -/
structure Xt (S S' H H' : Hp) : Prop where
  ss : Same S S'
  sh : Same S' H'
  hh : Same H H'
  fr : ∀ a o, S' a = some o → S a = none → H a = none
theorem Xt.refl {S H : Hp} (h : Same S H) : Xt S S H H := ⟨Same.refl S, h, Same.refl H, fun a o e n => by rw [n] at e; cases e⟩
theorem Xt.trans {S S1 S2 H H1 H2 : Hp} (a : Xt S S1 H H1) (b : Xt S1 S2 H1 H2) : Xt S S2 H H2 :=
  ⟨a.ss.trans b.ss, b.sh, a.hh.trans b.hh, fun c o e n => by
    cases q : S1 c with
    | none => exact a.hh.free (b.fr c o e q)
    | some u => exact a.fr c u q n⟩
theorem same_upd {H : Hp} {p : Addr} {o : HO} (h : H p = none) : Same H (upd H p o) := fun b u e => by
  rw [upd_ne (ne_of_none e h)]; exact e
theorem same_upd2 {S H : Hp} {p : Addr} {o : HO} (h : Same S H) (n : S p = none) : Same S (upd H p o) := fun b u e => by
  rw [upd_ne (ne_of_none e n)]; exact h b u e
theorem upd_mono {S H : Hp} {p : Addr} {o : HO} (h : Same S H) : Same (upd S p o) (upd H p o) := fun b u e => by
  by_cases q : b = p
  · subst q; rw [upd_same] at e ⊢; exact e
  · rw [upd_ne q] at e ⊢; exact h b u e
/-- a new object, frozen at once -/
theorem Xt.new {S H : Hp} {p : Addr} {o : HO} (h : Same S H) (n : H p = none) : Xt S (upd S p o) H (upd H p o) :=
  ⟨same_upd (h.free n), upd_mono h, same_upd n, fun a u e z => by
    by_cases q : a = p
    · subst q; exact n
    · rw [upd_ne q, z] at e; cases e⟩
/-- a new object, not frozen -/
theorem Xt.own {S H : Hp} {p : Addr} {o : HO} (h : Same S H) (n : H p = none) : Xt S S H (upd H p o) :=
  ⟨Same.refl S, same_upd2 h (h.free n), same_upd n, fun a u e z => by rw [z] at e; cases e⟩
theorem same_sqL {K : PySem.W.Frag} {H H' : Hp} {a : Addr} {xs : List V} (e : Same H H') (h : SqL K H a xs) : SqL K H' a xs := e.seq h
theorem same_sqT {K : PySem.W.Frag} {H H' : Hp} {a : Addr} {xs : List V} (e : Same H H') (h : SqT K H a xs) : SqT K H' a xs := by
  rcases h with (h | ⟨o, h⟩) | h
  · exact .inl (.inl (e _ _ h))
  · exact .inl (.inr ⟨o, e _ _ h⟩)
  · exact .inr h
/-- a dict stands at a -/
def DkAt (l : Bool) (H : Hp) (a : Addr) (kvs : List (Key × V)) : Prop := if l = true then ∃ o, H a = some (.frz o (.dK kvs)) else H a = some (.dK kvs)
theorem same_dk {l : Bool} {H H' : Hp} {a : Addr} {kvs : List (Key × V)} (e : Same H H') (h : DkAt l H a kvs) : DkAt l H' a kvs := by
  unfold DkAt at h ⊢
  split at h
  · rename_i q
    rw [if_pos q]
    obtain ⟨o, h⟩ := h
    exact ⟨o, e _ _ h⟩
  · rename_i q
    rw [if_neg q]
    exact e _ _ h
/-! ### what represents data -/
section
variable (K : PySem.W.Frag) (cm : CM)
mutual
inductive Rep (S : Hp) : V → D → Prop
  | non : Rep S .non .non
  | bl (b : Bool) : Rep S (.bl b) (.bl b)
  | int (i : Int) : Rep S (.int i) (.int i)
  | str (x : Str) : Rep S (.str x) (.str x)
  | tup {a : Addr} {xs : List V} {ds : List D} : SqT K S a xs → RepL S xs ds → Rep S (.ref a) (.tup ds)
  | lst {a : Addr} {xs : List V} {ds : List D} : S a = some (.lst xs) → RepL S xs ds → Rep S (.ref a) (.lst ds)
  | scr {a : Addr} {xs : List V} {ds : List D} : SqL K S a xs → RepL S xs ds → Rep S (.ref a) (.scr ds)
  | tset {a : Addr} {L : List (Addr × List Int)} {xs : List (List Int)} : S a = some (cm.setO a L) → (∀ p ∈ L, SqT K S p.1 (p.2.map V.int)) → (L.map (·.2)).Perm xs → Rep S (.ref a) (.tset xs)
  | ins {a dx : Addr} {c : Nat} {vs : List V} {ds : List D} : c ∈ cm.cls → S a = some (.ins (cm.addr c) dx ((cm.names c).zip vs)) → RepL S vs ds → Rep S (.ref a) (.ins c ds)
  | dct {a : Addr} {l : Bool} {ks : List Key} {vs : List V} {ds : List D} : DkAt l S a (ks.zip vs) → ks.length = vs.length → ks.Nodup → RepL S vs ds → Rep S (.ref a) (.dct l ks ds)
  | rng {a : Addr} {lo hi : Int} : S a = some (.rng lo hi) → Rep S (.ref a) (.rng lo hi)
  | nd {a : Addr} {bs : List Addr} {kds : List D} {ks : List NestedKey} {vs : List V} {ds : List D} : S a = some (cm.nd a (ks.zip (bs.zip vs))) → RepL S (bs.map V.ref) kds → kds.map kN = ks.map some → ks.length = vs.length → RepL S vs ds → Rep S (.ref a) (.nd ks ds)
inductive RepL (S : Hp) : List V → List D → Prop
  | nil : RepL S [] []
  | cons {v : V} {vs : List V} {d : D} {ds : List D} : Rep S v d → RepL S vs ds → RepL S (v :: vs) (d :: ds)
end
end
section
variable {K : PySem.W.Frag} {cm : CM} {S S' H H' : Hp}
mutual
theorem Rep.mono (e : Same S S') : ∀ {v : V} {d : D}, Rep K cm S v d → Rep K cm S' v d
  | _, _, .non => .non
  | _, _, .bl b => .bl b
  | _, _, .int i => .int i
  | _, _, .str x => .str x
  | _, _, .tup h hs => .tup (same_sqT e h) (RepL.mono e hs)
  | _, _, .lst h hs => .lst (e _ _ h) (RepL.mono e hs)
  | _, _, .scr h hs => .scr (same_sqL e h) (RepL.mono e hs)
  | _, _, .tset h hs pm => .tset (e _ _ h) (fun p m => same_sqT e (hs p m)) pm
  | _, _, .ins m h hs => .ins m (e _ _ h) (RepL.mono e hs)
  | _, _, .dct h hl hn hs => .dct (same_dk e h) hl hn (RepL.mono e hs)
  | _, _, .rng h => .rng (e _ _ h)
  | _, _, .nd h hk he hl hs => .nd (e _ _ h) (RepL.mono e hk) he hl (RepL.mono e hs)
theorem RepL.mono (e : Same S S') : ∀ {vs : List V} {ds : List D}, RepL K cm S vs ds → RepL K cm S' vs ds
  | _, _, .nil => .nil
  | _, _, .cons h hs => .cons (Rep.mono e h) (RepL.mono e hs)
end
theorem RepL.length : ∀ {vs : List V} {ds : List D}, RepL K cm S vs ds → vs.length = ds.length
  | _, _, .nil => rfl
  | _, _, .cons _ hs => by rw [List.length_cons, List.length_cons, RepL.length hs]
theorem RepL.get : ∀ {vs : List V} {ds : List D} {i : Nat} {d : D}, RepL K cm S vs ds → ds[i]? = some d → ∃ v, vs[i]? = some v ∧ Rep K cm S v d
  | _, _, _, _, .nil, e => by simp at e
  | _, _, 0, _, .cons h _, e => by simp at e; subst e; exact ⟨_, rfl, h⟩
  | _, _, i + 1, d, .cons _ hs, e => by
    obtain ⟨v, a, b⟩ := RepL.get (i := i) hs (by simpa using e)
    exact ⟨v, by simpa using a, b⟩
theorem RepL.append : ∀ {vs ws : List V} {ds es : List D}, RepL K cm S vs ds → RepL K cm S ws es → RepL K cm S (vs ++ ws) (ds ++ es)
  | _, _, _, _, .nil, h => h
  | _, _, _, _, .cons h hs, g => .cons h (RepL.append hs g)
theorem RepL.take : ∀ {vs : List V} {ds : List D} (n : Nat), RepL K cm S vs ds → RepL K cm S (vs.take n) (ds.take n)
  | _, _, 0, _ => by rw [List.take_zero, List.take_zero]; exact .nil
  | _, _, _ + 1, .nil => by rw [List.take_nil, List.take_nil]; exact .nil
  | _, _, n + 1, .cons h hs => by rw [List.take_succ_cons, List.take_succ_cons]; exact .cons h (RepL.take n hs)
theorem RepL.drop : ∀ {vs : List V} {ds : List D} (n : Nat), RepL K cm S vs ds → RepL K cm S (vs.drop n) (ds.drop n)
  | _, _, 0, h => h
  | _, _, _ + 1, .nil => by rw [List.drop_nil, List.drop_nil]; exact .nil
  | _, _, n + 1, .cons h hs => by rw [List.drop_succ_cons, List.drop_succ_cons]; exact RepL.drop n hs
theorem RepL.rev : ∀ {vs : List V} {ds : List D}, RepL K cm S vs ds → RepL K cm S vs.reverse ds.reverse
  | _, _, .nil => .nil
  | _, _, .cons h hs => by
    rw [List.reverse_cons, List.reverse_cons]
    exact (RepL.rev hs).append (.cons h .nil)
theorem RepL.ints : ∀ (ns : List Int), RepL K cm S (ns.map V.int) (ns.map D.int)
  | [] => .nil
  | n :: ns => .cons (.int n) (RepL.ints ns)
theorem RepL.rep {v : V} {d : D} (h : Rep K cm S v d) : ∀ n : Nat, RepL K cm S (List.replicate n v) (List.replicate n d)
  | 0 => .nil
  | n + 1 => by rw [List.replicate_succ, List.replicate_succ]; exact .cons h (RepL.rep h n)
theorem zip_lookup : ∀ {ns : List Str} {vs : List V} {i : Nat} {f : Str}, ns.Nodup → ns[i]? = some f → (ns.zip vs).lookup f = vs[i]?
  | [], _, _, _, _, e => by simp at e
  | _ :: _, [], _, _, _, _ => by simp
  | n :: ns, v :: vs, 0, f, _, e => by
    have e : n = f := by simpa using e
    subst e
    simp [List.lookup]
  | n :: ns, v :: vs, i + 1, f, h, e => by
    have e : ns[i]? = some f := by simpa using e
    obtain ⟨h1, h2⟩ := List.nodup_cons.mp h
    have ne : (f == n) = false := by
      cases q : f == n with
      | false => rfl
      | true =>
        have z : f = n := by simpa using q
        exact absurd (z ▸ List.mem_of_getElem? e) h1
    have := zip_lookup (vs := vs) h2 e
    simp only [List.zip_cons_cons, List.lookup, ne]
    rw [this]
    simp
end
/-! ### nodes under construction -/
section
variable (K : PySem.W.Frag) (cm : CM) (S H : Hp)
mutual
inductive Own : T → V → List Addr → Prop
  | im {d : D} {v : V} : Rep K cm S v d → Own (.im d) v []
  | lst {a : Addr} {vs : List V} {ts : List T} {fp : List Addr} : H a = some (.lst vs) → OwnL ts vs fp → Own (.lst ts) (.ref a) (a :: fp)
  | ins {a dx : Addr} {c : Nat} {vs : List V} {ds : List D} : c ∈ cm.cls → H a = some (.ins (cm.addr c) dx ((cm.names c).zip vs)) → RepL K cm S vs ds → Own (.ins c ds) (.ref a) [a]
  | dct {a : Addr} {ks : List Key} {vs : List V} {ts : List T} {fp : List Addr} : H a = some (.dK (ks.zip vs)) → ks.length = vs.length → ks.Nodup → OwnL ts vs fp → Own (.dct ks ts) (.ref a) (a :: fp)
  | nd {a : Addr} {bs : List Addr} {kds : List D} {ks : List NestedKey} {vs : List V} {ds : List D} : H a = some (cm.nd a (ks.zip (bs.zip vs))) → RepL K cm S (bs.map V.ref) kds → kds.map kN = ks.map some → ks.length = vs.length → RepL K cm S vs ds → Own (.nd ks ds) (.ref a) [a]
inductive OwnL : List T → List V → List Addr → Prop
  | nil : OwnL [] [] []
  | cons {t : T} {v : V} {f1 : List Addr} {ts : List T} {vs : List V} {f2 : List Addr} : Own t v f1 → OwnL ts vs f2 → OwnL (t :: ts) (v :: vs) (f1 ++ f2)
end
inductive Sls : Sg → List (Option T) → List Addr → Prop
  | nil : Sls [] [] []
  | no {o : Option V} {σ : Sg} {st : List (Option T)} {fp : List Addr} : Sls σ st fp → Sls (o :: σ) (none :: st) fp
  | yes {v : V} {t : T} {f1 : List Addr} {σ : Sg} {st : List (Option T)} {fp : List Addr} : Own K cm S H t v f1 → Sls σ st fp → Sls (some v :: σ) (some t :: st) (f1 ++ fp)
end
section
variable {K : PySem.W.Frag} {cm : CM} {S S' H H' : Hp}
mutual
theorem Own.mono (e : Same S S') : ∀ {t : T} {v : V} {fp : List Addr}, (∀ a ∈ fp, H' a = H a) → Own K cm S H t v fp → Own K cm S' H' t v fp
  | _, _, _, k, .im h => .im (h.mono e)
  | _, _, _, k, .lst h hs => .lst ((k _ List.mem_cons_self).trans h) (OwnL.mono e (fun a m => k a (List.mem_cons_of_mem _ m)) hs)
  | _, _, _, k, .ins m h hs => .ins m ((k _ List.mem_cons_self).trans h) (hs.mono e)
  | _, _, _, k, .dct h hl hn hs => .dct ((k _ List.mem_cons_self).trans h) hl hn (OwnL.mono e (fun a m => k a (List.mem_cons_of_mem _ m)) hs)
  | _, _, _, k, .nd h hk he hl hs => .nd ((k _ List.mem_cons_self).trans h) (hk.mono e) he hl (hs.mono e)
theorem OwnL.mono (e : Same S S') : ∀ {ts : List T} {vs : List V} {fp : List Addr}, (∀ a ∈ fp, H' a = H a) → OwnL K cm S H ts vs fp → OwnL K cm S' H' ts vs fp
  | _, _, _, k, .nil => .nil
  | _, _, _, k, .cons h hs => .cons (Own.mono e (fun a m => k a (List.mem_append_left _ m)) h) (OwnL.mono e (fun a m => k a (List.mem_append_right _ m)) hs)
end
theorem Sls.mono (e : Same S S') : ∀ {σ : Sg} {st : List (Option T)} {fp : List Addr}, (∀ a ∈ fp, H' a = H a) → Sls K cm S H σ st fp → Sls K cm S' H' σ st fp
  | _, _, _, k, .nil => .nil
  | _, _, _, k, .no h => .no (Sls.mono e k h)
  | _, _, _, k, .yes h hs => .yes (h.mono e fun a m => k a (List.mem_append_left _ m)) (Sls.mono e (fun a m => k a (List.mem_append_right _ m)) hs)
mutual
theorem Own.there : ∀ {t : T} {v : V} {fp : List Addr}, Own K cm S H t v fp → ∀ a ∈ fp, H a ≠ none
  | _, _, _, .im h, a, m => by cases m
  | _, _, _, .lst h hs, a, m => by
    rcases List.mem_cons.mp m with e | m
    · subst e; rw [h]; intro z; cases z
    · exact OwnL.there hs a m
  | _, _, _, .ins _ h hs, a, m => by
    rcases List.mem_cons.mp m with e | m
    · subst e; rw [h]; intro z; cases z
    · cases m
  | _, _, _, .dct h _ _ hs, a, m => by
    rcases List.mem_cons.mp m with e | m
    · subst e; rw [h]; intro z; cases z
    · exact OwnL.there hs a m
  | _, _, _, .nd h _ _ _ _, a, m => by
    rcases List.mem_cons.mp m with e | m
    · subst e; rw [h]; intro z; cases z
    · cases m
theorem OwnL.there : ∀ {ts : List T} {vs : List V} {fp : List Addr}, OwnL K cm S H ts vs fp → ∀ a ∈ fp, H a ≠ none
  | _, _, _, .nil, a, m => by cases m
  | _, _, _, .cons h hs, a, m => by
    rcases List.mem_append.mp m with m | m
    · exact Own.there h a m
    · exact OwnL.there hs a m
end
theorem Sls.there : ∀ {σ : Sg} {st : List (Option T)} {fp : List Addr}, Sls K cm S H σ st fp → ∀ a ∈ fp, H a ≠ none
  | _, _, _, .nil, a, m => by cases m
  | _, _, _, .no h, a, m => Sls.there h a m
  | _, _, _, .yes h hs, a, m => by
    rcases List.mem_append.mp m with m | m
    · exact h.there a m
    · exact Sls.there hs a m
theorem Sls.length : ∀ {σ : Sg} {st : List (Option T)} {fp : List Addr}, Sls K cm S H σ st fp → σ.length = st.length
  | _, _, _, .nil => rfl
  | _, _, _, .no h => by rw [List.length_cons, List.length_cons, Sls.length h]
  | _, _, _, .yes _ hs => by rw [List.length_cons, List.length_cons, Sls.length hs]
theorem Sls.get : ∀ {σ : Sg} {st : List (Option T)} {fp : List Addr} {i : Nat} {t : T}, Sls K cm S H σ st fp → st[i]? = some (some t) → ∃ v f, σ[i]? = some (some v) ∧ Own K cm S H t v f ∧ ∀ a ∈ f, a ∈ fp
  | _, _, _, i, t, .nil, e => by simp at e
  | _, _, _, 0, t, .no h, e => by simp at e
  | _, _, _, i + 1, t, .no h, e => by
    obtain ⟨v, f, a, b, c⟩ := Sls.get (i := i) h (by simpa using e)
    exact ⟨v, f, by simpa using a, b, c⟩
  | _, _, _, 0, t, .yes h hs, e => by
    simp at e; subst e
    exact ⟨_, _, rfl, h, fun a m => List.mem_append_left _ m⟩
  | _, _, _, i + 1, t, .yes h hs, e => by
    obtain ⟨v, f, a, b, c⟩ := Sls.get (i := i) hs (by simpa using e)
    exact ⟨v, f, by simpa using a, b, fun a m => List.mem_append_right _ (c a m)⟩
/-- a slot is set: its old footprint goes, its new one comes -/
theorem Sls.set {t : T} {v : V} {f : List Addr} (o : Own K cm S H t v f) : ∀ {σ : Sg} {st : List (Option T)} {fp : List Addr} (i : Nat), Sls K cm S H σ st fp →
    ∃ fp', Sls K cm S H (σ.set i (some v)) (st.set i (some t)) fp' ∧ (fp.Nodup → f.Nodup → (∀ a ∈ f, a ∉ fp) → fp'.Nodup) ∧ ∀ a ∈ fp', a ∈ fp ∨ a ∈ f
  | _, _, _, i, .nil => ⟨[], .nil, fun h _ _ => h, fun a m => .inl m⟩
  | _, _, _, 0, .no h => ⟨_, .yes o h, fun n1 n2 d => List.nodup_append.mpr ⟨n2, n1, fun a ha b hb e => d a ha (e ▸ hb)⟩, fun a m => (List.mem_append.mp m).elim .inr .inl⟩
  | _, _, _, i + 1, .no h => by
    obtain ⟨fp', a, b, c⟩ := Sls.set o i h
    exact ⟨fp', .no a, b, c⟩
  | _, _, _, 0, .yes (f1 := f1) h hs => ⟨_, .yes o hs, fun n1 n2 d => List.nodup_append.mpr ⟨n2, (List.nodup_append.mp n1).2.1, fun a ha b hb e => d a ha (e ▸ List.mem_append_right _ hb)⟩,
      fun a m => (List.mem_append.mp m).elim .inr fun m => .inl (List.mem_append_right _ m)⟩
  | _, _, _, i + 1, .yes (f1 := f1) h hs => by
    obtain ⟨fp', a, b, c⟩ := Sls.set o i hs
    refine ⟨f1 ++ fp', .yes h a, fun n1 n2 d => ?_, fun a m => ?_⟩
    · obtain ⟨m1, m2, m3⟩ := List.nodup_append.mp n1
      refine List.nodup_append.mpr ⟨m1, b m2 n2 fun a ha hb => d a ha (List.mem_append_right _ hb), fun a ha b hb e => ?_⟩
      rcases c b hb with z | z
      · exact m3 a ha b z e
      · exact d b z (List.mem_append_left _ (e ▸ ha))
    · rcases List.mem_append.mp m with m | m
      · exact .inl (List.mem_append_left _ m)
      · exact (c a m).elim (fun z => .inl (List.mem_append_right _ z)) .inr
/-- a slot is forgotten -/
theorem Sls.forget {o : Option V} : ∀ {σ : Sg} {st : List (Option T)} {fp : List Addr} (i : Nat), Sls K cm S H σ st fp →
    ∃ fp', Sls K cm S H (σ.set i o) (st.set i none) fp' ∧ (fp.Nodup → fp'.Nodup) ∧ ∀ a ∈ fp', a ∈ fp
  | _, _, _, i, .nil => ⟨[], .nil, fun h => h, fun a m => m⟩
  | _, _, _, 0, .no h => ⟨_, .no h, fun n => n, fun a m => m⟩
  | _, _, _, i + 1, .no h => by
    obtain ⟨fp', a, b, c⟩ := Sls.forget i h
    exact ⟨fp', .no a, b, c⟩
  | _, _, _, 0, .yes h hs => ⟨_, .no hs, fun n => (List.nodup_append.mp n).2.1, fun a m => List.mem_append_right _ m⟩
  | _, _, _, i + 1, .yes (f1 := f1) h hs => by
    obtain ⟨fp', a, b, c⟩ := Sls.forget i hs
    refine ⟨f1 ++ fp', .yes h a, fun n1 => ?_, fun a m => ?_⟩
    · obtain ⟨m1, m2, m3⟩ := List.nodup_append.mp n1
      exact List.nodup_append.mpr ⟨m1, b m2, fun a ha b hb e => m3 a ha b (c b hb) e⟩
    · rcases List.mem_append.mp m with m | m
      · exact List.mem_append_left _ m
      · exact List.mem_append_right _ (c a m)
end
/-- what a computation may raise, and what its slots are known to hold -/
structure WH where
  w : WX
  held : Sg → Hp → Prop
  mono : ∀ {σ : Sg} {S S' : Hp}, Same S S' → held σ S → held σ S'
/-- nothing is known of the slots -/
abbrev wt (w : WX) : WH := ⟨w, fun _ _ => True, fun _ h => h⟩
class Free (W : WH) : Prop where
  any : ∀ σ S, W.held σ S
instance {w : WX} : Free (wt w) := ⟨fun _ _ => trivial⟩
abbrev WF : WH := wt fun _ _ _ _ => False
/-- the slots hold these data: S is what stands for good, fp the nodes under construction -/
structure Rx (K : PySem.W.Frag) (cm : CM) (W : WH) (st : List (Option T)) (S : Hp) (fp : List Addr) (σ : Sg) (H : Hp) : Prop where
  sh : Same S H
  sls : Sls K cm S H σ st fp
  nd : fp.Nodup
  out : ∀ a ∈ fp, S a = none
  hd : W.held σ S
section
variable {K : PySem.W.Frag} {cm : CM} {W W' : WH} {S S' H H' : Hp} {st : List (Option T)} {fp : List Addr} {σ : Sg}
theorem Rx.ext (r : Rx K cm W st S fp σ H) (x : Xt S S' H H') : Rx K cm W st S' fp σ H' := by
  have th := r.sls.there
  refine ⟨x.sh, r.sls.mono x.ss fun a m => ?_, r.nd, fun a m => ?_, W.mono x.ss r.hd⟩
  · cases e : H a with
    | none => exact absurd e (th a m)
    | some o => exact x.hh a o e
  · cases e : S' a with
    | none => rfl
    | some o => exact absurd (x.fr a o e (r.out a m)) (th a m)
/-- from one way of ending to another one -/
theorem Rx.to [Free W'] (r : Rx K cm W st S fp σ H) : Rx K cm W' st S fp σ H := ⟨r.sh, r.sls, r.nd, r.out, Free.any σ S⟩
theorem Rx.imm {d : D} {i : Nat} (r : Rx K cm W st S fp σ H) (h : st[i]? = some (some (.im d))) : ∃ v, σ[i]? = some (some v) ∧ Rep K cm S v d := by
  obtain ⟨v, f, a, b, _⟩ := r.sls.get h
  cases b with
  | im q => exact ⟨v, a, q⟩
theorem Rx.set_im [Free W] {v : V} {d : D} (r : Rx K cm W st S fp σ H) (h : Rep K cm S v d) (i : Nat) : ∃ fp', Rx K cm W (st.set i (some (.im d))) S fp' (σ.set i (some v)) H ∧ ∀ a ∈ fp', a ∈ fp := by
  obtain ⟨fp', a, b, c⟩ := r.sls.set (.im h) i
  refine ⟨fp', ⟨r.sh, a, b r.nd List.nodup_nil (fun _ m => nomatch m), fun x m => ?_, Free.any _ _⟩, fun x m => ?_⟩
  · exact (c x m).elim (r.out x) fun z => nomatch z
  · exact (c x m).elim id fun z => nomatch z
theorem Rx.set_ow [Free W] {v : V} {t : T} {f : List Addr} (r : Rx K cm W st S fp σ H) (h : Own K cm S H t v f) (n : f.Nodup) (dj : ∀ a ∈ f, a ∉ fp) (so : ∀ a ∈ f, S a = none) (i : Nat) :
    ∃ fp', Rx K cm W (st.set i (some t)) S fp' (σ.set i (some v)) H ∧ ∀ a ∈ fp', a ∈ fp ∨ a ∈ f := by
  obtain ⟨fp', a, b, c⟩ := r.sls.set h i
  exact ⟨fp', ⟨r.sh, a, b r.nd n dj, fun x m => (c x m).elim (r.out x) (so x), Free.any _ _⟩, c⟩
theorem Rx.forget [Free W'] {o : Option V} (r : Rx K cm W st S fp σ H) (i : Nat) : ∃ fp', Rx K cm W' (st.set i none) S fp' (σ.set i o) H ∧ ∀ a ∈ fp', a ∈ fp := by
  obtain ⟨fp', a, b, c⟩ := r.sls.forget (o := o) i
  exact ⟨fp', ⟨r.sh, a, b r.nd, fun x m => r.out x (c x m), Free.any _ _⟩, c⟩
end
/-- what can be read just now: data, or a node under construction over data -/
def View (K : PySem.W.Frag) (cm : CM) (S H : Hp) (v : V) (d : D) : Prop :=
  Rep K cm S v d ∨ ∃ a vs ds, v = .ref a ∧ d = .lst ds ∧ H a = some (.lst vs) ∧ RepL K cm S vs ds
theorem View.ext {K : PySem.W.Frag} {cm : CM} {S S' H H' : Hp} {v : V} {d : D} (x : Xt S S' H H') (h : View K cm S H v d) : View K cm S' H' v d := by
  rcases h with h | ⟨a, vs, ds, e1, e2, e3, h⟩
  · exact .inl (h.mono x.ss)
  · exact .inr ⟨a, vs, ds, e1, e2, x.hh _ _ e3, h.mono x.ss⟩
/-! ### errors -/
def RepX (K : PySem.W.Frag) (cm : CM) (S : Hp) (cls : Value) (od : Option Addr) (e : Ex) : Prop :=
  cls = .ref (cm.addr e.1) ∧ ((e.2 = [] ∧ od = none) ∨ ∃ dx vs, od = some dx ∧ S dx = some (.xd ((cm.names e.1).zip vs)) ∧ RepL K cm S vs e.2)
/-! ### expressions -/
section
variable (K : PySem.W.Frag) (cm : CM) (W : WH)
/-- how a computation goes on from a state -/
def Go {α : Type} (P : α → Hp → Hp → Prop) (r : R α) (S H : Hp) (σ : Sg) : Prop :=
  r.Res (fun d => ∀ H' S', Xt S S' H H' → P d S' H') fun e => ∀ cls od H' S', Xt S S' H H' → RepX K cm S' cls od e → W.w cls od σ H'
def E (f : List (Option T) → R D) : TE := fun σ H Q => ∃ st S fp, Rx K cm W st S fp σ H ∧ Go K cm W (fun d S' H' => ∀ v, Rep K cm S' v d → Q v H') (f st) S H σ
def VE (f : List (Option T) → R D) : TE := fun σ H Q => ∃ st S fp, Rx K cm W st S fp σ H ∧ Go K cm W (fun d S' H' => ∀ v, View K cm S' H' v d → Q v H') (f st) S H σ
/-- a fresh object -/
def EF (f : List (Option T) → R T) : TE := fun σ H Q => ∃ st S fp, Rx K cm W st S fp σ H ∧
  Go K cm W (fun t S' H' => ∀ v fn, Own K cm S' H' t v fn → fn.Nodup → (∀ a ∈ fn, H a = none ∧ S' a = none) → Q v H') (f st) S H σ
def TB (f : List (Option T) → R Bool) : TT := fun σ H Q => ∃ st S fp, Rx K cm W st S fp σ H ∧ Go K cm W (fun b S' H' => Q b H') (f st) S H σ
def EA (f : List (Option T) → R (List D)) : TA := fun σ H Q => ∃ st S fp, Rx K cm W st S fp σ H ∧ Go K cm W (fun ds S' H' => ∀ vs, RepL K cm S' vs ds → Q vs H') (f st) S H σ
def VA (f : List (Option T) → R (List D)) : TA := fun σ H Q => ∃ st S fp, Rx K cm W st S fp σ H ∧ Go K cm W (fun ds S' H' => ∀ vs, Paired (View K cm S' H') vs ds → Q vs H') (f st) S H σ
end
section
variable {K : PySem.W.Frag} {cm : CM} {W : WH} {S S' H H' : Hp} {σ : Sg}
theorem Go.mono {α : Type} {P P' : α → Hp → Hp → Prop} {r : R α} (g : Go K cm W P r S H σ) (h : ∀ a S' H', Xt S S' H H' → P a S' H' → P' a S' H') : Go K cm W P' r S H σ :=
  R.Res.mono g (fun a q H' S' x => h a S' H' x (q H' S' x)) fun _ q => q
theorem Go.ext {α : Type} {P : α → Hp → Hp → Prop} {r : R α} (x : Xt S S' H H') (g : Go K cm W P r S H σ) : Go K cm W P r S' H' σ :=
  R.Res.mono g (fun a q H2 S2 y => q H2 S2 (x.trans y)) fun e q cls od H2 S2 y => q cls od H2 S2 (x.trans y)
theorem Go.bind {α β : Type} {P : β → Hp → Hp → Prop} {r : R α} {f : α → R β} (g : Go K cm W P (r.bind f) S H σ) : Go K cm W (fun a S' H' => Go K cm W P (f a) S' H' σ) r S H σ := by
  unfold Go at g
  rw [R.Res.bind] at g
  exact R.Res.mono g (fun a q H' S' x => Go.ext x q) fun _ q => q
theorem Go.of {α : Type} {P : α → Hp → Hp → Prop} {o : Option α} (g : Go K cm W P (R.of o) S H σ) : ∃ a, o = some a ∧ ∀ H' S', Xt S S' H H' → P a S' H' := R.Res.of g
theorem Go.here {α : Type} {P : α → Hp → Hp → Prop} {a : α} (sh : Same S H) (g : Go K cm W P (.ok a) S H σ) : P a S H := g H S (Xt.refl sh)
theorem _root_.L2.PE.imp {X : Cx} {e : Expr} {t t' : TE} (h : PE X e t) (k : ∀ σ H Q, t' σ H Q → t σ H Q) : PE X e t' := ⟨fun pins s σ H Q I q => h.run pins s σ H Q I (k σ H Q q)⟩
theorem _root_.L2.PT.imp {X : Cx} {e : Expr} {t t' : TT} (h : PT X e t) (k : ∀ σ H Q, t' σ H Q → t σ H Q) : PT X e t' := ⟨fun pins s σ H Q I q => h.run pins s σ H Q I (k σ H Q q)⟩
theorem _root_.L2.PW.imp {X : Cx} {e : Expr} {t t' : TT} (h : PW X e t) (k : ∀ σ H Q, t' σ H Q → t σ H Q) : PW X e t' := ⟨fun wh pins s σ H Q I q => h.run wh pins s σ H Q I (k σ H Q q)⟩
theorem _root_.L2.PA.imp {X : Cx} {e : List Expr} {t t' : TA} (h : PA X e t) (k : ∀ σ H Q, t' σ H Q → t σ H Q) : PA X e t' := ⟨fun pos pins s σ H Q I q => h.run pos pins s σ H Q I (k σ H Q q)⟩
theorem _root_.L2.PS.imp {X : Cx} {e : Stmt} {t t' : TS} (h : PS X e t) (k : ∀ D σ H, t' D σ H → t D σ H) : PS X e t' := ⟨fun pins s σ H D I q => h.run pins s σ H D I (k D σ H q)⟩
theorem _root_.L2.PSs.imp {X : Cx} {e : List Stmt} {t t' : TS} (h : PSs X e t) (k : ∀ D σ H, t' D σ H → t D σ H) : PSs X e t' := ⟨fun pins s σ H D I q => h.run pins s σ H D I (k D σ H q)⟩
theorem _root_.L2.PI.imp {X : Cx} {tg e : Expr} {t t' : TI} (h : PI X tg e t) (k : ∀ σ H R, t' σ H R → t σ H R) : PI X tg e t' := ⟨fun pins s σ H R I q => h.run pins s σ H R I (k σ H R q)⟩
theorem _root_.L2.PG.imp {X : Cx} {e : Expr} {t t' : TG} (h : PG X e t) (k : ∀ v σ H Q, t' v σ H Q → t v σ H Q) : PG X e t' := ⟨fun pins s σ H v u Q I r q => h.run pins s σ H v u Q I r (k v σ H Q q)⟩
end
end DI
end
section
set_option Elab.async false
set_option linter.all false
set_option maxRecDepth 100000
set_option maxHeartbeats 2000000
/-! DI: expressions. -/
namespace DI
open PySem PySem.Spec PyProof.Rows L2
abbrev LS := List (Option T)
/-! ### names and constants -/
def imD : Option (Option T) → Option D
  | some (some (.im d)) => some d
  | _ => none
def imms : List T → Option (List D)
  | [] => some []
  | .im d :: ts => (imms ts).map (d :: ·)
  | _ :: _ => none
def viewT : T → Option D
  | .im d => some d
  | .lst ts => (imms ts).map .lst
  | _ => none
def viewD : Option (Option T) → Option D
  | some (some t) => viewT t
  | _ => none
/-- a name's datum; a name's datum or what is under construction at it -/
def vi (i : Nat) : LS → R D := fun st => .of (imD st[i]?)
def vv (i : Nat) : LS → R D := fun st => .of (viewD st[i]?)
def cc (d : D) : LS → R D := fun _ => .ok d
section
variable {K : PySem.W.Frag} {cm : CM} {W : WH} {S S' H H' : Hp} {σ : Sg}
theorem own_imms : ∀ {ts : List T} {vs : List V} {fp : List Addr} {ds : List D}, OwnL K cm S H ts vs fp → imms ts = some ds → RepL K cm S vs ds
  | _, _, _, _, .nil, e => by cases e; exact .nil
  | _, _, _, _, .cons (t := t) h hs, e => by
    cases h with
    | im q =>
      rename_i ts vs f2 d
      unfold imms at e
      cases q2 : imms ts with
      | none => rw [q2] at e; cases e
      | some es =>
        rw [q2] at e
        cases e
        exact .cons q (own_imms hs q2)
    | lst _ _ => cases e
    | ins _ _ _ => cases e
    | dct _ _ _ _ => cases e
    | nd _ _ _ _ _ => cases e
theorem own_view {t : T} {v : V} {fp : List Addr} {d : D} (o : Own K cm S H t v fp) (e : viewT t = some d) : View K cm S H v d := by
  cases o with
  | im q => cases e; exact .inl q
  | lst h hs =>
    rename_i a vs ts fp
    have e : (imms ts).map D.lst = some d := e
    cases q : imms ts with
    | none => rw [q] at e; cases e
    | some es =>
      rw [q] at e
      cases e
      exact .inr ⟨a, vs, es, rfl, rfl, h, own_imms hs q⟩
  | ins _ _ _ => cases e
  | dct _ _ _ _ => cases e
  | nd _ _ _ _ _ => cases e
end
section
variable {X : Cx} {cm : CM} {W : WH}
theorem e_var (i : Nat) {x : Str} {pos : Pos} (hN : X.N[i]? = some x := by rfl) (hv : Vis X.env.scope x := by first | exact Or.inl rfl | exact Or.inr (Or.inl rfl) | exact Or.inr (Or.inr rfl)) (hd : (x == ("__debug__" : Str)) = false := by decide)
    (hcd : (x == ("__classdict__" : Str)) = false := by decide) : PE X (.Name x pos) (E X.K cm W (vi i)) := (pe_var hN hv hd hcd).imp fun σ H Q ⟨st, S, fp, r, g⟩ => by
  obtain ⟨d, e, k⟩ := g.of
  unfold imD at e
  split at e
  · cases e
    rename_i q
    obtain ⟨v, a, b⟩ := r.imm q
    exact ⟨v, a, k H S (Xt.refl r.sh) v b⟩
  · cases e
theorem v_var (i : Nat) {x : Str} {pos : Pos} (hN : X.N[i]? = some x := by rfl) (hv : Vis X.env.scope x := by first | exact Or.inl rfl | exact Or.inr (Or.inl rfl) | exact Or.inr (Or.inr rfl)) (hd : (x == ("__debug__" : Str)) = false := by decide)
    (hcd : (x == ("__classdict__" : Str)) = false := by decide) : PE X (.Name x pos) (VE X.K cm W (vv i)) := (pe_var hN hv hd hcd).imp fun σ H Q ⟨st, S, fp, r, g⟩ => by
  obtain ⟨d, e, k⟩ := g.of
  unfold viewD at e
  split at e
  · rename_i t q
    obtain ⟨v, f, a, b, _⟩ := r.sls.get q
    exact ⟨v, a, k H S (Xt.refl r.sh) v (own_view b e)⟩
  · cases e
theorem e_cc {e : Expr} {d : D} {v : V} (h : PE X e (tC v)) (hr : ∀ S, Rep X.K cm S v d) : PE X e (E X.K cm W (cc d)) := h.imp fun σ H Q ⟨st, S, fp, r, g⟩ => g.here r.sh v (hr S)
theorem e_int {i j pos} : PE X (.Constant (.int i) j pos) (E X.K cm W (cc (.int i))) := e_cc pe_int fun _ => .int i
theorem e_bl {b j pos} : PE X (.Constant (.bool b) j pos) (E X.K cm W (cc (.bl b))) := e_cc pe_bl fun _ => .bl b
theorem e_non {j pos} : PE X (.Constant .none j pos) (E X.K cm W (cc .non)) := e_cc pe_non fun _ => .non
/-- data may be read -/
theorem pv_ {e : Expr} {f : LS → R D} (h : PE X e (E X.K cm W f)) : PE X e (VE X.K cm W f) := h.imp fun σ H Q ⟨st, S, fp, r, g⟩ => ⟨st, S, fp, r, g.mono fun _ _ _ _ k v hv => k v (.inl hv)⟩
/-! ### operators by values -/
/-- the operation, read off data, hands back data -/
def Op2 (K : PySem.W.Frag) (cm : CM) (r : R2) (op : D → D → Option D) : Prop :=
  ∀ (S H : Hp) (x y : V) (d e z : D) (Q : VK), Same S H → View K cm S H x d → View K cm S H y e → op d e = some z → (∀ H' S', Xt S S' H H' → ∀ v, Rep K cm S' v z → Q v H') → r x y H Q
def Op1 (K : PySem.W.Frag) (cm : CM) (r : V → Hp → VK → Prop) (op : D → Option D) : Prop :=
  ∀ (S H : Hp) (x : V) (d z : D) (Q : VK), Same S H → View K cm S H x d → op d = some z → (∀ H' S', Xt S S' H H' → ∀ v, Rep K cm S' v z → Q v H') → r x H Q
def OpN (K : PySem.W.Frag) (cm : CM) (r : List V → Hp → VK → Prop) (op : List D → Option D) : Prop :=
  ∀ (S H : Hp) (xs : List V) (ds : List D) (z : D) (Q : VK), Same S H → Paired (View K cm S H) xs ds → op ds = some z → (∀ H' S', Xt S S' H H' → ∀ v, Rep K cm S' v z → Q v H') → r xs H Q
/-- .. hands back a fresh list of data -/
def Op2F (K : PySem.W.Frag) (cm : CM) (r : R2) (op : D → D → Option (List D)) : Prop :=
  ∀ (S H : Hp) (x y : V) (d e : D) (zs : List D) (Q : VK), Same S H → View K cm S H x d → View K cm S H y e → op d e = some zs → (∀ p vs, H p = none → RepL K cm S vs zs → Q (.ref p) (upd H p (.lst vs))) → r x y H Q
def OpNF (K : PySem.W.Frag) (cm : CM) (r : List V → Hp → VK → Prop) (op : List D → Option (List D)) : Prop :=
  ∀ (S H : Hp) (xs : List V) (ds : List D) (zs : List D) (Q : VK), Same S H → Paired (View K cm S H) xs ds → op ds = some zs → (∀ p vs, H p = none → RepL K cm S vs zs → Q (.ref p) (upd H p (.lst vs))) → r xs H Q
def un (op : D → Option D) (f : LS → R D) : LS → R D := fun st => (f st).bind fun x => .of (op x)
def bin (op : D → D → Option D) (f g : LS → R D) : LS → R D := fun st => (f st).bind fun x => (g st).bind fun y => .of (op x y)
def dL (o : Option (List D)) : Option D := o.map .lst
def imT (ds : List D) : T := .lst (ds.map .im)
section
variable {f g h : LS → R D} {a b c e : Expr} {pos : Pos}
theorem VE.op {r : R2} {op : D → D → Option D} (ho : Op2 X.K cm r op) {σ : Sg} {H : Hp} {Q : VK} (k : E X.K cm W (bin op f g) σ H Q) : tOp r (VE X.K cm W f) (VE X.K cm W g) σ H Q := by
  obtain ⟨st, S, fp, rx, k⟩ := k
  refine ⟨st, S, fp, rx, k.bind.mono fun d S1 H1 x1 k1 v hv => ?_⟩
  refine ⟨st, S1, fp, rx.ext x1, k1.bind.mono fun z S2 H2 x2 k2 u hu => ?_⟩
  obtain ⟨w, hw, k3⟩ := k2.of
  exact ho S2 H2 v u d z w Q x2.sh (hv.ext x2) hu hw k3
theorem VE.un {r : V → Hp → VK → Prop} {op : D → Option D} (ho : Op1 X.K cm r op) {σ : Sg} {H : Hp} {Q : VK} (k : E X.K cm W (un op f) σ H Q) : tUn r (VE X.K cm W f) σ H Q := by
  obtain ⟨st, S, fp, rx, k⟩ := k
  refine ⟨st, S, fp, rx, k.bind.mono fun d S1 H1 x1 k1 v hv => ?_⟩
  obtain ⟨w, hw, k3⟩ := k1.of
  exact ho S1 H1 v d w Q x1.sh hv hw k3
theorem e_op {o : Operator} {r : R2} {op : D → D → Option D} (hr : OpR X (binaryOp o) r) (ho : Op2 X.K cm r op) (ha : PE X a (VE X.K cm W f)) (hb : PE X b (VE X.K cm W g)) : PE X (.BinOp a o b pos) (E X.K cm W (bin op f g)) :=
  (pe_op hr ha hb).imp fun σ H Q k => VE.op ho k
theorem e_un {o : UnaryOp} {r : V → Hp → VK → Prop} {op : D → Option D} (hr : UnR X (unaryOp o) r) (ho : Op1 X.K cm r op) (ha : PE X a (VE X.K cm W f)) : PE X (.UnaryOp o a pos) (E X.K cm W (un op f)) :=
  (pe_un hr ha).imp fun σ H Q k => VE.un ho k
theorem e_cmp {o : CmpOp} {r : R2} {op : D → D → Option D} (hr : OpR X (compareOp o) r) (ho : Op2 X.K cm r op) (ha : PE X a (VE X.K cm W f)) (hb : PE X b (VE X.K cm W g)) (hm : behindInMarks o b = false) : PE X (.Compare a [o] [b] pos) (E X.K cm W (bin op f g)) :=
  (pe_cmpR hr ha hb hm).imp fun σ H Q k => VE.op ho k
/-! ### tests -/
def dB : D → Option Bool
  | .bl b => some b
  | _ => none
/-- a datum that is a truth value -/
def tb (f : LS → R D) : LS → R Bool := fun st => (f st).bind fun x => .of (dB x)
theorem TB.of {σ : Sg} {H : Hp} {Q : Bool → Hp → Prop} (k : TB X.K cm W (tb f) σ H Q) : E X.K cm W f σ H (fun x H' => ∃ b, x = .bl b ∧ Q b H') := by
  obtain ⟨st, S, fp, rx, k⟩ := k
  refine ⟨st, S, fp, rx, k.bind.mono fun d S1 H1 x1 k1 v hv => ?_⟩
  obtain ⟨w, hw, k3⟩ := k1.of
  cases d <;> cases hw
  cases hv
  exact ⟨_, rfl, k3 H1 S1 (Xt.refl x1.sh)⟩
theorem t_val (he : PE X e (E X.K cm W f)) (hs : ∀ whole, isTrue e X.env whole = (do let v ← whole; standAt e.pos; holding [v] (truthy v)) := by intro _; rfl) : PT X e (TB X.K cm W (tb f)) :=
  (pt_val he hs).imp fun σ H Q k => TB.of k
theorem t_cmp {o : CmpOp} {r : R2} {op : D → D → Option D} (hr : OpR X (compareOp o) r) (ho : Op2 X.K cm r op) (ha : PE X a (VE X.K cm W f)) (hb : PE X b (VE X.K cm W g)) (hm : behindInMarks o b = false) : PT X (.Compare a [o] [b] pos) (TB X.K cm W (tb (bin op f g))) :=
  (pt_cmpR hr ha hb hm).imp fun σ H Q k => VE.op ho (TB.of k)
/-- a < b < c -/
def chain (op op' : D → D → Option D) (f g h : LS → R D) : LS → R D := fun st => (f st).bind fun x => (g st).bind fun y => (R.of (op x y)).bind fun z => (R.of (dB z)).bind fun b => if b = true then (h st).bind fun u => .of (op' y u) else .ok (.bl false)
theorem VE.chain {r r' : R2} {op op' : D → D → Option D} (ho : Op2 X.K cm r op) (ho' : Op2 X.K cm r' op') {σ : Sg} {H : Hp} {Q : VK} (k : E X.K cm W (chain op op' f g h) σ H Q) : tChain r r' (VE X.K cm W f) (VE X.K cm W g) (VE X.K cm W h) σ H Q := by
  obtain ⟨st, S, fp, rx, k⟩ := k
  refine ⟨st, S, fp, rx, k.bind.mono fun d S1 H1 x1 k1 v hv => ?_⟩
  refine ⟨st, S1, fp, rx.ext x1, k1.bind.mono fun z S2 H2 x2 k2 u hu => ?_⟩
  obtain ⟨w, hw, k3⟩ := k2.bind.of
  refine ho S2 H2 v u d z w _ x2.sh (hv.ext x2) hu hw fun H3 S3 x3 v3 r3 => ?_
  obtain ⟨b, hb, k4⟩ := (k3 H3 S3 x3).bind.of
  cases w <;> cases hb
  cases r3
  refine ⟨_, rfl, ?_⟩
  have k5 := k4 H3 S3 (Xt.refl x3.sh)
  cases b with
  | false => exact k5.here x3.sh _ (.bl false)
  | true =>
    refine ⟨st, S3, fp, ((rx.ext x1).ext x2).ext x3, k5.bind.mono fun y S4 H4 x4 k6 t ht => ?_⟩
    obtain ⟨q, hq, k7⟩ := k6.of
    exact ho' S4 H4 u t z y q Q x4.sh ((hu.ext x3).ext x4) ht hq k7
theorem t_chain {o o' : CmpOp} {r r' : R2} {op op' : D → D → Option D} (hr : OpR X (compareOp o) r) (ho : Op2 X.K cm r op) (hr' : OpR X (compareOp o') r') (ho' : Op2 X.K cm r' op') (ha : PE X a (VE X.K cm W f)) (hb : PE X b (VE X.K cm W g)) (hc : PE X c (VE X.K cm W h))
    (hm : lastMarks [o, o'] [b, c] = false := by with_unfolding_all rfl) : PT X (.Compare a [o, o'] [b, c] pos) (TB X.K cm W (tb (chain op op' f g h))) := (pt_chain hr hr' ha hb hc hm).imp fun σ H Q k => VE.chain ho ho' (TB.of k)
/-! ### and, or, not -/
def andB (f g : LS → R Bool) : LS → R Bool := fun st => (f st).bind fun b => if b = true then g st else .ok false
def orB (f g : LS → R Bool) : LS → R Bool := fun st => (f st).bind fun b => if b = true then .ok true else g st
def notB (f : LS → R Bool) : LS → R Bool := fun st => (f st).bind fun b => .ok (!b)
variable {p q : LS → R Bool} {rest : List Expr}
theorem w_and1 (ha : PT X a (TB X.K cm W p)) : PW X (.BoolOp .And [a] pos) (TB X.K cm W p) := pw_and1 ha
theorem w_or1 (ha : PT X a (TB X.K cm W p)) : PW X (.BoolOp .Or [a] pos) (TB X.K cm W p) := pw_or1 ha
theorem w_and (ha : PT X a (TB X.K cm W p)) (hb : PW X (.BoolOp .And (b :: rest) pos) (TB X.K cm W q)) : PW X (.BoolOp .And (a :: b :: rest) pos) (TB X.K cm W (andB p q)) := (pw_and ha hb).imp fun σ H Q ⟨st, S, fp, rx, k⟩ =>
  ⟨st, S, fp, rx, k.bind.mono fun b S1 H1 x1 k1 => by
    cases b with
    | true => exact ⟨st, S1, fp, rx.ext x1, k1⟩
    | false => exact k1.here x1.sh⟩
theorem w_or (ha : PT X a (TB X.K cm W p)) (hb : PW X (.BoolOp .Or (b :: rest) pos) (TB X.K cm W q)) : PW X (.BoolOp .Or (a :: b :: rest) pos) (TB X.K cm W (orB p q)) := (pw_or ha hb).imp fun σ H Q ⟨st, S, fp, rx, k⟩ =>
  ⟨st, S, fp, rx, k.bind.mono fun b S1 H1 x1 k1 => by
    cases b with
    | true => exact k1.here x1.sh
    | false => exact ⟨st, S1, fp, rx.ext x1, k1⟩⟩
theorem t_w (h : PW X e (TB X.K cm W p)) : PT X e (TB X.K cm W p) := h.pt
theorem t_not (ha : PT X a (TB X.K cm W p)) : PT X (.UnaryOp .Not a pos) (TB X.K cm W (notB p)) := (pt_not ha).imp fun σ H Q ⟨st, S, fp, rx, k⟩ =>
  ⟨st, S, fp, rx, k.bind.mono fun b S1 H1 x1 k1 => k1.here x1.sh⟩
/-- as values: all but the last are truth values -/
def andE (f g : LS → R D) : LS → R D := fun st => (f st).bind fun x => (R.of (dB x)).bind fun b => if b = true then g st else .ok (.bl false)
def orE (f g : LS → R D) : LS → R D := fun st => (f st).bind fun x => (R.of (dB x)).bind fun b => if b = true then .ok (.bl true) else g st
def dNot : D → Option D
  | .bl b => some (.bl (!b))
  | _ => none
def notE (f : LS → R D) : LS → R D := fun st => (f st).bind fun x => .of (dNot x)
theorem e_one {op} (ha : PE X a (E X.K cm W f)) : PE X (.BoolOp op [a] pos) (E X.K cm W f) := pe_one ha
theorem e_and (ha : PE X a (E X.K cm W f)) (hb : PE X (.BoolOp .And (b :: rest) pos) (E X.K cm W g)) : PE X (.BoolOp .And (a :: b :: rest) pos) (E X.K cm W (andE f g)) := (pe_and ha hb).imp fun σ H Q ⟨st, S, fp, rx, k⟩ =>
  ⟨st, S, fp, rx, k.bind.mono fun d S1 H1 x1 k1 v hv => by
    obtain ⟨w, hw, k2⟩ := k1.bind.of
    cases d <;> cases hw
    cases hv
    refine ⟨_, rfl, ?_⟩
    have k3 := k2 H1 S1 (Xt.refl x1.sh)
    cases w with
    | true => exact ⟨st, S1, fp, rx.ext x1, k3⟩
    | false => exact k3.here x1.sh _ (.bl false)⟩
theorem e_not (ha : PE X a (E X.K cm W f)) : PE X (.UnaryOp .Not a pos) (E X.K cm W (notE f)) := (pe_not ha).imp fun σ H Q ⟨st, S, fp, rx, k⟩ =>
  ⟨st, S, fp, rx, k.bind.mono fun d S1 H1 x1 k1 v hv => by
    obtain ⟨w, hw, k2⟩ := k1.of
    cases d <;> cases hw
    cases hv
    exact ⟨_, rfl, k2 H1 S1 (Xt.refl x1.sh) _ (.bl _)⟩⟩
/-- a if t else b -/
def ifE (p : LS → R Bool) (f g : LS → R D) : LS → R D := fun st => (p st).bind fun b => if b = true then f st else g st
/-! ### argument lists, displays -/
theorem nodup1 (p : Addr) : [p].Nodup := by simp
def nilA : LS → R (List D) := fun _ => .ok []
def consA (f : LS → R D) (r : LS → R (List D)) : LS → R (List D) := fun st => (f st).bind fun x => (r st).bind fun xs => .ok (x :: xs)
variable {es : List Expr} {r : LS → R (List D)}
theorem a_nil : PA X [] (EA X.K cm W nilA) := pa_nil.imp fun σ H Q ⟨st, S, fp, rx, k⟩ => k.here rx.sh [] .nil
theorem a_cons (ha : PE X e (E X.K cm W f)) (hr : PA X es (EA X.K cm W r)) (hs : starEach (e :: es) X.env = (false, eval e X.env) :: starEach es X.env := by rfl) : PA X (e :: es) (EA X.K cm W (consA f r)) := (pa_cons ha hr hs).imp fun σ H Q ⟨st, S, fp, rx, k⟩ =>
  ⟨st, S, fp, rx, k.bind.mono fun d S1 H1 x1 k1 v hv => ⟨st, S1, fp, rx.ext x1, k1.bind.mono fun ds S2 H2 x2 k2 vs hvs => k2.here x2.sh (v :: vs) (.cons (hv.mono x2.ss) hvs)⟩⟩
theorem va_nil : PA X [] (VA X.K cm W nilA) := pa_nil.imp fun σ H Q ⟨st, S, fp, rx, k⟩ => k.here rx.sh [] .nil
theorem va_cons (ha : PE X e (VE X.K cm W f)) (hr : PA X es (VA X.K cm W r)) (hs : starEach (e :: es) X.env = (false, eval e X.env) :: starEach es X.env := by rfl) : PA X (e :: es) (VA X.K cm W (consA f r)) := (pa_cons ha hr hs).imp fun σ H Q ⟨st, S, fp, rx, k⟩ =>
  ⟨st, S, fp, rx, k.bind.mono fun d S1 H1 x1 k1 v hv => ⟨st, S1, fp, rx.ext x1, k1.bind.mono fun ds S2 H2 x2 k2 vs hvs => k2.here x2.sh (v :: vs) (.cons (hv.ext x2) hvs)⟩⟩
/-- the length is within the line -/
def lineL (ds : List D) : Option (List D) := if ds.length ≤ sizeLine then some ds else none
def tupE (r : LS → R (List D)) : LS → R D := fun st => (r st).bind fun ds => .of ((lineL ds).map .tup)
def lstE (r : LS → R (List D)) : LS → R D := fun st => (r st).bind fun ds => .of ((lineL ds).map .lst)
def lstF (r : LS → R (List D)) : LS → R T := fun st => (r st).bind fun ds => .of ((lineL ds).map imT)
theorem lineL_some {ds : List D} {α : Type} {φ : List D → α} {z : α} (h : (lineL ds).map φ = some z) : ds.length ≤ sizeLine ∧ z = φ ds := by
  unfold lineL at h
  split at h
  · cases h; exact ⟨by assumption, rfl⟩
  · cases h
theorem e_tup {x1} (h : PA X es (EA X.K cm W r)) : PE X (.Tuple es x1 pos) (E X.K cm W (tupE r)) := (pe_tup h).imp fun σ H Q ⟨st, S, fp, rx, k⟩ =>
  ⟨st, S, fp, rx, k.bind.mono fun ds S1 H1 x1 k1 vs hvs => by
    obtain ⟨w, hw, k2⟩ := k1.of
    obtain ⟨hl, rfl⟩ := lineL_some hw
    refine ⟨by rw [hvs.length]; exact hl, fun p hp => ?_⟩
    exact k2 _ _ (Xt.new x1.sh hp) _ (.tup (.inl (.inl upd_same)) (hvs.mono (same_upd (x1.sh.free hp))))⟩
theorem e_lst (h : PA X es (EA X.K cm W r)) : PE X (.List es pos) (E X.K cm W (lstE r)) := (pe_lst h).imp fun σ H Q ⟨st, S, fp, rx, k⟩ =>
  ⟨st, S, fp, rx, k.bind.mono fun ds S1 H1 x1 k1 vs hvs => by
    obtain ⟨w, hw, k2⟩ := k1.of
    obtain ⟨hl, rfl⟩ := lineL_some hw
    refine ⟨by rw [hvs.length]; exact hl, fun p hp => ?_⟩
    exact k2 _ _ (Xt.new x1.sh hp) _ (.lst upd_same (hvs.mono (same_upd (x1.sh.free hp))))⟩
theorem own_imT {K : PySem.W.Frag} {S H : Hp} : ∀ {vs : List V} {ds : List D}, RepL K cm S vs ds → OwnL K cm S H (ds.map .im) vs []
  | _, _, .nil => .nil
  | _, _, .cons h hs => .cons (f1 := []) (.im h) (own_imT hs)
theorem own_fresh {K : PySem.W.Frag} {S H : Hp} {p : Addr} {vs : List V} {ds : List D} (h : RepL K cm S vs ds) : Own K cm S (upd H p (.lst vs)) (imT ds) (.ref p) [p] := .lst upd_same (own_imT h)
theorem f_lst (h : PA X es (EA X.K cm W r)) : PE X (.List es pos) (EF X.K cm W (lstF r)) := (pe_lst h).imp fun σ H Q ⟨st, S, fp, rx, k⟩ =>
  ⟨st, S, fp, rx, k.bind.mono fun ds S1 H1 x1 k1 vs hvs => by
    obtain ⟨w, hw, k2⟩ := k1.of
    obtain ⟨hl, rfl⟩ := lineL_some hw
    refine ⟨by rw [hvs.length]; exact hl, fun p hp => ?_⟩
    refine k2 _ _ (Xt.own x1.sh hp) _ [p] (own_fresh hvs) (nodup1 p) fun a m => ?_
    have e : a = p := by simpa using m
    subst e
    exact ⟨x1.hh.free hp, x1.sh.free hp⟩⟩
end
end
end DI
end
section
set_option Elab.async false
set_option linter.all false
set_option maxRecDepth 100000
set_option maxHeartbeats 2000000
/-! DI: operators on data. -/
namespace DI
open PySem PySem.Spec PyProof.Rows L2
section
variable {K : PySem.W.Frag} {cm : CM} {S H : Hp}
theorem View.int {v : V} {i : Int} (h : View K cm S H v (.int i)) : v = .int i := by
  rcases h with h | ⟨_, _, _, _, e, _⟩
  · cases h; rfl
  · cases e
theorem View.bl {v : V} {b : Bool} (h : View K cm S H v (.bl b)) : v = .bl b := by
  rcases h with h | ⟨_, _, _, _, e, _⟩
  · cases h; rfl
  · cases e
theorem View.str {v : V} {x : Str} (h : View K cm S H v (.str x)) : v = .str x := by
  rcases h with h | ⟨_, _, _, _, e, _⟩
  · cases h; rfl
  · cases e
theorem View.non {v : V} (h : View K cm S H v .non) : v = .non := by
  rcases h with h | ⟨_, _, _, _, e, _⟩
  · cases h; rfl
  · cases e
theorem View.tup {v : V} {ds : List D} (h : View K cm S H v (.tup ds)) : ∃ a xs, v = .ref a ∧ SqT K S a xs ∧ RepL K cm S xs ds := by
  rcases h with h | ⟨_, _, _, _, e, _⟩
  · cases h; exact ⟨_, _, rfl, by assumption, by assumption⟩
  · cases e
theorem View.lst {v : V} {ds : List D} (sh : Same S H) (h : View K cm S H v (.lst ds)) : ∃ a xs, v = .ref a ∧ H a = some (.lst xs) ∧ RepL K cm S xs ds := by
  rcases h with h | ⟨a, vs, es, e1, e2, e3, h⟩
  · cases h; rename_i a xs q hr; exact ⟨a, xs, rfl, sh _ _ q, hr⟩
  · cases e2; exact ⟨a, vs, e1, e3, h⟩
theorem View.scr {v : V} {ds : List D} (h : View K cm S H v (.scr ds)) : ∃ a xs, v = .ref a ∧ SqL K S a xs ∧ RepL K cm S xs ds := by
  rcases h with h | ⟨_, _, _, _, e, _⟩
  · cases h; exact ⟨_, _, rfl, by assumption, by assumption⟩
  · cases e
theorem View.ins {v : V} {c : Nat} {ds : List D} (h : View K cm S H v (.ins c ds)) : ∃ a dx vs, v = .ref a ∧ S a = some (.ins (cm.addr c) dx ((cm.names c).zip vs)) ∧ RepL K cm S vs ds := by
  rcases h with h | ⟨_, _, _, _, e, _⟩
  · cases h; exact ⟨_, _, _, rfl, by assumption, by assumption⟩
  · cases e
/-- a fresh tuple of data -/
theorem fin_tup {vs : List V} {ds : List D} {Q : VK} (sh : Same S H) (r : RepL K cm S vs ds) (k : ∀ H' S', Xt S S' H H' → ∀ v, Rep K cm S' v (.tup ds) → Q v H') : ∀ p, H p = none → Q (.ref p) (upd H p (.tup vs)) :=
  fun p hp => k _ _ (Xt.new sh hp) _ (.tup (.inl (.inl upd_same)) (r.mono (same_upd (sh.free hp))))
theorem fin_lst {vs : List V} {ds : List D} {Q : VK} (sh : Same S H) (r : RepL K cm S vs ds) (k : ∀ H' S', Xt S S' H H' → ∀ v, Rep K cm S' v (.lst ds) → Q v H') : ∀ p, H p = none → Q (.ref p) (upd H p (.lst vs)) :=
  fun p hp => k _ _ (Xt.new sh hp) _ (.lst upd_same (r.mono (same_upd (sh.free hp))))
end
/-! ### arithmetic -/
def lineC (xs ys : List D) : Option (List D) := if xs.length + ys.length ≤ sizeLine then some (xs ++ ys) else none
theorem lineC_some {xs ys : List D} {α : Type} {φ : List D → α} {z : α} (h : (lineC xs ys).map φ = some z) : xs.length + ys.length ≤ sizeLine ∧ z = φ (xs ++ ys) := by
  unfold lineC at h
  split at h
  · cases h; exact ⟨by assumption, rfl⟩
  · cases h
def dAdd : D → D → Option D
  | .int i, .int j => some (.int (i + j))
  | .str x, .str y => if x.length + y.length ≤ sizeLine then some (.str (x ++ y)) else none
  | .lst xs, .lst ys => (lineC xs ys).map .lst
  | .tup xs, .tup ys => (lineC xs ys).map .tup
  | _, _ => none
def rAddS : R2 := fun x y H Q => ∃ i j, x = .str i ∧ y = .str j ∧ i.length + j.length ≤ sizeLine ∧ Q (.str (i ++ j)) H
def rAddU (K : PySem.W.Frag) : R2 := fun x y H Q => rI0 (fun i j => .int (i + j)) x y H Q ∨ (rAddS x y H Q ∨ (rCat x y H Q ∨ rCatA K x y H Q))
section
variable {X : Cx} {cm : CM}
theorem or_add : OpR X (binaryOp .Add) (rAddU X.K) := op_add.or (op_add_str.or (op_cat.or op_catA))
theorem d_add : Op2 X.K cm (rAddU X.K) dAdd := by
  intro S H x y d e z Q sh hx hy ho k
  cases d <;> cases e <;> try (cases ho; done)
  case int.int i j =>
    cases ho
    rw [hx.int, hy.int]
    exact .inl ⟨i, j, rfl, rfl, k H S (Xt.refl sh) _ (.int _)⟩
  case str.str i j =>
    have ho : (if i.length + j.length ≤ sizeLine then some (D.str (i ++ j)) else none) = some z := ho
    split at ho
    · cases ho
      rw [hx.str, hy.str]
      exact .inr (.inl ⟨i, j, rfl, rfl, by assumption, k H S (Xt.refl sh) _ (.str _)⟩)
    · cases ho
  case tup.tup xs ys =>
    obtain ⟨hl, rfl⟩ := lineC_some ho
    obtain ⟨a, vs, rfl, ha, ra⟩ := hx.tup
    obtain ⟨b, ws, rfl, hb, rb⟩ := hy.tup
    refine .inr (.inr (.inr ⟨a, b, vs, ws, rfl, rfl, same_sqT sh ha, same_sqT sh hb, by rw [ra.length, rb.length]; exact hl, fun e => ?_, fun _ e => ?_, fun _ _ => fin_tup sh (ra.append rb) k⟩))
    · subst e
      cases ra
      exact k H S (Xt.refl sh) _ (.tup hb rb)
    · subst e
      cases rb
      rw [List.append_nil] at k
      exact k H S (Xt.refl sh) _ (.tup ha ra)
  case lst.lst xs ys =>
    obtain ⟨hl, rfl⟩ := lineC_some ho
    obtain ⟨a, vs, rfl, ha, ra⟩ := hx.lst sh
    obtain ⟨b, ws, rfl, hb, rb⟩ := hy.lst sh
    exact .inr (.inr (.inl ⟨a, b, vs, ws, rfl, rfl, ha, hb, by rw [ra.length, rb.length]; exact hl, fin_lst sh (ra.append rb) k⟩))
/-- two ints -/
def dII (g : Int → Int → Option D) : D → D → Option D
  | .int i, .int j => g i j
  | _, _ => none
theorem d_II {g : Int → Int → Option D} {r : R2} (h : ∀ (i j : Int) (z : D) (H : Hp) (Q : VK), g i j = some z → (∃ (v : V), (∀ S, Rep X.K cm S v z) ∧ (Q v H → r (.int i) (.int j) H Q))) : Op2 X.K cm r (dII g) := by
  intro S H x y d e z Q sh hx hy ho k
  cases d <;> cases e <;> try (cases ho; done)
  case int.int i j =>
    rw [hx.int, hy.int]
    obtain ⟨v, hv, q⟩ := h i j z H Q ho
    exact q (k H S (Xt.refl sh) v (hv S))
def gI (C : Int → Int → Bool) (f : Int → Int → Int) (i j : Int) : Option D := if C i j = true then some (.int (f i j)) else none
theorem d_gI {C : Int → Int → Prop} {c : Int → Int → Bool} {f : Int → Int → Int} (hc : ∀ i j, c i j = true → C i j) : Op2 X.K cm (rI C fun i j => .int (f i j)) (dII (gI c f)) := d_II fun i j z H Q h => by
  unfold gI at h
  split at h
  · cases h
    rename_i q
    exact ⟨_, fun S => .int _, fun w => ⟨i, j, rfl, rfl, hc i j q, w⟩⟩
  · cases h
def posC (_ j : Int) : Bool := decide (0 < j)
def divC (_ j : Int) : Bool := decide (0 < j) && decide (j.natAbs.log2 < 9000)
def mulC (i j : Int) : Bool := decide (i.natAbs.log2 + j.natAbs.log2 < 1000000)
def powC (i j : Int) : Bool := decide (0 ≤ j) && decide (j ≤ 1000000) && decide (i.natAbs < 2 ^ 64)
def dSub : D → D → Option D := dII fun i j => some (.int (i - j))
def dMod : D → D → Option D := dII (gI posC fun i j => i % j)
def dDiv : D → D → Option D := dII (gI divC fun i j => i / j)
def dPow : D → D → Option D := dII (gI powC fun i j => i ^ j.toNat)
theorem d_sub : Op2 X.K cm (rI0 fun i j => .int (i - j)) dSub := d_II fun i j z H Q h => by
  cases h
  exact ⟨_, fun S => .int _, fun w => ⟨i, j, rfl, rfl, w⟩⟩
theorem d_mod : Op2 X.K cm (rI (fun _ j => 0 < j) fun i j => .int (i % j)) dMod := d_gI fun i j h => of_decide_eq_true h
theorem d_div : Op2 X.K cm (rI CDivW fun i j => .int (i / j)) dDiv := d_gI fun i j h => by
  unfold divC at h
  simp only [Bool.and_eq_true, decide_eq_true_eq] at h
  exact h
theorem d_pow : Op2 X.K cm (rI CPow fun i j => .int (i ^ j.toNat)) dPow := d_gI fun i j h => by
  unfold powC at h
  simp only [Bool.and_eq_true, decide_eq_true_eq] at h
  exact ⟨h.1.1, h.1.2, h.2⟩
/-- product; a list times an int -/
def repD (xs : List D) (k : Int) : Option (List D) := if -(2 ^ 63) ≤ k ∧ k < 2 ^ 63 ∧ xs.length * k.toNat ≤ sizeLine then some (List.replicate k.toNat xs).flatten else none
def dMul : D → D → Option D
  | .int i, .int j => gI mulC (fun i j => i * j) i j
  | .lst xs, .int k => (repD xs k).map .lst
  | _, _ => none
def dRep : D → D → Option (List D)
  | .lst xs, .int k => repD xs k
  | _, _ => none
def rMulU : R2 := fun x y H Q => rI CMulW (fun i j => .int (i * j)) x y H Q ∨ rRep x y H Q
theorem or_mul : OpR X (binaryOp .Mult) rMulU := op_mulW.or op_rep
theorem RepL.flat {K : PySem.W.Frag} {S : Hp} {vs : List V} {ds : List D} (h : RepL K cm S vs ds) : ∀ n : Nat, RepL K cm S (List.replicate n vs).flatten (List.replicate n ds).flatten
  | 0 => .nil
  | n + 1 => by
    rw [List.replicate_succ, List.replicate_succ, List.flatten_cons, List.flatten_cons]
    exact h.append (RepL.flat h n)
theorem repD_some {xs : List D} {k : Int} {α : Type} {φ : List D → α} {z : α} (h : (repD xs k).map φ = some z) : (-(2 ^ 63) ≤ k ∧ k < 2 ^ 63 ∧ xs.length * k.toNat ≤ sizeLine) ∧ z = φ (List.replicate k.toNat xs).flatten := by
  unfold repD at h
  split at h
  · cases h; exact ⟨by assumption, rfl⟩
  · cases h
theorem d_mul : Op2 X.K cm rMulU dMul := by
  intro S H x y d e z Q sh hx hy ho k
  cases d <;> cases e <;> try (cases ho; done)
  case int.int i j =>
    rw [hx.int, hy.int]
    have ho : (if mulC i j = true then some (D.int (i * j)) else none) = some z := ho
    split at ho
    · cases ho
      rename_i q
      exact .inl ⟨i, j, rfl, rfl, (show i.natAbs.log2 + j.natAbs.log2 < 1000000 from by unfold mulC at q; exact of_decide_eq_true q), k H S (Xt.refl sh) _ (.int _)⟩
    · cases ho
  case lst.int xs j =>
    obtain ⟨⟨h1, h2, h3⟩, rfl⟩ := repD_some ho
    obtain ⟨a, vs, rfl, ha, ra⟩ := hx.lst sh
    rw [hy.int]
    exact .inr ⟨a, j, vs, rfl, rfl, ha, h1, h2, by rw [ra.length]; exact h3, fin_lst sh (ra.flat _) k⟩
theorem d_rep : Op2F X.K cm rMulU dRep := by
  intro S H x y d e z Q sh hx hy ho k
  cases d <;> cases e <;> try (cases ho; done)
  case lst.int xs j =>
    have h0 : (repD xs j).map id = some z := by rw [Option.map_id]; exact ho
    obtain ⟨⟨h1, h2, h3⟩, rfl⟩ := repD_some h0
    obtain ⟨a, vs, rfl, ha, ra⟩ := hx.lst sh
    rw [hy.int]
    exact .inr ⟨a, j, vs, rfl, rfl, ha, h1, h2, by rw [ra.length]; exact h3, fun p hp => k p _ hp (ra.flat _)⟩
def dNeg : D → Option D
  | .int i => some (.int (-i))
  | _ => none
theorem d_neg : Op1 X.K cm (rU fun i => .int (-i)) dNeg := by
  intro S H x d z Q sh hx ho k
  cases d <;> try (cases ho; done)
  case int i =>
    cases ho
    rw [hx.int]
    exact ⟨i, rfl, k H S (Xt.refl sh) _ (.int _)⟩
/-! ### comparisons -/
def dLt : D → D → Option D := dII fun i j => some (.bl (decide (i < j)))
def dLe : D → D → Option D := dII fun i j => some (.bl (decide (i ≤ j)))
def dGt : D → D → Option D := dII fun i j => some (.bl (decide (j < i)))
def dGe : D → D → Option D := dII fun i j => some (.bl (decide (j ≤ i)))
theorem d_cI {g : Int → Int → Bool} : Op2 X.K cm (rI0 fun i j => .bl (g i j)) (dII fun i j => some (.bl (g i j))) := d_II fun i j z H Q h => by
  cases h
  exact ⟨_, fun S => .bl _, fun w => ⟨i, j, rfl, rfl, w⟩⟩
theorem d_lt : Op2 X.K cm (rI0 fun i j => .bl (decide (i < j))) dLt := d_cI
theorem d_le : Op2 X.K cm (rI0 fun i j => .bl (decide (i ≤ j))) dLe := d_cI
theorem d_gt : Op2 X.K cm (rI0 fun i j => .bl (decide (j < i))) dGt := d_cI
theorem d_ge : Op2 X.K cm (rI0 fun i j => .bl (decide (j ≤ i))) dGe := d_cI
def dIsN : D → D → Option D
  | d, .non => some (.bl (match d with | .non => true | _ => false))
  | _, _ => none
def dNotN : D → D → Option D
  | d, .non => some (.bl (match d with | .non => false | _ => true))
  | _, _ => none
theorem View.isN {K : PySem.W.Frag} {S H : Hp} {v : V} {d : D} (h : View K cm S H v d) : decide (v = .non) = (match d with | .non => true | _ => false) := by
  rcases h with h | ⟨_, _, _, e1, e2, _⟩
  · cases h <;> rfl
  · subst e1; subst e2; rfl
theorem d_notN : Op2 X.K cm (fun x y H Q => y = .non ∧ Q (.bl (!decide (x = .non))) H) dNotN := by
  intro S H x y d e z Q sh hx hy ho k
  cases e <;> try (cases d <;> cases ho; done)
  refine ⟨hy.non, ?_⟩
  rw [hx.isN]
  cases d <;> cases ho <;> exact k H S (Xt.refl sh) _ (.bl _)
end
/-! ### equality of data -/
mutual
def D.py : D → Option PyData
  | .non => some .none
  | .bl b => some (.bool b)
  | .int i => some (.int i)
  | .str x => some (.str x)
  | .tup xs => (D.pys xs).map .tuple
  | .lst xs => (D.pys xs).map .list
  | _ => none
def D.pys : List D → Option (List PyData)
  | [] => some []
  | d :: ds => match D.py d, D.pys ds with
    | some p, some ps => some (p :: ps)
    | _, _ => none
end
section
variable {K : PySem.W.Frag} {cm : CM} {S H : Hp}
mutual
theorem Rep.dp (sh : Same S H) : ∀ {v : V} {d : D} {p : PyData}, Rep K cm S v d → d.py = some p → Dp K H v p
  | _, _, _, .non, e => by cases e; exact .non
  | _, _, _, .bl b, e => by cases e; exact .bl b
  | _, _, _, .int b, e => by cases e; exact .int b
  | _, _, _, .str b, e => by cases e; exact .str b
  | _, _, p, .tup (ds := ds) h hs, e => by
    have e : (D.pys ds).map PyData.tuple = some p := by unfold D.py at e; exact e
    cases q : D.pys ds with
    | none => rw [q] at e; cases e
    | some ps => rw [q] at e; cases e; exact .tup (same_sqT sh h) (RepL.dp sh hs q)
  | _, _, p, .lst (ds := ds) h hs, e => by
    have e : (D.pys ds).map PyData.list = some p := by unfold D.py at e; exact e
    cases q : D.pys ds with
    | none => rw [q] at e; cases e
    | some ps => rw [q] at e; cases e; exact .lst (SqL.of (sh _ _ h)) (RepL.dp sh hs q)
  | _, _, _, .ins _ _ _, e => by unfold D.py at e; cases e
  | _, _, _, .scr _ _, e => by unfold D.py at e; cases e
  | _, _, _, .tset _ _ _, e => by unfold D.py at e; cases e
  | _, _, _, .dct _ _ _ _, e => by unfold D.py at e; cases e
  | _, _, _, .rng _, e => by unfold D.py at e; cases e
  | _, _, _, .nd _ _ _ _ _, e => by unfold D.py at e; cases e
theorem RepL.dp (sh : Same S H) : ∀ {vs : List V} {ds : List D} {ps : List PyData}, RepL K cm S vs ds → D.pys ds = some ps → DpAll K H vs ps
  | _, _, _, .nil, e => by unfold D.pys at e; cases e; exact .nil
  | _, _, _, .cons (d := d) (ds := ds) h hs, e => by
    unfold D.pys at e
    cases q1 : D.py d with
    | none => rw [q1] at e; cases e
    | some p =>
      cases q2 : D.pys ds with
      | none => rw [q1, q2] at e; cases e
      | some ps =>
        rw [q1, q2] at e
        cases e
        exact .cons (Rep.dp sh h q1) (RepL.dp sh hs q2)
end
theorem View.dp (sh : Same S H) {v : V} {d : D} {p : PyData} (h : View K cm S H v d) (e : d.py = some p) : Dp K H v p := by
  rcases h with h | ⟨a, vs, ds, e1, e2, e3, h⟩
  · exact h.dp sh e
  · subst e1; subst e2
    have e : (D.pys ds).map PyData.list = some p := by unfold D.py at e; exact e
    cases q : D.pys ds with
    | none => rw [q] at e; cases e
    | some ps => rw [q] at e; cases e; exact .lst (SqL.of e3) (h.dp sh q)
end
def D.sh (d : D) : Option PyData := (d.py).bind fun p => if SeqAt.shaped p = true then some p else none
theorem D.sh_some {d : D} {p : PyData} (h : d.sh = some p) : d.py = some p ∧ SeqAt.shaped p = true := by
  unfold D.sh at h
  cases q : d.py with
  | none => rw [q] at h; cases h
  | some u =>
    rw [q] at h
    have h : (if SeqAt.shaped u = true then some u else none) = some p := h
    split at h
    · cases h; exact ⟨rfl, by assumption⟩
    · cases h
def dEqB (d e : D) : Option Bool := match d.sh, e.sh with
  | some p, some q => some (PyData.eqv p q)
  | _, _ => none
def dEq (d e : D) : Option D := (dEqB d e).map .bl
def dNe (d e : D) : Option D := (dEqB d e).map fun b => .bl (!b)
theorem dEqB_some {d e : D} {b : Bool} (h : dEqB d e = some b) : ∃ p q, d.py = some p ∧ e.py = some q ∧ SeqAt.shaped p = true ∧ SeqAt.shaped q = true ∧ b = PyData.eqv p q := by
  unfold dEqB at h
  cases q1 : d.sh with
  | none => rw [q1] at h; cases h
  | some p =>
    cases q2 : e.sh with
    | none => rw [q1, q2] at h; cases h
    | some q =>
      rw [q1, q2] at h
      cases h
      obtain ⟨a1, a2⟩ := D.sh_some q1
      obtain ⟨b1, b2⟩ := D.sh_some q2
      exact ⟨p, q, a1, b1, a2, b2, rfl⟩
/-- x in xs: a list or a tuple of flat things, or a list of data -/
def D.flat : D → Bool
  | .non => true
  | .bl _ => true
  | .int _ => true
  | .str _ => true
  | _ => false
section
variable {X : Cx} {cm : CM}
theorem d_eq : Op2 X.K cm (rEqD X.K) dEq := by
  intro S H x y d e z Q sh hx hy ho k
  unfold dEq at ho
  cases q : dEqB d e with
  | none => rw [q] at ho; cases ho
  | some b =>
    rw [q] at ho
    cases ho
    obtain ⟨p, u, h1, h2, h3, h4, rfl⟩ := dEqB_some q
    exact ⟨p, u, hx.dp sh h1, hy.dp sh h2, h3, h4, k H S (Xt.refl sh) _ (.bl _)⟩
theorem d_ne : Op2 X.K cm (rNeD X.K) dNe := by
  intro S H x y d e z Q sh hx hy ho k
  unfold dNe at ho
  cases q : dEqB d e with
  | none => rw [q] at ho; cases ho
  | some b =>
    rw [q] at ho
    cases ho
    obtain ⟨p, u, h1, h2, h3, h4, rfl⟩ := dEqB_some q
    exact ⟨p, u, hx.dp sh h1, hy.dp sh h2, h3, h4, k H S (Xt.refl sh) _ (.bl _)⟩
end
end DI
end
section
set_option Elab.async false
set_option linter.all false
set_option maxRecDepth 100000
set_option maxHeartbeats 2000000
/-! DI: subscripts, slices, attributes, built-ins. -/
namespace DI
open PySem PySem.Spec PyProof.Rows L2
/-! ### x in xs -/
section
variable {X : Cx} {cm : CM}
def rInT (K : PySem.W.Frag) : R2 := fun x y H Q => ∃ d ds, Dp K H x d ∧ Dp K H y (.tuple ds) ∧ SeqAt.shaped d = true ∧ SeqAt.shaped (.tuple ds) = true ∧ Q (.bl (ds.any fun z => PyData.eqv z d)) H
def rNotInT (K : PySem.W.Frag) : R2 := fun x y H Q => ∃ d ds, Dp K H x d ∧ Dp K H y (.tuple ds) ∧ SeqAt.shaped d = true ∧ SeqAt.shaped (.tuple ds) = true ∧ Q (.bl (!ds.any fun z => PyData.eqv z d)) H
theorem op_inT (hu : X.A.units + 65 < cLine) : OpR X (compareOp .In) (rInT X.K) := by
  intro pins s σ H x y v u Q I rx ry h
  obtain ⟨d, ds, hd, he, sd, se, q⟩ := h
  obtain ⟨as, r1⟩ := Dp.reads I d x v hd rx
  obtain ⟨bs, r2⟩ := Dp.reads I (.tuple ds) y u he ry
  exact SeqAt.in_tuple_reads r2 r1 (SeqAt.canLay_of_shaped se) (SeqAt.canLay_of_shaped sd) (room_in_shaped sd hu) ⟨.bl _, H, I, rfl, q⟩
theorem op_notInT (hu : X.A.units + 65 < cLine) : OpR X (compareOp .NotIn) (rNotInT X.K) := by
  intro pins s σ H x y v u Q I rx ry h
  obtain ⟨d, ds, hd, he, sd, se, q⟩ := h
  obtain ⟨as, r1⟩ := Dp.reads I d x v hd rx
  obtain ⟨bs, r2⟩ := Dp.reads I (.tuple ds) y u he ry
  exact SeqAt.notIn_tuple_reads r2 r1 (SeqAt.canLay_of_shaped se) (SeqAt.canLay_of_shaped sd) (room_in_shaped sd hu) ⟨.bl _, H, I, rfl, q⟩
def rInU (K : PySem.W.Frag) : R2 := fun x y H Q => rInD K x y H Q ∨ rInT K x y H Q
def rNotInU (K : PySem.W.Frag) : R2 := fun x y H Q => rNotInD K x y H Q ∨ rNotInT K x y H Q
theorem or_in {k : Nat} (hr : Room k X.A) : OpR X (compareOp .In) (rInU X.K) := (op_inD (by have := hr.un; omega)).or (op_inT (by have := hr.un; omega))
theorem or_notIn {k : Nat} (hr : Room k X.A) : OpR X (compareOp .NotIn) (rNotInU X.K) := (op_notInD (by have := hr.un; omega)).or (op_notInT (by have := hr.un; omega))
theorem or_eq {k : Nat} (hr : Room k X.A) : OpR X (compareOp .Eq) (rEqD X.K) := op_eqD (by have := hr.un; omega)
theorem or_ne {k : Nat} (hr : Room k X.A) : OpR X (compareOp .NotEq) (rNeD X.K) := op_neD (by have := hr.un; omega)
def dInB (d e : D) : Option Bool := match d.sh, e.sh with
  | some p, some (.list qs) => some (qs.any fun z => PyData.eqv z p)
  | some p, some (.tuple qs) => some (qs.any fun z => PyData.eqv z p)
  | _, _ => none
def dIn (d e : D) : Option D := (dInB d e).map .bl
def dNotIn (d e : D) : Option D := (dInB d e).map fun b => .bl (!b)
theorem dInB_some {d e : D} {b : Bool} (h : dInB d e = some b) : ∃ p q qs, d.py = some p ∧ e.py = some q ∧ SeqAt.shaped p = true ∧ SeqAt.shaped q = true ∧ (q = .list qs ∨ q = .tuple qs) ∧ b = qs.any fun z => PyData.eqv z p := by
  unfold dInB at h
  cases q1 : d.sh with
  | none => rw [q1] at h; cases h
  | some p =>
    cases q2 : e.sh with
    | none => rw [q1, q2] at h; cases h
    | some q =>
      rw [q1, q2] at h
      obtain ⟨a1, a2⟩ := D.sh_some q1
      obtain ⟨b1, b2⟩ := D.sh_some q2
      cases q <;> try (cases h; done)
      case list qs => cases h; exact ⟨p, _, qs, a1, b1, a2, b2, .inl rfl, rfl⟩
      case tuple qs => cases h; exact ⟨p, _, qs, a1, b1, a2, b2, .inr rfl, rfl⟩
theorem d_in : Op2 X.K cm (rInU X.K) dIn := by
  intro S H x y d e z Q sh hx hy ho k
  unfold dIn at ho
  cases q : dInB d e with
  | none => rw [q] at ho; cases ho
  | some b =>
    rw [q] at ho
    cases ho
    obtain ⟨p, u, qs, h1, h2, h3, h4, rfl | rfl, rfl⟩ := dInB_some q
    · exact .inl ⟨p, qs, hx.dp sh h1, hy.dp sh h2, h3, h4, k H S (Xt.refl sh) _ (.bl _)⟩
    · exact .inr ⟨p, qs, hx.dp sh h1, hy.dp sh h2, h3, h4, k H S (Xt.refl sh) _ (.bl _)⟩
theorem d_notIn : Op2 X.K cm (rNotInU X.K) dNotIn := by
  intro S H x y d e z Q sh hx hy ho k
  unfold dNotIn at ho
  cases q : dInB d e with
  | none => rw [q] at ho; cases ho
  | some b =>
    rw [q] at ho
    cases ho
    obtain ⟨p, u, qs, h1, h2, h3, h4, rfl | rfl, rfl⟩ := dInB_some q
    · exact .inl ⟨p, qs, hx.dp sh h1, hy.dp sh h2, h3, h4, k H S (Xt.refl sh) _ (.bl _)⟩
    · exact .inr ⟨p, qs, hx.dp sh h1, hy.dp sh h2, h3, h4, k H S (Xt.refl sh) _ (.bl _)⟩
/-! ### subscripts -/
theorem RepL.atI {K : PySem.W.Frag} {S : Hp} {vs : List V} {ds : List D} {i : Int} {d : D} (h : RepL K cm S vs ds) (e : atI ds i = some d) : ∃ v, L2.atI vs i = some v ∧ Rep K cm S v d := by
  unfold L2.atI at e ⊢
  rw [h.length]
  cases q : ixN ds.length i with
  | none => rw [q] at e; cases e
  | some j =>
    rw [q] at e
    have e : ds[j]? = some d := e
    obtain ⟨v, a, b⟩ := h.get e
    exact ⟨v, a, b⟩
def dIdx : D → D → Option D
  | .lst ds, .int i => atI ds i
  | .tup ds, .int i => atI ds i
  | .scr ds, .int i => atI ds i
  | .str z, .int i => if z.length ≤ sizeLine then (atI z.cps.toList i).map fun c => .str ⟨#[c]⟩ else none
  | _, _ => none
theorem d_idx : Op2 X.K cm (rIx X.K) dIdx := by
  intro S H x y d e z Q sh hx hy ho k
  cases d <;> cases e <;> try (cases ho; done)
  case lst.int ds i =>
    obtain ⟨a, vs, rfl, ha, ra⟩ := hx.lst sh
    rw [hy.int]
    obtain ⟨v, e1, r1⟩ := ra.atI ho
    exact .inl ⟨a, vs, i, v, rfl, rfl, SqL.of ha, e1, k H S (Xt.refl sh) v r1⟩
  case tup.int ds i =>
    obtain ⟨a, vs, rfl, ha, ra⟩ := hx.tup
    rw [hy.int]
    obtain ⟨v, e1, r1⟩ := ra.atI ho
    exact .inr (.inl ⟨a, vs, i, v, rfl, rfl, same_sqT sh ha, e1, k H S (Xt.refl sh) v r1⟩)
  case scr.int ds i =>
    obtain ⟨a, vs, rfl, ha, ra⟩ := hx.scr
    rw [hy.int]
    obtain ⟨v, e1, r1⟩ := ra.atI ho
    exact .inl ⟨a, vs, i, v, rfl, rfl, same_sqL sh ha, e1, k H S (Xt.refl sh) v r1⟩
  case str.int w i =>
    rw [hx.str, hy.int]
    have ho : (if w.length ≤ sizeLine then (L2.atI w.cps.toList i).map fun c => D.str ⟨#[c]⟩ else none) = some z := ho
    split at ho
    · cases q : L2.atI w.cps.toList i with
      | none => rw [q] at ho; cases ho
      | some c =>
        rw [q] at ho
        cases ho
        exact .inr (.inr ⟨w, i, c, rfl, rfl, by assumption, q, k H S (Xt.refl sh) _ (.str _)⟩)
    · cases ho
variable {W : WH} {f g : LS → R D} {a b e : Expr} {pos : Pos}
theorem e_ix (ha : PE X a (VE X.K cm W f)) (hb : PE X b (VE X.K cm W g)) (hs : PlainIx b := by exact fun _ _ => rfl) : PE X (.Subscript a b pos) (E X.K cm W (bin dIdx f g)) := (pe_ix ix_seq ha hb hs).imp fun σ H Q k => VE.op d_idx k
/-! ### slices -/
def cutL {α : Type} (xs : List α) (lo hi : Option Int) : List α := (xs.drop (HT.sIx xs.length 0 lo)).take (HT.sIx xs.length xs.length hi - HT.sIx xs.length 0 lo)
theorem RepL.cut {K : PySem.W.Frag} {S : Hp} {vs : List V} {ds : List D} (h : RepL K cm S vs ds) (lo hi : Option Int) : RepL K cm S (cutV vs lo hi) (cutL ds lo hi) := by
  unfold cutV cutL
  rw [h.length]
  exact (h.drop _).take _
def dSl (d : D) (lo hi : Option Int) : Option D := match d with
  | .lst ds => some (.lst (cutL ds lo hi))
  | .tup ds => some (.tup (cutL ds lo hi))
  | .str z => if z.length ≤ sizeLine then some (.str (cutS z lo hi)) else none
  | _ => none
def rSlU (K : PySem.W.Frag) : V → Option Int → Option Int → Hp → VK → Prop := fun x lo hi H Q => rSlL K x lo hi H Q ∨ (rSlA K x lo hi H Q ∨ rSlS x lo hi H Q)
theorem sl_any : SlR X (rSlU X.K) := sl_list.or (sl_tupA.or sl_str)
theorem cutV_whole {xs : List V} {lo hi : Option Int} (h : HT.sIx xs.length 0 lo = 0 ∧ HT.sIx xs.length xs.length hi = xs.length) : cutV xs lo hi = xs := by
  unfold cutV
  rw [h.1, h.2]
  simp
/-- a part of a slice: left out, or an int -/
def partN : LS → R (Option Int) := fun _ => .ok none
def dInt : D → Option Int
  | .int i => some i
  | _ => none
def partI (f : LS → R D) : LS → R (Option Int) := fun st => (f st).bind fun d => (R.of (dInt d)).bind fun i => .ok (some i)
def OP (K : PySem.W.Frag) (cm : CM) (W : WH) (f : LS → R (Option Int)) : TO := fun σ H Q => ∃ st S fp, Rx K cm W st S fp σ H ∧ Go K cm W (fun o S' H' => Q o H') (f st) S H σ
theorem o_none : PO X none (OP X.K cm W partN) := ⟨fun pins s σ H Q I ⟨st, S, fp, rx, k⟩ => po_none.run pins s σ H Q I (k.here rx.sh)⟩
theorem o_some (h : PE X e (VE X.K cm W f)) : PO X (some e) (OP X.K cm W (partI f)) := ⟨fun pins s σ H Q I ⟨st, S, fp, rx, k⟩ => (po_some h).run pins s σ H Q I
  ⟨st, S, fp, rx, k.bind.mono fun d S1 H1 x1 k1 v hv => by
    obtain ⟨i, hi, k2⟩ := k1.bind.of
    cases d <;> cases hi
    rw [hv.int]
    exact ⟨_, rfl, (k2 H1 S1 (Xt.refl x1.sh)).here x1.sh⟩⟩⟩
def slE (f : LS → R D) (lo hi : LS → R (Option Int)) : LS → R D := fun st => (f st).bind fun d => (lo st).bind fun l => (hi st).bind fun h => .of (dSl d l h)
variable {lo hi : LS → R (Option Int)} {el eh : Option Expr} {p2 : Pos}
theorem e_sl (ha : PE X a (VE X.K cm W f)) (hl : PO X el (OP X.K cm W lo)) (hh : PO X eh (OP X.K cm W hi)) : PE X (.Subscript a (.Slice el eh none p2) pos) (E X.K cm W (slE f lo hi)) := (pe_slice sl_any ha hl hh).imp fun σ H Q ⟨st, S, fp, rx, k⟩ =>
  ⟨st, S, fp, rx, k.bind.mono fun d S1 H1 x1 k1 v hv => ⟨st, S1, fp, rx.ext x1, k1.bind.mono fun l S2 H2 x2 k2 => ⟨st, S2, fp, (rx.ext x1).ext x2, k2.bind.mono fun u S3 H3 x3 k3 => by
    obtain ⟨z, hz, k4⟩ := k3.of
    replace hv := (hv.ext x2).ext x3
    cases d <;> try (cases hz; done)
    case lst ds =>
      cases hz
      obtain ⟨a, vs, rfl, ha, ra⟩ := hv.lst x3.sh
      exact .inl ⟨a, vs, rfl, SqL.of ha, fin_lst x3.sh (ra.cut l u) k4⟩
    case tup ds =>
      cases hz
      obtain ⟨a, vs, rfl, ha, ra⟩ := hv.tup
      refine .inr (.inl ⟨a, vs, rfl, same_sqT x3.sh ha, fun w => ?_, fun _ => fin_tup x3.sh (ra.cut l u) k4⟩)
      have rc := ra.cut l u
      rw [cutV_whole w] at rc
      exact k4 H3 S3 (Xt.refl x3.sh) _ (.tup ha rc)
    case str w =>
      rw [hv.str]
      have hz : (if w.length ≤ sizeLine then some (D.str (cutS w l u)) else none) = some z := hz
      split at hz
      · cases hz
        exact .inr (.inr ⟨w, rfl, by assumption, k4 H3 S3 (Xt.refl x3.sh) _ (.str _)⟩)
      · cases hz⟩⟩⟩
/-! ### attributes -/
/-- the classes in whose instances the attribute stands, each with its place -/
def dFld (tbl : List (Nat × Nat)) : D → Option D
  | .ins c ds => (tbl.lookup c).bind fun i => ds[i]?
  | _ => none
structure FldOk (K : PySem.W.Frag) (cm : CM) (f : Str) (c i : Nat) : Prop where
  cl : Cls K (cm.addr c)
  na : NoAttr K (cm.addr c) f
  at_ : (cm.names c)[i]? = some f
  nd : (cm.names c).Nodup
theorem lookup_mem {tbl : List (Nat × Nat)} {c i : Nat} (h : tbl.lookup c = some i) : (c, i) ∈ tbl := by
  induction tbl with
  | nil => cases h
  | cons p r ih =>
    obtain ⟨c', i'⟩ := p
    unfold List.lookup at h
    cases q : c == c' with
    | true =>
      rw [q] at h
      have e : c = c' := by simpa using q
      cases h
      rw [e]
      exact List.mem_cons_self
    | false =>
      rw [q] at h
      exact List.mem_cons_of_mem _ (ih h)
theorem e_fld {tbl : List (Nat × Nat)} {f : Str} {g : LS → R D} (ok : ∀ p ∈ tbl, p.1 ∈ cm.cls → FldOk X.K cm f p.1 p.2) (ha : PE X a (E X.K cm W g)) (hb : attributeBase a f X.env (eval a X.env) = eval a X.env := by rfl) : PE X (.Attribute a f pos) (E X.K cm W (un (dFld tbl) g)) :=
  (pe_fld ha hb).imp fun σ H Q ⟨st, S, fp, rx, k⟩ => ⟨st, S, fp, rx, k.bind.mono fun d S1 H1 x1 k1 v hv => by
    obtain ⟨z, hz, k2⟩ := k1.of
    cases d <;> try (cases hz; done)
    case ins c ds =>
      cases hv with
      | @ins a dx _ vs _ m0 h1 h2 =>
        have hz : (tbl.lookup c).bind (fun i => ds[i]?) = some z := hz
        cases q : tbl.lookup c with
        | none => rw [q] at hz; cases hz
        | some i =>
          rw [q] at hz
          have hz : ds[i]? = some z := hz
          obtain ⟨v, e1, r1⟩ := h2.get hz
          have o := ok _ (lookup_mem q) m0
          exact ⟨a, cm.addr c, dx, _, v, rfl, x1.sh _ _ h1, o.cl, o.na, by rw [zip_lookup o.nd o.at_]; exact e1, k2 H1 S1 (Xt.refl x1.sh) v r1⟩⟩
/-! ### built-ins called -/
def callE (op : List D → Option D) (r : LS → R (List D)) : LS → R D := fun st => (r st).bind fun ds => .of (op ds)
def callF (op : List D → Option (List D)) (r : LS → R (List D)) : LS → R T := fun st => (r st).bind fun ds => .of ((op ds).map imT)
section
variable {r : List V → Hp → VK → Prop} {args : LS → R (List D)} {x : Str} {id ty : String} {p : Pos} {es : List Expr}
theorem VA.op {op : List D → Option D} (ho : OpN X.K cm r op) {σ : Sg} {H : Hp} {Q : VK} (k : E X.K cm W (callE op args) σ H Q) : tCB r (VA X.K cm W args) σ H Q := by
  obtain ⟨st, S, fp, rx, k⟩ := k
  refine ⟨st, S, fp, rx, k.bind.mono fun ds S1 H1 x1 k1 vs hvs => ?_⟩
  obtain ⟨w, hw, k3⟩ := k1.of
  exact ho S1 H1 vs ds w Q x1.sh hvs hw k3
theorem opN_of {op : List D → Option (List D)} (ho : OpNF X.K cm r op) : OpN X.K cm r (fun ds => dL (op ds)) := by
  intro S H xs ds z Q sh hx h k
  cases q : op ds with
  | none =>
    replace h : (op ds).map D.lst = some z := h
    rw [q] at h; cases h
  | some zs =>
    replace h : (op ds).map D.lst = some z := h
    rw [q] at h
    cases h
    exact ho S H xs ds zs Q sh hx q fun p us hp ru => fin_lst sh ru k p hp
theorem e_callB {op : List D → Option D} (hc : CallR X (.builtin id) r) (ho : OpN X.K cm r op) (hm : X.mg x = none) (hv : bootBuiltins x = some (.builtin id)) (ha : PA X (e :: es) (VA X.K cm W args)) (hg : Gl X x := by rfl) (hn : x ≠ "__name__" := by decide) (hdb : (x == ("__debug__" : Str)) = false := by decide)
    (hst : starEach (e :: es) X.env = (false, eval e X.env) :: starEach es X.env := by rfl) (hpl : (backTo pos (starEach es X.env)).any (·.1) = false := by rfl) : PE X (.Call (.Name x p) (e :: es) [] pos) (E X.K cm W (callE op args)) :=
  (pe_callB hc hg hm hv ha hn hdb hst hpl).imp fun σ H Q k => VA.op ho k
theorem e_callT {op : List D → Option D} (hc : CallR X (.type ty) r) (ho : OpN X.K cm r op) (hm : X.mg x = none) (hv : bootBuiltins x = some (.type ty)) (ha : PA X (e :: es) (VA X.K cm W args)) (hg : Gl X x := by rfl) (hn : x ≠ "__name__" := by decide) (hdb : (x == ("__debug__" : Str)) = false := by decide)
    (hst : starEach (e :: es) X.env = (false, eval e X.env) :: starEach es X.env := by rfl) (hpl : (backTo pos (starEach es X.env)).any (·.1) = false := by rfl) : PE X (.Call (.Name x p) (e :: es) [] pos) (E X.K cm W (callE op args)) :=
  (pe_callTy hc hg hm hv ha hn hdb hst hpl).imp fun σ H Q k => VA.op ho k
theorem f_op {o : Operator} {r : R2} {op : D → D → Option (List D)} {f g : LS → R D} (hr : OpR X (binaryOp o) r) (ho : Op2F X.K cm r op) (ha : PE X a (VE X.K cm W f)) (hb : PE X b (VE X.K cm W g)) : PE X (.BinOp a o b pos) (EF X.K cm W (fun st => (f st).bind fun x => (g st).bind fun y => .of ((op x y).map imT))) :=
  (pe_op hr ha hb).imp fun σ H Q ⟨st, S, fp, rx, k⟩ => ⟨st, S, fp, rx, k.bind.mono fun d S1 H1 x1 k1 v hv => ⟨st, S1, fp, rx.ext x1, k1.bind.mono fun z S2 H2 x2 k2 u hu => by
    obtain ⟨w, hw, k3⟩ := k2.of
    cases q : op d z with
    | none => rw [q] at hw; cases hw
    | some zs =>
      rw [q] at hw
      cases hw
      refine ho S2 H2 v u d z zs Q x2.sh (hv.ext x2) hu q fun p us hp ru => ?_
      refine k3 _ _ (Xt.own x2.sh hp) _ [p] (own_fresh ru) (nodup1 p) fun b m => ?_
      have e : b = p := by simpa using m
      subst e
      exact ⟨(x1.trans x2).hh.free hp, x2.sh.free hp⟩⟩⟩
end
end
end DI
end
section
set_option Elab.async false
set_option linter.all false
set_option maxRecDepth 100000
set_option maxHeartbeats 2000000
/-! DI: statements. -/
namespace DI
open PySem PySem.Spec PyProof.Rows L2
/-- how a block ends -/
inductive Out where
  | bad
  | nx (st : LS)
  | rt (d : D)
  | bk (st : LS)
  | ct (st : LS)
  | ex (st : LS) (e : Ex)
def Out.seq (o : Out) (g : LS → Out) : Out := match o with
  | .nx st => g st
  | o => o
def R.out {α : Type} (r : R α) (st : LS) (k : α → Out) : Out := match r with
  | .bad => .bad
  | .ok a => k a
  | .ex e => .ex st e
/-- what a def's body must keep: H0 as the def found it, S0 what stood for good then -/
structure Fr where
  S0 : Hp
  F : Hp
  /-- slots that keep their value -/
  fix : Nat → Option V
abbrev noFix : Nat → Option V := fun _ => none
abbrev fix0 (x : Addr) : Nat → Option V := fun i => if i = 0 then some (.ref x) else none
structure RR (K : PySem.W.Frag) (cm : CM) (W : WH) (c : Fr) (st : LS) (S : Hp) (fp : List Addr) (σ : Sg) (H : Hp) : Prop where
  rx : Rx K cm W st S fp σ H
  xt : Xt c.S0 S c.F H
  fr : ∀ a ∈ fp, c.F a = none
  fx : ∀ i v, c.fix i = some v → σ[i]? = some (some v)
section
variable {K : PySem.W.Frag} {cm : CM} {W : WH} {c : Fr} {st : LS} {S S' H H' : Hp} {fp : List Addr} {σ : Sg}
theorem RR.ext (r : RR K cm W c st S fp σ H) (x : Xt S S' H H') : RR K cm W c st S' fp σ H' := ⟨r.rx.ext x, r.xt.trans x, r.fr, r.fx⟩
theorem fx_set {o : Option V} {i : Nat} (r : ∀ i v, c.fix i = some v → σ[i]? = some (some v)) (hi : c.fix i = none) : ∀ j v, c.fix j = some v → (σ.set i o)[j]? = some (some v) := fun j v e => by
  have ne : i ≠ j := fun z => by
    rw [z, e] at hi
    cases hi
  rw [List.getElem?_set_ne ne]
  exact r j v e
theorem RR.set_im [Free W] {v : V} {d : D} {i : Nat} (r : RR K cm W c st S fp σ H) (h : Rep K cm S v d) (hi : c.fix i = none) : ∃ fp', RR K cm W c (st.set i (some (.im d))) S fp' (σ.set i (some v)) H := by
  obtain ⟨fp', a, b⟩ := r.rx.set_im h i
  exact ⟨fp', a, r.xt, fun x m => r.fr x (b x m), fx_set r.fx hi⟩
end
/-- a state that goes on from S -/
def On (K : PySem.W.Frag) (cm : CM) (W : WH) (c : Fr) (S : Hp) (st : LS) (σ : Sg) (H : Hp) : Prop := ∃ S' fp, Same S S' ∧ RR K cm W c st S' fp σ H
def Post (K : PySem.W.Frag) (cm : CM) (W : WH) (c : Fr) (D : Ends) (S : Hp) : Out → Prop
  | .bad => False
  | .nx st => ∀ σ H, On K cm W c S st σ H → D.nx σ H
  | .bk st => ∀ σ H, On K cm W c S st σ H → D.bk σ H
  | .ct st => ∀ σ H, On K cm W c S st σ H → D.ct σ H
  | .rt d => ∀ v H S', Same S S' → Xt c.S0 S' c.F H → Rep K cm S' v d → D.rt v H
  | .ex st e => ∀ cls od σ H S' fp, Same S S' → RR K cm W c st S' fp σ H → RepX K cm S' cls od e → W.w cls od σ H
def SX (K : PySem.W.Frag) (cm : CM) (W : WH) (c : Fr) (f : LS → Out) : TS := fun D σ H => ∃ st S fp, RR K cm W c st S fp σ H ∧ Post K cm W c D S (f st)
section
variable {K : PySem.W.Frag} {cm : CM} {W : WH} {c : Fr} {D : Ends} {S S' H H' : Hp} {σ : Sg}
theorem On.mono {st : LS} (h : Same S S') (o : On K cm W c S' st σ H) : On K cm W c S st σ H := let ⟨S2, fp, a, b⟩ := o; ⟨S2, fp, h.trans a, b⟩
theorem Post.mono {o : Out} (h : Same S S') (p : Post K cm W c D S o) : Post K cm W c D S' o := by
  cases o with
  | bad => exact p
  | nx st => exact fun σ H q => p σ H (q.mono h)
  | bk st => exact fun σ H q => p σ H (q.mono h)
  | ct st => exact fun σ H q => p σ H (q.mono h)
  | rt d => exact fun v H S2 a => p v H S2 (h.trans a)
  | ex st e => exact fun cls od σ H S2 fp a => p cls od σ H S2 fp (h.trans a)
theorem RR.on {st : LS} {fp : List Addr} (r : RR K cm W c st S fp σ H) : On K cm W c S st σ H := ⟨S, fp, Same.refl S, r⟩
/-- from an expression to what follows it -/
theorem Post.go {α : Type} {r : R α} {st : LS} {fp : List Addr} {k : α → Out} {P : α → Hp → Hp → Prop} (rr : RR K cm W c st S fp σ H) (p : Post K cm W c D S (r.out st k))
    (h : ∀ a S' H', Xt S S' H H' → Post K cm W c D S' (k a) → P a S' H') : Go K cm W P r S H σ := by
  cases r with
  | bad => exact p
  | ok a => exact fun H' S' x => h a S' H' x (Post.mono x.ss p)
  | ex e => exact fun cls od H' S' x q => p cls od σ H' S' fp x.ss (rr.ext x) q
end
section
variable {X : Cx} {cm : CM} {W : WH} {c : Fr} {pos : Pos} {s : Stmt} {rest : List Stmt} {F G : LS → Out} {f : LS → R D} {e : Expr}
def nilS : LS → Out := fun st => .nx st
def seqS (F G : LS → Out) : LS → Out := fun st => (F st).seq G
theorem s_nil : PSs X [] (SX X.K cm W c nilS) := pss_nil.imp fun D σ H ⟨st, S, fp, r, p⟩ => p σ H r.on
theorem s_cons (h1 : PS X s (SX X.K cm W c F)) (h2 : PSs X rest (SX X.K cm W c G)) : PSs X (s :: rest) (SX X.K cm W c (seqS F G)) := (pss_cons h1 h2).imp fun D σ H ⟨st, S, fp, r, p⟩ => by
  refine ⟨st, S, fp, r, ?_⟩
  replace p : Post X.K cm W c D S ((F st).seq G) := p
  cases q : F st with
  | bad => rw [q] at p; exact p
  | nx st' =>
    rw [q] at p
    exact fun σ' H' ⟨S', fp', a, b⟩ => ⟨st', S', fp', b, Post.mono a p⟩
  | rt d => rw [q] at p; exact p
  | bk st' => rw [q] at p; exact p
  | ct st' => rw [q] at p; exact p
  | ex st' e => rw [q] at p; exact p
theorem s_one (h1 : PS X s (SX X.K cm W c F)) : PSs X [s] (SX X.K cm W c F) := (pss_one h1)
def retS (f : LS → R D) : LS → Out := fun st => (f st).out st .rt
theorem s_ret (h : PE X e (E X.K cm W f)) : PS X (.Return (some e) pos) (SX X.K cm W c (retS f)) := (ps_ret h).imp fun D σ H ⟨st, S, fp, r, p⟩ =>
  ⟨st, S, fp, r.rx, Post.go r p fun d S' H' x q v hv => q v H' S' (Same.refl S') (r.xt.trans x) hv⟩
def dropS (f : LS → R D) : LS → Out := fun st => (f st).out st fun _ => .nx st
theorem s_expr (h : PE X e (E X.K cm W f)) (hs : swapsWith e none pos.line X.env = pure false := by rfl) : PS X (.Expr e pos) (SX X.K cm W c (dropS f)) := (ps_expr h hs).imp fun D σ H ⟨st, S, fp, r, p⟩ =>
  ⟨st, S, fp, r.rx, Post.go r p fun d S' H' x q v hv => q σ H' (r.ext x).on⟩
def ifS (b : LS → R Bool) (F G : LS → Out) : LS → Out := fun st => (b st).out st fun b => if b = true then F st else G st
theorem s_if {b : LS → R Bool} {t : Expr} {s1 s2 : List Stmt} (hc : PT X t (TB X.K cm W b)) (h1 : PSs X s1 (SX X.K cm W c F)) (h2 : PSs X s2 (SX X.K cm W c G)) : PS X (.If t s1 s2 pos) (SX X.K cm W c (ifS b F G)) := (ps_if hc h1 h2).imp fun D σ H ⟨st, S, fp, r, p⟩ =>
  ⟨st, S, fp, r.rx, Post.go r p fun b S' H' x q => by
    cases b with
    | true => exact ⟨st, S', fp, r.ext x, q⟩
    | false => exact ⟨st, S', fp, r.ext x, q⟩⟩
/-- a statement that is never reached in what is asked -/
def neverS : LS → Out := fun _ => .bad
theorem s_never : PS X s (SX X.K cm W c neverS) := ps_never.imp fun D σ H ⟨st, S, fp, r, p⟩ => p.elim
theorem ss_never {ss : List Stmt} : PSs X ss (SX X.K cm W c neverS) := pss_never.imp fun D σ H ⟨st, S, fp, r, p⟩ => p.elim
/-! ### targets -/
/-- only the slots vs may differ -/
def Keeps (vs : List Nat) (σ σ' : Sg) : Prop := σ'.length = σ.length ∧ ∀ i, i ∉ vs → σ'[i]? = σ[i]?
theorem Keeps.refl (vs : List Nat) (σ : Sg) : Keeps vs σ σ := ⟨rfl, fun _ _ => rfl⟩
theorem Keeps.set (i : Nat) (o : Option V) (σ : Sg) : Keeps [i] σ (σ.set i o) := ⟨by simp, fun j h => by
  rw [List.getElem?_set_ne]
  intro e
  exact h (by simp [e])⟩
theorem Keeps.trans {vs ws : List Nat} {a b d : Sg} (h : Keeps vs a b) (k : Keeps ws b d) : Keeps (vs ++ ws) a d := ⟨k.1.trans h.1, fun i n => (k.2 i fun m => n (List.mem_append_right _ m)).trans (h.2 i fun m => n (List.mem_append_left _ m))⟩
/-- what is stored: a datum -/
def GX (K : PySem.W.Frag) (cm : CM) (vs : List Nat) (g : D → LS → Option LS) : TG := fun v σ H Q => ∃ st S fp d, Rx K cm WF st S fp σ H ∧ Rep K cm S v d ∧ ∃ st', g d st = some st' ∧ ∀ σ' fp', Rx K cm WF st' S fp' σ' H → (∀ a ∈ fp', a ∈ fp) → Keeps vs σ σ' → Q σ' H
def GXs (K : PySem.W.Frag) (cm : CM) (vs : List Nat) (g : List D → LS → Option LS) : TGs := fun xs σ H Q => ∃ st S fp ds, Rx K cm WF st S fp σ H ∧ RepL K cm S xs ds ∧ ∃ st', g ds st = some st' ∧ ∀ σ' fp', Rx K cm WF st' S fp' σ' H → (∀ a ∈ fp', a ∈ fp) → Keeps vs σ σ' → Q σ' H
def gN (i : Nat) : D → LS → Option LS := fun d st => some (st.set i (some (.im d)))
def gsNil : List D → LS → Option LS := fun ds st => match ds with
  | [] => some st
  | _ => none
def gsCons (g : D → LS → Option LS) (h : List D → LS → Option LS) : List D → LS → Option LS := fun ds st => match ds with
  | d :: ds => (g d st).bind fun st' => h ds st'
  | [] => none
def gT (n : Nat) (g : List D → LS → Option LS) : D → LS → Option LS := fun d st => match d with
  | .tup ds => if ds.length = n then g ds st else none
  | _ => none
theorem g_name {i : Nat} {x : Str} (hN : X.N.Nodup) (hi : X.N[i]? = some x) (hx : Loc X.env.scope x) (hf : X.fn x = true ∨ X.env.scope.names.lookup x = some .local := by first | exact .inl rfl | exact .inr rfl | assumption) : PG X (.Name x pos) (GX X.K cm [i] (gN i)) :=
  (pg_name hN hi hx hf).imp fun v σ H Q ⟨st, S, fp, d, r, hv, st', e, k⟩ => by
    cases e
    obtain ⟨fp', r', b⟩ := r.set_im hv i
    exact k _ fp' r' b (Keeps.set i _ σ)
theorem gs_nil : PGs X [] (GXs X.K cm [] gsNil) := ⟨fun pins s σ H vs us Q I r ⟨st, S, fp, ds, rr, hv, st', e, k⟩ => by
  cases hv with
  | nil =>
    cases e
    exact pgs_nil.run pins s σ H [] us Q I r ⟨rfl, k σ fp rr (fun a m => m) (Keeps.refl _ σ)⟩
  | cons _ _ => cases e⟩
theorem gs_cons {e : Expr} {es : List Expr} {vs ws : List Nat} {g : D → LS → Option LS} {h : List D → LS → Option LS} (h1 : PG X e (GX X.K cm vs g)) (h2 : PGs X es (GXs X.K cm ws h))
    (hs : (assignEach (e :: es) X.env).map (·.2) = assign e X.env :: (assignEach es X.env).map (·.2) := by rfl) : PGs X (e :: es) (GXs X.K cm (vs ++ ws) (gsCons g h)) :=
  ⟨fun pins s σ H xs us Q I r ⟨st, S, fp, ds, rr, hv, st', e, k⟩ => by
    cases hv with
    | nil => cases e
    | @cons v xs d ds hd hs' =>
      replace e : ((g d st).bind fun st' => h ds st') = some st' := e
      cases q : g d st with
      | none => rw [q] at e; cases e
      | some st1 =>
        rw [q] at e
        refine (pgs_cons h1 h2 hs).run pins s σ H (v :: xs) us Q I r ⟨v, xs, rfl, st, S, fp, d, rr, hd, st1, q, fun σ1 fp1 r1 b1 k1 => ?_⟩
        exact ⟨st1, S, fp1, ds, r1, hs', st', e, fun σ2 fp2 r2 b2 k2 => k σ2 fp2 r2 (fun a m => b1 a (b2 a m)) (k1.trans k2)⟩⟩
theorem g_tup {es : List Expr} {k : Nat} {vs : List Nat} {g : List D → LS → Option LS} {n : Nat} (hc : X.calm = true) (h : PGs X es (GXs X.K cm vs g))
    (hn : (assignEach es X.env).length = n := by rfl) (hst : (assignEach es X.env).findIdx? (·.1) = none := by rfl) : PG X (.Tuple es k pos) (GX X.K cm vs (gT n g)) :=
  (pg_tup hc h hn hst).imp fun v σ H Q ⟨st, S, fp, d, r, hv, st', e, kk⟩ => by
    cases d <;> try (cases e; done)
    case tup ds =>
      cases hv with
      | @tup a xs _ h1 h2 =>
        replace e : (if ds.length = n then g ds st else none) = some st' := e
        split at e
        · rename_i q
          exact ⟨a, xs, rfl, same_sqT r.sh h1, h2.length.trans q, st, S, fp, ds, r, h2, st', e, kk⟩
        · cases e
def Out.of : Option LS → Out
  | some st => .nx st
  | none => .bad
theorem fx_keeps {c : Fr} {vs : List Nat} {σ σ' : Sg} (r : ∀ i v, c.fix i = some v → σ[i]? = some (some v)) (k : Keeps vs σ σ') (hx : ∀ i ∈ vs, c.fix i = none) : ∀ i v, c.fix i = some v → σ'[i]? = some (some v) := fun i v e => by
  have ni : i ∉ vs := fun m => by
    rw [hx i m] at e
    cases e
  rw [k.2 i ni]
  exact r i v e
def asgS (f : LS → R D) (g : D → LS → Option LS) : LS → Out := fun st => (f st).out st fun d => .of (g d st)
def setS (i : Nat) (f : LS → R D) : LS → Out := fun st => (f st).out st fun d => .nx (st.set i (some (.im d)))
theorem s_set [Free W] {i : Nat} {x : Str} {pos' : Pos} (hN : X.N.Nodup) (hi : X.N[i]? = some x) (hx : Loc X.env.scope x) (he : PE X e (E X.K cm W f)) (hs : swapsWith e (some (.Name x pos')) pos.line X.env = pure false := by rfl) (hf : X.fn x = true ∨ X.env.scope.names.lookup x = some .local := by first | exact .inl rfl | exact .inr rfl | assumption) (hfx : c.fix i = none := by rfl) :
    PS X (.Assign [.Name x pos'] e pos) (SX X.K cm W c (setS i f)) := (ps_set hN hi hx he hs hf).imp fun D σ H ⟨st, S, fp, r, p⟩ =>
  ⟨st, S, fp, r.rx, Post.go r p fun d S' H' x q v hv => by
    obtain ⟨fp', r'⟩ := (r.ext x).set_im hv hfx
    exact q _ H' r'.on⟩
/-- a fresh object at a name: the name alone holds it -/
def setF (i : Nat) (f : LS → R T) : LS → Out := fun st => (f st).out st fun t => .nx (st.set i (some t))
theorem s_setF [Free W] {i : Nat} {x : Str} {pos' : Pos} {f : LS → R T} (hN : X.N.Nodup) (hi : X.N[i]? = some x) (hx : Loc X.env.scope x) (he : PE X e (EF X.K cm W f)) (hs : swapsWith e (some (.Name x pos')) pos.line X.env = pure false := by rfl) (hf : X.fn x = true ∨ X.env.scope.names.lookup x = some .local := by first | exact .inl rfl | exact .inr rfl | assumption) (hfx : c.fix i = none := by rfl) :
    PS X (.Assign [.Name x pos'] e pos) (SX X.K cm W c (setF i f)) := (ps_set hN hi hx he hs hf).imp fun D σ H ⟨st, S, fp, r, p⟩ =>
  ⟨st, S, fp, r.rx, Post.go r p fun t S' H' x q v fn hv nd fo => by
    have r2 := r.ext x
    obtain ⟨fp', a, b⟩ := r2.rx.set_ow hv nd (fun a m1 m2 => r.rx.sls.there a m2 (fo a m1).1) (fun a m => (fo a m).2) i
    refine q _ H' (RR.on ⟨a, r2.xt, fun y m => ?_, fx_set r2.fx hfx⟩)
    rcases b y m with m | m
    · exact r2.fr y m
    · exact r.xt.hh.free (fo y m).1⟩
/-- name op= e -/
def augS (i : Nat) (op : D → D → Option D) (f : LS → R D) : LS → Out := fun st => (vi i st).out st fun x => (f st).out st fun y => (R.of (op x y)).out st fun z => .nx (st.set i (some (.im z)))
theorem s_aug [Free W] {i : Nat} {x : Str} {op : Operator} {ti : TIp} {o : D → D → Option D} {pos' : Pos} (ho : PIp X op ti) (od : Op2 X.K cm ti o) (hN : X.N.Nodup) (hi : X.N[i]? = some x) (hx : Loc X.env.scope x) (he : PE X e (E X.K cm W f)) (hf : X.fn x = true ∨ X.env.scope.names.lookup x = some .local := by first | exact .inl rfl | exact .inr rfl | assumption) (hfx : c.fix i = none := by rfl) :
    PS X (.AugAssign (.Name x pos') op e pos) (SX X.K cm W c (augS i o f)) := (ps_aug hN hi hx he ho hf).imp fun D σ H ⟨st, S, fp, r, p⟩ => by
  replace p : Post X.K cm W c D S ((vi i st).out st fun x => (f st).out st fun y => (R.of (o x y)).out st fun z => .nx (st.set i (some (.im z)))) := p
  cases q : vi i st with
  | bad => rw [q] at p; exact p.elim
  | ex e => unfold vi R.of at q; split at q <;> cases q
  | ok d =>
    rw [q] at p
    have q2 : st[i]? = some (some (.im d)) := by
      unfold vi at q
      cases q3 : imD st[i]? with
      | none => rw [q3] at q; cases q
      | some d' =>
        rw [q3] at q
        cases q
        unfold imD at q3
        split at q3
        · cases q3; assumption
        · cases q3
    obtain ⟨v, a, b⟩ := r.rx.imm q2
    refine ⟨v, a, st, S, fp, r.rx, Post.go r p fun y S' H' x k u hu => ?_⟩
    cases q4 : o d y with
    | none => rw [q4] at k; exact k.elim
    | some z =>
      rw [q4] at k
      refine od S' H' v u d y z _ x.sh (.inl (b.mono x.ss)) (.inl hu) q4 fun H2 S2 x2 w hw => ?_
      obtain ⟨fp', r'⟩ := ((r.ext x).ext x2).set_im hw hfx
      exact k _ H2 (r'.on.mono x2.ss)
end
end DI
end
section
set_option Elab.async false
set_option linter.all false
set_option maxRecDepth 100000
set_option maxHeartbeats 2000000
/-! DI: loops and comprehensions. -/
namespace DI
open PySem PySem.Spec PyProof.Rows L2
/-- J walks the items, as long as B stands -/
def Wk (K : PySem.W.Frag) (cm : CM) (J : It) (S B : Hp) (items : List D) : Prop := ∀ i S' H, Same S S' → Same S' H → Same B H →
  (∀ d, items[i]? = some d → J.go i H ∧ ∀ x H', J.yld i H x H' → ∃ S2, Xt S' S2 H H' ∧ Rep K cm S2 x d) ∧ (items.length = i → J.stop i H)
/-- what is walked: data that stand for good; .. that stand just now -/
def IE (K : PySem.W.Frag) (cm : CM) (W : WH) (f : LS → R (List D)) : TI := fun σ H R => ∃ st S fp, Rx K cm W st S fp σ H ∧ Go K cm W (fun items S' H' => ∀ J, Wk K cm J S' S' items → R J H') (f st) S H σ
def IV (K : PySem.W.Frag) (cm : CM) (W : WH) (f : LS → R (List D)) : TI := fun σ H R => ∃ st S fp, Rx K cm W st S fp σ H ∧ Go K cm W (fun items S' H' => ∀ J, Wk K cm J S' H' items → R J H') (f st) S H σ
section
variable {X : Cx} {cm : CM} {W : WH} {c : Fr} {pos p : Pos} {tg e : Expr} {f : LS → R D} {fi : LS → R (List D)}
theorem Wk.mono {K : PySem.W.Frag} {J : It} {S B B' : Hp} {its : List D} (w : Wk K cm J S B its) (h : Same B B') : Wk K cm J S B' its := fun i S' H a b d => w i S' H a b (h.trans d)
theorem i_v (h : PI X tg e (IE X.K cm W fi)) : PI X tg e (IV X.K cm W fi) := h.imp fun σ H R ⟨st, S, fp, r, g⟩ => ⟨st, S, fp, r, g.mono fun its S' H' x k J w => k J (w.mono x.sh)⟩
/-! ### sources -/
def itemsD : D → Option (List D)
  | .lst ds => some ds
  | .tup ds => some ds
  | .scr ds => some ds
  | _ => none
def items (f : LS → R D) : LS → R (List D) := fun st => (f st).bind fun d => .of (itemsD d)
theorem wk_list {K : PySem.W.Frag} {S B : Hp} {a : Addr} {xs : List V} {ds : List D} (h : ∀ H, Same B H → SqL K H a xs) (r : RepL K cm S xs ds) : Wk K cm (Itl K a) S B ds := fun i S' H s1 s2 s3 => by
  refine ⟨fun d e => ?_, fun l => ⟨xs, h H s3, by rw [r.length]; exact Nat.le_of_eq l⟩⟩
  obtain ⟨v, e1, r1⟩ := r.get e
  refine ⟨⟨xs, v, h H s3, e1⟩, fun x H' ⟨e2, q⟩ => ?_⟩
  subst e2
  have := q xs (h _ s3)
  rw [e1] at this
  cases this
  exact ⟨S', Xt.refl s2, r1.mono s1⟩
theorem wk_tup {K : PySem.W.Frag} {S B : Hp} {a : Addr} {xs : List V} {ds : List D} (h : ∀ H, Same B H → SqT K H a xs) (r : RepL K cm S xs ds) : Wk K cm (Itt K a) S B ds := fun i S' H s1 s2 s3 => by
  refine ⟨fun d e => ?_, fun l => ⟨xs, h H s3, by rw [r.length]; exact Nat.le_of_eq l⟩⟩
  obtain ⟨v, e1, r1⟩ := r.get e
  refine ⟨⟨xs, v, h H s3, e1⟩, fun x H' ⟨e2, q⟩ => ?_⟩
  subst e2
  have := q xs (h _ s3)
  rw [e1] at this
  cases this
  exact ⟨S', Xt.refl s2, r1.mono s1⟩
/-- one of two readings -/
theorem pi_or {w1 w2 : TI} (h1 : PI X tg e w1) (h2 : PI X tg e w2) : PI X tg e (fun σ H R => w1 σ H R ∨ w2 σ H R) := ⟨fun pins s σ H R I h => h.elim (h1.run pins s σ H R I) (h2.run pins s σ H R I)⟩
theorem i_e (h : PE X e (E X.K cm W f)) : PI X tg e (IE X.K cm W (items f)) := (pi_or (pi_list h) (pi_tup h)).imp fun σ H R ⟨st, S, fp, r, g⟩ => by
  replace g : Go X.K cm W (fun items S' H' => ∀ J, Wk X.K cm J S' S' items → R J H') ((f st).bind fun d => .of (itemsD d)) S H σ := g
  cases q : f st with
  | bad => rw [q] at g; exact g.elim
  | ex x => rw [q] at g; exact .inl ⟨st, S, fp, r, by rw [q]; exact g⟩
  | ok d =>
    rw [q] at g
    cases d <;> try (exact g.elim)
    case lst ds =>
      refine .inl ⟨st, S, fp, r, ?_⟩
      rw [q]
      intro H1 S1 x1 v hv
      cases hv with
      | @lst a xs _ h1 h2 => exact ⟨a, rfl, ⟨xs, SqL.of (x1.sh _ _ h1)⟩, g H1 S1 x1 _ (wk_list (fun H s => SqL.of (s _ _ h1)) h2)⟩
    case scr ds =>
      refine .inl ⟨st, S, fp, r, ?_⟩
      rw [q]
      intro H1 S1 x1 v hv
      cases hv with
      | @scr a xs _ h1 h2 => exact ⟨a, rfl, ⟨xs, same_sqL x1.sh h1⟩, g H1 S1 x1 _ (wk_list (fun H s => same_sqL s h1) h2)⟩
    case tup ds =>
      refine .inr ⟨st, S, fp, r, ?_⟩
      rw [q]
      intro H1 S1 x1 v hv
      cases hv with
      | @tup a xs _ h1 h2 => exact ⟨a, rfl, ⟨xs, same_sqT x1.sh h1⟩, g H1 S1 x1 _ (wk_tup (fun H s => same_sqT s h1) h2)⟩
theorem i_view (h : PE X e (VE X.K cm W f)) : PI X tg e (IV X.K cm W (items f)) := (pi_or (pi_list h) (pi_tup h)).imp fun σ H R ⟨st, S, fp, r, g⟩ => by
  replace g : Go X.K cm W (fun items S' H' => ∀ J, Wk X.K cm J S' H' items → R J H') ((f st).bind fun d => .of (itemsD d)) S H σ := g
  cases q : f st with
  | bad => rw [q] at g; exact g.elim
  | ex x => rw [q] at g; exact .inl ⟨st, S, fp, r, by rw [q]; exact g⟩
  | ok d =>
    rw [q] at g
    cases d <;> try (exact g.elim)
    case lst ds =>
      refine .inl ⟨st, S, fp, r, ?_⟩
      rw [q]
      intro H1 S1 x1 v hv
      obtain ⟨a, xs, rfl, h1, h2⟩ := hv.lst x1.sh
      exact ⟨a, rfl, ⟨xs, SqL.of h1⟩, g H1 S1 x1 _ (wk_list (fun H s => SqL.of (s _ _ h1)) h2)⟩
    case scr ds =>
      refine .inl ⟨st, S, fp, r, ?_⟩
      rw [q]
      intro H1 S1 x1 v hv
      obtain ⟨a, xs, rfl, h1, h2⟩ := hv.scr
      exact ⟨a, rfl, ⟨xs, same_sqL x1.sh h1⟩, g H1 S1 x1 _ (wk_list (fun H s => same_sqL s (same_sqL x1.sh h1)) h2)⟩
    case tup ds =>
      refine .inr ⟨st, S, fp, r, ?_⟩
      rw [q]
      intro H1 S1 x1 v hv
      obtain ⟨a, xs, rfl, h1, h2⟩ := hv.tup
      exact ⟨a, rfl, ⟨xs, same_sqT x1.sh h1⟩, g H1 S1 x1 _ (wk_tup (fun H s => same_sqT s (same_sqT x1.sh h1)) h2)⟩
/-- range(n), range(a, b) -/
def rangeD (lo : Int) (n : Nat) : List D := (List.range n).map fun (i : Nat) => D.int (lo + (i : Int))
theorem rangeD_get {lo : Int} {n i : Nat} {d : D} (h : (rangeD lo n)[i]? = some d) : i < n ∧ d = .int (lo + (i : Int)) := by
  unfold rangeD at h
  rw [List.getElem?_map] at h
  by_cases hi : i < n
  · rw [List.getElem?_range hi] at h
    cases h
    exact ⟨hi, rfl⟩
  · rw [List.getElem?_eq_none (by rw [List.length_range]; omega)] at h
    cases h
theorem rangeD_len {lo : Int} {n : Nat} : (rangeD lo n).length = n := by unfold rangeD; rw [List.length_map, List.length_range]
theorem wk_range {K : PySem.W.Frag} {S B : Hp} {lo : Int} {n : Nat} : Wk K cm (Itr lo n) S B (rangeD lo n) := fun i S' H s1 s2 s3 => by
  refine ⟨fun d e => ?_, fun l => by rw [rangeD_len] at l; exact Nat.le_of_eq l⟩
  obtain ⟨hi, rfl⟩ := rangeD_get e
  exact ⟨hi, fun x H' ⟨e1, e2⟩ => ⟨S', by rw [e1]; exact Xt.refl s2, by rw [e2]; exact .int _⟩⟩
def rng1 : List D → Option (List D)
  | [.int j] => if -(2 ^ 62) ≤ j ∧ j < 2 ^ 62 then some (rangeD 0 j.toNat) else none
  | _ => none
def rng2 : List D → Option (List D)
  | [.int i, .int j] => if -(2 ^ 62) ≤ i ∧ i < 2 ^ 62 ∧ -(2 ^ 62) ≤ j ∧ j < 2 ^ 62 then some (rangeD i (j - i).toNat) else none
  | _ => none
def callI (op : List D → Option (List D)) (r : LS → R (List D)) : LS → R (List D) := fun st => (r st).bind fun ds => .of (op ds)
theorem rep1 {K : PySem.W.Frag} {S : Hp} {vs : List V} {d : D} (h : RepL K cm S vs [d]) : ∃ v, vs = [v] ∧ Rep K cm S v d := by
  cases h with
  | cons a b => cases b; exact ⟨_, rfl, a⟩
theorem rep2 {K : PySem.W.Frag} {S : Hp} {vs : List V} {d e : D} (h : RepL K cm S vs [d, e]) : ∃ v u, vs = [v, u] ∧ Rep K cm S v d ∧ Rep K cm S u e := by
  cases h with
  | cons a b =>
    obtain ⟨u, rfl, r⟩ := rep1 b
    exact ⟨_, u, rfl, a, r⟩
theorem i_range1 {a : Expr} {args : LS → R (List D)} (hm : X.mg "range" = none) (ha : PA X [a] (EA X.K cm W args)) (hg : Gl X "range" := by rfl) (hs : starEach [a] X.env = [(false, eval a X.env)] := by rfl) : PI X tg (.Call (.Name "range" p) [a] [] pos) (IE X.K cm W (callI rng1 args)) :=
  (pi_range1 hg hm ha hs).imp fun σ H R ⟨st, S, fp, r, g⟩ => ⟨st, S, fp, r, g.bind.mono fun ds S1 H1 x1 k1 vs hv => by
    obtain ⟨its, hi, k2⟩ := k1.of
    unfold rng1 at hi
    split at hi
    · rename_i j
      split at hi
      · cases hi
        rename_i q
        obtain ⟨v, rfl, h1⟩ := rep1 hv
        cases h1
        exact ⟨j, rfl, q.1, q.2, k2 H1 S1 (Xt.refl x1.sh) _ wk_range⟩
      · cases hi
    · cases hi⟩
theorem i_range2 {a b : Expr} {args : LS → R (List D)} (hm : X.mg "range" = none) (ha : PA X [a, b] (EA X.K cm W args)) (hg : Gl X "range" := by rfl) (hs : starEach [a, b] X.env = [(false, eval a X.env), (false, eval b X.env)] := by rfl) (hs2 : starEach [b] X.env = [(false, eval b X.env)] := by rfl) :
    PI X tg (.Call (.Name "range" p) [a, b] [] pos) (IE X.K cm W (callI rng2 args)) :=
  (pi_range2 hg hm ha hs hs2).imp fun σ H R ⟨st, S, fp, r, g⟩ => ⟨st, S, fp, r, g.bind.mono fun ds S1 H1 x1 k1 vs hv => by
    obtain ⟨its, hi, k2⟩ := k1.of
    unfold rng2 at hi
    split at hi
    · rename_i i j
      split at hi
      · cases hi
        rename_i q
        obtain ⟨v, u, rfl, h1, h2⟩ := rep2 hv
        cases h1
        cases h2
        exact ⟨i, j, rfl, q, k2 H1 S1 (Xt.refl x1.sh) _ wk_range⟩
      · cases hi
    · cases hi⟩
/-! ### for -/
def forL (g : D → LS → Option LS) (F : LS → Out) : List D → LS → Out
  | [], st => .nx st
  | d :: ds, st => match g d st with
    | none => .bad
    | some st1 => match F st1 with
      | .nx st2 => forL g F ds st2
      | .ct st2 => forL g F ds st2
      | .bk st2 => .nx st2
      | o => o
def forS (fi : LS → R (List D)) (g : D → LS → Option LS) (F : LS → Out) : LS → Out := fun st => (fi st).out st fun ds => forL g F ds st
variable {F : LS → Out} {g : D → LS → Option LS} {vs : List Nat} {body : List Stmt}
theorem drop_get {α : Type} {l : List α} {i : Nat} {x : α} (h : l[i]? = some x) : l.drop i = x :: l.drop (i + 1) := by
  obtain ⟨h1, h2⟩ := List.getElem?_eq_some_iff.mp h
  rw [List.drop_eq_getElem_cons h1, h2]
theorem s_for [Free W] (hi : PI X tg e (IE X.K cm W fi)) (hg : PG X tg (GX X.K cm vs g)) (hb : PSs X body (SX X.K cm W c F)) (hc : X.calm = true := by rfl) (hp : PassesOwn (model X.prog X.w) X.A X.env X.xe := by first | exact PassesOwn.never | exact PassesOwn.leaving | assumption)
    (hs : ∀ x, foldedSetIterable e X.env x = pure x := by intro _; rfl) (hx : ∀ i ∈ vs, c.fix i = none := by simp) : PS X (.For tg e body [] pos) (SX X.K cm W c (forS fi g F)) := (ps_for hp hc hi hg hb hs).imp fun D σ H ⟨st, S, fp, r, p⟩ =>
  ⟨st, S, fp, r.rx, Post.go r p fun ds S1 H1 x1 q J w => by
    refine ⟨fun i m σ H => m = ds.length - i ∧ i ≤ ds.length ∧ ∃ st S' fp, Same S1 S' ∧ RR X.K cm W c st S' fp σ H ∧ Post X.K cm W c D S1 (forL g F (ds.drop i) st), ⟨_, rfl, Nat.zero_le _, st, S1, fp, Same.refl S1, r.ext x1, by rw [List.drop_zero]; exact q⟩, ?_⟩
    rintro i m σ2 H2 ⟨rfl, hi, st2, S2, fp2, s2, r2, q2⟩
    obtain ⟨w1, w2⟩ := w i S2 H2 s2 r2.rx.sh (s2.trans r2.rx.sh)
    cases q3 : ds[i]? with
    | none =>
      have hl : ds.length ≤ i := List.getElem?_eq_none_iff.mp q3
      rw [List.drop_eq_nil_of_le hl] at q2
      exact .inl ⟨w2 (Nat.le_antisymm hl hi), q2 σ2 H2 ⟨S2, fp2, s2, r2⟩⟩
    | some d =>
      have hl : i < ds.length := (List.getElem?_eq_some_iff.mp q3).1
      obtain ⟨go, y⟩ := w1 d q3
      rw [drop_get q3] at q2
      refine .inr ⟨go, fun σ H => ∃ st S' fp, Same S1 S' ∧ RR X.K cm W c st S' fp σ H ∧ Post X.K cm W c D S1 (forL g F (ds.drop (i + 1)) st), fun σ' H' n => ⟨ds.length - (i + 1), by omega, rfl, hl, n⟩, fun v H3 hy => ?_⟩
      obtain ⟨S3, x3, hv⟩ := y v H3 hy
      replace q2 : Post X.K cm W c D S1 (match g d st2 with
        | none => .bad
        | some st1 => match F st1 with
          | .nx st2 => forL g F (ds.drop (i + 1)) st2
          | .ct st2 => forL g F (ds.drop (i + 1)) st2
          | .bk st2 => .nx st2
          | o => o) := q2
      cases q4 : g d st2 with
      | none => rw [q4] at q2; exact q2.elim
      | some st4 =>
        rw [q4] at q2
        refine ⟨st2, S3, fp2, d, (r2.rx.ext x3).to, hv, st4, q4, fun σ4 fp4 r4 b4 kp => ⟨st4, S3, fp4, ⟨r4.to, r2.xt.trans x3, fun a m => r2.fr a (b4 a m), fx_keeps r2.fx kp hx⟩, ?_⟩⟩
        have s14 : Same S1 S3 := s2.trans x3.ss
        replace q2 : Post X.K cm W c D S1 (match F st4 with
          | .nx st2 => forL g F (ds.drop (i + 1)) st2
          | .ct st2 => forL g F (ds.drop (i + 1)) st2
          | .bk st2 => .nx st2
          | o => o) := q2
        cases q5 : F st4 with
        | bad => rw [q5] at q2; exact q2
        | nx st5 => rw [q5] at q2; exact fun σ5 H5 ⟨S5, fp5, s5, r5⟩ => ⟨st5, S5, fp5, s14.trans s5, r5, q2⟩
        | ct st5 => rw [q5] at q2; exact fun σ5 H5 ⟨S5, fp5, s5, r5⟩ => ⟨st5, S5, fp5, s14.trans s5, r5, q2⟩
        | bk st5 => rw [q5] at q2; exact fun σ5 H5 o => q2 σ5 H5 (o.mono s14)
        | rt d => rw [q5] at q2; exact fun v H S5 a => q2 v H S5 (s14.trans a)
        | ex st5 e5 => rw [q5] at q2; exact fun cls od σ H S5 fp5 a => q2 cls od σ H S5 fp5 (s14.trans a)⟩
/-! ### while -/
def whileL (b : LS → R Bool) (F : LS → Out) : Nat → LS → Out
  | 0, _ => .bad
  | n + 1, st => (b st).out st fun k => if k = true then (match F st with
      | .nx st2 => whileL b F n st2
      | .ct st2 => whileL b F n st2
      | .bk st2 => .nx st2
      | o => o) else .nx st
def whileS (n : Nat) (b : LS → R Bool) (F : LS → Out) : LS → Out := fun st => whileL b F n st
theorem s_while {t : Expr} {b : LS → R Bool} (n : Nat) (ht : PT X t (TB X.K cm W b)) (hb : PSs X body (SX X.K cm W c F)) (hp : PassesOwn (model X.prog X.w) X.A X.env X.xe := by first | exact PassesOwn.never | exact PassesOwn.leaving | assumption) :
    PS X (.While t body [] pos) (SX X.K cm W c (whileS n b F)) := (ps_while hp ht hb).imp fun D σ H ⟨st, S, fp, r, p⟩ => by
  refine ⟨fun m σ H => ∃ st S' fp, RR X.K cm W c st S' fp σ H ∧ Post X.K cm W c D S' (whileL b F m st), ⟨n, st, S, fp, r, p⟩, ?_⟩
  rintro m σ2 H2 ⟨st2, S2, fp2, r2, q2⟩
  cases m with
  | zero => exact q2.elim
  | succ m =>
    refine ⟨st2, S2, fp2, r2.rx, Post.go r2 q2 fun k S3 H3 x3 q3 => ?_⟩
    cases k with
    | false => exact q3 σ2 H3 (r2.ext x3).on
    | true =>
      refine ⟨fun σ H => ∃ st S' fp, RR X.K cm W c st S' fp σ H ∧ Post X.K cm W c D S' (whileL b F m st), fun σ' H' h => ⟨m, Nat.lt_succ_self m, h⟩, st2, S3, fp2, r2.ext x3, ?_⟩
      replace q3 : Post X.K cm W c D S3 (match F st2 with
        | .nx st2 => whileL b F m st2
        | .ct st2 => whileL b F m st2
        | .bk st2 => .nx st2
        | o => o) := q3
      cases q5 : F st2 with
      | bad => rw [q5] at q3; exact q3
      | nx st5 => rw [q5] at q3; exact fun σ5 H5 ⟨S5, fp5, s5, r5⟩ => ⟨st5, S5, fp5, r5, Post.mono s5 q3⟩
      | ct st5 => rw [q5] at q3; exact fun σ5 H5 ⟨S5, fp5, s5, r5⟩ => ⟨st5, S5, fp5, r5, Post.mono s5 q3⟩
      | bk st5 => rw [q5] at q3; exact q3
      | rt d => rw [q5] at q3; exact q3
      | ex st5 e5 => rw [q5] at q3; exact q3
end
end DI
end
section
set_option Elab.async false
set_option linter.all false
set_option maxRecDepth 100000
set_option maxHeartbeats 2000000
/-! DI: comprehensions. -/
namespace DI
open PySem PySem.Spec PyProof.Rows L2
def R.noex {α : Type} : R α → R α
  | .ex _ => .bad
  | r => r
def wipeS (st : LS) : List Nat → LS
  | [] => st
  | v :: vs => (wipeS st vs).set v none
section
variable {K : PySem.W.Frag} {cm : CM} {S H : Hp} {σ σ' : Sg} {st : LS} {fp : List Addr}
theorem Rx.wipe {W W' : WH} [Free W'] (r : Rx K cm W st S fp σ H) : ∀ vs : List Nat, ∃ fp', Rx K cm W' (wipeS st vs) S fp' (L2.wipe σ vs) H ∧ ∀ a ∈ fp', a ∈ fp
  | [] => ⟨fp, r.to, fun _ m => m⟩
  | v :: vs => by
    obtain ⟨f1, r1, b1⟩ := Rx.wipe (W' := W') r vs
    obtain ⟨f2, r2, b2⟩ := r1.forget (W' := W') (o := none) v
    exact ⟨f2, r2, fun a m => b1 a (b2 a m)⟩
theorem wipe_get : ∀ (vs : List Nat) (i : Nat), (L2.wipe σ vs)[i]? = if i ∈ vs then σ[i]?.map (fun _ => none) else σ[i]?
  | [], i => by simp [L2.wipe]
  | v :: vs, i => by
    unfold L2.wipe
    by_cases h : v = i
    · subst h
      rw [List.getElem?_set]
      simp only [if_true, List.mem_cons, true_or]
      have := wipe_get vs v
      by_cases hl : v < σ.length
      · have hl2 : v < (L2.wipe σ vs).length := by rw [wipe_length]; exact hl
        rw [if_pos hl2, List.getElem?_eq_getElem hl]
        rfl
      · have hl2 : ¬ v < (L2.wipe σ vs).length := by rw [wipe_length]; exact hl
        rw [if_neg hl2, List.getElem?_eq_none (by omega)]
        rfl
    · rw [List.getElem?_set_ne h, wipe_get vs i]
      have : (i ∈ v :: vs) ↔ i ∈ vs := by simp [Ne.symm h]
      simp only [this]
theorem Keeps.wipe {vs : List Nat} (k : Keeps vs σ σ') : L2.wipe σ' vs = L2.wipe σ vs := by
  apply List.ext_getElem?
  intro i
  rw [wipe_get, wipe_get]
  by_cases h : i ∈ vs
  · rw [if_pos h, if_pos h]
    have e := k.1
    by_cases hl : i < σ.length
    · rw [List.getElem?_eq_getElem hl, List.getElem?_eq_getElem (show i < σ'.length by rw [e]; exact hl)]
      rfl
    · rw [List.getElem?_eq_none (show σ.length ≤ i by omega), List.getElem?_eq_none (show σ'.length ≤ i by rw [e]; omega)]
  · rw [if_neg h, if_neg h, k.2 i h]
end
def compL (g : D → LS → Option LS) (t : LS → R Bool) (f : LS → R D) (st : LS) : List D → R (List D)
  | [] => .ok []
  | d :: ds => match g d st with
    | none => .bad
    | some st1 => (t st1).noex.bind fun b => if b = true then (f st1).noex.bind fun y => (compL g t f st ds).bind fun ys => .ok (y :: ys) else compL g t f st ds
def compR (fi : LS → R (List D)) (vs : List Nat) (g : D → LS → Option LS) (t : LS → R Bool) (f : LS → R D) : LS → R (List D) := fun st => (fi st).bind fun ds => if ds.length ≤ sizeLine then compL g t f (wipeS st vs) ds else .bad
def compE (fi : LS → R (List D)) (vs : List Nat) (g : D → LS → Option LS) (t : LS → R Bool) (f : LS → R D) : LS → R D := fun st => (compR fi vs g t f st).bind fun ys => .ok (.lst ys)
def compF (fi : LS → R (List D)) (vs : List Nat) (g : D → LS → Option LS) (t : LS → R Bool) (f : LS → R D) : LS → R T := fun st => (compR fi vs g t f st).bind fun ys => .ok (imT ys)
def yesT : LS → R Bool := fun _ => .ok true
theorem R.noex_ok {α β : Type} {r : R α} {k : α → R β} {z : β} (h : (r.noex.bind k) = .ok z) : ∃ a, r = .ok a ∧ k a = .ok z := by
  cases r with
  | bad => cases h
  | ok a => exact ⟨a, rfl, h⟩
  | ex e => cases h
theorem R.bind_ok {α β : Type} {r : R α} {k : α → R β} {z : β} (h : (r.bind k) = .ok z) : ∃ a, r = .ok a ∧ k a = .ok z := by
  cases r with
  | bad => cases h
  | ok a => exact ⟨a, rfl, h⟩
  | ex e => cases h
theorem compL_ok {g : D → LS → Option LS} {t : LS → R Bool} {f : LS → R D} {st : LS} : ∀ ds : List D, compL g t f st ds = .bad ∨ ∃ zs, compL g t f st ds = .ok zs
  | [] => .inr ⟨[], rfl⟩
  | d :: ds => by
    have ih := compL_ok (g := g) (t := t) (f := f) (st := st) ds
    simp only [compL]
    cases g d st with
    | none => exact .inl rfl
    | some st1 =>
      simp only []
      cases t st1 with
      | bad => exact .inl rfl
      | ex e => exact .inl rfl
      | ok b =>
        simp only [R.noex, R.bind]
        cases b with
        | false => simpa using ih
        | true =>
          simp only [if_true]
          cases f st1 with
          | bad => exact .inl rfl
          | ex e => exact .inl rfl
          | ok y =>
            simp only []
            rcases ih with h | ⟨zs, h⟩
            · rw [h]; exact .inl rfl
            · rw [h]; exact .inr ⟨y :: zs, rfl⟩
section
variable {X : Cx} {cm : CM} {W : WH} {fi : LS → R (List D)} {vs : List Nat} {g : D → LS → Option LS} {t : LS → R Bool} {f : LS → R D}
theorem comp_reads {σ : Sg} {H : Hp} {Q : VK}
    (k : ∃ st S fp, Rx X.K cm W st S fp σ H ∧ Go X.K cm W (fun ys S' H' => ∀ L acc, H L = none → S' L = none → H' L = some (.lst acc) → RepL X.K cm S' acc ys → Q (.ref L) H') (compR fi vs g t f st) S H σ) :
    tLc (IV X.K cm W fi) (GX X.K cm vs g) (TB X.K cm WF t) (E X.K cm WF f) vs σ H Q := by
  obtain ⟨st, S, fp, r, k⟩ := k
  refine ⟨st, S, fp, r, k.bind.mono fun ds S1 H1 x1 q J w L hL => ?_⟩
  replace q : Go X.K cm W (fun ys S' H' => ∀ L acc, H L = none → S' L = none → H' L = some (.lst acc) → RepL X.K cm S' acc ys → Q (.ref L) H') (if ds.length ≤ sizeLine then compL g t f (wipeS st vs) ds else .bad) S1 H1 σ := q
  by_cases hlen : ds.length ≤ sizeLine
  · rw [if_pos hlen] at q
    obtain ⟨fp0, r0, b0⟩ := (r.ext x1).wipe (W' := WF) vs
    have s1L : S1 L = none := x1.sh.free hL
    rcases compL_ok (g := g) (t := t) (f := f) (st := wipeS st vs) ds with qz | ⟨zs, qz⟩
    · rw [qz] at q; exact q.elim
    rw [qz] at q
    refine ⟨fun i m H => m = ds.length - i ∧ i ≤ ds.length ∧ ∃ S' acc ys us, Xt S1 S' H1 H ∧ S' L = none ∧ H L = some (.lst acc) ∧ RepL X.K cm S' acc ys ∧ acc.length ≤ i ∧ compL g t f (wipeS st vs) (ds.drop i) = .ok us ∧ zs = ys ++ us,
      ⟨_, rfl, Nat.zero_le _, S1, [], [], zs, Xt.own x1.sh hL, s1L, upd_same, .nil, Nat.le_refl _, by rw [List.drop_zero]; exact qz, rfl⟩, ?_⟩
    rintro i m H2 ⟨rfl, hi, S2, acc, ys, us, x2, n2, hA, rA, lA, q2, qe⟩
    obtain ⟨w1, w2⟩ := w i S2 H2 x2.ss x2.sh x2.hh
    cases q3 : ds[i]? with
    | none =>
      have hl : ds.length ≤ i := List.getElem?_eq_none_iff.mp q3
      rw [List.drop_eq_nil_of_le hl] at q2
      cases q2
      rw [List.append_nil] at qe
      subst qe
      exact .inl ⟨w2 (Nat.le_antisymm hl hi), q H2 S2 x2 L acc (x1.hh.free hL) n2 hA rA⟩
    | some d =>
      have hl : i < ds.length := (List.getElem?_eq_some_iff.mp q3).1
      obtain ⟨go, y⟩ := w1 d q3
      rw [drop_get q3] at q2
      refine .inr ⟨go, fun H => i + 1 ≤ ds.length ∧ ∃ S' acc ys us, Xt S1 S' H1 H ∧ S' L = none ∧ H L = some (.lst acc) ∧ RepL X.K cm S' acc ys ∧ acc.length ≤ i + 1 ∧ compL g t f (wipeS st vs) (ds.drop (i + 1)) = .ok us ∧ zs = ys ++ us,
        fun H' n => ⟨ds.length - (i + 1), by omega, rfl, n⟩, fun v H3 hy => ?_⟩
      obtain ⟨S3, x3, hv⟩ := y v H3 hy
      replace q2 : (match g d (wipeS st vs) with
        | none => .bad
        | some st1 => (t st1).noex.bind fun b => if b = true then (f st1).noex.bind fun y => (compL g t f (wipeS st vs) (ds.drop (i + 1))).bind fun ys => .ok (y :: ys) else compL g t f (wipeS st vs) (ds.drop (i + 1))) = R.ok us := q2
      cases q4 : g d (wipeS st vs) with
      | none => rw [q4] at q2; cases q2
      | some st4 =>
        rw [q4] at q2
        obtain ⟨b, q5, q6⟩ := R.noex_ok q2
        have x13 := x2.trans x3
        have keepL : ∀ {S' H' : Hp}, Xt S2 S' H2 H' → S' L = none ∧ H' L = some (.lst acc) := fun {S' H'} x => by
          refine ⟨?_, x.hh _ _ hA⟩
          cases q : S' L with
          | none => rfl
          | some o =>
            have z := x.fr L o q n2
            rw [hA] at z
            cases z
        refine ⟨wipeS st vs, S3, fp0, d, r0.ext x13, hv, st4, q4, fun σ4 fp4 r4 b4 k4 => ⟨?_, st4, S3, fp4, r4, ?_⟩⟩
        · have e1 := k4.wipe
          rw [e1]
          apply List.ext_getElem?
          intro j
          rw [wipe_get]
          split
          · rename_i hj
            rw [wipe_get, if_pos hj]
            cases σ[j]? <;> rfl
          · rfl
        · rw [q5]
          intro H5 S5 x5
          cases b with
          | false =>
            obtain ⟨n5, hA5⟩ := keepL (x3.trans x5)
            exact ⟨hl, S5, acc, ys, us, x13.trans x5, n5, hA5, rA.mono (x3.ss.trans x5.ss), by omega, q6, qe⟩
          | true =>
            obtain ⟨u, q7, q8⟩ := R.noex_ok q6
            obtain ⟨us', q9, q10⟩ := R.bind_ok q8
            cases q10
            refine ⟨st4, S5, fp4, r4.ext x5, ?_⟩
            rw [q7]
            intro H6 S6 x6 z hz
            obtain ⟨n6, hA6⟩ := keepL ((x3.trans x5).trans x6)
            refine ⟨acc, hA6, by omega, hl, S6, acc ++ [z], ys ++ [u], us', ?_, n6, upd_same, (rA.mono ((x3.ss.trans x5.ss).trans x6.ss)).append (.cons hz .nil), by rw [List.length_append]; simp; omega, q9, by rw [qe]; simp⟩
            have xx := (x13.trans x5).trans x6
            exact ⟨xx.ss, same_upd2 xx.sh n6, fun b o e => by
              have ne : b ≠ L := fun z => by rw [z, hL] at e; cases e
              rw [upd_ne ne]
              exact xx.hh b o e, xx.fr⟩
  · rw [if_neg hlen] at q
    exact q.elim
variable {elt tg iter : Expr} {ifs : List Expr} {scope : Scope} {own : List (Str × Nat)} {pos spos : Pos} {c : Fr}
abbrev BX (X : Cx) (scope : Scope) (P : Cx → Prop) : Prop := ∀ (s : Shared) (H : Hp) (C : Addr) (cl : List (Str × Addr)) (fp : List Addr), P (X.blk s H scope (compEnvC scope cl C X.env) fp)
theorem ts_nil : PTs X [] (TB X.K cm W yesT) := ⟨fun pins s σ H Q I ⟨st, S, fp, r, k⟩ => pts_nil.run pins s σ H Q I (k.here r.sh)⟩
theorem ts_one {e : Expr} (h : PT X e (TB X.K cm W t)) : PTs X [e] (TB X.K cm W t) := pts_one h
theorem lc_frz {σ : Sg} {H : Hp} {Q : VK} (k : E X.K cm W (compE fi vs g t f) σ H Q) : tLc (IV X.K cm W fi) (GX X.K cm vs g) (TB X.K cm WF t) (E X.K cm WF f) vs σ H Q := by
  obtain ⟨st, S, fp, r, k⟩ := k
  refine comp_reads ⟨st, S, fp, r, ?_⟩
  replace k : Go X.K cm W (fun d S' H' => ∀ v, Rep X.K cm S' v d → Q v H') ((compR fi vs g t f st).bind fun ys => .ok (.lst ys)) S H σ := k
  cases q : compR fi vs g t f st with
  | bad => rw [q] at k; exact k
  | ex e => rw [q] at k; exact k
  | ok ys =>
    rw [q] at k
    intro H1 S1 x1 L acc hL s1 hA rA
    refine k H1 (upd S1 L (.lst acc)) ⟨x1.ss.trans (same_upd s1), fun b o e => ?_, x1.hh, fun b o e n => ?_⟩ _ (.lst upd_same (rA.mono (same_upd s1)))
    · by_cases hb : b = L
      · subst hb; rw [upd_same] at e; cases e; exact hA
      · rw [upd_ne hb] at e; exact x1.sh b o e
    · by_cases hb : b = L
      · subst hb; exact hL
      · rw [upd_ne hb] at e; exact x1.fr b o e n
theorem lc_own {σ : Sg} {H : Hp} {Q : VK} (k : EF X.K cm W (compF fi vs g t f) σ H Q) : tLc (IV X.K cm W fi) (GX X.K cm vs g) (TB X.K cm WF t) (E X.K cm WF f) vs σ H Q := by
  obtain ⟨st, S, fp, r, k⟩ := k
  refine comp_reads ⟨st, S, fp, r, ?_⟩
  replace k : Go X.K cm W (fun t S' H' => ∀ v fn, Own X.K cm S' H' t v fn → fn.Nodup → (∀ a ∈ fn, H a = none ∧ S' a = none) → Q v H') ((compR fi vs g t f st).bind fun ys => .ok (imT ys)) S H σ := k
  cases q : compR fi vs g t f st with
  | bad => rw [q] at k; exact k
  | ex e => rw [q] at k; exact k
  | ok ys =>
    rw [q] at k
    intro H1 S1 x1 L acc hL s1 hA rA
    refine k H1 S1 x1 _ [L] (.lst hA (own_imT rA)) (nodup1 L) fun b m => ?_
    have e : b = L := by simpa using m
    subst e
    exact ⟨hL, s1⟩
theorem e_lc (hi : PI X tg iter (IV X.K cm W fi)) (ok : BlkOk X.N X.env.scope scope own) (hg : BX X scope fun Y => PG Y tg (GX X.K cm (own.map (·.2)) g)) (ht : BX X scope fun Y => PTs Y ifs (TB X.K cm WF t)) (he : BX X scope fun Y => PE Y elt (E X.K cm WF f))
    (hN : X.N.Nodup) (hc : X.calm = true := by rfl) (hs : ∀ x, foldedSetIterable iter X.env x = pure x := by intro _; rfl) : PE X (.ListComp elt [⟨tg, iter, ifs, 0⟩] scope pos) (E X.K cm W (compE fi (own.map (·.2)) g t f)) :=
  (pe_lc hc hN hi ok hg ht he hs).imp fun σ H Q k => lc_frz k
/-- name = [..] -/
theorem s_setLc [Free W] {i : Nat} {y : Str} {py : Pos} (hN : X.N.Nodup) (hy : X.N[i]? = some y) (hyl : X.env.scope.names.lookup y = some .local) (hsw : swapsWith (.ListComp elt [⟨tg, iter, ifs, 0⟩] scope pos) (some (.Name y py)) spos.line X.env = pure true)
    (hi : PI X tg iter (IV X.K cm W fi)) (ok : BlkOk X.N X.env.scope scope own) (hg : BX X scope fun Y => PG Y tg (GX X.K cm (own.map (·.2)) g)) (ht : BX X scope fun Y => PTs Y ifs (TB X.K cm WF t)) (he : BX X scope fun Y => PE Y elt (E X.K cm WF f))
    (hc : X.calm = true := by rfl) (hs : ∀ x, foldedSetIterable iter X.env x = pure x := by intro _; rfl) (hfx : c.fix i = none := by rfl) : PS X (.Assign [.Name y py] (.ListComp elt [⟨tg, iter, ifs, 0⟩] scope pos) spos) (SX X.K cm W c (setS i (compE fi (own.map (·.2)) g t f))) :=
  (ps_setLc hc hN hy hyl hsw hi ok hg ht he hs).imp fun D σ H ⟨st, S, fp, r, p⟩ => lc_frz ⟨st, S, fp, r.rx, Post.go r p fun d S' H' x q v hv => by
    obtain ⟨fp', r'⟩ := (r.ext x).set_im hv hfx
    exact q _ H' r'.on⟩
theorem s_setLcF [Free W] {i : Nat} {y : Str} {py : Pos} (hN : X.N.Nodup) (hy : X.N[i]? = some y) (hyl : X.env.scope.names.lookup y = some .local) (hsw : swapsWith (.ListComp elt [⟨tg, iter, ifs, 0⟩] scope pos) (some (.Name y py)) spos.line X.env = pure true)
    (hi : PI X tg iter (IV X.K cm W fi)) (ok : BlkOk X.N X.env.scope scope own) (hg : BX X scope fun Y => PG Y tg (GX X.K cm (own.map (·.2)) g)) (ht : BX X scope fun Y => PTs Y ifs (TB X.K cm WF t)) (he : BX X scope fun Y => PE Y elt (E X.K cm WF f))
    (hc : X.calm = true := by rfl) (hs : ∀ x, foldedSetIterable iter X.env x = pure x := by intro _; rfl) (hfx : c.fix i = none := by rfl) : PS X (.Assign [.Name y py] (.ListComp elt [⟨tg, iter, ifs, 0⟩] scope pos) spos) (SX X.K cm W c (setF i (compF fi (own.map (·.2)) g t f))) :=
  (ps_setLc hc hN hy hyl hsw hi ok hg ht he hs).imp fun D σ H ⟨st, S, fp, r, p⟩ => lc_own ⟨st, S, fp, r.rx, Post.go r p fun t S' H' x q v fn hv nd fo => by
    have r2 := r.ext x
    obtain ⟨fp', a, b⟩ := r2.rx.set_ow hv nd (fun a m1 m2 => r.rx.sls.there a m2 (fo a m1).1) (fun a m => (fo a m).2) i
    refine q _ H' (RR.on ⟨a, r2.xt, fun y m => ?_, fx_set r2.fx hfx⟩)
    rcases b y m with m | m
    · exact r2.fr y m
    · exact r.xt.hh.free (fo y m).1⟩
end
end DI
end
section
set_option Elab.async false
set_option linter.all false
set_option maxRecDepth 100000
set_option maxHeartbeats 2000000
/-! DI: what is under construction: changed, frozen. -/
namespace DI
open PySem PySem.Spec PyProof.Rows L2
section
variable {K : PySem.W.Frag} {cm : CM} {S S' H H' : Hp} {σ : Sg} {st : LS} {fp : List Addr} {c : Fr}
/-- one slot apart from the others -/
theorem Sls.split {t : T} : ∀ {σ : Sg} {st : LS} {fp : List Addr} {i : Nat}, Sls K cm S H σ st fp → st[i]? = some (some t) → fp.Nodup →
    ∃ (v : V) (f g : List Addr), σ[i]? = some (some v) ∧ Own K cm S H t v f ∧ f.Nodup ∧ (∀ a ∈ f, a ∈ fp) ∧ (∀ a ∈ g, a ∈ fp) ∧ (∀ a ∈ f, a ∉ g) ∧
      ∀ (S' H' : Hp) (t' : T) (f' : List Addr), Same S S' → (∀ a ∈ g, H' a = H a) → Own K cm S' H' t' v f' → f'.Nodup → (∀ a ∈ f', a ∉ g) → ∃ fp', Sls K cm S' H' σ (st.set i (some t')) fp' ∧ fp'.Nodup ∧ ∀ a ∈ fp', a ∈ g ∨ a ∈ f'
  | _, _, _, i, .nil, e, _ => by simp at e
  | _, _, _, 0, .no h, e, _ => by simp at e
  | _, _, _, i + 1, .no h, e, n => by
    obtain ⟨v, f, g, h1, h2, h3, h4, h5, h6, h7⟩ := Sls.split (i := i) h (by simpa using e) n
    exact ⟨v, f, g, by simpa using h1, h2, h3, h4, h5, h6, fun S' H' t' f' a b d e1 e2 => by
      obtain ⟨fp', x, y, z⟩ := h7 S' H' t' f' a b d e1 e2
      exact ⟨fp', .no x, y, z⟩⟩
  | _, _, _, 0, .yes (f1 := f1) (fp := fp) (σ := σ) (st := st) h hs, e, n => by
    simp at e
    subst e
    obtain ⟨n1, n2, n3⟩ := List.nodup_append.mp n
    refine ⟨_, f1, fp, rfl, h, n1, fun a m => List.mem_append_left _ m, fun a m => List.mem_append_right _ m, fun a m1 m2 => n3 a m1 a m2 rfl, fun S' H' t' f' a b d e1 e2 => ?_⟩
    exact ⟨f' ++ fp, .yes d (hs.mono a b), List.nodup_append.mpr ⟨e1, n2, fun x hx y hy z => e2 x hx (z ▸ hy)⟩, fun x m => (List.mem_append.mp m).elim .inr .inl⟩
  | _, _, _, i + 1, .yes (v := v0) (t := t0) (f1 := f1) (fp := fp) (σ := σ) (st := st) h hs, e, n => by
    obtain ⟨n1, n2, n3⟩ := List.nodup_append.mp n
    obtain ⟨v, f, g, h1, h2, h3, h4, h5, h6, h7⟩ := Sls.split (i := i) hs (by simpa using e) n2
    refine ⟨v, f, f1 ++ g, by simpa using h1, h2, h3, fun a m => List.mem_append_right _ (h4 a m), fun a m => (List.mem_append.mp m).elim (List.mem_append_left _) fun m => List.mem_append_right _ (h5 a m), fun a m1 m2 => ?_, fun S' H' t' f' a b d e1 e2 => ?_⟩
    · rcases List.mem_append.mp m2 with m2 | m2
      · exact n3 a m2 a (h4 a m1) rfl
      · exact h6 a m1 m2
    · obtain ⟨fp', x, y, z⟩ := h7 S' H' t' f' a (fun q m => b q (List.mem_append_right _ m)) d e1 (fun q m1 m2 => e2 q m1 (List.mem_append_right _ m2))
      refine ⟨f1 ++ fp', .yes (h.mono a fun q m => b q (List.mem_append_left _ m)) x, List.nodup_append.mpr ⟨n1, y, fun q hq w hw ew => ?_⟩, fun q m => ?_⟩
      · rcases z w hw with m | m
        · exact n3 q hq w (h5 w m) ew
        · exact e2 w m (List.mem_append_left _ (ew ▸ hq))
      · rcases List.mem_append.mp m with m | m
        · exact .inl (List.mem_append_left _ m)
        · exact (z q m).elim (fun m => .inl (List.mem_append_right _ m)) .inr
/-- the node at a slot is changed -/
theorem RR.mut {t : T} {i : Nat} (r : RR K cm W c st S fp σ H) (h : st[i]? = some (some t)) : ∃ (v : V) (f : List Addr), σ[i]? = some (some v) ∧ Own K cm S H t v f ∧ f.Nodup ∧ (∀ a ∈ f, a ∈ fp) ∧
    ∀ (S' H' H2 : Hp) (t' : T) (f' : List Addr), Xt S S' H H' → (∀ a, a ∉ f → H2 a = H' a) → Own K cm S' H2 t' v f' → f'.Nodup → (∀ a ∈ f', a ∈ f ∨ (H a = none ∧ S' a = none)) → On K cm W c S' (st.set i (some t')) σ H2 := by
  obtain ⟨v, f, g, h1, h2, h3, h4, h5, h6, h7⟩ := r.rx.sls.split h r.rx.nd
  refine ⟨v, f, h1, h2, h3, h4, fun S' H' H2 t' f' x he ho nd hf => ?_⟩
  have r2 := r.ext x
  have th := r.rx.sls.there
  obtain ⟨fp', x1, x2, x3⟩ := h7 S' H2 t' f' x.ss (fun a m => by
    rw [he a fun z => h6 a z m]
    cases q : H a with
    | none => exact absurd q (th a (h5 a m))
    | some o => exact x.hh a o q) ho nd (fun a m1 m2 => by
    rcases hf a m1 with z | z
    · exact h6 a z m2
    · exact th a (h5 a m2) z.1)
  have out : ∀ {a : Addr} {o : HO} {G : Hp}, (∀ b ∈ fp, G b = none) → G a = some o → a ∉ f := fun {a o G} hG e m => by
    rw [hG a (h4 a m)] at e
    cases e
  refine ⟨S', fp', Same.refl S', ⟨⟨fun a o e => ?_, x1, x2, fun a m => ?_, r2.rx.hd⟩, ⟨r2.xt.ss, fun a o e => ?_, fun a o e => ?_, r2.xt.fr⟩, fun a m => ?_, r.fx⟩⟩
  · rw [he a (out r2.rx.out e)]; exact x.sh a o e
  · rcases x3 a m with m | m
    · exact r2.rx.out a (h5 a m)
    · exact (hf a m).elim (fun z => r2.rx.out a (h4 a z)) fun z => z.2
  · rw [he a (out r2.rx.out e)]; exact x.sh a o e
  · rw [he a (out r2.fr e)]; exact r2.xt.hh a o e
  · rcases x3 a m with m | m
    · exact r2.fr a (h5 a m)
    · exact (hf a m).elim (fun z => r2.fr a (h4 a z)) fun z => r.xt.hh.free z.1
/-! ### freezing -/
mutual
def T.toD : T → D
  | .im d => d
  | .lst ts => .lst (T.toDs ts)
  | .ins c ds => .ins c ds
  | .dct ks ts => .dct false ks (T.toDs ts)
  | .nd ks ds => .nd ks ds
def T.toDs : List T → List D
  | [] => []
  | t :: ts => T.toD t :: T.toDs ts
end
mutual
theorem Own.rep (s : Same S S') : ∀ {t : T} {v : V} {f : List Addr}, (∀ a ∈ f, S' a = H a) → Own K cm S H t v f → Rep K cm S' v t.toD
  | _, _, _, k, .im h => by unfold T.toD; exact h.mono s
  | _, _, _, k, .lst h hs => by unfold T.toD; exact .lst ((k _ List.mem_cons_self).trans h) (OwnL.rep s (fun a m => k a (List.mem_cons_of_mem _ m)) hs)
  | _, _, _, k, .ins m h hs => by unfold T.toD; exact .ins m ((k _ List.mem_cons_self).trans h) (hs.mono s)
  | _, _, _, k, .dct h hl hn hs => by unfold T.toD; exact .dct (l := false) ((k _ List.mem_cons_self).trans h) hl hn (OwnL.rep s (fun a m => k a (List.mem_cons_of_mem _ m)) hs)
  | _, _, _, k, .nd h hk he hl hs => by unfold T.toD; exact .nd ((k _ List.mem_cons_self).trans h) (hk.mono s) he hl (hs.mono s)
theorem OwnL.rep (s : Same S S') : ∀ {ts : List T} {vs : List V} {f : List Addr}, (∀ a ∈ f, S' a = H a) → OwnL K cm S H ts vs f → RepL K cm S' vs (T.toDs ts)
  | _, _, _, k, .nil => by unfold T.toDs; exact .nil
  | _, _, _, k, .cons h hs => by unfold T.toDs; exact .cons (Own.rep s (fun a m => k a (List.mem_append_left _ m)) h) (OwnL.rep s (fun a m => k a (List.mem_append_right _ m)) hs)
end
/-- the nodes f stand for good from now on -/
def frzH (S H : Hp) (f : List Addr) : Hp := fun a => if a ∈ f then H a else S a
theorem frzH_in {f : List Addr} {a : Addr} (m : a ∈ f) : frzH S H f a = H a := if_pos m
theorem frzH_out {f : List Addr} {a : Addr} (m : a ∉ f) : frzH S H f a = S a := if_neg m
theorem frzH_same {f : List Addr} (sh : Same S H) : Same S (frzH S H f) := fun a o e => by
  by_cases m : a ∈ f
  · rw [frzH_in m]; exact sh a o e
  · rw [frzH_out m]; exact e
theorem frzH_sub {f : List Addr} (sh : Same S H) : Same (frzH S H f) H := fun a o e => by
  by_cases m : a ∈ f
  · rw [frzH_in m] at e; exact e
  · rw [frzH_out m] at e; exact sh a o e
end
def frz (i : Nat) (st : LS) : LS := match st[i]? with
  | some (some t) => st.set i (some (.im t.toD))
  | _ => st
section
variable {K : PySem.W.Frag} {cm : CM} {S S' H H' : Hp} {σ : Sg} {st : LS} {fp : List Addr} {c : Fr}
theorem RR.frz (r : RR K cm W c st S fp σ H) (i : Nat) : On K cm W c S (frz i st) σ H := by
  unfold DI.frz
  split
  · rename_i t h
    obtain ⟨v, f, g, h1, h2, h3, h4, h5, h6, h7⟩ := r.rx.sls.split h r.rx.nd
    have s1 : Same S (frzH S H f) := frzH_same r.rx.sh
    have hv := h2.rep s1 (fun a m => frzH_in m)
    obtain ⟨fp', x1, x2, x3⟩ := h7 (frzH S H f) H (.im t.toD) [] s1 (fun _ _ => rfl) (.im hv) List.nodup_nil (fun _ m => nomatch m)
    have x4 : ∀ a ∈ fp', a ∈ g := fun a m => (x3 a m).elim id fun z => nomatch z
    refine ⟨frzH S H f, fp', s1, ⟨⟨frzH_sub r.rx.sh, x1, x2, fun a m => ?_, W.mono s1 r.rx.hd⟩, ⟨r.xt.ss.trans s1, frzH_sub r.rx.sh, r.xt.hh, fun a o e n => ?_⟩, fun a m => r.fr a (h5 a (x4 a m)), r.fx⟩⟩
    · rw [frzH_out fun z => h6 a z (x4 a m)]
      exact r.rx.out a (h5 a (x4 a m))
    · by_cases m : a ∈ f
      · exact r.fr a (h4 a m)
      · rw [frzH_out m] at e
        exact r.xt.fr a o e n
  · exact r.on
end
section
variable {X : Cx} {cm : CM} {W : WH} {c : Fr} {pos p1 p2 p3 p4 : Pos} {F : LS → Out} {s : Stmt} {e eo ei : Expr} {x : Str} {i : Nat}
theorem s_frz (i : Nat) (h : PS X s (SX X.K cm W c F)) : PS X s (SX X.K cm W c fun st => F (frz i st)) := h.imp fun D σ H ⟨st, S, fp, r, p⟩ => by
  obtain ⟨S', fp', a, b⟩ := r.frz i
  exact ⟨_, S', fp', b, Post.mono a p⟩
theorem f_e {f : LS → R D} (h : PE X e (E X.K cm W f)) : PE X e (EF X.K cm W fun st => (f st).bind fun d => .ok (.im d)) := h.imp fun σ H Q ⟨st, S, fp, r, k⟩ => ⟨st, S, fp, r, k.bind.mono fun d S1 H1 x1 k1 v hv =>
  k1.here x1.sh v [] (.im hv) List.nodup_nil fun _ m => nomatch m⟩
/-! ### x.append(e) -/
def ownL : Option (Option T) → Option (List T)
  | some (some (.lst ts)) => some ts
  | _ => none
theorem ownL_some {o : Option (Option T)} {ts : List T} (h : ownL o = some ts) : o = some (some (.lst ts)) := by
  unfold ownL at h
  split at h
  · cases h; rfl
  · cases h
def appS (i : Nat) (f : LS → R T) : LS → Out := fun st => match ownL st[i]? with
  | none => .bad
  | some ts => (f st).out st fun t => if ts.length < sizeLine then .nx (st.set i (some (.lst (ts ++ [t])))) else .bad
theorem OwnL.length {K : PySem.W.Frag} {S H : Hp} : ∀ {ts : List T} {vs : List V} {f : List Addr}, OwnL K cm S H ts vs f → vs.length = ts.length
  | _, _, _, .nil => rfl
  | _, _, _, .cons _ hs => by rw [List.length_cons, List.length_cons, OwnL.length hs]
theorem OwnL.snoc {K : PySem.W.Frag} {S H : Hp} {t : T} {v : V} {f2 : List Addr} (o : Own K cm S H t v f2) : ∀ {ts : List T} {vs : List V} {f : List Addr}, OwnL K cm S H ts vs f → OwnL K cm S H (ts ++ [t]) (vs ++ [v]) (f ++ f2)
  | _, _, _, .nil => by
    have := OwnL.cons o OwnL.nil
    rw [List.append_nil] at this
    exact this
  | _, _, _, .cons h hs => by
    rw [List.append_assoc]
    exact .cons h (OwnL.snoc o hs)
theorem own_upd {K : PySem.W.Frag} {S H : Hp} {a : Addr} {o : HO} {t : T} {v : V} {f : List Addr} (n : a ∉ f) (h : Own K cm S H t v f) : Own K cm S (upd H a o) t v f := h.mono (Same.refl S) fun b m => upd_ne fun z => n (z ▸ m)
theorem ownL_upd {K : PySem.W.Frag} {S H : Hp} {a : Addr} {o : HO} {ts : List T} {vs : List V} {f : List Addr} (n : a ∉ f) (h : OwnL K cm S H ts vs f) : OwnL K cm S (upd H a o) ts vs f := h.mono (Same.refl S) fun b m => upd_ne fun z => n (z ▸ m)
theorem Own.ext {K : PySem.W.Frag} {S S' H H' : Hp} {t : T} {v : V} {f : List Addr} (h : Own K cm S H t v f) (x : Xt S S' H H') : Own K cm S' H' t v f := h.mono x.ss fun a m => by
  cases q : H a with
  | none => exact absurd q (h.there a m)
  | some o => exact x.hh a o q
theorem OwnL.ext {K : PySem.W.Frag} {S S' H H' : Hp} {t : List T} {v : List V} {f : List Addr} (h : OwnL K cm S H t v f) (x : Xt S S' H H') : OwnL K cm S' H' t v f := h.mono x.ss fun a m => by
  cases q : H a with
  | none => exact absurd q (h.there a m)
  | some o => exact x.hh a o q
theorem s_app {f : LS → R T} (h : PE X e (tBM X.K "list" rAppend (tVar i) (tCons (EF X.K cm W f) tNil))) (hs : swapsWith e none pos.line X.env = pure false := by rfl) : PS X (.Expr e pos) (SX X.K cm W c (appS i f)) := (ps_expr h hs).imp fun D σ H ⟨st, S, fp, r, p⟩ => by
  replace p : Post X.K cm W c D S (match ownL st[i]? with
    | none => .bad
    | some ts => (f st).out st fun t => if ts.length < sizeLine then .nx (st.set i (some (.lst (ts ++ [t])))) else .bad) := p
  cases q : ownL st[i]? with
  | none => rw [q] at p; exact p.elim
  | some ts =>
    rw [q] at p
    obtain ⟨v, f1, h1, h2, h3, h4, h5⟩ := r.mut (ownL_some q)
    cases h2 with
    | @lst a vs _ f2 ha hts =>
      obtain ⟨n1, n2⟩ := List.nodup_cons.mp h3
      refine ⟨.ref a, h1, .inl ⟨rfl, vs, SqL.of ha⟩, st, S, fp, r.rx, Post.go r p fun t S' H' x q v fn hv nd fo => ?_⟩
      split at q
      · rename_i hl
        have ha' := x.hh _ _ ha
        have afn : a ∉ fn := fun m => by
          rw [(fo a m).1] at ha
          cases ha
        refine ⟨a, vs, v, rfl, rfl, ha', by rw [hts.length]; exact hl, ?_⟩
        have th : ∀ b ∈ f2, H b ≠ none := hts.there
        refine q σ _ (h5 S' H' _ _ _ x (fun b n => upd_ne fun z => n (z ▸ List.mem_cons_self)) (.lst upd_same (OwnL.snoc (own_upd afn hv) (ownL_upd n1 (hts.ext x)))) (List.nodup_cons.mpr ⟨fun m => (List.mem_append.mp m).elim n1 afn, List.nodup_append.mpr ⟨n2, nd, fun b hb d hd z => ?_⟩⟩) fun b m => ?_)
        · subst z
          exact th b hb (fo b hd).1
        · rcases List.mem_cons.mp m with m | m
          · exact .inl (by rw [m]; exact List.mem_cons_self)
          · exact (List.mem_append.mp m).elim (fun m => .inl (List.mem_cons_of_mem _ m)) fun m => .inr (fo b m)
      · exact q.elim
/-! ### x[e] = v -/
/-- one item apart -/
theorem OwnL.split {K : PySem.W.Frag} {S H : Hp} {t : T} : ∀ {ts : List T} {vs : List V} {fp : List Addr} {i : Nat}, OwnL K cm S H ts vs fp → ts[i]? = some t → fp.Nodup →
    ∃ (v : V) (f g : List Addr), vs[i]? = some v ∧ Own K cm S H t v f ∧ f.Nodup ∧ (∀ a ∈ f, a ∈ fp) ∧ (∀ a ∈ g, a ∈ fp) ∧ (∀ a ∈ f, a ∉ g) ∧
      ∀ (S' H' : Hp) (t' : T) (v' : V) (f' : List Addr), Same S S' → (∀ a ∈ g, H' a = H a) → Own K cm S' H' t' v' f' → f'.Nodup → (∀ a ∈ f', a ∉ g) → ∃ fp', OwnL K cm S' H' (ts.set i t') (vs.set i v') fp' ∧ fp'.Nodup ∧ ∀ a ∈ fp', a ∈ g ∨ a ∈ f'
  | _, _, _, i, .nil, e, _ => by simp at e
  | _, _, _, 0, .cons (f1 := f1) (f2 := f2) h hs, e, n => by
    simp at e
    subst e
    obtain ⟨n1, n2, n3⟩ := List.nodup_append.mp n
    refine ⟨_, f1, f2, rfl, h, n1, fun a m => List.mem_append_left _ m, fun a m => List.mem_append_right _ m, fun a m1 m2 => n3 a m1 a m2 rfl, fun S' H' t' v' f' a b d e1 e2 => ?_⟩
    exact ⟨f' ++ f2, .cons d (hs.mono a b), List.nodup_append.mpr ⟨e1, n2, fun x hx y hy z => e2 x hx (z ▸ hy)⟩, fun x m => (List.mem_append.mp m).elim .inr .inl⟩
  | _, _, _, i + 1, .cons (f1 := f1) (f2 := f2) h hs, e, n => by
    obtain ⟨n1, n2, n3⟩ := List.nodup_append.mp n
    obtain ⟨v, f, g, h1, h2, h3, h4, h5, h6, h7⟩ := OwnL.split (i := i) hs (by simpa using e) n2
    refine ⟨v, f, f1 ++ g, by simpa using h1, h2, h3, fun a m => List.mem_append_right _ (h4 a m), fun a m => (List.mem_append.mp m).elim (List.mem_append_left _) fun m => List.mem_append_right _ (h5 a m), fun a m1 m2 => ?_, fun S' H' t' v' f' a b d e1 e2 => ?_⟩
    · rcases List.mem_append.mp m2 with m2 | m2
      · exact n3 a m2 a (h4 a m1) rfl
      · exact h6 a m1 m2
    · obtain ⟨fp', x, y, z⟩ := h7 S' H' t' v' f' a (fun q m => b q (List.mem_append_right _ m)) d e1 (fun q m1 m2 => e2 q m1 (List.mem_append_right _ m2))
      refine ⟨f1 ++ fp', .cons (h.mono a fun q m => b q (List.mem_append_left _ m)) x, List.nodup_append.mpr ⟨n1, y, fun q hq w hw ew => ?_⟩, fun q m => ?_⟩
      · rcases z w hw with m | m
        · exact n3 q hq w (h5 w m) ew
        · exact e2 w m (List.mem_append_left _ (ew ▸ hq))
      · rcases List.mem_append.mp m with m | m
        · exact .inl (List.mem_append_left _ m)
        · exact (z q m).elim (fun m => .inl (List.mem_append_right _ m)) .inr
theorem ixN_lt {n : Nat} {i : Int} {j : Nat} (h : ixN n i = some j) : j < n := (ixN_seq h).2.1
/-- the place that an index names -/
def placeD (n : Nat) (d : D) : Option Nat := (dInt d).bind fun i => ixN n i
def setIS (i : Nat) (f : LS → R T) (g : LS → R D) : LS → Out := fun st => match ownL st[i]? with
  | none => .bad
  | some ts => (f st).out st fun t => (g st).out st fun d => match placeD ts.length d with
    | some j => .nx (st.set i (some (.lst (ts.set j t))))
    | none => .bad
theorem s_setI {f : LS → R T} {g : LS → R D} {tg : Expr} (he : PE X e (EF X.K cm W f)) (hg : PG X tg (gSub (tVar i) (VE X.K cm W g) rSetL)) (hs : swapsWithSole [tg] e pos.line X.env = pure false := by rfl) (hw : swappedStores [tg] e X.env = pure none := by rfl)
    (h1 : (assignEach [tg] X.env).map (·.2) = [assign tg X.env] := by rfl) : PS X (.Assign [tg] e pos) (SX X.K cm W c (setIS i f g)) := (ps_asg he hg hs hw h1).imp fun D σ H ⟨st, S, fp, r, p⟩ => by
  replace p : Post X.K cm W c D S (match ownL st[i]? with
    | none => .bad
    | some ts => (f st).out st fun t => (g st).out st fun d => match placeD ts.length d with
      | some j => .nx (st.set i (some (.lst (ts.set j t))))
      | none => .bad) := p
  cases q : ownL st[i]? with
  | none => rw [q] at p; exact p.elim
  | some ts =>
    rw [q] at p
    obtain ⟨v, f1, h1, h2, h3, h4, h5⟩ := r.mut (ownL_some q)
    cases h2 with
    | @lst a vs _ f2 ha hts =>
      obtain ⟨n1, n2⟩ := List.nodup_cons.mp h3
      refine ⟨st, S, fp, r.rx, Post.go r p fun t S1 H1 x1 q1 v fn hv nd fo => ⟨.ref a, h1, st, S1, fp, r.rx.ext x1, Post.go (r.ext x1) q1 fun d S2 H2 x2 q2 u hu => ?_⟩⟩
      have x := x1.trans x2
      cases q3 : placeD ts.length d with
      | none => rw [q3] at q2; exact q2.elim
      | some j =>
        rw [q3] at q2
        cases d <;> try (cases q3; done)
        case int k =>
          replace q3 : ixN ts.length k = some j := q3
          have afn : a ∉ fn := fun m => by
            rw [(fo a m).1] at ha
            cases ha
          have hj : j < ts.length := ixN_lt q3
          have o2 := hts.ext x
          obtain ⟨w, fw, gw, e1, e2, e3, e4, e5, e6, e7⟩ := o2.split (List.getElem?_eq_getElem hj) n2
          have th : ∀ b ∈ f2, H b ≠ none := hts.there
          obtain ⟨fz, z1, z2, z3⟩ := e7 S2 (upd H2 a (.lst (vs.set j v))) t v fn (Same.refl _) (fun b m => upd_ne fun z => n1 (z ▸ e5 b m)) (own_upd afn (hv.ext x2)) nd (fun b m1 m2 => th b (e5 b m2) (fo b m1).1)
          refine ⟨a, vs, k, j, rfl, hu.int, x.hh _ _ ha, by rw [hts.length]; exact q3, ?_⟩
          refine q2 σ _ (h5 S2 H2 _ _ (a :: fz) x (fun b n => upd_ne fun z => n (z ▸ List.mem_cons_self)) (.lst upd_same z1) (List.nodup_cons.mpr ⟨fun m => ?_, z2⟩) fun b m => ?_)
          · exact (z3 a m).elim (fun m => n1 (e5 a m)) afn
          · rcases List.mem_cons.mp m with m | m
            · exact .inl (by rw [m]; exact List.mem_cons_self)
            · rcases z3 b m with m | m
              · exact .inl (List.mem_cons_of_mem _ (e5 b m))
              · refine .inr ⟨(fo b m).1, ?_⟩
                cases q : S2 b with
                | none => rfl
                | some o =>
                  have := x.fr b o q (r.rx.sh.free (fo b m).1)
                  have z := x2.fr b o q (fo b m).2
                  have y := hv.there b m
                  rw [z] at y
                  exact absurd rfl y
/-! ### x[e] op= v -/
end
end DI
end
section
set_option Elab.async false
set_option linter.all false
set_option maxRecDepth 100000
set_option maxHeartbeats 2000000
/-! DI: defs and their calls. -/
namespace DI
open PySem PySem.Spec PyProof.Rows L2
/-- what a call leaves -/
def Fin (K : PySem.W.Frag) (cm : CM) (S H : Hp) (Q : VK) (E : XK) (r : R D) : Prop :=
  r.Res (fun d => ∀ v H' S', Xt S S' H H' → Rep K cm S' v d → Q v H') fun e => ∀ cls od H' S', Xt S S' H H' → RepX K cm S' cls od e → E cls od H'
/-- THE PROMISE of a def: it hands back what its denotation says; nothing that stood is changed -/
def spD (K : PySem.W.Frag) (cm : CM) (n : Nat) (F : List D → R D) : Sp := fun vs H Q E => vs.length = n ∧ ∃ S ds, Same S H ∧ RepL K cm S vs ds ∧ Fin K cm S H Q E (F ds)
/-- the denotation of a body -/
def Out.end : Out → R D
  | .bad => .bad
  | .nx _ => .ok .non
  | .rt d => .ok d
  | .bk _ => .bad
  | .ct _ => .bad
  | .ex _ e => .ex e
def st0 (n : Nat) (ds : List D) : LS := ds.map (fun d => some (T.im d)) ++ List.replicate (n - ds.length) none
/-- the denotation of a def: m slots in all -/
def den (m : Nat) (F : LS → Out) (ds : List D) : R D := (F (st0 m ds)).end
section
variable {K : PySem.W.Frag} {cm : CM} {S H : Hp}
theorem sls_none : ∀ n : Nat, Sls K cm S H (List.replicate n none) (List.replicate n none) []
  | 0 => .nil
  | n + 1 => by rw [List.replicate_succ, List.replicate_succ]; exact .no (sls_none n)
theorem sls_start (n : Nat) : ∀ {vs : List V} {ds : List D}, RepL K cm S vs ds → Sls K cm S H (vs.map some ++ List.replicate n none) (ds.map (fun d => some (T.im d)) ++ List.replicate n none) []
  | _, _, .nil => sls_none n
  | _, _, .cons h hs => .yes (f1 := []) (.im h) (sls_start n hs)
end
section
variable {P : Program} {w : World} {K : PySem.W.Frag} {mg : Str → Option Value} {base : Heap} {cm : CM} {x qual : Str} {params : Arguments} {body : List Stmt} {scope : Scope} {dvs : List V} {kws : List (Str × V)} {f : Addr} {fd : FuncData} {N ps : List Str} {k : Nat}
/-- a def's body read as a denotation: the def keeps its promise -/
theorem fn_ok {F : LS → Out} (Fd : FunD K x qual params body scope dvs kws f fd) (Sc : FnScope N ps scope)
    (hb : ∀ (cdv : Value) (A : Around) (outer : List Env) (s : Shared) (H : Hp) (E : XK) (S0 F0 : Hp), Room k (A.deeper (envOfC qual scope s.heap.objs.size f cdv)) →
      Takes (cxOf (L2.CX P w) P w K mg base N qual scope f cdv A outer s H E) (fun cls d _ H => E cls d H) →
      PSs (cxOf (L2.CX P w) P w K mg base N qual scope f cdv A outer s H E) body (SX K cm (wt fun cls d _ H => E cls d H) ⟨S0, F0, noFix⟩ F)) :
    FnOk P w K mg base (L2.CX P w) (k + 1) f fd ps (spD K cm ps.length (den N.length F)) := by
  refine Fd.ok Sc (fun vs H Q E h => h.1) fun cdv A outer s H vs Q E hr ⟨hl, S, ds, sh, hv, fin⟩ => ?_
  refine ⟨_, hb cdv A outer s H E S H hr (takes_of rfl rfl rfl rfl), st0 N.length ds, S, [], ⟨⟨sh, ?_, List.nodup_nil, fun _ m => (nomatch m), trivial⟩, Xt.refl sh, fun _ m => (nomatch m), fun _ _ z => (nomatch z)⟩, ?_⟩
  · unfold L2.start st0
    rw [hv.length]
    exact sls_start _ hv
  · replace fin : Fin K cm S H Q E (F (st0 N.length ds)).end := fin
    cases q : F (st0 N.length ds) with
    | bad => rw [q] at fin; exact fin
    | nx st => rw [q] at fin; exact fun σ H' ⟨S', fp, a, r⟩ => fin .non H' S' r.xt .non
    | rt d => rw [q] at fin; exact fun v H' S' a x r => fin v H' S' x r
    | bk st => rw [q] at fin; exact fin.elim
    | ct st => rw [q] at fin; exact fin.elim
    | ex st e => rw [q] at fin; exact fun cls od σ H' S' fp a r x => fin cls od H' S' r.xt x
end
/-! ### f(..) -/
section
variable {X : Cx} {cm : CM} {W : WH} {k n : Nat} {f : Addr} {fd : FuncData} {ps : List Str} {x : Str} {p pos : Pos} {e : Expr} {es : List Expr} {args : LS → R (List D)} {F : List D → R D} {dvs : List V} {dd : List D} {us : List Value}
def callU (F : List D → R D) (dd : List D) (args : LS → R (List D)) : LS → R D := fun st => (args st).bind fun ds => F (ds ++ dd)
theorem call_reads (hd : ∀ S, RepL X.K cm S dvs dd) (hn : ∀ ds, F ds ≠ .bad → ds.length = n) {σ : Sg} {H : Hp} {Q : VK} (k : E X.K cm W (callU F dd args) σ H Q) : tCallSD (spD X.K cm n F) dvs (WE W.w) (EA X.K cm W args) σ H Q := by
  obtain ⟨st, S, fp, r, k⟩ := k
  refine ⟨st, S, fp, r, k.bind.mono fun ds S1 H1 x1 k1 vs hv => ?_⟩
  have hv2 := hv.append (hd S1)
  refine ⟨?_, S1, ds ++ dd, x1.sh, hv2, ?_⟩
  · rw [hv2.length]
    refine hn _ fun e => ?_
    rw [e] at k1
    exact k1.elim
  · exact R.Res.mono k1 (fun d q v H' S' x2 hr => q H' S' x2 v hr) fun e q => q
/-- a denotation that wants so many arguments -/
def ar (n : Nat) (F : List D → R D) : List D → R D := fun ds => if ds.length = n then F ds else .bad
theorem ar_len {F : List D → R D} : ∀ ds, ar n F ds ≠ .bad → ds.length = n := fun ds h => by
  unfold ar at h
  split at h
  · assumption
  · exact absurd rfl h
theorem spD_ar {K : PySem.W.Frag} {vs : List V} {H : Hp} {Q : VK} {E : XK} (h : spD K cm n (ar n F) vs H Q E) : spD K cm n F vs H Q E := by
  obtain ⟨a, S, ds, b, c, d⟩ := h
  refine ⟨a, S, ds, b, c, ?_⟩
  unfold ar at d
  split at d
  · exact d
  · exact d.elim
theorem e_call (G : FnOk X.prog X.w X.K X.mg X.base (L2.CX X.prog X.w) k f fd ps (spD X.K cm n F)) (tk : Takes X W.w) (hr : Room k X.A) (hm : X.mg x = some (.ref f)) (hk : PySem.W.keepIn X.K (.ref f) = true) (hb : Binds X.K fd ps us) (hu : Vals dvs us) (hd : ∀ S, RepL X.K cm S dvs dd)
    (ha : PA X (e :: es) (EA X.K cm W args)) (hg : Gl X x := by rfl) (hdb : (x == ("__debug__" : Str)) = false := by decide) (he : starEach (e :: es) X.env = (false, eval e X.env) :: starEach es X.env := by rfl) (hpl : (backTo pos (starEach es X.env)).any (·.1) = false := by rfl) :
    PE X (.Call (.Name x p) (e :: es) [] pos) (E X.K cm W (callU (ar n F) dd args)) :=
  (pe_callSD (G.imp fun vs H Q E h => spD_ar h) hr hg hm hk hb hu (fun σ => passAt tk σ) ha hdb he hpl).imp fun σ H Q k => call_reads hd ar_len k
end
/-! ### __init__ -/
/-- THE PROMISE of an __init__: the fields of the instance -/
def spI (K : PySem.W.Frag) (cm : CM) (c n : Nat) (F : List D → R (List D)) : Sp := fun vs H Q E => vs.length = n + 1 ∧ ∃ (x dx : Addr) (ws : List V) (S : Hp) (ds : List D), vs = .ref x :: ws ∧ Same S H ∧ S x = none ∧ H x = some (.ins (cm.addr c) dx []) ∧ RepL K cm S ws ds ∧
  (F ds).Res (fun fs => ∀ H' S' us dx', Xt S S' (fun a => if a = x then none else H a) H' → S' x = none → H' x = some (.ins (cm.addr c) dx' ((cm.names c).zip us)) → RepL K cm S' us fs → Q .non H')
    fun e => ∀ cls od H' S', Xt S S' (fun a => if a = x then none else H a) H' → RepX K cm S' cls od e → E cls od H'
/-- slot 0 is the instance -/
def stI (n c : Nat) (ds : List D) : LS := some (T.ins c []) :: (ds.map (fun d => some (T.im d)) ++ List.replicate (n - 1 - ds.length) none)
def Out.endI (c : Nat) : Out → R (List D)
  | .nx st => (match st[0]? with
    | some (some (T.ins c' fs)) => if c' = c then .ok fs else .bad
    | _ => .bad)
  | .ex _ e => .ex e
  | _ => .bad
def denI (m c : Nat) (F : LS → Out) (ds : List D) : R (List D) := (F (stI m c ds)).endI c
section
variable {P : Program} {w : World} {K : PySem.W.Frag} {mg : Str → Option Value} {base : Heap} {cm : CM} {x qual : Str} {params : Arguments} {body : List Stmt} {scope : Scope} {dvs : List V} {kws : List (Str × V)} {f : Addr} {fd : FuncData} {N ps : List Str} {k c n : Nat}
theorem init_ok {F : LS → Out} (hcm : c ∈ cm.cls) (Fd : FunD K x qual params body scope dvs kws f fd) (Sc : FnScope N ps scope) (hn : ps.length = n + 1)
    (hb : ∀ (cdv : Value) (A : Around) (outer : List Env) (s : Shared) (H : Hp) (E : XK) (S0 F0 : Hp) (x : Addr), Room k (A.deeper (envOfC qual scope s.heap.objs.size f cdv)) →
      Takes (cxOf (L2.CX P w) P w K mg base N qual scope f cdv A outer s H E) (fun cls d _ H => E cls d H) →
      PSs (cxOf (L2.CX P w) P w K mg base N qual scope f cdv A outer s H E) body (SX K cm (wt fun cls d _ H => E cls d H) ⟨S0, F0, fix0 x⟩ F)) :
    FnOk P w K mg base (L2.CX P w) (k + 1) f fd ps (spI K cm c n (denI N.length c F)) := by
  refine Fd.ok Sc (fun vs H Q E h => h.1.trans hn.symm) fun cdv A outer s H vs Q E hr ⟨hl, x, dx, ws, S, ds, e, sh, sx, hx, hv, fin⟩ => ?_
  subst e
  refine ⟨_, hb cdv A outer s H E S (fun a => if a = x then none else H a) x hr (takes_of rfl rfl rfl rfl), stI N.length c ds, S, [x], ⟨⟨sh, ?_, nodup1 x, fun a m => ?_, trivial⟩, ⟨Same.refl S, sh, fun a o q => ?_, fun a o q z => ?_⟩, fun a m => ?_, fun i v z => ?_⟩, ?_⟩
  · unfold L2.start stI
    have e1 : N.length - (V.ref x :: ws).length = N.length - 1 - ds.length := by rw [List.length_cons, hv.length]; omega
    rw [e1]
    have hx0 : H x = some (.ins (cm.addr c) dx ((cm.names c).zip [])) := by rw [hx]; simp
    exact Sls.yes (f1 := [x]) (.ins hcm hx0 .nil) (sls_start _ hv)
  · have e : a = x := by simpa using m
    rw [e]; exact sx
  · replace q : (if a = x then none else H a) = some o := q
    by_cases e : a = x
    · rw [if_pos e] at q; cases q
    · rw [if_neg e] at q; exact q
  · replace z : S a = none := z
    rw [z] at q; cases q
  · have e : a = x := by simpa using m
    exact if_pos e
  · replace z : (if i = 0 then some (V.ref x) else none) = some v := z
    split at z
    · rename_i e
      subst e
      cases z
      rfl
    · cases z
  · unfold denI at fin
    cases q : F (stI N.length c ds) with
    | bad => rw [q] at fin; exact fin.elim
    | rt d => rw [q] at fin; exact fin.elim
    | bk st => rw [q] at fin; exact fin.elim
    | ct st => rw [q] at fin; exact fin.elim
    | ex st e => rw [q] at fin; exact fun cls od σ H' S' fp a r x => fin cls od H' S' r.xt x
    | nx st =>
      rw [q] at fin
      intro σ H' ⟨S', fp, a, r⟩
      replace fin : (match st[0]? with
        | some (some (T.ins c' fs)) => if c' = c then R.ok fs else .bad
        | _ => .bad).Res _ _ := fin
      split at fin
      · rename_i c' fs e0
        split at fin
        · rename_i ec
          subst ec
          obtain ⟨v, f1, h1, h2, h3⟩ := r.rx.sls.get e0
          have h4 := r.fx 0 (.ref x) rfl
          rw [h4] at h1
          cases h1
          cases h2 with
          | ins _ h5 h6 => exact fin H' S' _ _ r.xt (r.rx.out x (h3 x List.mem_cons_self)) h5 h6
        · exact fin.elim
      · exact fin.elim
end
/-! ### C(..) -/
section
variable {X : Cx} {cm : CM} {W : WH} {k n c : Nat} {f : Addr} {fd : FuncData} {ps : List Str} {x : Str} {p pos : Pos} {e : Expr} {es : List Expr} {args : LS → R (List D)} {F : List D → R (List D)} {dvs : List V} {dd : List D} {us : List Value}
def makeU (c : Nat) (F : List D → R (List D)) (dd : List D) (args : LS → R (List D)) : LS → R D := fun st => (args st).bind fun ds => (F (ds ++ dd)).bind fun fs => .ok (.ins c fs)
def arI (n : Nat) (F : List D → R (List D)) : List D → R (List D) := fun ds => if ds.length = n then F ds else .bad
/-- C(..): what is raised is wished for at the caller's slots -/
def tMakeS (C : Addr) (sp : Sp) (dvs : List V) (E : Sg → XK) (t : TA) : TE := fun σ H Q => t σ H fun vs H1 => ∀ x dx, H1 x = none → H1 dx = none → dx ≠ x →
  sp (.ref x :: (vs ++ dvs)) (upd (upd H1 dx (.own x)) x (.ins C dx [])) (fun v H2 => v = .non ∧ Q (.ref x) H2) (E σ)
theorem makeS_run {pins : List (Addr × Obj)} {τ : Sg} {G : Hp} {z : Shared} {Q : VK} {as : List Value} {ws : List V} {sp : Sp} {C : Addr} {E : Sg → XK} (M : Mk X.K C f) (Fo : FnOk X.prog X.w X.K X.mg X.base (L2.CX X.prog X.w) k f fd ps sp) (room : Room (k + 1) X.A)
    (bi : Binds X.K fd ps us) (dv : Vals dvs us) (ha : PassesAt (L2.CX X.prog X.w) X τ (E τ)) (J : Inv X pins τ G z) (rel : Vals ws as)
    (ask : ∀ x dx, G x = none → G dx = none → dx ≠ x → sp (.ref x :: (ws ++ dvs)) (upd (upd G dx (.own x)) x (.ins C dx [])) (fun v H2 => v = .non ∧ Q (.ref x) H2) (E τ)) :
    wpAny (model X.prog X.w) X.A (call (.ref C) as) (EP X pins τ Q) X.xe z := by
  have asked := ask (z.heap.objs.size + 1) z.heap.objs.size (J.hok.fresh (Nat.le_succ _)) (J.hok.fresh (Nat.le_refl _)) (Nat.ne_of_lt (Nat.lt_succ_self _))
  have J2 := Inv.made (C := C) J
  have rel2 : Vals (V.ref (z.heap.objs.size + 1) :: (ws ++ dvs)) (Value.ref (z.heap.objs.size + 1) :: (as ++ us)) := .cons rfl (rel.append dv)
  have many : (Value.ref (z.heap.objs.size + 1) :: as ++ us).length = ps.length := (rel2.length.symm.trans (Fo.len _ _ _ _ asked))
  refine wpAny_call (make_map (f := f) J.kIn M.makes M.init (beq_iff_eq.mp M.fn) (codeAny_mono (Fo.run _ X.stack _ _ ⟨Value.ref (z.heap.objs.size + 1) :: as, []⟩ (Value.ref (z.heap.objs.size + 1) :: (as ++ us)) _ _ (E τ) (room.make C as [])
    (J2.env0.make C as []) (bi _ (Value.ref (z.heap.objs.size + 1) :: as) J2.kIn many) rel2 asked) fun out z' got => ?_))
  cases out with
  | error err => exact ha pins _ _ err z' J2 got
  | ok way =>
    cases way <;> try (exact False.elim got)
    obtain ⟨b, G', J3, rb, eb, goal⟩ := J2.after got
    subst eb
    exact ⟨rb, ⟨V.ref (z.heap.objs.size + 1), G', J3, rfl, goal⟩⟩
theorem pe_makeS {C : Addr} {sp : Sp} {t : TA} {E : Sg → XK} (M : Mk X.K C f) (Fo : FnOk X.prog X.w X.K X.mg X.base (L2.CX X.prog X.w) k f fd ps sp) (room : Room (k + 1) X.A) (hm : X.mg x = some (.ref C)) (bi : Binds X.K fd ps us) (dv : Vals dvs us)
    (hx : ∀ σ, PassesAt (L2.CX X.prog X.w) X σ (E σ)) (ha : PA X (e :: es) t) (hg : Gl X x) (hdb : (x == ("__debug__" : Str)) = false) (he : starEach (e :: es) X.env = (false, eval e X.env) :: starEach es X.env) (hpl : (backTo pos (starEach es X.env)).any (·.1) = false) :
    PE X (.Call (.Name x p) (e :: es) [] pos) (tMakeS C sp dvs E t) := by
  refine ⟨fun pins z τ G Q J ask => wpAny_Call_Name_kw (ld_glob J hg hm ?_ hdb)⟩
  refine PySem.W.callWith_K (h₀ := X.base) J.ok.mod.kin M.kp (thn (ha.run pos pins z τ G _ J ask) fun as z1 ⟨ws, G1, J1, rel, q⟩ => ⟨J1.kIn, ?_⟩) he hpl
  exact makeS_run M Fo room bi dv (hx τ) J1 rel q
theorem make_reads (hcm : c ∈ cm.cls) (hd : ∀ S, RepL X.K cm S dvs dd) {σ : Sg} {H : Hp} {Q : VK} (q : E X.K cm W (makeU c (arI n F) dd args) σ H Q) : tMakeS (cm.addr c) (spI X.K cm c n F) dvs (WE W.w) (EA X.K cm W args) σ H Q := by
  obtain ⟨st, S, fp, r, g⟩ := q
  exact ⟨st, S, fp, r, g.bind.mono fun ds S1 H1 x1 k1 vs hv x dx nx ndx ne => by
    have hv2 := hv.append (hd S1)
    replace k1 : Go X.K cm W (fun d S' H' => ∀ v, Rep X.K cm S' v d → Q v H') ((if (ds ++ dd).length = n then F (ds ++ dd) else .bad).bind fun fs => .ok (.ins c fs)) S1 H1 σ := k1
    split at k1
    · rename_i hl
      have sx : S1 x = none := x1.sh.free nx
      have sdx : S1 dx = none := x1.sh.free ndx
      have s2 : Same S1 (upd (upd H1 dx (.own x)) x (.ins (cm.addr c) dx [])) := same_upd2 (same_upd2 x1.sh sdx) sx
      have h1 : ∀ {H' : Hp}, Same (fun a => if a = x then none else (upd (upd H1 dx (.own x)) x (.ins (cm.addr c) dx [])) a) H' → Same H1 H' := fun {H'} s a o e => by
        have na : a ≠ x := fun z => by rw [z, nx] at e; cases e
        have nd : a ≠ dx := fun z => by rw [z, ndx] at e; cases e
        refine s a o ?_
        show (if a = x then none else (upd (upd H1 dx (.own x)) x (.ins (cm.addr c) dx [])) a) = some o
        rw [if_neg na, upd_ne na, upd_ne nd]
        exact e
      have h2 : ∀ {S' : Hp} {a : Addr} {o : HO}, (∀ a o, S' a = some o → S1 a = none → (if a = x then none else (upd (upd H1 dx (.own x)) x (.ins (cm.addr c) dx [])) a) = none) → S' a = some o → S1 a = none → a ≠ x → H1 a = none := fun {S' a o} fr e n na => by
        have z := fr a o e n
        rw [if_neg na, upd_ne na] at z
        by_cases nd : a = dx
        · rw [nd]; exact ndx
        · rw [upd_ne nd] at z; exact z
      refine ⟨by rw [List.length_cons, hv2.length, hl], x, dx, _, S1, ds ++ dd, rfl, s2, sx, upd_same, hv2, ?_⟩
      cases q : F (ds ++ dd) with
      | bad => rw [q] at k1; exact k1.elim
      | ex er =>
        rw [q] at k1
        intro cls od H' S' x2 hr
        refine k1 cls od H' S' ⟨x2.ss, x2.sh, h1 x2.hh, fun a o e n => ?_⟩ hr
        by_cases na : a = x
        · rw [na]; exact nx
        · exact h2 x2.fr e n na
      | ok fs =>
        rw [q] at k1
        intro H' S' ys dx' x2 nx' hx' hr'
        refine ⟨rfl, k1 H' (upd S' x (.ins (cm.addr c) dx' ((cm.names c).zip ys))) ⟨x2.ss.trans (same_upd nx'), fun a o e => ?_, h1 x2.hh, fun a o e n => ?_⟩ _ (.ins hcm upd_same (hr'.mono (same_upd nx')))⟩
        · by_cases na : a = x
          · rw [na, upd_same] at e; cases e; rw [na]; exact hx'
          · rw [upd_ne na] at e; exact x2.sh a o e
        · by_cases na : a = x
          · rw [na]; exact nx
          · rw [upd_ne na] at e; exact h2 x2.fr e n na
    · exact k1.elim⟩
theorem e_make {C : Addr} (hcm : c ∈ cm.cls) (hC : C = cm.addr c) (M : Mk X.K C f) (G : FnOk X.prog X.w X.K X.mg X.base (L2.CX X.prog X.w) k f fd ps (spI X.K cm c n F)) (tk : Takes X W.w) (hr : Room (k + 1) X.A) (hm : X.mg x = some (.ref C)) (hb : Binds X.K fd ps us) (hu : Vals dvs us) (hd : ∀ S, RepL X.K cm S dvs dd)
    (ha : PA X (e :: es) (EA X.K cm W args)) (hg : Gl X x := by rfl) (hdb : (x == ("__debug__" : Str)) = false := by decide) (he : starEach (e :: es) X.env = (false, eval e X.env) :: starEach es X.env := by rfl) (hpl : (backTo pos (starEach es X.env)).any (·.1) = false := by rfl) :
    PE X (.Call (.Name x p) (e :: es) [] pos) (E X.K cm W (makeU c (arI n F) dd args)) :=
  (pe_makeS M G hr hm hb hu (fun σ => passAt tk σ) ha hg hdb he hpl).imp fun σ H Q q => by
    subst hC
    exact make_reads hcm hd q
/-! ### o.m(..) -/
end
end DI
end
section
set_option Elab.async false
set_option linter.all false
set_option maxRecDepth 100000
set_option maxHeartbeats 2000000
/-! DI: built-ins. -/
namespace DI
open PySem PySem.Spec PyProof.Rows L2
section
variable {X : Cx} {cm : CM} {K : PySem.W.Frag} {S H : Hp}
theorem view1 {vs : List V} {d : D} (h : Paired (View K cm S H) vs [d]) : ∃ v, vs = [v] ∧ View K cm S H v d := by
  cases h with
  | cons a b => cases b; exact ⟨_, rfl, a⟩
theorem view2 {vs : List V} {d e : D} (h : Paired (View K cm S H) vs [d, e]) : ∃ v u, vs = [v, u] ∧ View K cm S H v d ∧ View K cm S H u e := by
  cases h with
  | cons a b =>
    obtain ⟨u, rfl, r⟩ := view1 b
    exact ⟨_, u, rfl, a, r⟩
/-! ### len -/
def rLen (K : PySem.W.Frag) : List V → Hp → VK → Prop := fun xs H Q => (∃ p ys, xs = [.ref p] ∧ (SqL K H p ys ∨ SqT K H p ys) ∧ Q (.int ys.length) H) ∨ ∃ z, xs = [.str z] ∧ z.length ≤ sizeLine ∧ Q (.int z.length) H
theorem c_len : CallR X (.builtin "len") (rLen X.K) := call_len_seq.or call_len_str
def dLen1 : D → Option D
  | .lst ds => some (.int ds.length)
  | .tup ds => some (.int ds.length)
  | .scr ds => some (.int ds.length)
  | .str z => if z.length ≤ sizeLine then some (.int z.length) else none
  | _ => none
def one (f : D → Option D) : List D → Option D
  | [d] => f d
  | _ => none
def two (f : D → D → Option D) : List D → Option D
  | [d, e] => f d e
  | _ => none
def dLen : List D → Option D := one dLen1
theorem one_some {α : Type} {f : D → Option D} {ds : List D} {z : D} (h : one f ds = some z) : ∃ d, ds = [d] ∧ f d = some z := by
  unfold one at h
  split at h
  · exact ⟨_, rfl, h⟩
  · cases h
theorem two_some {f : D → D → Option D} {ds : List D} {z : D} (h : two f ds = some z) : ∃ d e, ds = [d, e] ∧ f d e = some z := by
  unfold two at h
  split at h
  · exact ⟨_, _, rfl, h⟩
  · cases h
theorem d_len : OpN X.K cm (rLen X.K) dLen := by
  intro S H xs ds z Q sh hx ho k
  obtain ⟨d, rfl, h2⟩ := one_some (α := Unit) ho
  replace ho := h2
  clear h2
  obtain ⟨v, rfl, hv⟩ := view1 hx
  cases d <;> try (cases ho; done)
  case lst ds =>
    cases ho
    obtain ⟨a, us, rfl, ha, ra⟩ := hv.lst sh
    exact .inl ⟨a, us, rfl, .inl (SqL.of ha), by rw [ra.length]; exact k H S (Xt.refl sh) _ (.int _)⟩
  case tup ds =>
    cases ho
    obtain ⟨a, us, rfl, ha, ra⟩ := hv.tup
    exact .inl ⟨a, us, rfl, .inr (same_sqT sh ha), by rw [ra.length]; exact k H S (Xt.refl sh) _ (.int _)⟩
  case scr ds =>
    cases ho
    obtain ⟨a, us, rfl, ha, ra⟩ := hv.scr
    exact .inl ⟨a, us, rfl, .inl (same_sqL sh ha), by rw [ra.length]; exact k H S (Xt.refl sh) _ (.int _)⟩
  case str w =>
    replace ho : (if w.length ≤ sizeLine then some (D.int w.length) else none) = some z := ho
    split at ho
    · cases ho
      rw [hv.str]
      exact .inr ⟨w, rfl, by assumption, k H S (Xt.refl sh) _ (.int _)⟩
    · cases ho
/-! ### int, abs, min, max of two -/
def dInt1 : D → Option D
  | .int i => some (.int i)
  | .bl b => some (.int (if b = true then 1 else 0))
  | _ => none
def dToInt : List D → Option D := one dInt1
theorem d_toInt : OpN X.K cm (fun xs H Q => (∃ i, xs = [.int i] ∧ Q (.int i) H) ∨ ∃ k, xs = [.bl k] ∧ Q (.int (if k = true then 1 else 0)) H) dToInt := by
  intro S H xs ds z Q sh hx ho k
  obtain ⟨d, rfl, h2⟩ := one_some (α := Unit) ho
  replace ho := h2
  clear h2
  obtain ⟨v, rfl, hv⟩ := view1 hx
  cases d <;> try (cases ho; done)
  case int i =>
    cases ho
    rw [hv.int]
    exact .inl ⟨i, rfl, k H S (Xt.refl sh) _ (.int _)⟩
  case bl b =>
    cases ho
    rw [hv.bl]
    exact .inr ⟨b, rfl, k H S (Xt.refl sh) _ (.int _)⟩
def dMax2 : List D → Option D := two (dII fun i j => some (.int (if j > i then j else i)))
def dMin2 : List D → Option D := two (dII fun i j => some (.int (if j < i then j else i)))
theorem d_two {r : List V → Hp → VK → Prop} {g : Int → Int → Option D} (h : ∀ (i j : Int) (z : D) (H : Hp) (Q : VK), g i j = some z → ∃ v : V, (∀ S, Rep X.K cm S v z) ∧ (Q v H → r [.int i, .int j] H Q)) : OpN X.K cm r (two (dII g)) := by
  intro S H xs ds z Q sh hx ho k
  obtain ⟨d, e, rfl, h2⟩ := two_some ho
  replace ho := h2
  clear h2
  obtain ⟨v, u, rfl, hv, hu⟩ := view2 hx
  cases d <;> cases e <;> try (cases ho; done)
  case int.int i j =>
    rw [hv.int, hu.int]
    obtain ⟨y, hy, q⟩ := h i j z H Q ho
    exact q (k H S (Xt.refl sh) y (hy S))
theorem d_max2 : OpN X.K cm (fun xs H Q => ∃ i j, xs = [.int i, .int j] ∧ Q (.int (if j > i then j else i)) H) dMax2 := d_two fun i j z H Q e => by
  cases e
  exact ⟨_, fun _ => .int _, fun q => ⟨i, j, rfl, q⟩⟩
theorem d_min2 : OpN X.K cm (fun xs H Q => ∃ i j, xs = [.int i, .int j] ∧ Q (.int (if j < i then j else i)) H) dMin2 := d_two fun i j z H Q e => by
  cases e
  exact ⟨_, fun _ => .int _, fun q => ⟨i, j, rfl, q⟩⟩
/-! ### sums, greatest, least of a list of numbers -/
def dInts : List D → Option (List Int)
  | [] => some []
  | .int i :: ds => (dInts ds).map (i :: ·)
  | _ :: _ => none
theorem dInts_eq : ∀ {ds : List D} {ns : List Int}, dInts ds = some ns → ds = ns.map D.int
  | [], ns, h => by cases h; rfl
  | d :: ds, ns, h => by
    cases d <;> try (cases h; done)
    case int i =>
      replace h : (dInts ds).map (i :: ·) = some ns := h
      cases q : dInts ds with
      | none => rw [q] at h; cases h
      | some ms =>
        rw [q] at h
        cases h
        rw [dInts_eq q]
        rfl
theorem dInts_map : ∀ ns : List Int, dInts (ns.map D.int) = some ns
  | [] => rfl
  | n :: ns => by
    show (dInts (ns.map D.int)).map (n :: ·) = _
    rw [dInts_map ns]
    rfl
theorem rep_ints : ∀ {vs : List V} {ns : List Int}, RepL K cm S vs (ns.map D.int) → vs = ns.map V.int
  | [], [], _ => rfl
  | v :: vs, n :: ns, .cons h hs => by
    cases h
    rw [rep_ints hs]
    rfl
  | [], _ :: _, h => by cases h
  | _ :: _, [], h => by cases h
/-- the numbers of a list -/
def lstInts : D → Option (List Int)
  | .lst ds => dInts ds
  | _ => none
theorem lst_ints {v : V} {d : D} {ns : List Int} (sh : Same S H) (hv : View K cm S H v d) (h : lstInts d = some ns) : ∃ a, v = .ref a ∧ H a = some (.lst (ns.map V.int)) := by
  cases d <;> try (cases h; done)
  case lst ds =>
    obtain ⟨a, us, rfl, ha, ra⟩ := hv.lst sh
    rw [dInts_eq h] at ra
    rw [rep_ints ra] at ha
    exact ⟨a, rfl, ha⟩
def dSum : List D → Option D := one fun d => (lstInts d).map fun ns => .int ns.sum
theorem d_sum : OpN X.K cm (rSum X.K) dSum := by
  intro S H xs ds z Q sh hx ho k
  obtain ⟨d, rfl, h2⟩ := one_some (α := Unit) ho
  replace ho := h2
  clear h2
  obtain ⟨v, rfl, hv⟩ := view1 hx
  replace ho : (lstInts d).map (fun ns => D.int ns.sum) = some z := ho
  cases q : lstInts d with
  | none => rw [q] at ho; cases ho
  | some ns =>
    rw [q] at ho
    cases ho
    obtain ⟨a, rfl, ha⟩ := lst_ints sh hv q
    exact ⟨a, ns, rfl, SqL.of ha, k H S (Xt.refl sh) _ (.int _)⟩
/-! ### list, tuple, sorted -/
def dList1 : D → Option (List D)
  | .lst ds => some ds
  | .tup ds => some ds
  | .scr ds => some ds
  | _ => none
def oneF (f : D → Option (List D)) : List D → Option (List D)
  | [d] => f d
  | _ => none
theorem oneF_some {f : D → Option (List D)} {ds : List D} {z : List D} (h : oneF f ds = some z) : ∃ d, ds = [d] ∧ f d = some z := by
  unfold oneF at h
  split at h
  · exact ⟨_, rfl, h⟩
  · cases h
def dListF : List D → Option (List D) := oneF dList1
theorem d_listF : OpNF X.K cm (fun xs H Q => ∃ p ys, xs = [.ref p] ∧ (SqL X.K H p ys ∨ SqT X.K H p ys) ∧ ∀ l, H l = none → Q (.ref l) (upd H l (.lst ys))) dListF := by
  intro S H xs ds z Q sh hx ho k
  obtain ⟨d, rfl, h2⟩ := oneF_some ho
  replace ho := h2
  clear h2
  obtain ⟨v, rfl, hv⟩ := view1 hx
  cases d <;> try (cases ho; done)
  case lst ds =>
    cases ho
    obtain ⟨a, us, rfl, ha, ra⟩ := hv.lst sh
    exact ⟨a, us, rfl, .inl (SqL.of ha), fun l hl => k l us hl ra⟩
  case tup ds =>
    cases ho
    obtain ⟨a, us, rfl, ha, ra⟩ := hv.tup
    exact ⟨a, us, rfl, .inr (same_sqT sh ha), fun l hl => k l us hl ra⟩
  case scr ds =>
    cases ho
    obtain ⟨a, us, rfl, ha, ra⟩ := hv.scr
    exact ⟨a, us, rfl, .inl (same_sqL sh ha), fun l hl => k l us hl ra⟩
def dTuple : List D → Option D := one fun d => (dList1 d).map .tup
theorem d_tuple : OpN X.K cm (fun xs H Q => ∃ p ys, xs = [.ref p] ∧ ((SqL X.K H p ys ∧ ∀ l, H l = none → Q (.ref l) (upd H l (.tup ys))) ∨ (SqT X.K H p ys ∧ Q (.ref p) H))) dTuple := by
  intro S H xs ds z Q sh hx ho k
  obtain ⟨d, rfl, h2⟩ := one_some (α := Unit) ho
  replace ho := h2
  clear h2
  obtain ⟨v, rfl, hv⟩ := view1 hx
  cases d <;> try (cases ho; done)
  case lst ds =>
    cases ho
    obtain ⟨a, us, rfl, ha, ra⟩ := hv.lst sh
    exact ⟨a, us, rfl, .inl ⟨SqL.of ha, fin_tup sh ra k⟩⟩
  case tup ds =>
    cases ho
    obtain ⟨a, us, rfl, ha, ra⟩ := hv.tup
    exact ⟨a, us, rfl, .inr ⟨same_sqT sh ha, k H S (Xt.refl sh) _ (.tup ha ra)⟩⟩
  case scr ds =>
    cases ho
    obtain ⟨a, us, rfl, ha, ra⟩ := hv.scr
    exact ⟨a, us, rfl, .inl ⟨same_sqL sh ha, fin_tup sh ra k⟩⟩
/-- numbers in rising order -/
def insI (n : Int) : List Int → List Int
  | [] => [n]
  | m :: ms => if n ≤ m then n :: m :: ms else m :: insI n ms
def srtI : List Int → List Int
  | [] => []
  | n :: ns => insI n (srtI ns)
theorem insI_perm (n : Int) : ∀ ms : List Int, (insI n ms).Perm (n :: ms)
  | [] => .refl _
  | m :: ms => by
    unfold insI
    split
    · exact .refl _
    · exact (List.Perm.cons m (insI_perm n ms)).trans (List.Perm.swap n m ms)
theorem srtI_perm : ∀ ns : List Int, (srtI ns).Perm ns
  | [] => .refl _
  | n :: ns => (insI_perm n _).trans (List.Perm.cons n (srtI_perm ns))
theorem insI_up (n : Int) : ∀ {ms : List Int}, ms.Pairwise (· ≤ ·) → (insI n ms).Pairwise (· ≤ ·)
  | [], _ => by unfold insI; exact List.pairwise_singleton _ _
  | m :: ms, h => by
    obtain ⟨h1, h2⟩ := List.pairwise_cons.mp h
    unfold insI
    split
    · rename_i q
      exact List.pairwise_cons.mpr ⟨fun y hy => (List.mem_cons.mp hy).elim (fun e => by rw [e]; exact q) fun hy => Int.le_trans q (h1 y hy), h⟩
    · rename_i q
      refine List.pairwise_cons.mpr ⟨fun y hy => ?_, insI_up n h2⟩
      rcases List.mem_cons.mp ((insI_perm n ms).mem_iff.mp hy) with e | hy
      · omega
      · exact h1 y hy
theorem srtI_up : ∀ ns : List Int, (srtI ns).Pairwise (· ≤ ·)
  | [] => .nil
  | n :: ns => insI_up n (srtI_up ns)
theorem up_unique : ∀ {xs ys : List Int}, xs.Perm ys → xs.Pairwise (· ≤ ·) → ys.Pairwise (· ≤ ·) → xs = ys
  | [], ys, p, _, _ => (List.Perm.nil_eq p)
  | x :: xs, [], p, _, _ => by have := p.length_eq; simp at this
  | x :: xs, y :: ys, p, h1, h2 => by
    obtain ⟨a1, a2⟩ := List.pairwise_cons.mp h1
    obtain ⟨b1, b2⟩ := List.pairwise_cons.mp h2
    have e : x = y := by
      rcases List.mem_cons.mp (p.mem_iff.mp List.mem_cons_self) with e | m
      · exact e
      · rcases List.mem_cons.mp (p.mem_iff.mpr (List.mem_cons_self (a := y) (l := ys))) with e | m'
        · exact e.symm
        · exact Int.le_antisymm (a1 y m') (b1 x m)
    subst e
    rw [up_unique (List.Perm.cons_inv p) a2 b2]
def dSortF : List D → Option (List D) := oneF fun d => (lstInts d).map fun ns => (srtI ns).map D.int
theorem d_sortF : OpNF X.K cm (rSortedI X.K) dSortF := by
  intro S H xs ds z Q sh hx ho k
  obtain ⟨d, rfl, h2⟩ := oneF_some ho
  replace ho := h2
  clear h2
  obtain ⟨v, rfl, hv⟩ := view1 hx
  replace ho : ((lstInts d).map fun ns => (srtI ns).map D.int) = some z := ho
  cases q : lstInts d with
  | none => rw [q] at ho; cases ho
  | some ns =>
    rw [q] at ho
    cases ho
    obtain ⟨a, rfl, ha⟩ := lst_ints sh hv q
    refine ⟨a, ns, rfl, SqL.of ha, fun ns' p pm up hp => ?_⟩
    have e : ns' = srtI ns := up_unique (pm.trans (srtI_perm ns).symm) up (srtI_up ns)
    subst e
    exact k p _ hp (RepL.ints _)
end
end DI
end
section
set_option Elab.async false
set_option linter.all false
set_option maxRecDepth 100000
set_option maxHeartbeats 4000000
/-! DI: sets of tuples of numbers: made by a comprehension, sorted. -/
namespace DI
open PySem PySem.Spec PyProof.Rows L2
/-- a tuple of numbers comes to the set -/
theorem set_addT {P : Program} {w : World} {A : Around} {E : Value → Shared → Prop} {z : Shared} {a x : Addr} {k : List Int} {L : List (Addr × List Int)} {es : Array (Int × Value)} {ep : Nat} {t : SetTable} {Q : Value → Shared → Prop} (R : SetTR P w z.heap a L es ep t) (hx : IsT P w z.heap k x) (hu : A.units + 5 < cLine) (few : L.length + 1 < 64)
    (hQ : ∀ h' tk L' es' ep' t', Heap.SameBut a z.heap h' → SetTR P w h' a L' es' ep' t' → (k ∈ L.map (·.2) → L' = L) → (k ∉ L.map (·.2) → L'.Perm ((x, k) :: L)) → Q .none { z with heap := h', toks := tk }) :
    wpAny (model P w) A (call (.builtin "set.add") [.ref a, .ref x]) Q E z := by
  obtain ⟨o, ho, hex, hd⟩ := R.ob
  have ty : z.TypeIs (.ref a) "set" := ⟨o, ho, hex.1⟩
  refine wpAny_call_entry PySem.F.slot_set_add ty PySem.F.entry_set_add ?_ (PySem.F.args_set_add_2 _ _)
  unfold Builtin.«set.add» Builtin.Frozenset.oneOther
  simp only [List.isEmpty_nil, bind_assoc]
  unfold Builtin.Frozenset.addrOf setAdd
  refine wpAny_bind (wpAny_pure ?_)
  try dsimp only
  refine wpAny_bind (wpAny_pure ?_)
  try dsimp only
  refine wpAny_bind ?_
  refine wpAny_holding ?_
  refine wpAny_bind (wpAny_pyHash_tuple (by have : A.in1.units = A.units + 1 := rfl; omega) hx ?_)
  refine add_at (s := { z with toks := z.toks + (k.length + 1) }) R hx (by have : A.in1.units = A.units + 1 := rfl; omega) few fun b h' L' es' ep' t' sb r c1 c2 => ?_
  show wpAny _ _ (ret Value.none) _ _ _
  exact wpAny_pure ⟨_, rfl, hQ h' _ L' es' ep' t' sb r c1 c2⟩
section
variable {X : Cx} {cm : CM} {W : WH}
theorem tset_adds {pins : List (Addr × Obj)} {σ : Sg} {H : Hp} {s : Shared} {a x : Addr} {k : List Int} {L : List (Addr × List Int)} {Q : Value → Shared → Prop} {E : Value → Shared → Prop} (hu : X.A.units + 6 < cLine) (I : Inv X pins σ H s) (ha : H a = some (SetTO X.prog X.w a L)) (ht : ∀ p ∈ L, SqT X.K H p.1 (p.2.map V.int)) (hx : SqT X.K H x (k.map V.int)) (few : L.length + 1 < 64)
    (hQ : ∀ L', (k ∈ L.map (·.2) → L' = L) → (k ∉ L.map (·.2) → L'.Perm ((x, k) :: L)) → ∀ s', Inv X pins σ (upd H a (SetTO X.prog X.w a L')) s' → Q .none s') : wpAny (model X.prog X.w) X.A (call (.builtin "set.add") [.ref a, .ref x]) Q E s := by
  obtain ⟨es, ep, t, R⟩ := SetT0.full (I.hok a _ ha).1 fun p hp => I.isT (ht p hp)
  refine set_addT R (I.isT hx) (by omega) few fun h' tk L' es' ep' t' sb r c1 c2 => ?_
  obtain ⟨o, ho, _⟩ := id r.ob
  exact hQ L' c1 c2 _ (I.write (e := a) (t' := tk) (by rw [ha]; trivial) (.inl rfl) (fun b u hb hu => (sb.2 b hb).trans hu) ⟨o, ho⟩ (setTO_new r.t0))
/-- {elt for target in iter if ..}, elt a tuple of numbers: D the new set -/
def tSt (K : PySem.W.Frag) (P : Program) (w : World) (wi : TI) (g : TG) (tt : TT) (te : TE) (vs : List Nat) : TE := fun σ H Q => wi σ H fun J H1 => ∀ D, H1 D = none → ∃ W : Nat → Nat → Hp → Prop, (∃ m, W 0 m (upd H1 D (SetTO P w D []))) ∧ ∀ i m H, W i m H →
  (J.stop i H ∧ Q (.ref D) H) ∨ (J.go i H ∧ ∃ Nx : Hp → Prop, (∀ H', Nx H' → ∃ m', m' < m ∧ W (i + 1) m' H') ∧ ∀ x H', J.yld i H x H' → g x (wipe σ vs) H' fun σ2 H2 => wipe σ2 vs = wipe σ vs ∧ tt σ2 H2 fun b H3 =>
    if b = true then te σ2 H3 fun y H4 => ∃ (x : Addr) (k : List Int) (L : List (Addr × List Int)), y = .ref x ∧ SqT K H4 x (k.map V.int) ∧ H4 D = some (SetTO P w D L) ∧ (∀ p ∈ L, SqT K H4 p.1 (p.2.map V.int)) ∧ L.length + 1 < 64 ∧
      ∀ L', (k ∈ L.map (·.2) → L' = L) → (k ∉ L.map (·.2) → L'.Perm ((x, k) :: L)) → Nx (upd H4 D (SetTO P w D L')) else Nx H3)
end
section
variable {Y : Cx}
open PpSet
theorem tset_core {pp : List (Addr × Obj)} {z : Shared} {τ : L2.St} {G : Hp} {Q : VK} {elt tg iter : Expr} {ifs : List Expr} {scope : Scope} {own : List (Str × Nat)} {pos pos' : Pos} {wi : TI} {g : TG} {tt : TT} {te : TE} {use : Option (Value → Sem Unit)} {Qf : Value → Shared → Prop}
    (kroom : Y.A.units + 6 < cLine) (kc : Y.calm = true) (kN : Y.N.Nodup) (J : Inv Y pp τ G z) (ki : PI Y tg iter wi) (okb : BlkOk Y.N Y.env.scope scope own)
    (kg : ∀ (z : Shared) (G : Hp) (C : Addr) (cl : List (Str × Addr)) (mem : List Addr), PG (Y.blk z G scope (compEnvC scope cl C Y.env) mem) tg g) (kt : ∀ (z : Shared) (G : Hp) (C : Addr) (cl : List (Str × Addr)) (mem : List Addr), PTs (Y.blk z G scope (compEnvC scope cl C Y.env) mem) ifs tt)
    (ke : ∀ (z : Shared) (G : Hp) (C : Addr) (cl : List (Str × Addr)) (mem : List Addr), PE (Y.blk z G scope (compEnvC scope cl C Y.env) mem) elt te) (ks : ∀ x, foldedSetIterable iter Y.env x = pure x)
    (ask : tSt Y.K Y.prog Y.w wi g tt te (own.map (·.2)) τ G Q)
    (kR : ∀ B C z' m G', Inv Y pp τ G' z' → Q (.ref B) G' → z'.heap.Ns C m → FpOk Y pp G' C → compPost (model Y.prog Y.w) Y.A Y.xe use Qf (.ref B) C (.ok .next) z') :
    wpAny (model Y.prog Y.w) Y.A (comprehension (.SetComp elt [⟨tg, iter, ifs, 0⟩] scope pos) scope Y.env pos' (newSet (.type "set")) false (eval iter Y.env) use) Qf Y.xe z := by
  have frees : ∀ y ∈ scope.names, y.2 = .free → ∃ c, Y.env.cells.lookup y.1 = some c := fun y hy e => by
    rcases okb.free y hy e with k | k
    · exact J.ok.has _ (.inl k)
    · exact J.ok.has _ (.inr k)
  refine wpAny_comprehension_free (use := use) rfl ks (closure_ok frees) okb.kind (fun y hy e => by rw [okb.uniq y hy, e])
    (thn (ki.run pp z τ G _ J ask) fun xw s1 hx => thn hx fun itrv z2 got2 => ?_)
  obtain ⟨itr, mem, sta, Jt, G2, e, J2, tr, sz2, fo2, q⟩ := got2
  subst e
  refine newSet_ok (newEnv_comp ?_)
  generalize eB : z2.heap.objs.size = B
  have nB : G2 B = none := J2.hok.fresh (Nat.le_of_eq eB)
  obtain ⟨Inw, ⟨m0, iw0⟩, trn⟩ := q B nB
  -- the new list
  generalize ez3 : ({ z2 with heap := z2.heap.push { cls := .type "set", dict := none, data := .set #[] 0 (.fresh 0 0 (!Y.w.params.followText "set-order")) } } : Shared) = z3
  have J3 : Inv Y pp τ (upd G2 B (SetTO Y.prog Y.w B [])) z3 := by
    rw [← ez3]
    refine J2.laid (t' := z2.toks) (fun b o e => Heap.get?_push_of_some _ e) (Nat.le_of_eq eB) ?_
    rw [← eB]
    exact setTO_new (SetTR.t0 (setTR_fresh (Heap.get?_push_size _ rfl)))
  have got3 : z3.heap = z2.heap.push { cls := .type "set", dict := none, data := .set #[] 0 (.fresh 0 0 (!Y.w.params.followText "set-order")) } := by rw [← ez3]
  have siz : ∀ b ∈ mem, b < z2.heap.objs.size := fun b hb => by
    obtain ⟨o, e, _⟩ := tr.obj _ _ sz2 b hb
    exact Heap.lt_size e
  have fo3 : ∀ b ∈ mem, FpOk Y pp (upd G2 B (SetTO Y.prog Y.w B [])) b ∧ b < z3.heap.objs.size := fun b hb => by
    have hlt := siz b hb
    refine ⟨⟨?_, (fo2 b hb).2⟩, by rw [got3, Heap.size_push]; exact Nat.lt_succ_of_lt hlt⟩
    rw [upd_ne (by rw [← eB]; exact Nat.ne_of_lt hlt)]
    exact (fo2 b hb).1
  have sz3 : sta 0 z3.heap := tr.keep _ _ _ sz2 fun b _ o e => by rw [got3]; exact Heap.get?_push_of_some _ e
  have J4 := block_start J3 okb kN fo3
  have qg := kg z3 (upd G2 B (SetTO Y.prog Y.w B [])) z3.heap.objs.size (cellsFrom (z3.heap.objs.size + 1) scope.names (cloFrom Y.env.cells scope.names [])) mem
  have qt := kt z3 (upd G2 B (SetTO Y.prog Y.w B [])) z3.heap.objs.size (cellsFrom (z3.heap.objs.size + 1) scope.names (cloFrom Y.env.cells scope.names [])) mem
  have qe := ke z3 (upd G2 B (SetTO Y.prog Y.w B [])) z3.heap.objs.size (cellsFrom (z3.heap.objs.size + 1) scope.names (cloFrom Y.env.cells scope.names [])) mem
  show codeAny _ _ (.compStart (.SetComp elt [⟨tg, iter, ifs, 0⟩] scope pos) 0 (.ref itr) (.ref B) (compEnvC scope (cellsFrom (z3.heap.objs.size + 1) scope.names (cloFrom Y.env.cells scope.names [])) z3.heap.objs.size Y.env)) (compPost (model Y.prog Y.w) Y.A Y.xe use Qf (.ref B) z3.heap.objs.size) { z3 with heap := pushCells (z3.heap.push { cls := .type "dict", data := .dict #[] }) scope.names }
  have nmem : ∀ b ∈ mem, (upd G2 B (SetTO Y.prog Y.w B [])) b = none := fun b hb => (fo3 b hb).1.1
  generalize ece : compEnvC scope (cellsFrom (z3.heap.objs.size + 1) scope.names (cloFrom Y.env.cells scope.names [])) z3.heap.objs.size Y.env = env1 at J4 qg qt qe ⊢
  have eL : env1.locals = z3.heap.objs.size := by subst ece; rfl
  generalize eG3 : upd G2 B (SetTO Y.prog Y.w B []) = G3 at J3 J4 qg qt qe iw0 nmem fo3
  generalize ez4 : ({ z3 with heap := pushCells (z3.heap.push { cls := .type "dict", data := .dict #[] }) scope.names } : Shared) = z4 at J4 ⊢
  have sz4 : sta 0 z4.heap := tr.keep _ _ _ sz3 fun b _ o e => by rw [← ez4]; exact pushCells_keeps _ _ _ _ (Heap.get?_push_of_some _ e)
  have still : ∀ {τ' : L2.St} {G' : Hp} {z' : Shared}, Inv (Y.blk z3 G3 scope env1 mem) [] τ' G' z' → (∀ b ∈ mem, G' b = none) → ∀ b ∈ mem, FpOk (Y.blk z3 G3 scope env1 mem) [] G' b := fun {τ' G' z'} J' hn b hb =>
    ⟨hn b hb, (J'.ok.exf b hb).1, J'.ok.exfs b hb, .inl hb, fun x c e => (J'.ok.exf b hb).2 x c e, fun p hp => absurd (show p ∈ ([] : List (Addr × Obj)) ++ [] from hp) (by simp)⟩
  have walk1 : codeAny (model Y.prog Y.w) Y.A (.compLoop (.SetComp elt [⟨tg, iter, ifs, 0⟩] scope pos) 0 (.ref itr) (.ref B) env1) (compPost (model Y.prog Y.w) Y.A Y.xe use Qf (.ref B) z3.heap.objs.size) z4 := by
    refine compLoopS_any (fun nn z' => ∃ i G', Inv (Y.blk z3 G3 scope env1 mem) [] (wipe τ (own.map (·.2))) G' z' ∧ sta i z'.heap ∧ (∀ b ∈ mem, G' b = none) ∧ Inw i nn G') ?_ m0 ⟨0, G3, J4, sz4, nmem, iw0⟩
    rintro nn z5 ⟨i, G5, J5, sz5, nn5, iw5⟩
    rcases trn i nn G5 iw5 with ⟨stop, qq⟩ | ⟨go, Nx, hNx, step⟩
    · have fd := tr.done (Y.blk z3 G3 scope env1 mem) rfl rfl rfl kc i [] z5 _ G5 (fun _ _ => False) J5 (still J5 nn5) sz5 stop
      refine thnF fd fun r z6 ⟨er, J6⟩ => ?_
      subst er
      -- back in the def's context
      have J7 : Inv Y pp τ G5 z6 := J3.call' (ch := mem) J6.os J6.base J6.hok J6.bare fun b hb => ⟨(fo3 b hb).1.2.2.2.1, (fo3 b hb).1.2.1, (fo3 b hb).1.2.2.2.2.1, (fo3 b hb).1.2.2.2.2.2⟩
      have nC : G5 z3.heap.objs.size = none := by
        have z : G5 env1.locals = none := J6.free
        rw [eL] at z
        exact z
      obtain ⟨m, hn, _⟩ := J6.loc
      have hn : z6.heap.Ns env1.locals m := hn
      rw [eL] at hn
      exact kR B z3.heap.objs.size z6 m G5 J7 qq hn (J3.fpOk (Nat.le_refl _) nC)
    · have fi := tr.item (Y.blk z3 G3 scope env1 mem) rfl rfl rfl kc i [] z5 _ G5 (fun _ _ => False) J5 (still J5 nn5) sz5 go
      refine thnF fi fun r z6 ⟨u, er, h6⟩ => ?_
      subst er
      refine thnF h6 fun _ z7 ⟨x, G7, J7, r7, y7, sz7, nn7⟩ => ?_
      have J7' := J7.pinned (still J7 nn7) (tr.obj _ _ sz7)
      refine thnF (qg.run _ z7 _ G7 x u _ J7' r7 (step x G7 y7)) fun _ z8 ⟨τ8, G8, J8, hw8, q8⟩ => ?_
      refine thnF (qt.run _ z8 τ8 G8 _ J8 q8) fun b z9 ⟨G9, J9, q9⟩ => ?_
      -- the turn's end
      have turned : ∀ {z' : Shared} {G' : Hp}, Inv (Y.blk z3 G3 scope env1 mem) ([] ++ pinsAt mem z7.heap) τ8 G' z' → Nx G' → ∃ m, m < nn ∧ ∃ i G', Inv (Y.blk z3 G3 scope env1 mem) [] (wipe τ (own.map (·.2))) G' z' ∧ sta i z'.heap ∧ (∀ b ∈ mem, G' b = none) ∧ Inw i m G' := fun {z' G'} J' nx => by
        obtain ⟨m', hm, w'⟩ := hNx G' nx
        have pin' : ∀ b ∈ mem, ∀ o, z7.heap.get? b = some o → z'.heap.get? b = some o ∧ G' b = none := fun b hb o e =>
          let z := J'.pin (b, o) (List.mem_append_right _ (List.mem_append_right _ (mem_pinsAt hb e)))
          ⟨z.1, z.2.1⟩
        have hl : (wipe τ (own.map (·.2))).length = τ8.length := by rw [← hw8, wipe_length]
        refine ⟨m', hm, i + 1, G', (J'.unpinned (pins := [])).weak hl (fun j v e => ?_), tr.keep _ _ _ sz7 fun b hb o e => (pin' b hb o e).1, fun b hb => ?_, w'⟩
        · rw [← hw8] at e
          exact (wipe_some e).1
        · obtain ⟨o, e, _⟩ := tr.obj _ _ sz7 b hb
          exact (pin' b hb o e).2
      cases b with
      | false =>
        simp only [Bool.false_eq_true, if_false] at q9 ⊢
        exact turned J9 q9
      | true =>
        simp only [if_true] at q9 ⊢
        refine thnF (qe.run _ z9 τ8 G9 _ J9 q9) fun w1 z10 ⟨yv, G10, J10, r10, xa, ks1, L0, ey, hxa, hD10, hL0, hz10, nx⟩ => ?_
        subst ey
        cases (show w1 = Value.ref xa from r10)
        exact tset_adds (X := Y.blk z3 G3 scope env1 mem) kroom J10 hD10 hL0 hxa hz10 fun L1 c1 c2 z11 J11 => turned J11 (nx L1 c1 c2)
  exact codeAny_compStart_set walk1 (tr.self Y.A 0 _ _ _ sz4 walk1)
end
/-! ### the data -/
def tupInts : D → Option (List Int)
  | .tup ds => dInts ds
  | _ => none
def keysOf : List D → Option (List (List Int))
  | [] => some []
  | d :: ds => match tupInts d, keysOf ds with
    | some k, some ks => some (k :: ks)
    | _, _ => none
/-- what comes into a set: once -/
def addK (xs : List (List Int)) (k : List Int) : List (List Int) := if k ∈ xs then xs else xs ++ [k]
def onceK (ks : List (List Int)) : List (List Int) := ks.foldl addK []
def setR (fi : LS → R (List D)) (vs : List Nat) (g : D → LS → Option LS) (t : LS → R Bool) (f : LS → R D) : LS → R (List (List Int)) := fun st => (compR fi vs g t f st).bind fun ys => match keysOf ys with
  | some ks => if ks.length < 64 then .ok ks else .bad
  | none => .bad
def setE (fi : LS → R (List D)) (vs : List Nat) (g : D → LS → Option LS) (t : LS → R Bool) (f : LS → R D) : LS → R D := fun st => (setR fi vs g t f st).bind fun ks => .ok (.tset (onceK ks))
theorem keysOf_append : ∀ {xs ys : List D} {ks : List (List Int)}, keysOf (xs ++ ys) = some ks → ∃ k1 k2, keysOf xs = some k1 ∧ keysOf ys = some k2 ∧ ks = k1 ++ k2
  | [], ys, ks, h => ⟨[], ks, rfl, h, rfl⟩
  | d :: xs, ys, ks, h => by
    rw [List.cons_append] at h
    unfold keysOf at h
    split at h
    · rename_i k ks' e1 e2
      cases h
      obtain ⟨k1, k2, a, b, c⟩ := keysOf_append e2
      refine ⟨k :: k1, k2, ?_, b, by rw [c]; rfl⟩
      unfold keysOf
      rw [e1, a]
    · cases h
theorem tup_ints {K : PySem.W.Frag} {cm : CM} {S : Hp} {v : V} {d : D} {k : List Int} (h : Rep K cm S v d) (e : tupInts d = some k) : ∃ x, v = .ref x ∧ SqT K S x (k.map V.int) := by
  cases d <;> try (cases e; done)
  case tup ds =>
    cases h with
    | @tup a xs _ h1 h2 =>
      rw [dInts_eq e] at h2
      rw [rep_ints h2] at h1
      exact ⟨a, rfl, h1⟩
theorem onceK_snoc (ks : List (List Int)) (k : List Int) : onceK (ks ++ [k]) = addK (onceK ks) k := by
  unfold onceK
  rw [List.foldl_append]
  rfl
theorem addK_len (xs : List (List Int)) (k : List Int) : (addK xs k).length ≤ xs.length + 1 := by
  unfold addK
  split
  · omega
  · simp
theorem onceK_len : ∀ ks : List (List Int), (onceK ks).length ≤ ks.length := by
  intro ks
  have gen : ∀ (ks xs : List (List Int)), (ks.foldl addK xs).length ≤ xs.length + ks.length := by
    intro ks
    induction ks with
    | nil => intro xs; simp
    | cons k ks ih =>
      intro xs
      have h1 := ih (addK xs k)
      have h2 := addK_len xs k
      simp only [List.foldl_cons, List.length_cons]
      omega
  have := gen ks []
  rw [List.length_nil, Nat.zero_add] at this
  exact this
section
variable {X : Cx} {cm : CM} {W : WH} {fi : LS → R (List D)} {vs : List Nat} {g : D → LS → Option LS} {t : LS → R Bool} {f : LS → R D}
theorem tset_reads {σ : Sg} {H : Hp} {Q : VK} (hset : cm.setO = SetTO X.prog X.w) (k : E X.K cm W (setE fi vs g t f) σ H Q) : tSt X.K X.prog X.w (IV X.K cm W fi) (GX X.K cm vs g) (TB X.K cm WF t) (E X.K cm WF f) vs σ H Q := by
  obtain ⟨st, S, fp, r, k⟩ := k
  refine ⟨st, S, fp, r, ?_⟩
  cases qf : fi st with
  | bad => unfold setE setR compR at k; rw [qf] at k; exact k.elim
  | ex e => unfold setE setR compR at k; rw [qf] at k; exact k
  | ok ds =>
    intro H1 S1 x1 J w L0 hL
    replace k : Go X.K cm W (fun d S' H' => ∀ v, Rep X.K cm S' v d → Q v H') ((((if ds.length ≤ sizeLine then compL g t f (wipeS st vs) ds else .bad).bind fun ys => match keysOf ys with
      | some ks => if ks.length < 64 then R.ok ks else .bad
      | none => .bad).bind fun ks => .ok (.tset (onceK ks)))) S H σ := by
      unfold setE setR compR at k
      rw [qf] at k
      exact k
    by_cases hlen : ds.length ≤ sizeLine
    case neg => rw [if_neg hlen] at k; exact k.elim
    rw [if_pos hlen] at k
    obtain ⟨fp0, r0, b0⟩ := (r.ext x1).wipe (W' := WF) vs
    have s1L : S1 L0 = none := x1.sh.free hL
    rcases compL_ok (g := g) (t := t) (f := f) (st := wipeS st vs) ds with qz | ⟨zs, qz⟩
    · rw [qz] at k; exact k.elim
    rw [qz] at k
    cases qk : keysOf zs with
    | none =>
      replace k : Go X.K cm W (fun d S' H' => ∀ v, Rep X.K cm S' v d → Q v H') ((match keysOf zs with
        | some ks => if ks.length < 64 then R.ok ks else .bad
        | none => .bad).bind fun ks => .ok (.tset (onceK ks))) S H σ := k
      rw [qk] at k
      exact k.elim
    | some kz =>
    replace k : Go X.K cm W (fun d S' H' => ∀ v, Rep X.K cm S' v d → Q v H') ((match keysOf zs with
      | some ks => if ks.length < 64 then R.ok ks else .bad
      | none => .bad).bind fun ks => .ok (.tset (onceK ks))) S H σ := k
    rw [qk] at k
    replace k : Go X.K cm W (fun d S' H' => ∀ v, Rep X.K cm S' v d → Q v H') ((if kz.length < 64 then R.ok kz else .bad).bind fun ks => .ok (.tset (onceK ks))) S H σ := k
    by_cases few : kz.length < 64
    case neg => rw [if_neg few] at k; exact k.elim
    rw [if_pos few] at k
    replace k : ∀ H' S', Xt S S' H H' → ∀ v, Rep X.K cm S' v (.tset (onceK kz)) → Q v H' := k
    let Good : Nat → Hp → Prop := fun i H => ∃ S' L ys us ky, Xt S1 S' H1 H ∧ S' L0 = none ∧ H L0 = some (SetTO X.prog X.w L0 L) ∧ (∀ p ∈ L, SqT X.K S' p.1 (p.2.map V.int)) ∧ keysOf ys = some ky ∧ (L.map (·.2)).Perm (onceK ky) ∧ compL g t f (wipeS st vs) (ds.drop i) = .ok us ∧ zs = ys ++ us
    refine ⟨fun i m H => m = ds.length - i ∧ i ≤ ds.length ∧ Good i H, ⟨_, rfl, Nat.zero_le _, S1, [], [], zs, [], Xt.own x1.sh hL, s1L, upd_same, fun p m => (nomatch m), rfl, List.Perm.refl _, by rw [List.drop_zero]; exact qz, rfl⟩, ?_⟩
    rintro i m H2 ⟨rfl, hi, S2, L, ys, us, ky, x2, n2, hA, hT, hky, pm, q2, qe⟩
    obtain ⟨w1, w2⟩ := w i S2 H2 x2.ss x2.sh x2.hh
    cases q3 : ds[i]? with
    | none =>
      have hl : ds.length ≤ i := List.getElem?_eq_none_iff.mp q3
      rw [List.drop_eq_nil_of_le hl] at q2
      cases q2
      rw [List.append_nil] at qe
      subst qe
      rw [hky] at qk
      cases qk
      refine .inl ⟨w2 (Nat.le_antisymm hl hi), k H2 (upd S2 L0 (SetTO X.prog X.w L0 L)) ⟨(x1.ss.trans x2.ss).trans (same_upd n2), fun b o e => ?_, x1.hh.trans x2.hh, fun b o e n => ?_⟩ _ (.tset (L := L) (by rw [hset]; exact upd_same) (fun p m => same_sqT (same_upd n2) (hT p m)) pm)⟩
      · by_cases hb : b = L0
        · subst hb; rw [upd_same] at e; cases e; exact hA
        · rw [upd_ne hb] at e; exact x2.sh b o e
      · by_cases hb : b = L0
        · subst hb; exact x1.hh.free hL
        · rw [upd_ne hb] at e; exact (x1.trans x2).fr b o e n
    | some d =>
      have hl : i < ds.length := (List.getElem?_eq_some_iff.mp q3).1
      obtain ⟨go, y⟩ := w1 d q3
      rw [drop_get q3] at q2
      refine .inr ⟨go, fun H => i + 1 ≤ ds.length ∧ Good (i + 1) H, fun H' n => ⟨ds.length - (i + 1), by omega, rfl, n⟩, fun v H3 hy => ?_⟩
      obtain ⟨S3, x3, hv⟩ := y v H3 hy
      replace q2 : (match g d (wipeS st vs) with
        | none => .bad
        | some st1 => (t st1).noex.bind fun b => if b = true then (f st1).noex.bind fun y => (compL g t f (wipeS st vs) (ds.drop (i + 1))).bind fun ys => .ok (y :: ys) else compL g t f (wipeS st vs) (ds.drop (i + 1))) = R.ok us := q2
      cases q4 : g d (wipeS st vs) with
      | none => rw [q4] at q2; cases q2
      | some st4 =>
        rw [q4] at q2
        obtain ⟨b, q5, q6⟩ := R.noex_ok q2
        have x13 := x2.trans x3
        have keepL : ∀ {S' H' : Hp}, Xt S2 S' H2 H' → S' L0 = none ∧ H' L0 = some (SetTO X.prog X.w L0 L) := fun {S' H'} x => by
          refine ⟨?_, x.hh _ _ hA⟩
          cases q : S' L0 with
          | none => rfl
          | some o =>
            have z := x.fr L0 o q n2
            rw [hA] at z
            cases z
        refine ⟨wipeS st vs, S3, fp0, d, r0.ext x13, hv, st4, q4, fun σ4 fp4 r4 b4 k4 => ⟨?_, st4, S3, fp4, r4, ?_⟩⟩
        · have e1 := k4.wipe
          rw [e1]
          apply List.ext_getElem?
          intro j
          rw [wipe_get]
          split
          · rename_i hj
            rw [wipe_get, if_pos hj]
            cases σ[j]? <;> rfl
          · rfl
        · rw [q5]
          intro H5 S5 x5
          have s25 : Same S2 S5 := x3.ss.trans x5.ss
          cases b with
          | false =>
            obtain ⟨n5, hA5⟩ := keepL (x3.trans x5)
            exact ⟨hl, S5, L, ys, us, ky, x13.trans x5, n5, hA5, fun p m => same_sqT s25 (hT p m), hky, pm, q6, qe⟩
          | true =>
            obtain ⟨u, q7, q8⟩ := R.noex_ok q6
            obtain ⟨us', q9, q10⟩ := R.bind_ok q8
            cases q10
            refine ⟨st4, S5, fp4, r4.ext x5, ?_⟩
            rw [q7]
            intro H6 S6 x6 z hz
            obtain ⟨n6, hA6⟩ := keepL ((x3.trans x5).trans x6)
            rw [qe] at qk
            obtain ⟨k1, k2, e1, e2, e3⟩ := keysOf_append qk
            rw [hky] at e1
            cases e1
            have e4 : ∃ ku, tupInts u = some ku ∧ ∃ kr, k2 = ku :: kr := by
              unfold keysOf at e2
              split at e2
              · rename_i ku kr a1 a2
                cases e2
                exact ⟨ku, a1, kr, rfl⟩
              · cases e2
            obtain ⟨ku, hku, kr, rfl⟩ := e4
            obtain ⟨xa, rfl, hxa⟩ := tup_ints hz hku
            have s26 : Same S2 S6 := s25.trans x6.ss
            have hT6 : ∀ p ∈ L, SqT X.K S6 p.1 (p.2.map V.int) := fun p m => same_sqT s26 (hT p m)
            have lenL : L.length ≤ ky.length := by
              have := pm.length_eq
              rw [List.length_map] at this
              rw [this]
              exact onceK_len ky
            have lenZ : ky.length + 1 ≤ kz.length := by rw [e3]; simp
            refine ⟨xa, ku, L, rfl, same_sqT x6.sh hxa, hA6, fun p m => same_sqT x6.sh (hT6 p m), by omega, fun L' c1 c2 => ⟨hl, S6, L', ys ++ [u], us', ky ++ [ku], ?_, n6, upd_same, fun p m => ?_, ?_, ?_, q9, by rw [qe]; simp⟩⟩
            · have xx := (x13.trans x5).trans x6
              exact ⟨xx.ss, same_upd2 xx.sh n6, fun b o e => by
                have ne : b ≠ L0 := fun z => by rw [z, hL] at e; cases e
                rw [upd_ne ne]
                exact xx.hh b o e, xx.fr⟩
            · rcases Classical.em (ku ∈ L.map (·.2)) with c | c
              · rw [c1 c] at m; exact hT6 p m
              · rcases List.mem_cons.mp ((c2 c).mem_iff.mp m) with e | m
                · rw [e]; exact hxa
                · exact hT6 p m
            · have gen : ∀ {a : List D} {ka : List (List Int)}, keysOf a = some ka → keysOf (a ++ [u]) = some (ka ++ [ku]) := by
                intro a
                induction a with
                | nil =>
                  intro ka h
                  cases h
                  show keysOf [u] = _
                  unfold keysOf
                  rw [hku]
                  rfl
                | cons d0 a ih =>
                  intro ka h
                  unfold keysOf at h
                  split at h
                  · rename_i k0 ks0 a1 a2
                    cases h
                    show keysOf (d0 :: (a ++ [u])) = _
                    unfold keysOf
                    rw [a1, ih a2]
                    rfl
                  · cases h
              exact gen hky
            · rw [onceK_snoc]
              unfold addK
              rcases Classical.em (ku ∈ L.map (·.2)) with c | c
              · rw [c1 c, if_pos (pm.mem_iff.mp c)]
                exact pm
              · rw [if_neg fun z => c (pm.mem_iff.mpr z)]
                have p2 := (c2 c).map (·.2)
                rw [List.map_cons] at p2
                exact (p2.trans (List.Perm.cons ku pm)).trans (List.perm_append_comm (l₁ := [ku]))
variable {elt tg iter : Expr} {ifs : List Expr} {scope : Scope} {own : List (Str × Nat)} {pos : Pos}
theorem e_sc {k : Nat} (hset : cm.setO = SetTO X.prog X.w) (hr : Room k X.A) (hi : PI X tg iter (IV X.K cm W fi)) (ok : BlkOk X.N X.env.scope scope own) (hg : BX X scope fun Y => PG Y tg (GX X.K cm (own.map (·.2)) g)) (ht : BX X scope fun Y => PTs Y ifs (TB X.K cm WF t)) (he : BX X scope fun Y => PE Y elt (E X.K cm WF f))
    (hN : X.N.Nodup) (hc : X.calm = true := by rfl) (hs : ∀ x, foldedSetIterable iter X.env x = pure x := by intro _; rfl) : PE X (.SetComp elt [⟨tg, iter, ifs, 0⟩] scope pos) (E X.K cm W (setE fi (own.map (·.2)) g t f)) := by
  refine ⟨fun pins s σ H Q I h => ?_⟩
  rw [PpSet.eval_SetComp]
  refine tset_core (by have := hr.un; omega) hc hN I hi ok hg ht he hs (tset_reads hset h) fun B C s' m H' I' q hn f => ⟨m, hn, fun h'' sb => ?_⟩
  obtain ⟨f0, f1, f2, f3, f4, f5⟩ := f
  exact ⟨.ref B, H', I'.turned (t' := s'.toks) (fun b o hb e => (sb.2 b hb).trans e) f0 f1 f3 f4 f5, rfl, q⟩
end
end DI
end
section
set_option Elab.async false
set_option linter.all false
set_option maxRecDepth 100000
set_option maxHeartbeats 2000000
/-! DI: isinstance, own operators, methods. -/
namespace DI
open PySem PySem.Spec PyProof.Rows L2
/-! ### types -/
inductive BT where
  | non | bool | int | str | tuple | list
def BT.nm : BT → String
  | .non => "NoneType"
  | .bool => "bool"
  | .int => "int"
  | .str => "str"
  | .tuple => "tuple"
  | .list => "list"
/-- a type: a built-in one, an own class by its tag -/
inductive TY where
  | b (t : BT)
  | c (k : Nat)
def TY.vl (cm : CM) : TY → Value
  | .b t => .type t.nm
  | .c k => .ref (cm.addr k)
def D.ty : D → Option TY
  | .non => some (.b .non)
  | .bl _ => some (.b .bool)
  | .int _ => some (.b .int)
  | .str _ => some (.b .str)
  | .tup _ => some (.b .tuple)
  | .lst _ => some (.b .list)
  | .scr _ => some (.b .list)
  | .ins c _ => some (.c c)
  | .tset _ => none
  | .dct _ _ _ => none
  | .rng _ _ => none
  | .nd _ _ => none
def BT.sub : BT → BT → Bool
  | .non, .non => true
  | .bool, .bool => true
  | .bool, .int => true
  | .int, .int => true
  | .str, .str => true
  | .tuple, .tuple => true
  | .list, .list => true
  | _, _ => false
/-- is a value of this type an instance of that one; sub: the classes' own order -/
def TY.sub (sub : Nat → Nat → Bool) : TY → TY → Bool
  | .b s, .b t => s.sub t
  | .c k, .c j => sub k j
  | _, _ => false
def dIs (sub : Nat → Nat → Bool) (ts : List TY) : D → Option D := fun d => d.ty.map fun t => .bl (ts.any (t.sub sub))
/-- a dict with nested keys: its entries, each with the key's own tuple -/
def NDO (P : Program) (w : World) (a : Addr) (ps : List (NestedKey × Addr × V)) : HO := .ext fun h =>
  (a == sysModules) = false ∧ ps.length ≤ sizeLine ∧ ∃ xs : List (NestedKey × Addr × Value), Paired (fun p q => p.1 = q.1 ∧ p.2.1 = q.2.1 ∧ RelV p.2.2 q.2.2) ps xs ∧
    ∃ o es ep, h.get? a = some o ∧ o.ExactDict ∧ o.data = .dict es ep ∧ es.toList = xs.map (entryOfKey (nestedKind P w)) ∧ (xs.map (·.1)).Nodup
/-- what is known of an own class -/
structure ClsOk (K : PySem.W.Frag) (C : Addr) : Prop where
  cl : Cls K C
  ca : PySem.W.findIn K (.ref C) "__class__" = some (some (.builtin "object.__class__"))
  cn : PySem.W.specialIn K (.builtin "object.__class__") "__get__" = some (some (.builtin "getset_descriptor.__get__"))
  ct : PySem.W.takesIn K (.builtin "object.__class__") = some true
  cm : PySem.W.mroIn K C (.type "object") = some true
section
variable {K : PySem.W.Frag} {cm : CM} {S H : Hp}
theorem tyx_lst {a : Addr} {xs : List V} (h : SqL K H a xs) : TyX K H (.ref a) (.type "list") := by
  rcases h with (h | ⟨o, h⟩) | ⟨o, _, _, h, c, _⟩
  · exact .base (.lst h)
  · exact .base (.frz h)
  · exact .kList h c
theorem tyx_tup {a : Addr} {xs : List V} (h : SqT K H a xs) : TyX K H (.ref a) (.type "tuple") := by
  rcases h with (h | ⟨o, h⟩) | ⟨o, _, _, h, c, _⟩
  · exact .base (.tup h)
  · exact .fTuple h
  · exact .kTuple h c
theorem tyx_of {v : V} {d : D} {t : TY} (ok : ∀ c ∈ cm.cls, ClsOk K (cm.addr c)) (sh : Same S H) (h : View K cm S H v d) (e : d.ty = some t) : TyX K H v (t.vl cm) := by
  rcases h with h | ⟨a, vs, ds, rfl, rfl, h, _⟩
  · cases h with
    | non => cases e; exact .base .non
    | bl b => cases e; exact .base (.bl b)
    | int i => cases e; exact .base (.int i)
    | str x => cases e; exact .base (.str x)
    | tup h _ => cases e; exact tyx_tup (same_sqT sh h)
    | lst h _ => cases e; exact .base (.lst (sh _ _ h))
    | scr h _ => cases e; exact tyx_lst (same_sqL sh h)
    | tset _ _ _ => cases e
    | dct _ _ _ _ => cases e
    | rng _ => cases e
    | nd _ _ _ _ _ => cases e
    | ins m h _ => cases e; exact .base (.ins (sh _ _ h) (ok _ m).cl (ok _ m).ca (ok _ m).cn (ok _ m).ct (ok _ m).cm)
  · cases e; exact .base (.lst h)
theorem bt_kit (s t : BT) : PySem.W.kitOne K (.type s.nm) (.type t.nm) = some (s.sub t) := by
  cases s <;> cases t <;> exact kit_ty (by decide +kernel)
/-- what isinstance answers, over the classes and the types that are asked -/
def KitOk (K : PySem.W.Frag) (cm : CM) (sub : Nat → Nat → Bool) (t : TY) : Prop := match t with
  | .b t => ∀ c ∈ cm.cls, PySem.W.kitOne K (.ref (cm.addr c)) (.type t.nm) = some false
  | .c j => (∀ s : BT, PySem.W.kitOne K (.type s.nm) (.ref (cm.addr j)) = some false) ∧ ∀ c ∈ cm.cls, PySem.W.kitOne K (.ref (cm.addr c)) (.ref (cm.addr j)) = some (sub c j)
theorem View.insm {v : V} {c : Nat} {ds : List D} (h : View K cm S H v (.ins c ds)) : c ∈ cm.cls := by
  rcases h with h | ⟨_, _, _, _, e, _⟩
  · cases h; assumption
  · cases e
theorem kit_one {sub : Nat → Nat → Bool} {v : V} {d : D} {t u : TY} (ok : KitOk K cm sub u) (h : View K cm S H v d) (e : d.ty = some t) : PySem.W.kitOne K (t.vl cm) (u.vl cm) = some (t.sub sub u) := by
  cases u with
  | b u =>
    cases t with
    | b t => exact bt_kit t u
    | c k =>
      cases d <;> cases e
      exact ok _ h.insm
  | c j =>
    cases t with
    | b t => exact ok.1 t
    | c k =>
      cases d <;> cases e
      exact ok.2 _ h.insm
theorem kit_any {sub : Nat → Nat → Bool} {v : V} {d : D} {t : TY} (h : View K cm S H v d) (e : d.ty = some t) : ∀ {us : List TY}, (∀ u ∈ us, KitOk K cm sub u) → PySem.W.kitAny K (t.vl cm) (us.map (TY.vl cm)) = some (us.any (t.sub sub))
  | [], _ => kitAny_nil
  | u :: us, ok => by
    have h1 := kit_one (ok u List.mem_cons_self) h e
    have h2 := kit_any h e fun x m => ok x (List.mem_cons_of_mem _ m)
    rw [List.map_cons, List.any_cons]
    refine kitAny_cons h1 (fun z => ?_) fun z => ?_
    · rw [z, Bool.false_or]; exact h2
    · rw [z, Bool.true_or]
end
/-- a class as an expression -/
def TY.v (cm : CM) : TY → V
  | .b t => .ty t.nm
  | .c k => .ref (cm.addr k)
theorem TY.clsv (cm : CM) : ∀ t : TY, ClsV (t.v cm) (t.vl cm)
  | .b _ => .ty _
  | .c _ => .own _
theorem TY.clsvs (cm : CM) : ∀ ts : List TY, Paired ClsV (ts.map (TY.v cm)) (ts.map (TY.vl cm))
  | [] => .nil
  | t :: ts => .cons (t.clsv cm) (TY.clsvs cm ts)
def tys (cm : CM) : List TY → TA
  | [] => tNil
  | t :: ts => tCons (tC (t.v cm)) (tys cm ts)
theorem tys_run {cm : CM} {σ : Sg} {H : Hp} {Q : List V → Hp → Prop} : ∀ {ts : List TY}, Q (ts.map (TY.v cm)) H → tys cm ts σ H Q
  | [], h => h
  | t :: ts, h => tys_run (Q := fun xs H2 => Q (t.v cm :: xs) H2) h
section
variable {X : Cx} {cm : CM} {W : WH} {sub : Nat → Nat → Bool} {f g : LS → R D} {p pos tpos : Pos} {a b e : Expr} {es : List Expr} {t : TY} {ts : List TY}
theorem e_isi (ok : ∀ c ∈ cm.cls, ClsOk X.K (cm.addr c)) (kit : KitOk X.K cm sub t) (hm : X.mg "isinstance" = none) (ha : PE X a (VE X.K cm W f)) (hc : PE X e (tC (t.v cm))) (hg : Gl X "isinstance" := by rfl)
    (hs1 : starEach [a, e] X.env = (false, eval a X.env) :: starEach [e] X.env := by rfl) (hs2 : starEach [e] X.env = (false, eval e X.env) :: starEach [] X.env := by rfl)
    (hpl : (backTo pos (starEach [e] X.env)).any (·.1) = false := by rfl) : PE X (.Call (.Name "isinstance" p) [a, e] [] pos) (E X.K cm W (un (dIs sub [t]) f)) :=
  (pe_callB call_isi hg hm PyProof.Rows.boot_isinstance (pa_cons ha (pa_cons hc pa_nil hs2) hs1) (by decide) (by decide) hs1 hpl).imp fun σ H Q ⟨st, S, fp, rx, k⟩ => ⟨st, S, fp, rx, k.bind.mono fun d S1 H1 x1 k1 v hv => by
    obtain ⟨z, hz, k2⟩ := k1.of
    unfold dIs at hz
    cases q : d.ty with
    | none => rw [q] at hz; cases hz
    | some ty =>
      rw [q] at hz
      cases hz
      refine ⟨v, t.v cm, ty.vl cm, t.vl cm, ty.sub sub t, rfl, t.clsv cm, tyx_of ok x1.sh hv q, kit_one kit hv q, ?_⟩
      have := k2 H1 S1 (Xt.refl x1.sh) (.bl (List.any [t] (ty.sub sub))) (.bl _)
      simpa using this⟩
/-- isinstance(a, (c1, c2)) -/
theorem e_isiT {k : Nat} (ok : ∀ c ∈ cm.cls, ClsOk X.K (cm.addr c)) (kit : ∀ t ∈ ts, KitOk X.K cm sub t) (hl : ts.length ≤ sizeLine) (hm : X.mg "isinstance" = none) (ha : PE X a (VE X.K cm W f)) (hc : PA X es (tys cm ts)) (hg : Gl X "isinstance" := by rfl)
    (hs1 : starEach [a, .Tuple es k tpos] X.env = (false, eval a X.env) :: starEach [.Tuple es k tpos] X.env := by rfl) (hs2 : starEach [.Tuple es k tpos] X.env = (false, eval (.Tuple es k tpos) X.env) :: starEach [] X.env := by rfl)
    (hpl : (backTo pos (starEach [.Tuple es k tpos] X.env)).any (·.1) = false := by rfl) : PE X (.Call (.Name "isinstance" p) [a, .Tuple es k tpos] [] pos) (E X.K cm W (un (dIs sub ts) f)) :=
  (pe_callB call_isiT hg hm PyProof.Rows.boot_isinstance (pa_cons ha (pa_cons (pe_tup hc) pa_nil hs2) hs1) (by decide) (by decide) hs1 hpl).imp fun σ H Q ⟨st, S, fp, rx, k⟩ => ⟨st, S, fp, rx, k.bind.mono fun d S1 H1 x1 k1 v hv => by
    obtain ⟨z, hz, k2⟩ := k1.of
    unfold dIs at hz
    cases q : d.ty with
    | none => rw [q] at hz; cases hz
    | some ty =>
      rw [q] at hz
      cases hz
      refine tys_run (ts := ts) ⟨by rw [List.length_map]; exact hl, fun r hr => ?_⟩
      have x2 : Xt S1 S1 H1 (upd H1 r (.tup (ts.map (TY.v cm)))) := Xt.own x1.sh hr
      exact ⟨v, r, ts.map (TY.v cm), ty.vl cm, ts.map (TY.vl cm), ts.any (ty.sub sub), rfl, upd_same, TY.clsvs cm ts, tyx_of ok x2.sh (hv.ext x2) q, kit_any hv q kit, k2 _ S1 x2 _ (.bl _)⟩⟩
/-! ### own operators: what is raised is wished for at the slots -/
def OpS (X : Cx) (f : Value → Value → Sem Value) (r : Sg → R2) : Prop :=
  ∀ (pins : List (Addr × Obj)) (s : Shared) (σ : Sg) (H : Hp) (x y : V) (v u : Value) (Q : VK), Inv X pins σ H s → RelV x v → RelV y u → r σ x y H Q →
    wpAny (model X.prog X.w) X.A (f v u) (EP X pins σ Q) X.xe s
theorem OpS.or {h : Value → Value → Sem Value} {r r' : Sg → R2} (o : OpS X h r) (o' : OpS X h r') : OpS X h (fun σ x y H Q => r σ x y H Q ∨ r' σ x y H Q) :=
  fun pins s σ H x y v u Q I rx ry q => q.elim (o pins s σ H x y v u Q I rx ry) (o' pins s σ H x y v u Q I rx ry)
variable {C h : Addr} {fd : FuncData} {ps : List Str} {n : Nat} {sp : Sp} {Ex : Sg → XK}
end
end DI
end
section
set_option Elab.async false
set_option linter.all false
set_option maxRecDepth 100000
set_option maxHeartbeats 2000000
/-! DI: fields of an instance that its __init__ makes; own operators and methods over data. -/
namespace DI
open PySem PySem.Spec PyProof.Rows L2
theorem putF_app {f : Str} {y : V} : ∀ {ns : List Str} {vs : List V}, ns.Nodup → ns[vs.length]? = some f → putF f y (ns.zip vs) = ns.zip (vs ++ [y])
  | [], vs, _, e => by simp at e
  | n :: ns, [], _, e => by
    have e : n = f := by simpa using e
    subst e
    simp [putF]
  | n :: ns, v :: vs, h, e => by
    obtain ⟨h1, h2⟩ := List.nodup_cons.mp h
    have e : ns[vs.length]? = some f := by simpa using e
    have ne : n ≠ f := fun z => h1 (z ▸ List.mem_of_getElem? e)
    show (if n = f then _ else (n, v) :: putF f y (ns.zip vs)) = _
    rw [if_neg ne, putF_app h2 e]
    rfl
theorem putF_set {f : Str} {y : V} : ∀ {ns : List Str} {vs : List V} {j : Nat}, ns.Nodup → j < vs.length → ns[j]? = some f → putF f y (ns.zip vs) = ns.zip (vs.set j y)
  | [], vs, _, _, _, e => by simp at e
  | n :: ns, [], _, _, l, _ => by simp at l
  | n :: ns, v :: vs, 0, _, _, e => by
    have e : n = f := by simpa using e
    subst e
    show (if n = n then (n, y) :: ns.zip vs else _) = _
    rw [if_pos rfl]
    rfl
  | n :: ns, v :: vs, j + 1, h, l, e => by
    obtain ⟨h1, h2⟩ := List.nodup_cons.mp h
    have e : ns[j]? = some f := by simpa using e
    have ne : n ≠ f := fun z => h1 (z ▸ List.mem_of_getElem? e)
    show (if n = f then _ else (n, v) :: putF f y (ns.zip vs)) = _
    rw [if_neg ne, putF_set h2 (by simpa using l) e]
    rfl
theorem RepL.set {K : PySem.W.Frag} {cm : CM} {S : Hp} {v : V} {d : D} (h : Rep K cm S v d) : ∀ {vs : List V} {ds : List D} (j : Nat), RepL K cm S vs ds → RepL K cm S (vs.set j v) (ds.set j d)
  | _, _, _, .nil => .nil
  | _, _, 0, .cons _ hs => .cons h hs
  | _, _, j + 1, .cons a hs => .cons a (RepL.set h j hs)
def putD (j : Nat) (d : D) (fs : List D) : Option (List D) := if j = fs.length then some (fs ++ [d]) else if j < fs.length then some (fs.set j d) else none
def insO (c : Nat) : Option (Option T) → Option (List D)
  | some (some (.ins c' fs)) => if c' = c then some fs else none
  | _ => none
theorem insO_some {c : Nat} {o : Option (Option T)} {fs : List D} (h : insO c o = some fs) : o = some (some (.ins c fs)) := by
  unfold insO at h
  split at h
  · split at h
    · rename_i e; subst e; cases h; rfl
    · cases h
  · cases h
/-- self.f = e: the instance of class c is at slot i, f is its j-th field -/
def slfS (i c j : Nat) (f : LS → R D) : LS → Out := fun st => match insO c st[i]? with
  | none => .bad
  | some fs => (f st).out st fun d => match putD j d fs with
    | some fs' => .nx (st.set i (some (.ins c fs')))
    | none => .bad
/-- self.f -/
def slfE (i c j : Nat) : LS → R D := fun st => .of ((insO c st[i]?).bind fun fs => fs[j]?)
section
variable {X : Cx} {cm : CM} {W : WH} {c : Fr} {i k j : Nat} {f : LS → R D} {fn : Str} {p p' pos : Pos} {e o : Expr}
theorem s_slf (ok : FldOk X.K cm fn k j) (hl : (cm.names k).length < 1000) (ho : PE X o (tVar i)) (he : PE X e (E X.K cm W f)) (hs : swapsWith e (some (.Attribute o fn p')) pos.line X.env = pure false := by rfl) :
    PS X (.Assign [.Attribute o fn p'] e pos) (SX X.K cm W c (slfS i k j f)) := (ps_fld ho he hs).imp fun D σ H ⟨st, S, fp, r, p⟩ => by
  replace p : Post X.K cm W c D S (match insO k st[i]? with
    | none => .bad
    | some fs => (f st).out st fun d => match putD j d fs with
      | some fs' => .nx (st.set i (some (.ins k fs')))
      | none => .bad) := p
  cases q : insO k st[i]? with
  | none => rw [q] at p; exact p.elim
  | some fs =>
    rw [q] at p
    obtain ⟨v, f1, h1, h2, h3, h4, h5⟩ := r.mut (insO_some q)
    cases h2 with
    | @ins a dx _ vs _ m0 ha hr =>
      refine ⟨st, S, fp, r.rx, Post.go r p fun d S' H' x q2 y hy => ⟨.ref a, h1, a, cm.addr k, dx, _, rfl, x.hh _ _ ha, ok.cl, ok.na, Nat.lt_of_le_of_lt (by rw [List.length_zip]; exact Nat.min_le_left _ _) hl, ?_⟩⟩
      have hr' := hr.mono x.ss
      cases q3 : putD j d fs with
      | none => rw [q3] at q2; exact q2.elim
      | some fs' =>
        rw [q3] at q2
        have key : ∃ vs', putF fn y ((cm.names k).zip vs) = (cm.names k).zip vs' ∧ RepL X.K cm S' vs' fs' := by
          unfold putD at q3
          split at q3
          · rename_i ej
            cases q3
            exact ⟨_, putF_app ok.nd (by rw [hr.length, ← ej]; exact ok.at_), hr'.append (.cons hy .nil)⟩
          · split at q3
            · rename_i lj
              cases q3
              exact ⟨_, putF_set ok.nd (by rw [hr.length]; exact lj) ok.at_, hr'.set hy j⟩
            · cases q3
        obtain ⟨vs', e1, r1⟩ := key
        rw [e1]
        refine q2 σ _ (h5 S' H' _ _ [a] x (fun b n => upd_ne fun z => n (by rw [z]; exact List.mem_cons_self)) (.ins m0 upd_same r1) (nodup1 a) fun b m => .inl m)
theorem e_slf (ok : FldOk X.K cm fn k j) (ho : PE X o (tVar i)) (hb : attributeBase o fn X.env (eval o X.env) = eval o X.env := by rfl) : PE X (.Attribute o fn pos) (E X.K cm W (slfE i k j)) :=
  (pe_fld ho hb).imp fun σ H Q ⟨st, S, fp, r, g⟩ => by
    obtain ⟨d, e, kk⟩ := g.of
    cases q : insO k st[i]? with
    | none => rw [q] at e; cases e
    | some fs =>
      rw [q] at e
      obtain ⟨v, f1, h1, h2, _⟩ := r.sls.get (insO_some q)
      cases h2 with
      | @ins a dx _ vs _ m0 ha hr =>
        obtain ⟨u, e1, r1⟩ := hr.get e
        exact ⟨.ref a, h1, a, cm.addr k, dx, _, u, rfl, ha, ok.cl, ok.na, by rw [zip_lookup ok.nd ok.at_]; exact e1, kk H S (Xt.refl r.sh) u r1⟩
end
/-! ### own operators over data -/
def op2R (op : D → D → R D) (f g : LS → R D) : LS → R D := fun st => (f st).bind fun x => (g st).bind fun y => op x y
end DI
end
section
set_option Elab.async false
set_option linter.all false
set_option maxRecDepth 100000
set_option maxHeartbeats 2000000
/-! DI: sorted(set of tuples of numbers). -/
namespace DI
open PySem PySem.Spec PyProof.Rows L2
def lexle : List Int → List Int → Bool
  | [], _ => true
  | _ :: _, [] => false
  | a :: as, b :: bs => decide (a < b) || (decide (a = b) && lexle as bs)
def insT (k : List Int) : List (List Int) → List (List Int)
  | [] => [k]
  | m :: ms => if lexle k m = true then k :: m :: ms else m :: insT k ms
def srtT : List (List Int) → List (List Int)
  | [] => []
  | k :: ks => insT k (srtT ks)
theorem insT_perm (n : List Int) : ∀ ms : List (List Int), (insT n ms).Perm (n :: ms)
  | [] => .refl _
  | m :: ms => by
    unfold insT
    split
    · exact .refl _
    · exact (List.Perm.cons m (insT_perm n ms)).trans (List.Perm.swap n m ms)
theorem srtT_perm : ∀ ns : List (List Int), (srtT ns).Perm ns
  | [] => .refl _
  | n :: ns => (insT_perm n _).trans (List.Perm.cons n (srtT_perm ns))
theorem lexle_code {B : Int} : ∀ {x y : List Int}, x.length = y.length → TS.Bd B x → TS.Bd B y → (lexle x y = true → TS.code B x ≤ TS.code B y) ∧ (lexle x y = false → TS.code B y ≤ TS.code B x)
  | [], [], _, _, _ => ⟨fun _ => Int.le_refl _, fun _ => Int.le_refl _⟩
  | [], _ :: _, h, _, _ => by simp at h
  | _ :: _, [], h, _, _ => by simp at h
  | a :: x, b :: y, h, hx, hy => by
    have hl : x.length = y.length := by simpa using h
    obtain ⟨i1, i2⟩ := lexle_code hl hx.tail hy.tail
    rcases Int.lt_trichotomy a b with c | c | c
    · have q := TS.code_lt hl hx.tail hy.tail c
      refine ⟨fun _ => Int.le_of_lt q, fun z => ?_⟩
      unfold lexle at z
      rw [decide_eq_true c] at z
      cases z
    · subst c
      have e1 : ∀ {u v : List Int}, u.length = v.length → (TS.code B u ≤ TS.code B v → TS.code B (a :: u) ≤ TS.code B (a :: v)) := fun {u v} huv le => by
        show a * B ^ u.length + TS.code B u ≤ a * B ^ v.length + TS.code B v
        rw [huv]
        omega
      have e2 : lexle (a :: x) (a :: y) = lexle x y := by
        show (decide (a < a) || (decide (a = a) && lexle x y)) = _
        simp
      rw [e2]
      exact ⟨fun z => e1 hl (i1 z), fun z => e1 hl.symm (i2 z)⟩
    · have q := TS.code_lt hl.symm hy.tail hx.tail c
      refine ⟨fun z => ?_, fun _ => Int.le_of_lt q⟩
      unfold lexle at z
      rw [decide_eq_false (by omega : ¬ a < b), decide_eq_false (by omega : ¬ a = b)] at z
      cases z
theorem code_inj {B : Int} : ∀ {x y : List Int}, x.length = y.length → TS.Bd B x → TS.Bd B y → TS.code B x = TS.code B y → x = y
  | [], [], _, _, _, _ => rfl
  | [], _ :: _, h, _, _, _ => by simp at h
  | _ :: _, [], h, _, _, _ => by simp at h
  | a :: x, b :: y, h, hx, hy, e => by
    have hl : x.length = y.length := by simpa using h
    rcases Int.lt_trichotomy a b with c | c | c
    · have q := TS.code_lt hl hx.tail hy.tail c
      omega
    · subst c
      have e : a * B ^ x.length + TS.code B x = a * B ^ y.length + TS.code B y := e
      rw [hl] at e
      rw [code_inj hl hx.tail hy.tail (by omega)]
    · have q := TS.code_lt hl.symm hy.tail hx.tail c
      omega
theorem insT_up {B : Int} {d : Nat} (k : List Int) (hk : k.length = d ∧ TS.Bd B k) : ∀ {ms : List (List Int)}, (∀ m ∈ ms, m.length = d ∧ TS.Bd B m) → ms.Pairwise (fun a b => TS.code B a ≤ TS.code B b) → (insT k ms).Pairwise (fun a b => TS.code B a ≤ TS.code B b)
  | [], _, _ => by unfold insT; exact List.pairwise_singleton _ _
  | m :: ms, hm, h => by
    obtain ⟨h1, h2⟩ := List.pairwise_cons.mp h
    have m0 := hm m List.mem_cons_self
    obtain ⟨l1, l2⟩ := lexle_code (x := k) (y := m) (hk.1.trans m0.1.symm) hk.2 m0.2
    unfold insT
    split
    · rename_i q
      exact List.pairwise_cons.mpr ⟨fun y hy => (List.mem_cons.mp hy).elim (fun e => by rw [e]; exact l1 q) fun hy => Int.le_trans (l1 q) (h1 y hy), h⟩
    · rename_i q
      have q : lexle k m = false := by simpa using q
      refine List.pairwise_cons.mpr ⟨fun y hy => ?_, insT_up k hk (fun x hx => hm x (List.mem_cons_of_mem _ hx)) h2⟩
      rcases List.mem_cons.mp ((insT_perm k ms).mem_iff.mp hy) with e | hy
      · rw [e]; exact l2 q
      · exact h1 y hy
theorem srtT_up {B : Int} {d : Nat} : ∀ {ms : List (List Int)}, (∀ m ∈ ms, m.length = d ∧ TS.Bd B m) → (srtT ms).Pairwise (fun a b => TS.code B a ≤ TS.code B b)
  | [], _ => .nil
  | k :: ks, h => insT_up k (h k List.mem_cons_self) (fun m hm => h m (List.mem_cons_of_mem _ ((srtT_perm ks).mem_iff.mp hm))) (srtT_up fun m hm => h m (List.mem_cons_of_mem _ hm))
theorem code_unique {B : Int} {d : Nat} {xs ys : List (List Int)} (p : xs.Perm ys) (h : ∀ m ∈ ys, m.length = d ∧ TS.Bd B m) (h1 : xs.Pairwise (fun a b => TS.code B a ≤ TS.code B b)) (h2 : ys.Pairwise (fun a b => TS.code B a ≤ TS.code B b)) : xs = ys := by
  have e : xs.map (TS.code B) = ys.map (TS.code B) := up_unique (p.map _) (List.pairwise_map.mpr h1) (List.pairwise_map.mpr h2)
  have gen : ∀ {xs ys : List (List Int)}, (∀ m ∈ xs, m.length = d ∧ TS.Bd B m) → (∀ m ∈ ys, m.length = d ∧ TS.Bd B m) → xs.map (TS.code B) = ys.map (TS.code B) → xs = ys := by
    intro xs
    induction xs with
    | nil =>
      intro ys _ _ e
      cases ys with
      | nil => rfl
      | cons y ys => simp at e
    | cons x xs ih =>
      intro ys a b e
      cases ys with
      | nil => simp at e
      | cons y ys =>
        rw [List.map_cons, List.map_cons] at e
        injection e with e1 e2
        have a0 := a x List.mem_cons_self
        have b0 := b y List.mem_cons_self
        rw [code_inj (a0.1.trans b0.1.symm) a0.2 b0.2 e1, ih (fun m hm => a m (List.mem_cons_of_mem _ hm)) (fun m hm => b m (List.mem_cons_of_mem _ hm)) e2]
  exact gen (fun m hm => h m (p.mem_iff.mp hm)) h e
/-- all of one length, not empty, no number below 0 -/
def okT : List (List Int) → Bool
  | [] => true
  | k :: ks => decide (1 ≤ k.length) && (k :: ks).all fun q => decide (q.length = k.length) && q.all fun n => decide (0 ≤ n)
def mxI : List Int → Int
  | [] => 0
  | n :: ns => max n (mxI ns)
theorem mxI_le : ∀ {ns : List Int} {n : Int}, n ∈ ns → n ≤ mxI ns
  | m :: ns, n, h => by
    show n ≤ max m (mxI ns)
    rcases List.mem_cons.mp h with e | h
    · rw [e]; exact Int.le_max_left _ _
    · exact Int.le_trans (mxI_le h) (Int.le_max_right _ _)
theorem okT_bd {xs : List (List Int)} (h : okT xs = true) : ∃ (d : Nat) (B : Int), 1 ≤ d ∧ ∀ k ∈ xs, k.length = d ∧ TS.Bd B k := by
  cases xs with
  | nil => exact ⟨1, 1, Nat.le_refl 1, fun k hk => nomatch hk⟩
  | cons k ks =>
    unfold okT at h
    rw [Bool.and_eq_true, decide_eq_true_eq, List.all_eq_true] at h
    obtain ⟨h1, h2⟩ := h
    refine ⟨k.length, mxI (k :: ks).flatten + 1, h1, fun q hq => ?_⟩
    have h3 := h2 q hq
    rw [Bool.and_eq_true, decide_eq_true_eq, List.all_eq_true] at h3
    refine ⟨h3.1, fun n hn => ⟨by simpa using h3.2 n hn, ?_⟩⟩
    have := mxI_le (List.mem_flatten.mpr ⟨q, hq, hn⟩)
    omega
def dSortU : List D → Option (List D) := oneF fun d => match d with
  | .tset xs => if okT xs = true then some ((srtT xs).map fun k => .tup (k.map .int)) else none
  | _ => none
theorem repL_tups {K : PySem.W.Frag} {cm : CM} {S : Hp} : ∀ {L : List (Addr × List Int)}, (∀ p ∈ L, SqT K S p.1 (p.2.map V.int)) → RepL K cm S (L.map fun q => V.ref q.1) ((L.map (·.2)).map fun k => .tup (k.map .int))
  | [], _ => .nil
  | p :: L, h => .cons (.tup (h p List.mem_cons_self) (RepL.ints _)) (repL_tups fun q hq => h q (List.mem_cons_of_mem _ hq))
theorem d_sortU {X : Cx} {cm : CM} (hset : cm.setO = SetTO X.prog X.w) : OpNF X.K cm (rSortedT X.K X.prog X.w) dSortU := by
  intro S H xs ds z Q sh hx ho k
  obtain ⟨d, rfl, h2⟩ := oneF_some ho
  clear ho
  obtain ⟨v, rfl, hv⟩ := view1 hx
  cases d <;> try (cases h2; done)
  case tset ks =>
    replace h2 : (if okT ks = true then some ((srtT ks).map fun k => D.tup (k.map .int)) else none) = some z := h2
    split at h2
    · rename_i ok
      cases h2
      rcases hv with hv | ⟨_, _, _, _, e, _⟩
      · cases hv with
        | @tset a L _ h1 h3 pm =>
          obtain ⟨d, B, hd, hB⟩ := okT_bd ok
          have hB2 : ∀ p ∈ L, p.2.length = d ∧ TS.Bd B p.2 := fun p hp => hB _ (pm.mem_iff.mp (List.mem_map.mpr ⟨p, hp, rfl⟩))
          rw [hset] at h1
          refine ⟨a, L, d, B, rfl, sh _ _ h1, fun p hp => same_sqT sh (h3 p hp), hd, hB2, fun L' p pL nd hl pw hp => ?_⟩
          have e : L'.map (·.2) = srtT ks := code_unique (d := d) (B := B) (((pL.map (·.2)).trans pm).trans (srtT_perm ks).symm) (fun m hm => hB m ((srtT_perm ks).mem_iff.mp hm)) (List.pairwise_map.mpr pw) (srtT_up hB)
          have r := repL_tups (K := X.K) (cm := cm) (S := S) (L := L') fun q hq => h3 q (pL.mem_iff.mp hq)
          rw [e] at r
          exact k p _ hp r
      · cases e
    · cases h2
end DI
end
section
set_option Elab.async false
set_option linter.all false
set_option maxRecDepth 100000
set_option maxHeartbeats 2000000
/-! DI: lists under construction inside lists under construction. -/
namespace DI
open PySem PySem.Spec PyProof.Rows L2
/-! ### [fresh for ..] -/
def compTL (g : D → LS → Option LS) (t : LS → R Bool) (f : LS → R T) (st : LS) : List D → R (List T)
  | [] => .ok []
  | d :: ds => match g d st with
    | none => .bad
    | some st1 => (t st1).noex.bind fun b => if b = true then (f st1).noex.bind fun y => (compTL g t f st ds).bind fun ys => .ok (y :: ys) else compTL g t f st ds
def compTF (fi : LS → R (List D)) (vs : List Nat) (g : D → LS → Option LS) (t : LS → R Bool) (f : LS → R T) : LS → R T := fun st => (fi st).bind fun ds => if ds.length ≤ sizeLine then (compTL g t f (wipeS st vs) ds).bind fun ts => .ok (.lst ts) else .bad
theorem compTL_ok {g : D → LS → Option LS} {t : LS → R Bool} {f : LS → R T} {st : LS} : ∀ ds : List D, compTL g t f st ds = .bad ∨ ∃ zs, compTL g t f st ds = .ok zs
  | [] => .inr ⟨[], rfl⟩
  | d :: ds => by
    have ih := compTL_ok (g := g) (t := t) (f := f) (st := st) ds
    simp only [compTL]
    cases g d st with
    | none => exact .inl rfl
    | some st1 =>
      simp only []
      cases t st1 with
      | bad => exact .inl rfl
      | ex e => exact .inl rfl
      | ok b =>
        simp only [R.noex, R.bind]
        cases b with
        | false => simpa using ih
        | true =>
          simp only [if_true]
          cases f st1 with
          | bad => exact .inl rfl
          | ex e => exact .inl rfl
          | ok y =>
            simp only []
            rcases ih with h | ⟨zs, h⟩
            · rw [h]; exact .inl rfl
            · rw [h]; exact .inr ⟨y :: zs, rfl⟩
section
variable {X : Cx} {cm : CM} {W : WH} {fi : LS → R (List D)} {vs : List Nat} {g : D → LS → Option LS} {t : LS → R Bool} {f : LS → R T}
theorem compT_reads {σ : Sg} {H : Hp} {Q : VK} (k : EF X.K cm W (compTF fi vs g t f) σ H Q) : tLc (IV X.K cm W fi) (GX X.K cm vs g) (TB X.K cm WF t) (EF X.K cm WF f) vs σ H Q := by
  obtain ⟨st, S, fp, r, k⟩ := k
  refine ⟨st, S, fp, r, k.bind.mono fun ds S1 H1 x1 q J w L hL => ?_⟩
  replace q : Go X.K cm W (fun t S' H' => ∀ v fn, Own X.K cm S' H' t v fn → fn.Nodup → (∀ a ∈ fn, H a = none ∧ S' a = none) → Q v H') (if ds.length ≤ sizeLine then (compTL g t f (wipeS st vs) ds).bind fun ts => .ok (.lst ts) else .bad) S1 H1 σ := q
  by_cases hlen : ds.length ≤ sizeLine
  · rw [if_pos hlen] at q
    obtain ⟨fp0, r0, b0⟩ := (r.ext x1).wipe (W' := WF) vs
    have s1L : S1 L = none := x1.sh.free hL
    rcases compTL_ok (g := g) (t := t) (f := f) (st := wipeS st vs) ds with qz | ⟨zs, qz⟩
    · rw [qz] at q; exact q.elim
    rw [qz] at q
    let Good : Nat → List V → List T → List Addr → Hp → Hp → Prop := fun i acc ys fA S' H => Xt S1 S' H1 H ∧ S' L = none ∧ H L = some (.lst acc) ∧ OwnL X.K cm S' H ys acc fA ∧ fA.Nodup ∧ (∀ a ∈ fA, H1 a = none ∧ S' a = none ∧ a ≠ L) ∧ acc.length ≤ i
    refine ⟨fun i m H => m = ds.length - i ∧ i ≤ ds.length ∧ ∃ S' acc ys us fA, Good i acc ys fA S' H ∧ compTL g t f (wipeS st vs) (ds.drop i) = .ok us ∧ zs = ys ++ us,
      ⟨_, rfl, Nat.zero_le _, S1, [], [], zs, [], ⟨Xt.own x1.sh hL, s1L, upd_same, .nil, List.nodup_nil, (fun _ m => nomatch m), Nat.le_refl _⟩, by rw [List.drop_zero]; exact qz, rfl⟩, ?_⟩
    rintro i m H2 ⟨rfl, hi, S2, acc, ys, us, fA, ⟨x2, n2, hA, rA, nA, fF, lA⟩, q2, qe⟩
    obtain ⟨w1, w2⟩ := w i S2 H2 x2.ss x2.sh x2.hh
    cases q3 : ds[i]? with
    | none =>
      have hl : ds.length ≤ i := List.getElem?_eq_none_iff.mp q3
      rw [List.drop_eq_nil_of_le hl] at q2
      cases q2
      rw [List.append_nil] at qe
      subst qe
      refine .inl ⟨w2 (Nat.le_antisymm hl hi), q H2 S2 x2 (.ref L) (L :: fA) (.lst hA rA) (List.nodup_cons.mpr ⟨fun m => (fF L m).2.2 rfl, nA⟩) fun b m => ?_⟩
      rcases List.mem_cons.mp m with e | m
      · rw [e]; exact ⟨x1.hh.free hL, n2⟩
      · exact ⟨x1.hh.free (fF b m).1, (fF b m).2.1⟩
    | some d =>
      have hl : i < ds.length := (List.getElem?_eq_some_iff.mp q3).1
      obtain ⟨go, y⟩ := w1 d q3
      rw [drop_get q3] at q2
      refine .inr ⟨go, fun H => i + 1 ≤ ds.length ∧ ∃ S' acc ys us fA, Good (i + 1) acc ys fA S' H ∧ compTL g t f (wipeS st vs) (ds.drop (i + 1)) = .ok us ∧ zs = ys ++ us,
        fun H' n => ⟨ds.length - (i + 1), by omega, rfl, n⟩, fun v H3 hy => ?_⟩
      obtain ⟨S3, x3, hv⟩ := y v H3 hy
      replace q2 : (match g d (wipeS st vs) with
        | none => .bad
        | some st1 => (t st1).noex.bind fun b => if b = true then (f st1).noex.bind fun y => (compTL g t f (wipeS st vs) (ds.drop (i + 1))).bind fun ys => .ok (y :: ys) else compTL g t f (wipeS st vs) (ds.drop (i + 1))) = R.ok us := q2
      cases q4 : g d (wipeS st vs) with
      | none => rw [q4] at q2; cases q2
      | some st4 =>
        rw [q4] at q2
        obtain ⟨b, q5, q6⟩ := R.noex_ok q2
        have x13 := x2.trans x3
        have keepL : ∀ {S' H' : Hp}, Xt S2 S' H2 H' → S' L = none ∧ H' L = some (.lst acc) ∧ OwnL X.K cm S' H' ys acc fA ∧ ∀ a ∈ fA, H1 a = none ∧ S' a = none ∧ a ≠ L := fun {S' H'} x => by
          refine ⟨?_, x.hh _ _ hA, rA.ext x, fun a m => ⟨(fF a m).1, ?_, (fF a m).2.2⟩⟩
          · cases q : S' L with
            | none => rfl
            | some o =>
              have z := x.fr L o q n2
              rw [hA] at z
              cases z
          · cases q : S' a with
            | none => rfl
            | some o => exact absurd (x.fr a o q (fF a m).2.1) (rA.there a m)
        refine ⟨wipeS st vs, S3, fp0, d, r0.ext x13, hv, st4, q4, fun σ4 fp4 r4 b4 k4 => ⟨?_, st4, S3, fp4, r4, ?_⟩⟩
        · have e1 := k4.wipe
          rw [e1]
          apply List.ext_getElem?
          intro j
          rw [wipe_get]
          split
          · rename_i hj
            rw [wipe_get, if_pos hj]
            cases σ[j]? <;> rfl
          · rfl
        · rw [q5]
          intro H5 S5 x5
          cases b with
          | false =>
            obtain ⟨n5, hA5, rA5, fF5⟩ := keepL (x3.trans x5)
            exact ⟨hl, S5, acc, ys, us, fA, ⟨x13.trans x5, n5, hA5, rA5, nA, fF5, by omega⟩, q6, qe⟩
          | true =>
            obtain ⟨u, q7, q8⟩ := R.noex_ok q6
            obtain ⟨us', q9, q10⟩ := R.bind_ok q8
            cases q10
            refine ⟨st4, S5, fp4, r4.ext x5, ?_⟩
            rw [q7]
            intro H6 S6 x6 z fn hz nd fo
            have x25 := x3.trans x5
            obtain ⟨n6, hA6, rA6, fF6⟩ := keepL (x25.trans x6)
            have Lfn : L ∉ fn := fun m => by
              have e := x25.hh _ _ hA
              rw [(fo L m).1] at e
              cases e
            have LfA : L ∉ fA := fun m => (fF L m).2.2 rfl
            refine ⟨acc, hA6, by omega, hl, S6, acc ++ [z], ys ++ [u], us', fA ++ fn, ⟨?_, n6, upd_same, OwnL.snoc (own_upd Lfn hz) (ownL_upd LfA rA6), List.nodup_append.mpr ⟨nA, nd, fun a ha b hb e => ?_⟩, fun a m => ?_, by rw [List.length_append]; simp; omega⟩, q9, by rw [qe]; simp⟩
            · have xx := (x13.trans x5).trans x6
              exact ⟨xx.ss, same_upd2 xx.sh n6, fun b o e => by
                have ne : b ≠ L := fun z => by rw [z, hL] at e; cases e
                rw [upd_ne ne]
                exact xx.hh b o e, xx.fr⟩
            · subst e
              exact (rA.ext x25).there a ha (fo a hb).1
            · rcases List.mem_append.mp m with m | m
              · exact fF6 a m
              · exact ⟨((x13.trans x5).hh.free (fo a m).1), (fo a m).2, fun e => Lfn (e ▸ m)⟩
  · rw [if_neg hlen] at q
    exact q.elim
variable {elt tg iter : Expr} {ifs : List Expr} {scope : Scope} {own : List (Str × Nat)} {pos spos : Pos} {c : Fr}
/-- name = [fresh for ..] -/
theorem s_setLcT [Free W] {i : Nat} {y : Str} {py : Pos} (hN : X.N.Nodup) (hy : X.N[i]? = some y) (hyl : X.env.scope.names.lookup y = some .local) (hsw : swapsWith (.ListComp elt [⟨tg, iter, ifs, 0⟩] scope pos) (some (.Name y py)) spos.line X.env = pure true)
    (hi : PI X tg iter (IV X.K cm W fi)) (ok : BlkOk X.N X.env.scope scope own) (hg : BX X scope fun Y => PG Y tg (GX X.K cm (own.map (·.2)) g)) (ht : BX X scope fun Y => PTs Y ifs (TB X.K cm WF t)) (he : BX X scope fun Y => PE Y elt (EF X.K cm WF f))
    (hc : X.calm = true := by rfl) (hs : ∀ x, foldedSetIterable iter X.env x = pure x := by intro _; rfl) (hfx : c.fix i = none := by rfl) : PS X (.Assign [.Name y py] (.ListComp elt [⟨tg, iter, ifs, 0⟩] scope pos) spos) (SX X.K cm W c (setF i (compTF fi (own.map (·.2)) g t f))) :=
  (ps_setLc hc hN hy hyl hsw hi ok hg ht he hs).imp fun D σ H ⟨st, S, fp, r, p⟩ => compT_reads ⟨st, S, fp, r.rx, Post.go r p fun t S' H' x q v fn hv nd fo => by
    have r2 := r.ext x
    obtain ⟨fp', a, b⟩ := r2.rx.set_ow hv nd (fun a m1 m2 => r.rx.sls.there a m2 (fo a m1).1) (fun a m => (fo a m).2) i
    refine q _ H' (RR.on ⟨a, r2.xt, fun y m => ?_, fx_set r2.fx hfx⟩)
    rcases b y m with m | m
    · exact r2.fr y m
    · exact r.xt.hh.free (fo y m).1⟩
end
/-! ### x[e].append(y) -/
def lstT : Option T → Option (List T)
  | some (.lst us) => some us
  | _ => none
theorem lstT_some {o : Option T} {us : List T} (h : lstT o = some us) : o = some (.lst us) := by
  unfold lstT at h
  split at h
  · cases h; rfl
  · cases h
def appPS (i : Nat) (g : LS → R D) (f : LS → R T) : LS → Out := fun st => match ownL st[i]? with
  | none => .bad
  | some ts => (g st).out st fun d => match placeD ts.length d with
    | none => .bad
    | some j => match lstT ts[j]? with
      | none => .bad
      | some us => (f st).out st fun t => if us.length < sizeLine then .nx (st.set i (some (.lst (ts.set j (.lst (us ++ [t])))))) else .bad
section
variable {X : Cx} {cm : CM} {W : WH} {c : Fr} {pos : Pos} {e : Expr} {i : Nat}
theorem s_appP {f : LS → R T} {g : LS → R D} (h : PE X e (tBM X.K "list" rAppend (tOp (rIx X.K) (tVar i) (VE X.K cm W g)) (tCons (EF X.K cm W f) tNil))) (hs : swapsWith e none pos.line X.env = pure false := by rfl) : PS X (.Expr e pos) (SX X.K cm W c (appPS i g f)) := (ps_expr h hs).imp fun D σ H ⟨st, S, fp, r, p⟩ => by
  replace p : Post X.K cm W c D S (match ownL st[i]? with
    | none => .bad
    | some ts => (g st).out st fun d => match placeD ts.length d with
      | none => .bad
      | some j => match lstT ts[j]? with
        | none => .bad
        | some us => (f st).out st fun t => if us.length < sizeLine then .nx (st.set i (some (.lst (ts.set j (.lst (us ++ [t])))))) else .bad) := p
  cases q : ownL st[i]? with
  | none => rw [q] at p; exact p.elim
  | some ts =>
    rw [q] at p
    obtain ⟨v, f1, h1, h2, h3, h4, h5⟩ := r.mut (ownL_some q)
    cases h2 with
    | @lst a vs _ f2 ha hts =>
      obtain ⟨n1, n2⟩ := List.nodup_cons.mp h3
      refine ⟨.ref a, h1, st, S, fp, r.rx, Post.go r p fun d S1 H1 x1 q1 u hu => ?_⟩
      cases q3 : placeD ts.length d with
      | none => rw [q3] at q1; exact q1.elim
      | some j =>
        rw [q3] at q1
        cases d <;> try (cases q3; done)
        case int kk =>
          replace q3 : ixN ts.length kk = some j := q3
          replace q1 : Post X.K cm W c D S1 (match lstT ts[j]? with
            | none => .bad
            | some us => (f st).out st fun t => if us.length < sizeLine then .nx (st.set i (some (.lst (ts.set j (.lst (us ++ [t])))))) else .bad) := q1
          cases q4 : lstT ts[j]? with
          | none => rw [q4] at q1; exact q1.elim
          | some us =>
            rw [q4] at q1
            have o1 := hts.ext x1
            obtain ⟨w, fw, gw, e1, e2, e3, e4, e5, e6, e7⟩ := o1.split (lstT_some q4) n2
            cases e2 with
            | @lst b ws _ fb hb hus =>
              obtain ⟨m1, m2⟩ := List.nodup_cons.mp e3
              have ab : a ≠ b := fun z => n1 (e4 a (by rw [z]; exact List.mem_cons_self))
              refine .inl ⟨a, vs, kk, .ref b, rfl, hu.int, SqL.of (x1.hh _ _ ha), ?_, .inl ⟨rfl, ws, SqL.of hb⟩, st, S1, fp, r.rx.ext x1, Post.go (r.ext x1) q1 fun t S2 H2 x2 q5 v fn hv nd fo => ?_⟩
              · unfold L2.atI
                rw [hts.length, q3]
                exact e1
              · split at q5
                · rename_i hl
                  have x := x1.trans x2
                  have hb2 := x2.hh _ _ hb
                  have bfn : b ∉ fn := fun m => by
                    rw [(fo b m).1] at hb
                    cases hb
                  have afn : a ∉ fn := fun m => by
                    have := x1.hh _ _ ha
                    rw [(fo a m).1] at this
                    cases this
                  refine ⟨b, ws, v, rfl, rfl, hb2, by rw [hus.length]; exact hl, ?_⟩
                  have thw : ∀ c ∈ fb, H1 c ≠ none := hus.there
                  have thg : ∀ c ∈ gw, H1 c ≠ none := fun c m => o1.there c (e5 c m)
                  have bg : b ∉ gw := e6 b List.mem_cons_self
                  obtain ⟨fz, z1, z2, z3⟩ := e7 S2 (upd H2 b (.lst (ws ++ [v]))) (.lst (us ++ [t])) (.ref b) (b :: (fb ++ fn)) x2.ss (fun c m => by
                    have cb : c ≠ b := fun z => bg (z ▸ m)
                    rw [upd_ne cb]
                    cases q : H1 c with
                    | none => exact absurd q (thg c m)
                    | some o => exact x2.hh c o q) (.lst upd_same (OwnL.snoc (own_upd bfn hv) (ownL_upd m1 (hus.ext x2))))
                    (List.nodup_cons.mpr ⟨fun m => (List.mem_append.mp m).elim m1 bfn, List.nodup_append.mpr ⟨m2, nd, fun c hc d hd z => by subst z; exact thw c hc (fo c hd).1⟩⟩)
                    (fun c m1 m2 => by
                      rcases List.mem_cons.mp m1 with m | m
                      · exact bg (m ▸ m2)
                      · rcases List.mem_append.mp m with m | m
                        · exact e6 c (List.mem_cons_of_mem _ m) m2
                        · exact thg c m2 (fo c m).1)
                  have e8 : vs.set j (.ref b) = vs := by
                    apply List.ext_getElem?
                    intro n
                    by_cases hn : j = n
                    · subst hn
                      have hj := (List.getElem?_eq_some_iff.mp e1).1
                      rw [List.getElem?_set_self hj, e1]
                    · rw [List.getElem?_set_ne hn]
                  rw [e8] at z1
                  refine q5 σ _ (h5 S2 H2 _ _ (a :: fz) x (fun c n => upd_ne fun z => n (z ▸ List.mem_cons_of_mem _ (e4 b List.mem_cons_self))) (.lst ?_ z1) (List.nodup_cons.mpr ⟨fun m => ?_, z2⟩) fun c m => ?_)
                  · rw [upd_ne ab]
                    exact x.hh _ _ ha
                  · rcases z3 a m with m | m
                    · exact n1 (e5 a m)
                    · rcases List.mem_cons.mp m with m | m
                      · exact ab m
                      · rcases List.mem_append.mp m with m | m
                        · exact n1 (e4 a (List.mem_cons_of_mem _ m))
                        · exact afn m
                  · rcases List.mem_cons.mp m with m | m
                    · exact .inl (by rw [m]; exact List.mem_cons_self)
                    · rcases z3 c m with m | m
                      · exact .inl (List.mem_cons_of_mem _ (e5 c m))
                      · rcases List.mem_cons.mp m with m | m
                        · exact .inl (List.mem_cons_of_mem _ (e4 c (by rw [m]; exact List.mem_cons_self)))
                        · rcases List.mem_append.mp m with m | m
                          · exact .inl (List.mem_cons_of_mem _ (e4 c (List.mem_cons_of_mem _ m)))
                          · exact .inr ⟨x1.hh.free (fo c m).1, (fo c m).2⟩
                · exact q5.elim
end
end DI
end
section
set_option Elab.async false
set_option linter.all false
set_option maxRecDepth 100000
set_option maxHeartbeats 2000000
/-! DI: o.m(..). -/
namespace DI
open PySem PySem.Spec PyProof.Rows L2
end DI
end
section
set_option Elab.async false
set_option linter.all false
set_option maxRecDepth 100000
set_option maxHeartbeats 2000000
/-! DI: enumerate and zip over lists and tuples. -/
namespace DI
open PySem PySem.Spec PyProof.Rows L2
/-- a list (false) or a tuple (true) -/
def SqB (K : PySem.W.Frag) (k : Bool) (H : Hp) (a : Addr) (xs : List V) : Prop := if k = true then SqT K H a xs else SqL K H a xs
def IsB (k : Bool) (h : Heap) (a : Addr) (xs : Array Value) : Prop := if k = true then h.IsTuple a xs else h.IsList a xs
def ItB (k : Bool) (h : Heap) (i a : Addr) (n : Nat) : Prop := if k = true then h.IsTupleIter i a n else h.IsListIter i a n
def obB (k : Bool) (a : Addr) : Obj := { cls := .type (if k = true then "tuple_iterator" else "list_iterator"), data := .fields #[.ref a, .int 0 0] }
theorem begB (k : Bool) (a : Addr) (xs : Array Value) : Begins (.ref a) (obB k a) fun h => IsB k h a xs := by
  cases k
  · exact begins_list a xs
  · exact begins_tuple a xs
theorem drwB {prog : Program} {w : World} {A : Around} (hh : A.handled = none) (k : Bool) (i a : Addr) (ne : a ≠ i) (xs : Array Value) : Draws prog w A i [i, a] xs.size (fun n v => xs[n]? = some v) (fun n h => ItB k h i a n ∧ IsB k h a xs) := by
  cases k
  · exact .list hh i a ne xs
  · exact .tuple hh i a ne xs
theorem itB_obj {k : Bool} {h : Heap} {i a : Addr} {n : Nat} (t : ItB k h i a n) : ∃ o, h.get? i = some o ∧ ∀ v, o.data ≠ .cell v := by
  cases k
  · obtain ⟨o, e, _, d⟩ := t
    exact ⟨o, e, fun v z => by rw [d] at z; cases z⟩
  · obtain ⟨o, e, _, d⟩ := t
    exact ⟨o, e, fun v z => by rw [d] at z; cases z⟩
theorem itB_at {k : Bool} {h h' : Heap} {i a : Addr} {n : Nat} (t : ItB k h i a n) (g : ∀ o, h.get? i = some o → h'.get? i = some o) : ItB k h' i a n := by
  cases k
  · exact Heap.IsListIter.at t fun o e => g o e
  · exact Heap.IsTupleIter.at t fun o e => g o e
theorem itB_new {k : Bool} {h : Heap} {i a : Addr} (e : h.get? i = some (obB k a)) : ItB k h i a 0 := by
  cases k
  · exact ⟨_, e, rfl, rfl⟩
  · exact ⟨_, e, rfl, rfl⟩
section
variable {X : Cx} {pins : List (Addr × Obj)} {σ : Sg} {H : Hp} {s : Shared} {k : Bool} {a : Addr} {xs ys : List V}
theorem seqB (I : Inv X pins σ H s) (h : SqB X.K k H a xs) : ∃ its : List Value, Vals xs its ∧ IsB k s.heap a its.toArray ∧ a < s.heap.objs.size := by
  cases k
  · obtain ⟨its, rv, p, _⟩ := I.list h
    exact ⟨its, rv, p.isList, p.lt⟩
  · obtain ⟨its, rv, p, _⟩ := I.tuple h
    obtain ⟨o, ho, _⟩ := id p
    exact ⟨its, rv, p, Heap.lt_size ho⟩
theorem seqB_inj (I : Inv X pins σ H s) (h : SqB X.K k H a xs) (h' : SqB X.K k H a ys) : xs = ys := by
  cases k
  · exact I.list_inj h h'
  · exact I.tuple_inj h h'
end
theorem Vals.item {xs : List V} {its : List Value} {i : Nat} {u : Value} (r : Vals xs its) (e : its.toArray[i]? = some u) : ∃ x, xs[i]? = some x ∧ RelV x u := by
  have hi : i < its.length := by
    have := (Array.getElem?_eq_some_iff.mp e).1
    simpa using this
  have hx : i < xs.length := by rw [r.length]; exact hi
  obtain ⟨v, e1, r1⟩ := r.get (List.getElem?_eq_getElem hx)
  have e2 : its[i]? = some u := by simpa using e
  rw [e2] at e1
  cases e1
  exact ⟨_, List.getElem?_eq_getElem hx, r1⟩
/-! ### enumerate -/
def IteB (K : PySem.W.Frag) (k : Bool) (c : Int) (a : Addr) : It :=
  ⟨fun i H => ∃ (xs : List V) (x : V), SqB K k H a xs ∧ xs[i]? = some x, fun i H v H' => ∃ T x, v = .ref T ∧ H T = none ∧ H' = upd H T (.tup [.int (c + (i : Int)), x]) ∧ ∀ xs, SqB K k H a xs → xs[i]? = some x, fun i H => ∃ xs : List V, SqB K k H a xs ∧ xs.length = i⟩
theorem turn_enB {P : Program} {w : World} {K : PySem.W.Frag} {elts : List Expr} {kk : Nat} {tpos : Pos} (k : Bool) (c : Int) (a e it : Addr) (hne : e ≠ it) (hea : e ≠ a) (hai : a ≠ it) :
    Turn P w K (.Tuple elts kk tpos) (IteB K k c a) [e, it] e (fun i h => (∃ old, IsEnum h e it (c + (i : Int)) old) ∧ ItB k h it a i) where
  mem := by simp
  obj := fun i h st b hb => by
    obtain ⟨⟨old, he⟩, hi⟩ := st
    have e' : b = e ∨ b = it := by simpa using hb
    rcases e' with z | z
    · rw [z]; exact ⟨_, he, fun v q => nomatch q⟩
    · rw [z]; exact itB_obj hi
  keep := fun i h h' st kp => let ⟨⟨old, he⟩, hi⟩ := st; ⟨⟨old, kp e (by simp) _ he⟩, itB_at hi fun o q => kp it (by simp) o q⟩
  item := by
    intro X hP hw hK hc i pins s σ H E I hf st hg
    subst hP hw hK
    obtain ⟨⟨old, he⟩, hit⟩ := st
    obtain ⟨xs, x, hq, hx⟩ := hg
    obtain ⟨its, rv, p, hz⟩ := seqB I hq
    have hl := rv.length
    have hlt : i < its.toArray.size := by
      have := (List.getElem?_eq_some_iff.mp hx).1
      simp; omega
    have hel : e < s.heap.objs.size := Heap.lt_size he
    have hil : it < s.heap.objs.size := by obtain ⟨_, q, _⟩ := itB_obj hit; exact Heap.lt_size q
    have hnf : e ∉ [it, a] := fun m => by
      rcases List.mem_cons.mp m with z | m
      · exact hne z
      · exact hea (by simpa using m)
    refine wpAny_pyNext_enum_itemC (drwB (A := X.A.in1) (I.ok.hd hc) k it a hai its.toArray) he ⟨hit, p⟩ hlt hne hnf fun u h' tk hu ho hit' hT hsz hk => ?_
    obtain ⟨x', hx', ru⟩ := Vals.item rv hu
    rw [hx] at hx'
    cases hx'
    refine ⟨_, rfl, wpAny_letOwnedTupleGo_enum (s := { s with heap := h', toks := tk + 1 }) ho fun h'' he' sb => ?_⟩
    have hT2 : h''.get? s.heap.objs.size = some { cls := .type "tuple", data := .seq #[.int (c + (i : Int)) tk, u] } := (sb.2 _ (Nat.ne_of_gt hel)).trans hT
    have new : ObjOk X.prog X.w (upd H s.heap.objs.size (.tup [.int (c + (i : Int)), x])) h'' s.heap.objs.size (.tup [.int (c + (i : Int)), x]) :=
      ⟨by show 2 ≤ sizeLine; decide, [.int (c + (i : Int)) tk, u], .cons ⟨_, rfl⟩ (.cons ru .nil), ⟨_, hT2, rfl, _, rfl⟩⟩
    have I1 : Inv X pins σ (upd H s.heap.objs.size (.tup [.int (c + (i : Int)), x])) { s with heap := h'', toks := tk + 1 } :=
      I.turnedNew (ch := [e, it]) (fun b ob hb q => (sb.2 b (fun z => hb (by simp [z]))).trans (hk b ob (fun z => hb (by simp [z])) (fun z => hb (by simp [z])) q)) hf (Nat.le_refl _) new
    refine ⟨.ref s.heap.objs.size, _, I1, rfl, ⟨_, x, rfl, I.hok.fresh (Nat.le_refl _), rfl, fun ys hy => by rw [seqB_inj I hy hq]; exact hx⟩, ⟨⟨u, ?_⟩, itB_at hit'.1 fun o q => (sb.2 it (Ne.symm hne)).trans q⟩, fun b hb => ?_⟩
    · have e1 : c + ((i + 1 : Nat) : Int) = c + (i : Int) + 1 := by omega
      rw [e1]; exact he'
    · have hb' : b < s.heap.objs.size := by
        have e' : b = e ∨ b = it := by simpa using hb
        rcases e' with z | z
        · rw [z]; exact hel
        · rw [z]; exact hil
      rw [upd_ne (Nat.ne_of_lt hb')]
      exact (hf b hb).1
  done := by
    intro X hP hw hK hc i pins s σ H E I hf st hg
    subst hP hw hK
    obtain ⟨⟨old, he⟩, hit⟩ := st
    obtain ⟨xs, hq, hx⟩ := hg
    obtain ⟨its, rv, p, hz⟩ := seqB I hq
    obtain ⟨f0, f1, f2, f3, f4, f5⟩ := hf it (by simp)
    have hl := rv.length
    have hn : its.toArray.size = i := by simp; omega
    refine wpAny_pyNext_enum_endD (drwB (A := X.A.in1) (I.ok.hd hc) k it a hai its.toArray) he ⟨?_, p⟩ fun h' eb => ⟨rfl, I.turned (t' := s.toks) (fun b o hb q => eb b o hb q) f0 f1 f3 f4 f5⟩
    rw [hn]
    exact hit
  self := fun A i s Q E st h => let ⟨⟨_, he⟩, _⟩ := st; wpAny_pyIter_enum he h
theorem meets_en1 {v : Value} {o : Obj} {H : Heap → Prop} (B : Begins v o H) :
    Meets (Builtin.«enumerate.__new__» ⟨[.type "enumerate", v], []⟩) (fun _ R s => H s.heap ∧
      R (.ok (.ret (.ref (s.heap.push o).objs.size))) { s with heap := (s.heap.push o).push { cls := .type "enumerate", data := .fields #[.none, .bool false, .ref s.heap.objs.size, rawInt 0, .none, .none] } }) :=
  .of_wp fun prog w A R s h => by
    obtain ⟨hp, g, d, tk, os⟩ := s
    obtain ⟨h1, h⟩ := h
    have hsub := sub_enumerate
    have begun : ∀ {A' : Around} {E : Value → Shared → Prop} {Q : Value → Shared → Prop}, Q (.ref hp.objs.size) ⟨hp.push o, g, d, tk, os⟩ → wpAny (model prog w) A' (pyIter v) Q E ⟨hp, g, d, tk, os⟩ :=
      fun q => B.iter prog w _ _ ⟨hp, g, d, tk, os⟩ _ h1 q
    wp_walk using begun
    refine wpAny_stack_any fun st => wpAny_pure ?_
    split
    · rename_i c _ _ _ _ _
      cases (c == Value.type "enumerate") <;> (wp_walk using begun; exact ⟨_, rfl, h⟩)
    · wp_walk using begun
      exact ⟨_, rfl, h⟩
section
variable {prog : Program} {w : World} {A : Around} {E : Value → Shared → Prop} {s : Shared}
theorem en1_begins {v : Value} {o : Obj} {H : Heap → Prop} {Q : Value → Shared → Prop} (B : Begins v o H) (h1 : H s.heap)
    (h : ∀ h', IsEnum h' (s.heap.objs.size + 1) s.heap.objs.size 0 .none → h'.get? s.heap.objs.size = some o → h'.objs.size = s.heap.objs.size + 2 →
      (∀ b o, s.heap.get? b = some o → h'.get? b = some o) → Q (.ref (s.heap.objs.size + 1)) { s with heap := h' }) :
    wpAny (model prog w) A (call (.type "enumerate") [v]) Q E s := by
  refine callType_new F.called_enumerate (by decide) (F.typeCall_enumerate_1 _) (F.newCall_enumerate_1 _) (fun obj => F.args_object_init_2 obj _) F.entry_enumerate_new (meets_en1 B) ⟨h1, ?_⟩
  have grown : (s.heap.push o).objs.size = s.heap.objs.size + 1 := Heap.size_push ..
  have last := Heap.get?_push_size (s.heap.push o) (o := { cls := .type "enumerate", data := .fields #[.none, .bool false, .ref s.heap.objs.size, rawInt 0, .none, .none] }) rfl
  show _ ∧ _
  rw [grown] at last ⊢
  exact ⟨⟨_, last, rfl⟩, h _ last (Heap.get?_push_of_some _ (Heap.get?_push_size _ B.free)) (by rw [Heap.size_push, grown]) fun b u x => Heap.get?_push_of_some _ (Heap.get?_push_of_some _ x)⟩
end
def iEnB (K : PySem.W.Frag) (ta : TA) : TI := fun σ H R => ta σ H fun vs H1 => ∃ k a xs, vs = [.ref a] ∧ SqB K k H1 a xs ∧ R (IteB K k 0 a) H1
theorem pi_enB {X : Cx} {e : Expr} {ta : TA} {p pos tpos : Pos} {elts : List Expr} {kk : Nat} (hg : Gl X "enumerate") (hm : X.mg "enumerate" = none) (ha : PA X [e] ta) (hs : starEach [e] X.env = [(false, eval e X.env)] := by rfl) :
    PI X (.Tuple elts kk tpos) (.Call (.Name "enumerate" p) [e] [] pos) (iEnB X.K ta) := by
  refine ⟨fun pins s σ H R I h => ?_⟩
  refine Call_ (ld_blt I hg hm boot_enumerate (PyProof.Rows.callWith_type1 (thn (ha.run pos pins s σ H _ I h) fun us s1 ⟨vs, H1, I1, r1, q1⟩ => ?_) hs rfl))
  obtain ⟨k, a, xs, ex, hq, q⟩ := q1
  subst ex
  cases r1 with
  | cons r rr =>
    cases rr
    cases r
    obtain ⟨its, rv, p', hz⟩ := seqB I1 hq
    refine en1_begins (begB k a its.toArray) p' fun h' he hit hsz hk => wpAny_pyIter_enum he ?_
    have I2 : Inv X pins σ H1 { s1 with heap := h' } := I1.kept (t' := s1.toks) hk
    refine ⟨s1.heap.objs.size + 1, [s1.heap.objs.size + 1, s1.heap.objs.size], _, _, H1, rfl, I2, turn_enB k 0 a (s1.heap.objs.size + 1) s1.heap.objs.size (Nat.succ_ne_self _) (Nat.ne_of_gt (Nat.lt_succ_of_lt hz)) (Nat.ne_of_lt hz), ⟨⟨.none, he⟩, itB_new hit⟩, fun b hb => ?_, q⟩
    have e' : b = s1.heap.objs.size + 1 ∨ b = s1.heap.objs.size := by simpa using hb
    have hle : s1.heap.objs.size ≤ b := by
      rcases e' with z | z
      · rw [z]; exact Nat.le_add_right _ _
      · rw [z]; exact Nat.le_refl _
    exact I1.fpOk hle (I1.hok.fresh hle)
/-! ### zip of two -/
def ItzB (K : PySem.W.Frag) (k j : Bool) (a b : Addr) : It :=
  ⟨fun i H => ∃ (xs ys : List V) (x y : V), SqB K k H a xs ∧ SqB K j H b ys ∧ xs[i]? = some x ∧ ys[i]? = some y,
    fun i H v H' => ∃ T x y, v = .ref T ∧ H T = none ∧ H' = upd H T (.tup [x, y]) ∧ (∀ xs, SqB K k H a xs → xs[i]? = some x) ∧ ∀ ys, SqB K j H b ys → ys[i]? = some y,
    fun i H => ∃ xs ys : List V, SqB K k H a xs ∧ SqB K j H b ys ∧ i = min xs.length ys.length⟩
/-- the cells of a zip -/
structure ZpB (a b z TI TO i1 i2 : Addr) : Prop where
  s : ZipSep2 z TI TO i1 i2 [i1, a] [i2, b]
  a1 : a ≠ i1
  b2 : b ≠ i2
theorem turn_zpB {P : Program} {w : World} {K : PySem.W.Frag} {elts : List Expr} {kk : Nat} {tpos : Pos} (k j : Bool) {a b z TI TO i1 i2 : Addr} (D : ZpB a b z TI TO i1 i2) :
    Turn P w K (.Tuple elts kk tpos) (ItzB K k j a b) [z, TI, TO, i1, i2] z (fun i h => IsZip h z TI TO .none ∧ IsTupOf2 h TI (.ref i1) (.ref i2) ∧ (∃ x y, IsTupOf2 h TO x y) ∧ ItB k h i1 a i ∧ ItB j h i2 b i) where
  mem := by simp
  obj := fun i h st c hc => by
    obtain ⟨hz, hTI, ⟨x, y, hTO⟩, h1, h2⟩ := st
    have e' : c = z ∨ c = TI ∨ c = TO ∨ c = i1 ∨ c = i2 := by simpa using hc
    rcases e' with q | q | q | q | q
    · rw [q]; exact ⟨_, hz, fun v q => nomatch q⟩
    · rw [q]; exact ⟨_, hTI, fun v q => nomatch q⟩
    · rw [q]; exact ⟨_, hTO, fun v q => nomatch q⟩
    · rw [q]; exact itB_obj h1
    · rw [q]; exact itB_obj h2
  keep := fun i h h' st kp => by
    obtain ⟨hz, hTI, ⟨x, y, hTO⟩, h1, h2⟩ := st
    exact ⟨kp z (by simp) _ hz, kp TI (by simp) _ hTI, ⟨x, y, kp TO (by simp) _ hTO⟩, itB_at h1 fun o q => kp i1 (by simp) o q, itB_at h2 fun o q => kp i2 (by simp) o q⟩
  item := by
    intro X hP hw hK hc i pins s σ H E I hf st hg
    subst hP hw hK
    obtain ⟨hz, hTI, ⟨x0, y0, hTO⟩, h1, h2⟩ := st
    obtain ⟨xs, ys, x, y, hqx, hqy, hx, hy⟩ := hg
    obtain ⟨its, rv, p, _⟩ := seqB I hqx
    obtain ⟨its2, rv2, p2, _⟩ := seqB I hqy
    have hl1 := rv.length
    have hl2 := rv2.length
    have hlt1 : i < its.toArray.size := by
      have := (List.getElem?_eq_some_iff.mp hx).1
      simp; omega
    have hlt2 : i < its2.toArray.size := by
      have := (List.getElem?_eq_some_iff.mp hy).1
      simp; omega
    have hzl : z < s.heap.objs.size := Heap.lt_size hz
    refine wpAny_pyNext_zipD2_item D.s (drwB (A := X.A.in1) (I.ok.hd hc) k i1 a D.a1 its.toArray) (drwB (A := X.A.in1) (I.ok.hd hc) j i2 b D.b2 its2.toArray) hz hTI hTO ⟨h1, p⟩ ⟨h2, p2⟩ hlt1 hlt2 fun u u2 h' tk hu hu2 z' TO' h1' h2' hT hsz hk => ?_
    obtain ⟨x', hx', ru⟩ := Vals.item rv hu
    obtain ⟨y', hy', ru2⟩ := Vals.item rv2 hu2
    rw [hx] at hx'
    rw [hy] at hy'
    cases hx'
    cases hy'
    refine ⟨_, rfl, wpAny_letOwnedTupleGo_zip (s := { s with heap := h', toks := tk }) z' fun h'' z'' sb => ?_⟩
    have hT2 : h''.get? s.heap.objs.size = some { cls := .type "tuple", data := .seq #[u, u2] } := (sb.2 _ (Nat.ne_of_gt hzl)).trans hT
    have new : ObjOk X.prog X.w (upd H s.heap.objs.size (.tup [x, y])) h'' s.heap.objs.size (.tup [x, y]) :=
      ⟨by show 2 ≤ sizeLine; decide, [u, u2], .cons ru (.cons ru2 .nil), ⟨_, hT2, rfl, _, rfl⟩⟩
    have I1 : Inv X pins σ (upd H s.heap.objs.size (.tup [x, y])) { s with heap := h'', toks := tk } :=
      I.turnedNew (t' := tk) (ch := [z, TI, TO, i1, i2]) (fun c o hb q => (sb.2 c (fun q' => hb (by simp [q']))).trans (hk c o (fun q' => hb (by simp [q'])) (fun q' => hb (by simp [q'])) (fun q' => hb (by simp [q'])) (fun q' => hb (by simp [q'])) q)) hf (Nat.le_refl _) new
    refine ⟨.ref s.heap.objs.size, _, I1, rfl, ⟨_, x, y, rfl, I.hok.fresh (Nat.le_refl _), rfl, fun l hl => by rw [seqB_inj I hl hqx]; exact hx, fun l hl => by rw [seqB_inj I hl hqy]; exact hy⟩, ⟨z'', ?_, ⟨u, u2, ?_⟩, ?_, ?_⟩, fun c hcm => ?_⟩
    · exact (sb.2 _ D.s.TIz).trans (hk _ _ D.s.TIz D.s.TITO D.s.TIi1 D.s.TIi2 hTI)
    · exact (sb.2 _ D.s.TOz).trans TO'
    · exact itB_at h1'.1 fun o q => (sb.2 _ D.s.zi1.symm).trans q
    · exact itB_at h2'.1 fun o q => (sb.2 _ D.s.zi2.symm).trans q
    · have hlt : c < s.heap.objs.size := by
        have e' : c = z ∨ c = TI ∨ c = TO ∨ c = i1 ∨ c = i2 := by simpa using hcm
        rcases e' with q | q | q | q | q
        · rw [q]; exact hzl
        · rw [q]; exact Heap.lt_size hTI
        · rw [q]; exact Heap.lt_size hTO
        · rw [q]; obtain ⟨_, e1, _⟩ := itB_obj h1; exact Heap.lt_size e1
        · rw [q]; obtain ⟨_, e2, _⟩ := itB_obj h2; exact Heap.lt_size e2
      rw [upd_ne (Nat.ne_of_lt hlt)]
      exact (hf c hcm).1
  done := by
    intro X hP hw hK hc i pins s σ H E I hf st hg
    subst hP hw hK
    obtain ⟨hz, hTI, ⟨x0, y0, hTO⟩, h1, h2⟩ := st
    obtain ⟨xs, ys, hqx, hqy, hend⟩ := hg
    obtain ⟨its, rv, p, _⟩ := seqB I hqx
    obtain ⟨its2, rv2, p2, _⟩ := seqB I hqy
    have l1 := rv.length
    have l2 := rv2.length
    refine wpAny_pyNext_zipD2_end (i := i) D.s (drwB (A := X.A.in1) (I.ok.hd hc) k i1 a D.a1 its.toArray) (drwB (A := X.A.in1) (I.ok.hd hc) j i2 b D.b2 its2.toArray) hz hTI hTO ⟨h1, p⟩ ⟨h2, p2⟩ (by simp; omega) (by simp; omega) (by simp; omega) fun h' tk hk =>
      ⟨rfl, I.turnedL (t' := tk) (ch := [z, TI, TO, i1, i2]) (fun c o hb q => hk c o (fun q' => hb (by simp [q'])) (fun q' => hb (by simp [q'])) (fun q' => hb (by simp [q'])) (fun q' => hb (by simp [q'])) q) hf⟩
  self := fun A i s Q E st h => wpAny_pyIter_zip st.1 h
def iZpB (K : PySem.W.Frag) (ta : TA) : TI := fun σ H R => ta σ H fun vs H1 => ∃ k j a b xs ys, vs = [.ref a, .ref b] ∧ SqB K k H1 a xs ∧ SqB K j H1 b ys ∧ R (ItzB K k j a b) H1
theorem no2 {x y z : Nat} (h : x ≠ y) (k : x ≠ z) : x ∉ ([y, z] : List Nat) := fun m => by
  rcases List.mem_cons.mp m with e | m
  · exact h e
  · exact k (by simpa using m)
theorem neq {x y : Nat} (h : x < y ∨ y < x) : x ≠ y := by omega
theorem zpB_apart {a b n : Nat} (h1 : a < n) (h2 : b < n) : ZpB a b (n + 4) (n + 2) (n + 3) n (n + 1) :=
  ⟨⟨neq (by omega), neq (by omega), neq (by omega), neq (by omega), List.mem_cons_self, no2 (by omega) (by omega), no2 (by omega) (by omega), neq (by omega), List.mem_cons_self, no2 (by omega) (by omega), no2 (by omega) (by omega), no2 (by omega) (by omega), no2 (by omega) (by omega)⟩, neq (by omega), neq (by omega)⟩
theorem pi_zpB {X : Cx} {e e2 : Expr} {ta : TA} {p pos tpos : Pos} {elts : List Expr} {kk : Nat} (hg : Gl X "zip") (hm : X.mg "zip" = none) (ha : PA X [e, e2] ta)
    (hs : starEach [e, e2] X.env = (false, eval e X.env) :: starEach [e2] X.env := by rfl) (hpl : (backTo pos (starEach [e2] X.env)).any (·.1) = false := by rfl) :
    PI X (.Tuple elts kk tpos) (.Call (.Name "zip" p) [e, e2] [] pos) (iZpB X.K ta) := by
  refine ⟨fun pins s σ H R I h => ?_⟩
  refine Call_ (ld_blt I hg hm PyProof.Rows.boot_zip (PyProof.Rows.callWith_type1 (thn (ha.run pos pins s σ H _ I h) fun us s1 ⟨vs, H1, I1, r1, q1⟩ => ?_) hs hpl))
  obtain ⟨k, j, a, b, xs, ys, ex, hqx, hqy, q⟩ := q1
  subst ex
  cases r1 with
  | cons r rr =>
    cases rr with
    | cons r' rr =>
      cases rr
      cases r
      cases r'
      obtain ⟨its, rv, p1, la⟩ := seqB I1 hqx
      obtain ⟨its2, rv2, p2, lb⟩ := seqB I1 hqy
      refine zip_begins2 (begB k a its.toArray) (begB j b its2.toArray) p1 p2 fun h' hz hTI hTO h1 h2 hsz hk => wpAny_pyIter_zip hz ?_
      have I2 : Inv X pins σ H1 { s1 with heap := h' } := I1.kept (t' := s1.toks) hk
      refine ⟨s1.heap.objs.size + 4, [s1.heap.objs.size + 4, s1.heap.objs.size + 2, s1.heap.objs.size + 3, s1.heap.objs.size, s1.heap.objs.size + 1], _, _, H1, rfl, I2, turn_zpB k j (zpB_apart la lb), ⟨hz, hTI, ⟨_, _, hTO⟩, itB_new h1, itB_new h2⟩, fun c hcm => ?_, q⟩
      have e' : c = s1.heap.objs.size + 4 ∨ c = s1.heap.objs.size + 2 ∨ c = s1.heap.objs.size + 3 ∨ c = s1.heap.objs.size ∨ c = s1.heap.objs.size + 1 := by simpa using hcm
      have hle : s1.heap.objs.size ≤ c := by
        rcases e' with z | z | z | z | z <;> rw [z] <;> first | exact Nat.le_add_right _ _ | exact Nat.le_refl _
      exact I1.fpOk hle (I1.hok.fresh hle)
/-! ### over data -/
def seqD : D → Option (Bool × List D)
  | .lst ds => some (false, ds)
  | .scr ds => some (false, ds)
  | .tup ds => some (true, ds)
  | _ => none
theorem seqD_rep {K : PySem.W.Frag} {cm : CM} {S H : Hp} {v : V} {d : D} {k : Bool} {ds : List D} (sh : Same S H) (h : View K cm S H v d) (e : seqD d = some (k, ds)) : ∃ a xs, v = .ref a ∧ SqB K k H a xs ∧ RepL K cm S xs ds := by
  cases d <;> cases e
  · obtain ⟨a, xs, rfl, h1, h2⟩ := h.tup
    exact ⟨a, xs, rfl, same_sqT sh h1, h2⟩
  · obtain ⟨a, xs, rfl, h1, h2⟩ := h.lst sh
    exact ⟨a, xs, rfl, SqL.of h1, h2⟩
  · obtain ⟨a, xs, rfl, h1, h2⟩ := h.scr
    exact ⟨a, xs, rfl, same_sqL sh h1, h2⟩
def enumL (c : Int) : List D → List D
  | [] => []
  | d :: ds => .tup [.int c, d] :: enumL (c + 1) ds
theorem enumL_get : ∀ {ds : List D} {c : Int} {i : Nat}, (enumL c ds)[i]? = ds[i]?.map fun d => .tup [.int (c + (i : Int)), d]
  | [], _, i => by simp [enumL]
  | d :: ds, c, 0 => by simp [enumL]
  | d :: ds, c, i + 1 => by
    show (enumL (c + 1) ds)[i]? = _
    rw [enumL_get]
    have e : c + 1 + (i : Int) = c + ((i + 1 : Nat) : Int) := by omega
    rw [e]
    simp
theorem enumL_len : ∀ {ds : List D} {c : Int}, (enumL c ds).length = ds.length
  | [], _ => rfl
  | d :: ds, c => by simp [enumL, enumL_len]
def zipL : List D → List D → List D
  | x :: xs, y :: ys => .tup [x, y] :: zipL xs ys
  | _, _ => []
theorem zipL_get : ∀ {xs ys : List D} {i : Nat}, (zipL xs ys)[i]? = match xs[i]?, ys[i]? with
    | some x, some y => some (.tup [x, y])
    | _, _ => none
  | [], ys, i => by cases ys <;> simp [zipL]
  | x :: xs, [], i => by
    simp only [zipL, List.getElem?_nil]
    cases (x :: xs)[i]? <;> rfl
  | x :: xs, y :: ys, 0 => by simp [zipL]
  | x :: xs, y :: ys, i + 1 => by
    show (zipL xs ys)[i]? = _
    rw [zipL_get]
    simp
theorem zipL_len : ∀ {xs ys : List D}, (zipL xs ys).length = min xs.length ys.length
  | [], ys => by cases ys <;> simp [zipL]
  | x :: xs, [] => by simp [zipL]
  | x :: xs, y :: ys => by
    simp only [zipL, List.length_cons, zipL_len]
    omega
section
variable {K : PySem.W.Frag} {cm : CM} {S S' H H' : Hp}
theorem sqB_same {k : Bool} {a : Addr} {xs : List V} (e : Same H H') (h : SqB K k H a xs) : SqB K k H' a xs := by
  cases k
  · exact same_sqL e h
  · exact same_sqT e h
theorem wk_enB {k : Bool} {c : Int} {a : Addr} {xs : List V} {ds : List D} {S B : Hp} (h : ∀ H, Same B H → SqB K k H a xs) (r : RepL K cm S xs ds) : Wk K cm (IteB K k c a) S B (enumL c ds) := fun i S' H s1 s2 s3 => by
  refine ⟨fun d e => ?_, fun l => ?_⟩
  · rw [enumL_get] at e
    cases q : ds[i]? with
    | none => rw [q] at e; cases e
    | some d0 =>
      rw [q] at e
      cases e
      obtain ⟨v, e1, r1⟩ := r.get q
      refine ⟨⟨xs, v, h H s3, e1⟩, fun x H' ⟨T, y, e2, e3, e4, e5⟩ => ?_⟩
      have := e5 xs (h H s3)
      rw [e1] at this
      cases this
      subst e2 e4
      exact ⟨_, Xt.new s2 e3, .tup (.inl (.inl upd_same)) (.cons (.int _) (.cons (r1.mono (s1.trans (same_upd (s2.free e3)))) .nil))⟩
  · exact ⟨xs, h H s3, by rw [r.length, ← l, enumL_len]⟩
theorem wk_zpB {k j : Bool} {a b : Addr} {xs ys : List V} {ds es : List D} {S B : Hp} (h : ∀ H, Same B H → SqB K k H a xs) (h2 : ∀ H, Same B H → SqB K j H b ys) (r : RepL K cm S xs ds) (r2 : RepL K cm S ys es) : Wk K cm (ItzB K k j a b) S B (zipL ds es) := fun i S' H s1 s2 s3 => by
  refine ⟨fun d e => ?_, fun l => ?_⟩
  · rw [zipL_get] at e
    split at e
    · rename_i d1 d2 q1 q2
      cases e
      obtain ⟨v, e1, r1⟩ := r.get q1
      obtain ⟨u, e2, r3⟩ := r2.get q2
      refine ⟨⟨xs, ys, v, u, h H s3, h2 H s3, e1, e2⟩, fun x H' ⟨T, y, z, f1, f2, f3, f4, f5⟩ => ?_⟩
      have z1 := f4 xs (h H s3)
      have z2 := f5 ys (h2 H s3)
      rw [e1] at z1
      rw [e2] at z2
      cases z1
      cases z2
      subst f1 f3
      have s4 := s1.trans (same_upd (o := .tup [v, u]) (s2.free f2))
      exact ⟨_, Xt.new s2 f2, .tup (.inl (.inl upd_same)) (.cons (r1.mono s4) (.cons (r3.mono s4) .nil))⟩
    · cases e
  · exact ⟨xs, ys, h H s3, h2 H s3, by rw [r.length, r2.length, ← l, zipL_len]⟩
end
/-- enumerate(e) -/
def enumI (f : LS → R (List D)) : LS → R (List D) := fun st => (f st).bind fun ds => match ds with
  | [d] => .of ((seqD d).map fun p => enumL 0 p.2)
  | _ => .bad
/-- zip(e, e2) -/
def zipI (f : LS → R (List D)) : LS → R (List D) := fun st => (f st).bind fun ds => match ds with
  | [d, e] => .of ((seqD d).bind fun p => (seqD e).map fun q => zipL p.2 q.2)
  | _ => .bad
section
variable {X : Cx} {cm : CM} {W : WH} {e e2 : Expr} {p pos tpos : Pos} {elts : List Expr} {kk : Nat} {args : LS → R (List D)}
theorem i_enum (hm : X.mg "enumerate" = none) (ha : PA X [e] (EA X.K cm W args)) (hg : Gl X "enumerate" := by rfl) (hs : starEach [e] X.env = [(false, eval e X.env)] := by rfl) :
    PI X (.Tuple elts kk tpos) (.Call (.Name "enumerate" p) [e] [] pos) (IE X.K cm W (enumI args)) :=
  (pi_enB hg hm ha hs).imp fun σ H R ⟨st, S, fp, r, g⟩ => ⟨st, S, fp, r, g.bind.mono fun ds S1 H1 x1 k1 vs hv => by
    match ds, k1, hv with
    | [d], k1, hv =>
      obtain ⟨its, hi, k2⟩ := k1.of
      cases q : seqD d with
      | none => rw [q] at hi; cases hi
      | some pr =>
        obtain ⟨k, ds⟩ := pr
        rw [q] at hi
        cases hi
        obtain ⟨v, rfl, rv⟩ := rep1 hv
        obtain ⟨a, xs, rfl, h1, h2⟩ := seqD_rep (Same.refl S1) (.inl rv) q
        exact ⟨k, a, xs, rfl, sqB_same x1.sh h1, k2 H1 S1 (Xt.refl x1.sh) _ (wk_enB (fun H s => sqB_same s h1) h2)⟩
    | [], k1, hv => exact k1.elim
    | _ :: _ :: _, k1, hv => exact k1.elim⟩
theorem i_zip (hm : X.mg "zip" = none) (ha : PA X [e, e2] (EA X.K cm W args)) (hg : Gl X "zip" := by rfl) (hs : starEach [e, e2] X.env = (false, eval e X.env) :: starEach [e2] X.env := by rfl) (hpl : (backTo pos (starEach [e2] X.env)).any (·.1) = false := by rfl) :
    PI X (.Tuple elts kk tpos) (.Call (.Name "zip" p) [e, e2] [] pos) (IE X.K cm W (zipI args)) :=
  (pi_zpB hg hm ha hs hpl).imp fun σ H R ⟨st, S, fp, r, g⟩ => ⟨st, S, fp, r, g.bind.mono fun ds S1 H1 x1 k1 vs hv => by
    match ds, k1, hv with
    | [d, e], k1, hv =>
      obtain ⟨its, hi, k2⟩ := k1.of
      cases q : seqD d with
      | none => rw [q] at hi; cases hi
      | some pr =>
        obtain ⟨k, ds⟩ := pr
        rw [q] at hi
        cases q2 : seqD e with
        | none =>
          replace hi : (seqD e).map (fun q => zipL ds q.2) = some its := hi
          rw [q2] at hi; cases hi
        | some pr2 =>
          obtain ⟨j, es⟩ := pr2
          replace hi : (seqD e).map (fun q => zipL ds q.2) = some its := hi
          rw [q2] at hi
          cases hi
          obtain ⟨v, u, rfl, rv, ru⟩ := rep2 hv
          obtain ⟨a, xs, rfl, h1, h2⟩ := seqD_rep (Same.refl S1) (.inl rv) q
          obtain ⟨b, ys, rfl, h3, h4⟩ := seqD_rep (Same.refl S1) (.inl ru) q2
          exact ⟨k, j, a, b, xs, ys, rfl, sqB_same x1.sh h1, sqB_same x1.sh h3, k2 H1 S1 (Xt.refl x1.sh) _ (wk_zpB (fun H s => sqB_same s h1) (fun H s => sqB_same s h3) h2 h4)⟩
    | [], k1, hv => exact k1.elim
    | [_], k1, hv => exact k1.elim
    | _ :: _ :: _ :: _, k1, hv => exact k1.elim⟩
end
end DI
end
section
set_option Elab.async false
set_option linter.all false
set_option maxRecDepth 100000
set_option maxHeartbeats 2000000
/-! DI: bundles for the text that the program prints. -/
namespace DI
open PySem PySem.Spec PyProof.Rows L2
def frzS (i : Nat) (F : LS → Out) : LS → Out := fun st => F (frz i st)
theorem takesF {X : Cx} : Takes X WF.w := fun u s' ⟨a, B, sI, pins, σ, H, cls, d, e, I, nb, up, sky, na, os, ag, w⟩ => w.elim
/-- a def, its promise, its default values -/
structure DefP (P : Program) (w : World) (K : PySem.W.Frag) (mg : Str → Option Value) (base : Heap) (cm : CM) (k n : Nat) (f : Addr) (F : List D → R D) (dds : List D) : Prop where
  ok : ∃ fd ps dvs, FnOk P w K mg base (L2.CX P w) k f fd ps (spD K cm n F) ∧ (∀ S, RepL K cm S dvs dds) ∧ ∀ j, j ≤ dds.length → ∃ us, Vals (dvs.drop j) us ∧ Binds K fd ps us
/-- an __init__ -/
structure IniP (P : Program) (w : World) (K : PySem.W.Frag) (mg : Str → Option Value) (base : Heap) (cm : CM) (k n c : Nat) (f : Addr) (F : List D → R (List D)) (dds : List D) : Prop where
  ok : ∃ fd ps dvs, FnOk P w K mg base (L2.CX P w) k f fd ps (spI K cm c n F) ∧ (∀ S, RepL K cm S dvs dds) ∧ ∀ j, j ≤ dds.length → ∃ us, Vals (dvs.drop j) us ∧ Binds K fd ps us
/-- the name stands at the top for this def -/
structure At (K : PySem.W.Frag) (mg : Str → Option Value) (x : Str) (f : Addr) : Prop where
  mg : mg x = some (.ref f)
  kp : PySem.W.keepIn K (.ref f) = true
/-- the name stands at the top for this class -/
structure ClsAt (K : PySem.W.Frag) (mg : Str → Option Value) (cm : CM) (x : Str) (c : Nat) (f : Addr) : Prop where
  mg : mg x = some (.ref (cm.addr c))
  make : Mk K (cm.addr c) f
  mem : c ∈ cm.cls
section
variable {X : Cx} {cm : CM} {W : WH} {k n c : Nat} {f : Addr} {x m : Str} {p pos apos : Pos} {e o a b : Expr} {es : List Expr} {args : LS → R (List D)} {fo f1 g1 : LS → R D} {F : List D → R D} {G : List D → R (List D)} {dds : List D}
theorem e_callP (j : Nat) (h : DefP X.prog X.w X.K X.mg X.base cm k n f F dds) (A : At X.K X.mg x f) (tk : Takes X W.w) (hr : Room k X.A) (hj : j ≤ dds.length) (ha : PA X (e :: es) (EA X.K cm W args)) (hg : Gl X x := by rfl) (hdb : (x == ("__debug__" : Str)) = false := by decide)
    (he : starEach (e :: es) X.env = (false, eval e X.env) :: starEach es X.env := by rfl) (hpl : (backTo pos (starEach es X.env)).any (·.1) = false := by rfl) : PE X (.Call (.Name x p) (e :: es) [] pos) (E X.K cm W (callU (ar n F) (dds.drop j) args)) := by
  obtain ⟨fd, ps, dvs, h1, r, h2⟩ := h.ok
  obtain ⟨us, h3, h4⟩ := h2 j hj
  exact e_call h1 tk hr A.mg A.kp h4 h3 (fun S => (r S).drop j) ha hg hdb he hpl
theorem e_makeP (j : Nat) (h : IniP X.prog X.w X.K X.mg X.base cm k n c f G dds) (A : ClsAt X.K X.mg cm x c f) (tk : Takes X W.w) (hr : Room (k + 1) X.A) (hj : j ≤ dds.length) (ha : PA X (e :: es) (EA X.K cm W args)) (hg : Gl X x := by rfl) (hdb : (x == ("__debug__" : Str)) = false := by decide)
    (he : starEach (e :: es) X.env = (false, eval e X.env) :: starEach es X.env := by rfl) (hpl : (backTo pos (starEach es X.env)).any (·.1) = false := by rfl) : PE X (.Call (.Name x p) (e :: es) [] pos) (E X.K cm W (makeU c (arI n G) (dds.drop j) args)) := by
  obtain ⟨fd, ps, dvs, h1, r, h2⟩ := h.ok
  obtain ⟨us, h3, h4⟩ := h2 j hj
  exact e_make A.mem rfl A.make h1 tk hr A.mg h4 h3 (fun S => (r S).drop j) ha hg hdb he hpl
end
def fuel : Nat := 1000000000000
def dIAdd : D → D → Option D := dII fun i j => some (.int (i + j))
theorem d_ip {K : PySem.W.Frag} {cm : CM} {g : Int → Int → Int} : Op2 K cm (ipI g) (dII fun i j => some (.int (g i j))) := by
  intro S H x y d e z Q sh hx hy ho k
  cases d <;> cases e <;> try (cases ho; done)
  rw [hx.int, hy.int]
  cases ho
  exact ⟨_, _, rfl, rfl, k H S (Xt.refl sh) _ (.int _)⟩
theorem d_ipAdd {K : PySem.W.Frag} {cm : CM} : Op2 K cm (ipI fun i j => i + j) dIAdd := d_ip
/-- an empty tuple that stands -/
theorem rep_t0 {K : PySem.W.Frag} {cm : CM} {t : Addr} {o : Obj} {n : Nat} (h : K.lookup t = some o) (c : o.cls = .type "tuple") (d : o.data = .seq #[] n) : ∀ S, Rep K cm S (.ref t) (.tup []) := fun S => .tup (.inr ⟨o, #[], n, h, c, d, by decide, .nil⟩) .nil
/-! ### built-in names -/
theorem b_len : bootBuiltins "len" = some (.builtin "len") := by decide +kernel
theorem b_max : bootBuiltins "max" = some (.builtin "max") := by decide +kernel
theorem b_min : bootBuiltins "min" = some (.builtin "min") := by decide +kernel
theorem b_sum : bootBuiltins "sum" = some (.builtin "sum") := by decide +kernel
theorem b_sorted : bootBuiltins "sorted" = some (.builtin "sorted") := by decide +kernel
theorem b_int : bootBuiltins "int" = some (.type "int") := by decide +kernel
theorem b_bool : bootBuiltins "bool" = some (.type "bool") := by decide +kernel
theorem b_list : bootBuiltins "list" = some (.type "list") := by decide +kernel
theorem b_tuple : bootBuiltins "tuple" = some (.type "tuple") := by decide +kernel
/-! ### what stands at the top -/
def mkCM (P : Program) (w : World) (l : List (Nat × Addr × List Str)) : CM where
  addr c := ((l.lookup c).map (·.1)).getD 0
  names c := ((l.lookup c).map (·.2)).getD []
  setO := SetTO P w
  nd := NDO P w
  cls := l.map (·.1)
theorem fa_nil {p : Nat → Prop} : ∀ c ∈ ([] : List Nat), p c := fun _ m => nomatch m
theorem fa_cons {p : Nat → Prop} {a : Nat} {l : List Nat} (h : p a) (t : ∀ c ∈ l, p c) : ∀ c ∈ a :: l, p c := fun c m => (List.mem_cons.mp m).elim (fun e => e ▸ h) (t c)
theorem fp_nil {p : Nat × Nat → Prop} : ∀ c ∈ ([] : List (Nat × Nat)), p c := fun _ m => nomatch m
theorem fp_cons {p : Nat × Nat → Prop} {a : Nat × Nat} {l : List (Nat × Nat)} (h : p a) (t : ∀ c ∈ l, p c) : ∀ c ∈ a :: l, p c := fun c m => (List.mem_cons.mp m).elim (fun e => e ▸ h) (t c)
/-! ### the law -/
/-- the law's promise, told without classes -/
def spLaw (K : PySem.W.Frag) : Sp := fun vs H Q _ => ∃ (a : Addr) (ns : List Int), vs = [.ref a] ∧ SqL K H a (ns.map V.int) ∧ ns.length ≤ 63 ∧ (∀ z ∈ ns, Builtin.Int.intBits z ≤ 1048576) ∧ ∀ H', Q (.bl true) H'
theorem law_sp {K : PySem.W.Frag} {cm : CM} {F : List D → R D} (h : ∀ ns : List Int, ns.length ≤ 63 → (∀ z ∈ ns, Builtin.Int.intBits z ≤ 1048576) → F [.scr (ns.map D.int)] = .ok (.bl true)) : ∀ vs H Q E, spLaw K vs H Q E → spD K cm 1 F vs H Q E := by
  rintro vs H Q E ⟨a, ns, rfl, hS, hl, hb, k⟩
  refine ⟨rfl, H, [.scr (ns.map D.int)], Same.refl H, .cons (.scr hS (RepL.ints ns)) .nil, ?_⟩
  show Fin K cm H H Q E (F [.scr (ns.map D.int)])
  rw [h ns hl hb]
  intro v H' S' x hv
  cases hv
  exact k H'
theorem cx_none {P : Program} {w : World} {H : Hp} {s : Shared} {e : Value} {s' : Shared} (h : L2.CX P w [] H s (fun _ _ _ => False) e s') : False := by
  obtain ⟨a, B, H', cls, d, rfl, fl, hok, ub, na, os, ag, hE⟩ := h
  exact hE
theorem walk {l : PySem.W.OpenLaw} {q : Program} {loose : List Str} {XP : (Str → Option Value) → Heap → Prop} {YP : World → Heap → Prop} {d : DefRec} {K : Params → PySem.W.Frag} {k : Nat} (hn : l.most = some 63) (hdf : d.params.defaults = []) (hr : Room k callerA)
    (hY : ∀ (w : World) (h : Heap), YP w h → (K w.params).In h)
    (F : ∀ (w : World) (mg : Str → Option Value) (fa : Addr) (h : Heap), (K w.params).In h → h.Ns mainGlobals mg → mg d.name = some (.ref fa) →
      ∃ fd : FuncData, (∀ (s : Shared) (u : Value), BindsTo s fd ⟨[u], []⟩ [("_law_script", u)]) ∧ ∀ base : Heap, (K w.params).In base → base.Ns mainGlobals mg → FnOk l.prog w (K w.params) mg base (L2.CX l.prog w) k fa fd ["_law_script"] (spLaw (K w.params))) :
    PySem.W.WalkO q loose XP YP l.row.toRowW d [] (fun f vs => PySem.call f vs) :=
  walk_ofB (n := 63) (k := k) (x := "_law_script") (CX := fun w => L2.CX l.prog w) (sp := fun w => spLaw (K w.params)) hn (by decide) hdf hr hY F (fun w H a ns hl hb _ hS => ⟨a, ns, rfl, hS, hl, hb, fun _ => rfl⟩) fun w H s e s' z => cx_none z
end DI
end
section
set_option Elab.async false
set_option linter.all false
set_option maxRecDepth 100000
set_option maxHeartbeats 2000000
/-! DI: reckoning with denotations. -/
namespace DI
open PySem L2
section
variable {st : LS} {F G : LS → Out} {f g : LS → R D} {a b : D} {d e : D} {o : Option (Option T)} {t : T} {i j : Int} {α β : Type} {k : α → Out} {kk : α → R β}
@[simp] theorem ev_get0 {x : Option T} {l : LS} : (x :: l)[0]? = some x := rfl
@[simp] theorem ev_getS {x : Option T} {l : LS} {n : Nat} : (x :: l)[n + 1]? = l[n]? := rfl
@[simp] theorem ev_put0 {x y : Option T} {l : LS} : (x :: l).set 0 y = y :: l := rfl
@[simp] theorem ev_putS {x y : Option T} {l : LS} {n : Nat} : (x :: l).set (n + 1) y = x :: l.set n y := rfl
@[simp] theorem ev_seq : seqS F G st = (F st).seq G := rfl
@[simp] theorem ev_seq_nx : (Out.nx st).seq G = G st := rfl
@[simp] theorem ev_seq_rt : (Out.rt d).seq G = .rt d := rfl
@[simp] theorem ev_seq_bk : (Out.bk st).seq G = .bk st := rfl
@[simp] theorem ev_seq_ct : (Out.ct st).seq G = .ct st := rfl
@[simp] theorem ev_seq_ex {x : Ex} : (Out.ex st x).seq G = .ex st x := rfl
theorem ev_seq_ite {c : Prop} [Decidable c] {x y : Out} : (if c then x else y).seq G = if c then x.seq G else y.seq G := by split <;> rfl
@[simp] theorem ev_end_rt : (Out.rt d).end = .ok d := rfl
@[simp] theorem ev_end_nx : (Out.nx st).end = .ok .non := rfl
@[simp] theorem ev_end_ex {x : Ex} : (Out.ex st x).end = .ex x := rfl
theorem ev_end_ite {c : Prop} [Decidable c] {x y : Out} : (if c then x else y).end = if c then x.end else y.end := by split <;> rfl
@[simp] theorem ev_nil : nilS st = .nx st := rfl
@[simp] theorem ev_ok {x : α} : (R.ok x).bind kk = kk x := rfl
@[simp] theorem ev_ex {x : Ex} : (R.ex x : R α).bind kk = .ex x := rfl
@[simp] theorem ev_out {x : α} : (R.ok x).out st k = k x := rfl
@[simp] theorem ev_outx {x : Ex} : (R.ex x : R α).out st k = .ex st x := rfl
@[simp] theorem ev_of {x : α} : R.of (some x) = .ok x := rfl
@[simp] theorem ev_bind_ite {c : Prop} [Decidable c] {x y : R α} : (if c then x else y).bind kk = if c then x.bind kk else y.bind kk := by split <;> rfl
@[simp] theorem ev_out_ite {c : Prop} [Decidable c] {x y : R α} : (if c then x else y).out st k = if c then x.out st k else y.out st k := by split <;> rfl
@[simp] theorem ev_imD : imD (some (some (.im d))) = some d := rfl
@[simp] theorem ev_vi {n : Nat} : vi n st = .of (imD st[n]?) := rfl
@[simp] theorem ev_vv {n : Nat} : vv n st = .of (viewD st[n]?) := rfl
@[simp] theorem ev_viewI : viewD (some (some (.im d))) = some d := rfl
@[simp] theorem ev_viewL {ts : List T} : viewD (some (some (.lst ts))) = (imms ts).map .lst := rfl
@[simp] theorem ev_imms {ds : List D} : imms (ds.map .im) = some ds := by
  induction ds with
  | nil => rfl
  | cons d ds ih => rw [List.map_cons]; unfold imms; rw [ih]; rfl
@[simp] theorem ev_cc : cc d st = .ok d := rfl
@[simp] theorem ev_bin {op : D → D → Option D} : bin op f g st = (f st).bind fun x => (g st).bind fun y => .of (op x y) := rfl
@[simp] theorem ev_un {op : D → Option D} : un op f st = (f st).bind fun x => .of (op x) := rfl
@[simp] theorem ev_tb : tb f st = (f st).bind fun x => .of (dB x) := rfl
@[simp] theorem ev_dB {b : Bool} : dB (.bl b) = some b := rfl
@[simp] theorem ev_chain {op op' : D → D → Option D} {h : LS → R D} : chain op op' f g h st = (f st).bind fun x => (g st).bind fun y => (R.of (op x y)).bind fun z => (R.of (dB z)).bind fun b => if b = true then (h st).bind fun u => .of (op' y u) else .ok (.bl false) := rfl
@[simp] theorem ev_andB {p q : LS → R Bool} : andB p q st = (p st).bind fun b => if b = true then q st else .ok false := rfl
@[simp] theorem ev_orB {p q : LS → R Bool} : orB p q st = (p st).bind fun b => if b = true then .ok true else q st := rfl
@[simp] theorem ev_notB {p : LS → R Bool} : notB p st = (p st).bind fun b => .ok (!b) := rfl
@[simp] theorem ev_andE : andE f g st = (f st).bind fun x => (R.of (dB x)).bind fun b => if b = true then g st else .ok (.bl false) := rfl
@[simp] theorem ev_orE : orE f g st = (f st).bind fun x => (R.of (dB x)).bind fun b => if b = true then .ok (.bl true) else g st := rfl
@[simp] theorem ev_notE : notE f st = (f st).bind fun x => .of (dNot x) := rfl
@[simp] theorem ev_dNot {b : Bool} : dNot (.bl b) = some (.bl (!b)) := rfl
@[simp] theorem ev_ifE {p : LS → R Bool} : ifE p f g st = (p st).bind fun b => if b = true then f st else g st := rfl
@[simp] theorem ev_nilA : nilA st = .ok [] := rfl
@[simp] theorem ev_consA {r : LS → R (List D)} : consA f r st = (f st).bind fun x => (r st).bind fun xs => .ok (x :: xs) := rfl
@[simp] theorem ev_tupE {r : LS → R (List D)} : tupE r st = (r st).bind fun ds => .of ((lineL ds).map .tup) := rfl
@[simp] theorem ev_lstE {r : LS → R (List D)} : lstE r st = (r st).bind fun ds => .of ((lineL ds).map .lst) := rfl
@[simp] theorem ev_lstF {r : LS → R (List D)} : lstF r st = (r st).bind fun ds => .of ((lineL ds).map imT) := rfl
@[simp] theorem ev_line0 : lineL [] = some [] := if_pos (Nat.zero_le _)
theorem ev_line {ds : List D} (h : ds.length ≤ 16777216) : lineL ds = some ds := if_pos h
@[simp] theorem ev_ret : retS f st = (f st).out st .rt := rfl
@[simp] theorem ev_set {n : Nat} : setS n f st = (f st).out st fun d => .nx (st.set n (some (.im d))) := rfl
@[simp] theorem ev_setF {n : Nat} {f : LS → R T} : setF n f st = (f st).out st fun t => .nx (st.set n (some t)) := rfl
@[simp] theorem ev_asg {gg : D → LS → Option LS} : asgS f gg st = (f st).out st fun d => .of (gg d st) := rfl
@[simp] theorem ev_Oof : Out.of (some st) = .nx st := rfl
theorem ev_if {c : LS → R Bool} : ifS c F G st = (c st).out st fun b => if b = true then F st else G st := rfl
@[simp] theorem ev_drop : dropS f st = (f st).out st fun _ => .nx st := rfl
@[simp] theorem ev_for {fi : LS → R (List D)} {gg : D → LS → Option LS} : forS fi gg F st = (fi st).out st fun ds => forL gg F ds st := rfl
@[simp] theorem ev_while {n : Nat} {c : LS → R Bool} : whileS n c F st = whileL c F n st := rfl
@[simp] theorem ev_frzS {n : Nat} : frzS n F st = F (frz n st) := rfl
@[simp] theorem ev_gN {n : Nat} : gN n d st = some (st.set n (some (.im d))) := rfl
@[simp] theorem ev_gsNil : gsNil [] st = some st := rfl
@[simp] theorem ev_gsCons {gg : D → LS → Option LS} {hh : List D → LS → Option LS} {ds : List D} : gsCons gg hh (d :: ds) st = (gg d st).bind fun s => hh ds s := rfl
@[simp] theorem ev_gT {n : Nat} {hh : List D → LS → Option LS} {ds : List D} : gT n hh (.tup ds) st = if ds.length = n then hh ds st else none := rfl
def oB {α : Type} (o : Option α) (k : α → Out) : Out := match o with
  | none => .bad
  | some a => k a
@[simp] theorem oB_some {α : Type} {a : α} {k : α → Out} : oB (some a) k = k a := rfl
@[simp] theorem ev_app {n : Nat} {f : LS → R T} : appS n f st = oB (ownL st[n]?) fun ts => (f st).out st fun t => if ts.length < sizeLine then .nx (st.set n (some (.lst (ts ++ [t])))) else .bad := by
  unfold appS
  cases ownL st[n]? <;> rfl
@[simp] theorem ev_frz0 {t : T} {l : LS} : frz 0 (some t :: l) = some (.im t.toD) :: l := rfl
@[simp] theorem ev_frzS' {n : Nat} {x : Option T} {l : LS} : frz (n + 1) (x :: l) = x :: frz n l := by
  unfold frz
  rw [ev_getS]
  split <;> rfl
@[simp] theorem ev_size : sizeLine = 16777216 := rfl
@[simp] theorem ev_imI {xs : List D} : (List.map T.im xs).length = xs.length := List.length_map ..
@[simp] theorem ev_ownL {ts : List T} : ownL (some (some (.lst ts))) = some ts := rfl
@[simp] theorem ev_callU {H : List D → R D} {dd : List D} {r : LS → R (List D)} : callU H dd r st = (r st).bind fun ds => H (ds ++ dd) := rfl
theorem ev_ar {n : Nat} {H : List D → R D} {ds : List D} (h : ds.length = n) : ar n H ds = H ds := if_pos h
theorem ev_arI {n : Nat} {H : List D → R (List D)} {ds : List D} (h : ds.length = n) : arI n H ds = H ds := if_pos h
@[simp] theorem ev_makeU {c : Nat} {H : List D → R (List D)} {dd : List D} {r : LS → R (List D)} : makeU c H dd r st = (r st).bind fun ds => (H (ds ++ dd)).bind fun fs => .ok (.ins c fs) := rfl
@[simp] theorem ev_callE {op : List D → Option D} {r : LS → R (List D)} : callE op r st = (r st).bind fun ds => .of (op ds) := rfl
@[simp] theorem ev_callF {op : List D → Option (List D)} {r : LS → R (List D)} : callF op r st = (r st).bind fun ds => .of ((op ds).map imT) := rfl
@[simp] theorem ev_callI {op : List D → Option (List D)} {r : LS → R (List D)} : callI op r st = (r st).bind fun ds => .of (op ds) := rfl
@[simp] theorem ev_items : items f st = (f st).bind fun d => .of (itemsD d) := rfl
@[simp] theorem ev_itL {ds : List D} : itemsD (.lst ds) = some ds := rfl
@[simp] theorem ev_itT {ds : List D} : itemsD (.tup ds) = some ds := rfl
@[simp] theorem ev_itS {ds : List D} : itemsD (.scr ds) = some ds := rfl
def enumX : List D → R (List D)
  | [d] => .of ((seqD d).map fun p => enumL 0 p.2)
  | _ => .bad
@[simp] theorem ev_enum {r : LS → R (List D)} : enumI r st = (r st).bind enumX := rfl
@[simp] theorem ev_enumT {ds : List D} : enumX [.tup ds] = .ok (enumL 0 ds) := rfl
@[simp] theorem ev_enumL {ds : List D} : enumX [.lst ds] = .ok (enumL 0 ds) := rfl
def zipX : List D → R (List D)
  | [d, e] => .of ((seqD d).bind fun p => (seqD e).map fun q => zipL p.2 q.2)
  | _ => .bad
@[simp] theorem ev_zip {r : LS → R (List D)} : zipI r st = (r st).bind zipX := rfl
@[simp] theorem ev_zipTT {ds es : List D} : zipX [.tup ds, .tup es] = .ok (zipL ds es) := rfl
@[simp] theorem ev_zipTL {ds es : List D} : zipX [.tup ds, .lst es] = .ok (zipL ds es) := rfl
@[simp] theorem ev_zipLT {ds es : List D} : zipX [.lst ds, .tup es] = .ok (zipL ds es) := rfl
@[simp] theorem ev_zipLL {ds es : List D} : zipX [.lst ds, .lst es] = .ok (zipL ds es) := rfl
@[simp] theorem ev_compE {fi : LS → R (List D)} {vs : List Nat} {gg : D → LS → Option LS} {c : LS → R Bool} : compE fi vs gg c f st = (compR fi vs gg c f st).bind fun ys => .ok (.lst ys) := rfl
@[simp] theorem ev_compF {fi : LS → R (List D)} {vs : List Nat} {gg : D → LS → Option LS} {c : LS → R Bool} : compF fi vs gg c f st = (compR fi vs gg c f st).bind fun ys => .ok (imT ys) := rfl
@[simp] theorem ev_compR {fi : LS → R (List D)} {vs : List Nat} {gg : D → LS → Option LS} {c : LS → R Bool} : compR fi vs gg c f st = (fi st).bind fun ds => if ds.length ≤ sizeLine then compL gg c f (wipeS st vs) ds else .bad := rfl
@[simp] theorem ev_yes : yesT st = .ok true := rfl
@[simp] theorem ev_noex {x : α} : (R.ok x).noex = .ok x := rfl
@[simp] theorem ev_wipe0 : wipeS st [] = st := rfl
@[simp] theorem ev_wipe1 {n : Nat} {ns : List Nat} : wipeS st (n :: ns) = (wipeS st ns).set n none := rfl
@[simp] theorem ev_op2R {op : D → D → R D} : op2R op f g st = (f st).bind fun x => (g st).bind fun y => op x y := rfl
@[simp] theorem ev_slE {lo hi : LS → R (Option Int)} : slE f lo hi st = (f st).bind fun d => (lo st).bind fun l => (hi st).bind fun h => .of (dSl d l h) := rfl
@[simp] theorem ev_partN : partN st = .ok none := rfl
@[simp] theorem ev_partI : partI f st = (f st).bind fun d => (R.of (dInt d)).bind fun i => .ok (some i) := rfl
@[simp] theorem ev_dInt : dInt (.int i) = some i := rfl
@[simp] theorem ev_den {m : Nat} {ds : List D} : den m F ds = (F (st0 m ds)).end := rfl
@[simp] theorem ev_st0_0 : st0 0 [] = [] := rfl
theorem ev_st0n {n : Nat} : st0 n [] = List.replicate n none := by unfold st0; simp
@[simp] theorem ev_st0 {n : Nat} {ds : List D} : st0 (n + 1) (d :: ds) = some (.im d) :: st0 n ds := by unfold st0; simp [Nat.add_sub_add_right]
/-! operators -/
@[simp] theorem ev_add : dAdd (.int i) (.int j) = some (.int (i + j)) := rfl
@[simp] theorem ev_sub : dSub (.int i) (.int j) = some (.int (i - j)) := rfl
@[simp] theorem ev_iadd : dIAdd (.int i) (.int j) = some (.int (i + j)) := rfl
@[simp] theorem ev_lt : dLt (.int i) (.int j) = some (.bl (decide (i < j))) := rfl
@[simp] theorem ev_le : dLe (.int i) (.int j) = some (.bl (decide (i ≤ j))) := rfl
@[simp] theorem ev_gt : dGt (.int i) (.int j) = some (.bl (decide (j < i))) := rfl
@[simp] theorem ev_ge : dGe (.int i) (.int j) = some (.bl (decide (j ≤ i))) := rfl
theorem ev_mod (h : 0 < j) : dMod (.int i) (.int j) = some (.int (i % j)) := by
  show (if decide (0 < j) = true then some (D.int (i % j)) else none) = _
  rw [if_pos (decide_eq_true h)]
theorem ev_div (h : 0 < j) (h2 : j < 1000000000000000000000000000000000000000000000000000000000000000000000000000) : dDiv (.int i) (.int j) = some (.int (i / j)) := by
  have : divC i j = true := by
    unfold divC
    rw [Bool.and_eq_true, decide_eq_true_eq, decide_eq_true_eq]
    refine ⟨h, ?_⟩
    have e : j.natAbs < 2 ^ 300 := Nat.lt_of_lt_of_le (show j.natAbs < 1000000000000000000000000000000000000000000000000000000000000000000000000000 by omega) (by decide)
    rcases Nat.eq_zero_or_pos j.natAbs with z | z
    · rw [z]; decide
    · have := (Nat.log2_lt (by omega)).mpr e
      omega
  show (if divC i j = true then some (D.int (i / j)) else none) = _
  rw [if_pos this]
theorem log_small {n : Nat} {k : Nat} (h : n < 2 ^ k) (hk : 0 < k) : n.log2 < k := by
  rcases Nat.eq_zero_or_pos n with z | z
  · rw [z]; exact hk
  · exact (Nat.log2_lt (by omega)).mpr h
theorem ev_mul (h1 : -1000000000000000000000000000000000000000000000000000000000000000000000000000 < i) (h2 : i < 1000000000000000000000000000000000000000000000000000000000000000000000000000) (h3 : -1000000000000000000000000000000000000000000000000000000000000000000000000000 < j) (h4 : j < 1000000000000000000000000000000000000000000000000000000000000000000000000000) : dMul (.int i) (.int j) = some (.int (i * j)) := by
  have a1 : i.natAbs < 2 ^ 300 := Nat.lt_of_lt_of_le (show i.natAbs < 1000000000000000000000000000000000000000000000000000000000000000000000000000 by omega) (by decide)
  have a2 : j.natAbs < 2 ^ 300 := Nat.lt_of_lt_of_le (show j.natAbs < 1000000000000000000000000000000000000000000000000000000000000000000000000000 by omega) (by decide)
  have b1 := log_small a1 (by decide)
  have b2 := log_small a2 (by decide)
  have : mulC i j = true := by
    unfold mulC
    rw [decide_eq_true_eq]
    omega
  show (if mulC i j = true then some (D.int (i * j)) else none) = _
  rw [if_pos this]
theorem ev_pow (h1 : 0 ≤ j) (h2 : j ≤ 1000000) (h3 : i.natAbs < 2 ^ 64) : dPow (.int i) (.int j) = some (.int (i ^ j.toNat)) := by
  have : powC i j = true := by
    unfold powC
    simp [h1, h2, h3]
  show (if powC i j = true then some (D.int (i ^ j.toNat)) else none) = _
  rw [if_pos this]
@[simp] theorem ev_toInt : dToInt [.int i] = some (.int i) := rfl
@[simp] theorem ev_toIntB {b : Bool} : dToInt [.bl b] = some (.int (if b = true then 1 else 0)) := rfl
@[simp] theorem ev_max2 : dMax2 [.int i, .int j] = some (.int (max i j)) := by
  show some (D.int (if j > i then j else i)) = _
  congr 2
  split <;> omega
@[simp] theorem ev_min2 : dMin2 [.int i, .int j] = some (.int (min i j)) := by
  show some (D.int (if j < i then j else i)) = _
  congr 2
  split <;> omega
@[simp] theorem ev_lenL {ds : List D} : dLen [.lst ds] = some (.int ds.length) := rfl
@[simp] theorem ev_lenT {ds : List D} : dLen [.tup ds] = some (.int ds.length) := rfl
@[simp] theorem ev_lenS {ds : List D} : dLen [.scr ds] = some (.int ds.length) := rfl
@[simp] theorem ev_tupL {ds : List D} : dTuple [.lst ds] = some (.tup ds) := rfl
@[simp] theorem ev_tupT {ds : List D} : dTuple [.tup ds] = some (.tup ds) := rfl
@[simp] theorem ev_listL {ds : List D} : dListF [.lst ds] = some ds := rfl
@[simp] theorem ev_listT {ds : List D} : dListF [.tup ds] = some ds := rfl
@[simp] theorem ev_dL {ds : List D} : dL (some ds) = some (.lst ds) := rfl
theorem ev_rng1 (h : i ≤ 1000000000) (h2 : -1000000000 ≤ i) : rng1 [.int i] = some (rangeD 0 i.toNat) := if_pos ⟨by omega, by omega⟩
theorem ev_rng2 (h : i ≤ 1000000000) (h2 : -1000000000 ≤ i) (h3 : j ≤ 1000000000) (h4 : -1000000000 ≤ j) : rng2 [.int i, .int j] = some (rangeD i (j - i).toNat) := if_pos ⟨by omega, by omega, by omega, by omega⟩
theorem ev_idx {ds : List D} (h : 0 ≤ i) (h2 : i.toNat < ds.length) : dIdx (.lst ds) (.int i) = ds[i.toNat]? := by
  show atI ds i = _
  unfold atI ixN
  rw [if_pos h, if_pos (by omega)]
  rfl
theorem ev_idxT {ds : List D} (h : 0 ≤ i) (h2 : i.toNat < ds.length) : dIdx (.tup ds) (.int i) = ds[i.toNat]? := by
  show atI ds i = _
  unfold atI ixN
  rw [if_pos h, if_pos (by omega)]
  rfl
theorem ev_idxS {ds : List D} (h : 0 ≤ i) (h2 : i.toNat < ds.length) : dIdx (.scr ds) (.int i) = ds[i.toNat]? := by
  show atI ds i = _
  unfold atI ixN
  rw [if_pos h, if_pos (by omega)]
  rfl
@[simp] theorem ev_ix0T {a : D} {ds : List D} : dIdx (.tup (a :: ds)) (.int 0) = some a := by rw [ev_idxT (by omega) (by simp)]; rfl
@[simp] theorem ev_ix1T {a b : D} {ds : List D} : dIdx (.tup (a :: b :: ds)) (.int 1) = some b := by rw [ev_idxT (by omega) (by simp)]; rfl
@[simp] theorem ev_ix2T {a b c : D} {ds : List D} : dIdx (.tup (a :: b :: c :: ds)) (.int 2) = some c := by rw [ev_idxT (by omega) (by simp)]; rfl
@[simp] theorem ev_ix0 {a : D} {ds : List D} : dIdx (.lst (a :: ds)) (.int 0) = some a := by rw [ev_idx (by omega) (by simp)]; rfl
@[simp] theorem ev_ix1 {a b : D} {ds : List D} : dIdx (.lst (a :: b :: ds)) (.int 1) = some b := by rw [ev_idx (by omega) (by simp)]; rfl
@[simp] theorem ev_ix2 {a b c : D} {ds : List D} : dIdx (.lst (a :: b :: c :: ds)) (.int 2) = some c := by rw [ev_idx (by omega) (by simp)]; rfl
@[simp] theorem ev_catL {xs ys : List D} (h : xs.length + ys.length ≤ 16777216) : dAdd (.lst xs) (.lst ys) = some (.lst (xs ++ ys)) := by
  show (lineC xs ys).map D.lst = _
  unfold lineC
  rw [if_pos (show xs.length + ys.length ≤ sizeLine from h)]
  rfl
@[simp] theorem ev_isN : dIsN .non .non = some (.bl true) := rfl
@[simp] theorem ev_isL {s : Nat → Nat → Bool} {ts : List TY} {ds : List D} : dIs s ts (.lst ds) = some (.bl (ts.any ((TY.b .list).sub s))) := rfl
@[simp] theorem ev_isT {s : Nat → Nat → Bool} {ts : List TY} {ds : List D} : dIs s ts (.tup ds) = some (.bl (ts.any ((TY.b .tuple).sub s))) := rfl
@[simp] theorem ev_isI {s : Nat → Nat → Bool} {ts : List TY} {i : Int} : dIs s ts (.int i) = some (.bl (ts.any ((TY.b .int).sub s))) := rfl
@[simp] theorem ev_isB {s : Nat → Nat → Bool} {ts : List TY} {b : Bool} : dIs s ts (.bl b) = some (.bl (ts.any ((TY.b .bool).sub s))) := rfl
@[simp] theorem ev_isNo {s : Nat → Nat → Bool} {ts : List TY} : dIs s ts .non = some (.bl (ts.any ((TY.b .non).sub s))) := rfl
@[simp] theorem ev_isC {s : Nat → Nat → Bool} {ts : List TY} {c : Nat} {ds : List D} : dIs s ts (.ins c ds) = some (.bl (ts.any ((TY.c c).sub s))) := rfl
@[simp] theorem ev_tyBB {s : Nat → Nat → Bool} {a b : BT} : (TY.b a).sub s (.b b) = a.sub b := rfl
@[simp] theorem ev_tyBC {s : Nat → Nat → Bool} {a : BT} {k : Nat} : (TY.b a).sub s (.c k) = false := rfl
@[simp] theorem ev_tyCB {s : Nat → Nat → Bool} {a : BT} {k : Nat} : (TY.c k).sub s (.b a) = false := rfl
@[simp] theorem ev_tyCC {s : Nat → Nat → Bool} {j k : Nat} : (TY.c k).sub s (.c j) = s k j := rfl
end
/-! ### an __init__ -/
theorem ev_denI {m c : Nat} {F : LS → Out} {ds : List D} : denI m c F ds = (F (stI m c ds)).endI c := rfl
theorem ev_stI {n c : Nat} {ds : List D} : stI n c ds = some (T.ins c []) :: st0 (n - 1) ds := rfl
theorem ev_slfS {i c j : Nat} {f : LS → R D} {st : LS} : slfS i c j f st = oB (insO c st[i]?) fun fs => (f st).out st fun d => oB (putD j d fs) fun fs' => .nx (st.set i (some (.ins c fs'))) := by
  unfold slfS
  cases insO c st[i]? with
  | none => rfl
  | some fs =>
    show (f st).out st _ = (f st).out st _
    congr 1
    funext d
    cases putD j d fs <;> rfl
theorem ev_slfE {i c j : Nat} {st : LS} : slfE i c j st = .of ((insO c st[i]?).bind fun fs => fs[j]?) := rfl
@[simp] theorem ev_insO {c : Nat} {fs : List D} : insO c (some (some (.ins c fs))) = some fs := if_pos rfl
@[simp] theorem ev_put0' {d : D} : putD 0 d [] = some [d] := rfl
@[simp] theorem ev_put1 {a d : D} : putD 1 d [a] = some [a, d] := rfl
@[simp] theorem ev_put2 {a b d : D} : putD 2 d [a, b] = some [a, b, d] := rfl
@[simp] theorem ev_put3 {a b c d : D} : putD 3 d [a, b, c] = some [a, b, c, d] := rfl
@[simp] theorem ev_endI {c : Nat} {fs : List D} {l : LS} : (Out.nx (some (.ins c fs) :: l)).endI c = .ok fs := if_pos rfl
/-! ### lists under construction, typed -/
section
variable {α : Type} {enc : α → D} {xs : List α}
def tE (enc : α → D) (xs : List α) : T := .lst (xs.map (T.im ∘ enc))
@[simp] theorem ev_ownE : ownL (some (some (tE enc xs))) = some (xs.map (T.im ∘ enc)) := rfl
theorem imms_enc : ∀ xs : List α, imms (xs.map (T.im ∘ enc)) = some (xs.map enc)
  | [] => rfl
  | x :: xs => by
    show (imms (xs.map (T.im ∘ enc))).map (enc x :: ·) = _
    rw [imms_enc xs]
    rfl
@[simp] theorem ev_viewE : viewD (some (some (tE enc xs))) = some (.lst (xs.map enc)) := by
  show (imms (xs.map (T.im ∘ enc))).map D.lst = _
  rw [imms_enc]
  rfl
theorem toDs_enc : ∀ xs : List α, T.toDs (xs.map (T.im ∘ enc)) = xs.map enc
  | [] => rfl
  | x :: xs => by
    show T.toDs ((T.im ∘ enc) x :: xs.map (T.im ∘ enc)) = _
    unfold T.toDs
    rw [toDs_enc xs]
    show T.toD (.im (enc x)) :: _ = _
    unfold T.toD
    rfl
@[simp] theorem ev_toDE : (tE enc xs).toD = .lst (xs.map enc) := by
  unfold tE T.toD
  rw [toDs_enc]
@[simp] theorem ev_toDim {d : D} : (T.im d).toD = d := by unfold T.toD; rfl
theorem tE_nil : imT [] = tE enc ([] : List α) := rfl
@[simp] theorem tE_snoc {y : α} : T.lst (xs.map (T.im ∘ enc) ++ [T.im (enc y)]) = tE enc (xs ++ [y]) := by unfold tE; simp
end
/-- pairs of numbers -/
def dP (p : Int × Int) : D := .tup [.int p.1, .int p.2]
@[simp] theorem tP_snoc {xs : List (Int × Int)} {a b : Int} : T.lst (xs.map (T.im ∘ dP) ++ [T.im (.tup [.int a, .int b])]) = tE dP (xs ++ [(a, b)]) := tE_snoc (enc := dP) (y := (a, b))
/-! ### lists of lists of numbers, under construction -/
def tN (rows : List (List Int)) : T := .lst (rows.map (tE D.int))
def apR (rows : List (List Int)) (j y : Int) : List (List Int) := rows.set j.toNat (rows.getD j.toNat [] ++ [y])
@[simp] theorem apR_len {rows : List (List Int)} {j y : Int} : (apR rows j y).length = rows.length := by unfold apR; rw [List.length_set]
theorem ev_appP {i : Nat} {g : LS → R D} {f : LS → R T} {st : LS} {rows : List (List Int)} {j y : Int} (h1 : st[i]? = some (some (tN rows))) (h2 : g st = .ok (.int j)) (h3 : f st = .ok (.im (.int y))) (h4 : 0 ≤ j) (h5 : j < rows.length) (h6 : ∀ r ∈ rows, r.length < 16777216) :
    appPS i g f st = .nx (st.set i (some (tN (apR rows j y)))) := by
  have hj : j.toNat < rows.length := by omega
  have e1 : ownL st[i]? = some (rows.map (tE D.int)) := by rw [h1]; rfl
  have e2 : placeD (rows.map (tE D.int)).length (.int j) = some j.toNat := by
    show ixN (rows.map (tE D.int)).length j = _
    unfold ixN
    rw [if_pos h4, if_pos (by rw [List.length_map]; exact h5)]
  have e3 : lstT (rows.map (tE D.int))[j.toNat]? = some ((rows[j.toNat]).map (T.im ∘ D.int)) := by
    rw [List.getElem?_map, List.getElem?_eq_getElem hj]
    rfl
  have hl : ((rows[j.toNat]).map (T.im ∘ D.int)).length < sizeLine := by
    rw [List.length_map]
    exact h6 _ (List.getElem_mem hj)
  have e4 : (rows.map (tE D.int)).set j.toNat (.lst ((rows[j.toNat]).map (T.im ∘ D.int) ++ [.im (.int y)])) = (apR rows j y).map (tE D.int) := by
    unfold apR
    rw [List.map_set, tE_snoc, List.getD_eq_getElem?_getD, List.getElem?_eq_getElem hj]
    rfl
  unfold appPS
  simp only [e1, h2, ev_out, e2, e3, h3, if_pos hl, e4]
  rfl
theorem toDs_tN : ∀ rows : List (List Int), T.toDs (rows.map (tE D.int)) = rows.map fun r => .lst (r.map .int)
  | [] => by rw [List.map_nil, List.map_nil]; unfold T.toDs; rfl
  | r :: rows => by
    rw [List.map_cons, List.map_cons]
    unfold T.toDs
    rw [toDs_tN rows, ev_toDE]
@[simp] theorem ev_toDN {rows : List (List Int)} : (tN rows).toD = .lst (rows.map fun r => .lst (r.map .int)) := by
  unfold tN T.toD
  rw [toDs_tN]
theorem ev_sort {xs : List Int} : dSortF [.lst (xs.map .int)] = some ((srtI xs).map .int) := by
  show (dInts (xs.map .int)).map (fun ns => (srtI ns).map D.int) = _
  rw [dInts_map]
  rfl
theorem cutL_take {α : Type} {xs : List α} {k : Int} (h : 0 ≤ k) : cutL xs none (some k) = xs.take k.toNat := by
  unfold cutL
  have e1 : HT.sIx xs.length 0 none = 0 := rfl
  have e2 : HT.sIx xs.length xs.length (some k) = min k.toNat xs.length := by
    show (if k < 0 then (k + (xs.length : Int)).toNat else min k.toNat xs.length) = _
    rw [if_neg (by omega)]
  rw [e1, e2, List.drop_zero, Nat.sub_zero, List.take_eq_take_iff]
  omega
theorem ev_slL {ds : List D} {k : Int} (h : 0 ≤ k) : dSl (.lst ds) none (some k) = some (.lst (ds.take k.toNat)) := by
  show some (D.lst (cutL ds none (some k))) = _
  rw [cutL_take h]
/-! ### equality -/
theorem eqv_ii (i j : Int) : PyData.eqv (.int i) (.int j) = (i == j) := by unfold PyData.eqv; rfl
@[simp] theorem sh_int (i : Int) : (D.int i).sh = some (.int i) := by
  have e : SeqAt.shaped (.int i) = true := by unfold SeqAt.shaped; simp [PyData.canLay0, PyData.depth]
  unfold D.sh D.py
  show (if SeqAt.shaped (.int i) = true then some (PyData.int i) else none) = _
  rw [if_pos e]
@[simp] theorem ev_eqI {i j : Int} : dEq (.int i) (.int j) = some (.bl (decide (i = j))) := by
  unfold dEq dEqB
  rw [sh_int, sh_int]
  show some (D.bl (PyData.eqv (.int i) (.int j))) = _
  rw [eqv_ii]
  rfl
@[simp] theorem ev_neI {i j : Int} : dNe (.int i) (.int j) = some (.bl (!decide (i = j))) := by
  unfold dNe dEqB
  rw [sh_int, sh_int]
  show some (D.bl (!PyData.eqv (.int i) (.int j))) = _
  rw [eqv_ii]
  rfl
/-- plain data of a depth -/
def D.plain : Nat → D → Bool
  | _, .non => true
  | _, .bl _ => true
  | _, .int _ => true
  | n + 1, .tup ds => ds.all (D.plain n)
  | n + 1, .lst ds => ds.all (D.plain n)
  | _, _ => false
theorem pys_of {n : Nat} (ih : ∀ d, D.plain n d = true → ∃ p, d.py = some p ∧ p.canLay0 = true ∧ p.depth ≤ n + 1) : ∀ ds : List D, ds.all (D.plain n) = true → ∃ ps, D.pys ds = some ps ∧ PyData.canLayAll0 ps = true ∧ PyData.depthAll ps ≤ n + 1
  | [], _ => ⟨[], by unfold D.pys; rfl, by unfold PyData.canLayAll0; rfl, by unfold PyData.depthAll; omega⟩
  | d :: ds, h => by
    rw [List.all_cons, Bool.and_eq_true] at h
    obtain ⟨p, e1, c1, d1⟩ := ih d h.1
    obtain ⟨ps, e2, c2, d2⟩ := pys_of ih ds h.2
    refine ⟨p :: ps, by unfold D.pys; rw [e1, e2], by unfold PyData.canLayAll0; rw [c1, c2]; rfl, by unfold PyData.depthAll; omega⟩
theorem py_of : ∀ (n : Nat) (d : D), D.plain n d = true → ∃ p, d.py = some p ∧ p.canLay0 = true ∧ p.depth ≤ n + 1
  | n, .non, _ => ⟨.none, by unfold D.py; rfl, by unfold PyData.canLay0; rfl, by unfold PyData.depth; omega⟩
  | n, .bl b, _ => ⟨.bool b, by unfold D.py; rfl, by unfold PyData.canLay0; rfl, by unfold PyData.depth; omega⟩
  | n, .int i, _ => ⟨.int i, by unfold D.py; rfl, by unfold PyData.canLay0; rfl, by unfold PyData.depth; omega⟩
  | n + 1, .tup ds, h => by
    obtain ⟨ps, e, c, dd⟩ := pys_of (py_of n) ds (by unfold D.plain at h; exact h)
    exact ⟨.tuple ps, by unfold D.py; rw [e]; rfl, by unfold PyData.canLay0; exact c, by unfold PyData.depth; omega⟩
  | n + 1, .lst ds, h => by
    obtain ⟨ps, e, c, dd⟩ := pys_of (py_of n) ds (by unfold D.plain at h; exact h)
    exact ⟨.list ps, by unfold D.py; rw [e]; rfl, by unfold PyData.canLay0; exact c, by unfold PyData.depth; omega⟩
  | 0, .tup _, h => by unfold D.plain at h; cases h
  | 0, .lst _, h => by unfold D.plain at h; cases h
  | n, .str _, h => by cases n <;> (unfold D.plain at h; cases h)
  | n, .ins _ _, h => by cases n <;> (unfold D.plain at h; cases h)
  | n, .scr _, h => by cases n <;> (unfold D.plain at h; cases h)
  | n, .tset _, h => by cases n <;> (unfold D.plain at h; cases h)
  | n, .dct _ _ _, h => by cases n <;> (unfold D.plain at h; cases h)
  | n, .rng _ _, h => by cases n <;> (unfold D.plain at h; cases h)
  | n, .nd _ _, h => by cases n <;> (unfold D.plain at h; cases h)
theorem sh_plain {n : Nat} {d : D} (h : D.plain n d = true) (hn : n ≤ 60) : ∃ p, d.py = some p ∧ d.sh = some p := by
  obtain ⟨p, e, c, dd⟩ := py_of n d h
  refine ⟨p, e, ?_⟩
  unfold D.sh
  rw [e]
  have : SeqAt.shaped p = true := by
    unfold SeqAt.shaped
    rw [c]
    simp
    omega
  show (if SeqAt.shaped p = true then some p else none) = _
  rw [if_pos this]
/-- x in xs answers something -/
theorem inP {n m : Nat} {d e : D} (h : D.plain n d = true) (h2 : D.plain m e = true) (hn : n ≤ 60) (hm : m ≤ 60) (hs : ∃ ds, e = .lst ds ∨ e = .tup ds) : ∃ b, dInB d e = some b := by
  obtain ⟨p, _, e1⟩ := sh_plain h hn
  obtain ⟨q, y, e2⟩ := sh_plain h2 hm
  obtain ⟨ds, rfl | rfl⟩ := hs
  · unfold D.py at y
    cases z : D.pys ds with
    | none => rw [z] at y; cases y
    | some ps =>
      rw [z] at y
      cases y
      unfold dInB
      rw [e1, e2]
      exact ⟨_, rfl⟩
  · unfold D.py at y
    cases z : D.pys ds with
    | none => rw [z] at y; cases y
    | some ps =>
      rw [z] at y
      cases y
      unfold dInB
      rw [e1, e2]
      exact ⟨_, rfl⟩
theorem ints_plain {n : Nat} (xs : List Int) : (xs.map D.int).all (D.plain n) = true := by
  rw [List.all_eq_true]
  intro d hd
  obtain ⟨x, _, rfl⟩ := List.mem_map.mp hd
  cases n <;> rfl
theorem pys_ints : ∀ xs : List Int, D.pys (xs.map D.int) = some (xs.map PyData.int)
  | [] => by unfold D.pys; rfl
  | x :: xs => by rw [List.map_cons]; unfold D.pys; rw [pys_ints xs]; unfold D.py; rfl
theorem any_ints (x : Int) (xs : List Int) : ((xs.map PyData.int).any fun z => PyData.eqv z (.int x)) = decide (x ∈ xs) := by
  rw [List.any_map]
  induction xs with
  | nil => rfl
  | cons y xs ih =>
    rw [List.any_cons, ih]
    show (PyData.eqv (.int y) (.int x) || _) = _
    rw [eqv_ii]
    by_cases h : x = y
    · subst h; simp
    · have : ¬ y = x := fun e => h e.symm
      simp [h, this]
theorem ev_inL {x : Int} {xs : List Int} : dIn (.int x) (.lst (xs.map .int)) = some (.bl (decide (x ∈ xs))) := by
  obtain ⟨p, y, e2⟩ := sh_plain (n := 1) (d := .lst (xs.map .int)) (by unfold D.plain; exact ints_plain xs) (by omega)
  unfold D.py at y
  rw [pys_ints] at y
  cases y
  unfold dIn dInB
  rw [sh_int, e2]
  show some (D.bl ((xs.map PyData.int).any fun z => PyData.eqv z (.int x))) = _
  rw [any_ints]
theorem ev_inT {x : Int} {xs : List Int} : dIn (.int x) (.tup (xs.map .int)) = some (.bl (decide (x ∈ xs))) := by
  obtain ⟨p, y, e2⟩ := sh_plain (n := 1) (d := .tup (xs.map .int)) (by unfold D.plain; exact ints_plain xs) (by omega)
  unfold D.py at y
  rw [pys_ints] at y
  cases y
  unfold dIn dInB
  rw [sh_int, e2]
  show some (D.bl ((xs.map PyData.int).any fun z => PyData.eqv z (.int x))) = _
  rw [any_ints]
theorem ev_notInT {x : Int} {xs : List Int} : dNotIn (.int x) (.tup (xs.map .int)) = some (.bl (!decide (x ∈ xs))) := by
  have h := ev_inT (x := x) (xs := xs)
  unfold dIn at h
  unfold dNotIn
  cases q : dInB (.int x) (.tup (xs.map .int)) with
  | none => rw [q] at h; cases h
  | some b =>
    rw [q] at h
    injection h with h
    injection h with h
    rw [← h]
    rfl
/-! ### comprehensions and loops -/
section
variable {α : Type} {enc : α → D} {g : D → LS → Option LS} {t : LS → R Bool} {f : LS → R D} {st : LS} {F : LS → Out}
theorem compL_eq {p : α → Bool} {φ : α → D} : ∀ {xs : List α}, (∀ x ∈ xs, ∃ st1, g (enc x) st = some st1 ∧ t st1 = .ok (p x) ∧ (p x = true → f st1 = .ok (φ x))) → compL g t f st (xs.map enc) = .ok ((xs.filter p).map φ)
  | [], _ => rfl
  | x :: xs, h => by
    obtain ⟨st1, h1, h2, h3⟩ := h x List.mem_cons_self
    have ih := compL_eq (p := p) (φ := φ) fun y m => h y (List.mem_cons_of_mem _ m)
    rw [List.map_cons]
    simp only [compL, h1, h2, ev_noex, ev_ok]
    cases q : p x with
    | false => simp [q, ih]
    | true => simp [q, ih, h3 q]
theorem compL_map {φ : α → D} {xs : List α} (h : ∀ x ∈ xs, ∃ st1, g (enc x) st = some st1 ∧ t st1 = .ok true ∧ f st1 = .ok (φ x)) : compL g t f st (xs.map enc) = .ok (xs.map φ) := by
  have := compL_eq (p := fun _ => true) (φ := φ) (xs := xs) (g := g) (t := t) (f := f) (st := st) (enc := enc) fun x m => by
    obtain ⟨st1, a, b, c⟩ := h x m
    exact ⟨st1, a, b, fun _ => c⟩
  rw [this, List.filter_eq_self.mpr fun _ _ => rfl]
theorem forL_inv (P : List α → LS → Prop) : ∀ {xs pre : List α} {st : LS}, P pre st → (∀ pr x po s, pre ++ xs = pr ++ x :: po → P pr s → ∃ s1 s2, g (enc x) s = some s1 ∧ F s1 = .nx s2 ∧ P (pr ++ [x]) s2) → ∃ s', forL g F (xs.map enc) st = .nx s' ∧ P (pre ++ xs) s'
  | [], pre, st, h0, _ => ⟨st, rfl, by rw [List.append_nil]; exact h0⟩
  | x :: xs, pre, st, h0, h => by
    obtain ⟨s1, s2, a, b, c⟩ := h pre x xs st rfl h0
    obtain ⟨s', d, e⟩ := forL_inv P (xs := xs) (pre := pre ++ [x]) c fun pr y po s q => h pr y po s (by rw [← q]; simp)
    refine ⟨s', ?_, by rw [List.append_assoc] at e; exact e⟩
    rw [List.map_cons]
    simp only [forL, a, b]
    exact d
theorem for_inv (P : List α → LS → Prop) {xs : List α} {st : LS} (h0 : P [] st) (h : ∀ pr x po s, xs = pr ++ x :: po → P pr s → ∃ s1 s2, g (enc x) s = some s1 ∧ F s1 = .nx s2 ∧ P (pr ++ [x]) s2) : ∃ s', forL g F (xs.map enc) st = .nx s' ∧ P xs s' := by
  obtain ⟨s', a, b⟩ := forL_inv (enc := enc) (g := g) (F := F) P (xs := xs) (pre := []) h0 (by simpa using h)
  exact ⟨s', a, by simpa using b⟩
end
theorem range_split {n i : Nat} {pr po : List Nat} (h : List.range n = pr ++ i :: po) : i = pr.length ∧ i < n ∧ pr = List.range i := by
  have hl : pr.length < n := by
    have := congrArg List.length h
    simp at this
    omega
  have e : (List.range n)[pr.length]? = some i := by rw [h]; simp
  rw [List.getElem?_range hl] at e
  have e := Option.some.inj e
  refine ⟨e.symm, by omega, ?_⟩
  have := congrArg (List.take pr.length) h
  rw [List.take_range, List.take_left] at this
  rw [← this, ← e]
  congr 1
  omega
/-- the number at a place -/
def nI (xs : List Int) (i : Int) : Int := xs.getD i.toNat 0
theorem nI_nat {xs : List Int} {i : Nat} (h : i < xs.length) : nI xs (i : Int) = xs[i] := by
  unfold nI
  rw [Int.toNat_natCast, List.getD_eq_getElem?_getD, List.getElem?_eq_getElem h]
  rfl
theorem nI_mem {xs : List Int} {i : Int} (h : 0 ≤ i) (h2 : i < xs.length) : nI xs i ∈ xs := by
  have e := nI_nat (xs := xs) (i := i.toNat) (by omega)
  rw [Int.toNat_of_nonneg h] at e
  rw [e]
  exact List.getElem_mem _
theorem ev_idxI {xs : List Int} {i : Int} (h : 0 ≤ i) (h2 : i < xs.length) : dIdx (.lst (xs.map D.int)) (.int i) = some (.int (nI xs i)) := by
  have h3 : i.toNat < xs.length := by omega
  unfold nI
  rw [ev_idx h (by rw [List.length_map]; exact h3), List.getElem?_map, List.getElem?_eq_getElem h3, List.getD_eq_getElem?_getD, List.getElem?_eq_getElem h3]
  rfl
theorem ev_idxIT {xs : List Int} {i : Int} (h : 0 ≤ i) (h2 : i < xs.length) : dIdx (.tup (xs.map D.int)) (.int i) = some (.int (nI xs i)) := by
  have h3 : i.toNat < xs.length := by omega
  unfold nI
  rw [ev_idxT h (by rw [List.length_map]; exact h3), List.getElem?_map, List.getElem?_eq_getElem h3, List.getD_eq_getElem?_getD, List.getElem?_eq_getElem h3]
  rfl
theorem ev_idxIS {xs : List Int} {i : Int} (h : 0 ≤ i) (h2 : i < xs.length) : dIdx (.scr (xs.map D.int)) (.int i) = some (.int (nI xs i)) := by
  have h3 : i.toNat < xs.length := by omega
  unfold nI
  rw [ev_idxS h (by rw [List.length_map]; exact h3), List.getElem?_map, List.getElem?_eq_getElem h3, List.getD_eq_getElem?_getD, List.getElem?_eq_getElem h3]
  rfl
/-- one at a place, of any list -/
theorem ev_idxE {α : Type} {enc : α → D} {xs : List α} {i : Int} {x : α} (h : 0 ≤ i) (h2 : xs[i.toNat]? = some x) : dIdx (.lst (xs.map enc)) (.int i) = some (enc x) := by
  have h3 := (List.getElem?_eq_some_iff.mp h2).1
  rw [ev_idx h (by rw [List.length_map]; exact h3), List.getElem?_map, h2]
  rfl
theorem ev_idxET {α : Type} {enc : α → D} {xs : List α} {i : Int} {x : α} (h : 0 ≤ i) (h2 : xs[i.toNat]? = some x) : dIdx (.tup (xs.map enc)) (.int i) = some (enc x) := by
  have h3 := (List.getElem?_eq_some_iff.mp h2).1
  rw [ev_idxT h (by rw [List.length_map]; exact h3), List.getElem?_map, h2]
  rfl
/-- one turn of a loop -/
def turn (g : D → LS → Option LS) (F : LS → Out) (d : D) (s : LS) : Out := match g d s with
  | none => .bad
  | some s1 => F s1
theorem turn_nx {g : D → LS → Option LS} {F : LS → Out} {d : D} {s s2 : LS} (h : turn g F d s = .nx s2) : ∃ s1, g d s = some s1 ∧ F s1 = .nx s2 := by
  unfold turn at h
  split at h
  · cases h
  · exact ⟨_, by assumption, h⟩
section
variable {F : LS → Out} {d a b c : D} {s : LS} {i j k : Nat}
@[simp] theorem turn_gN : turn (gN i) F d s = F (s.set i (some (.im d))) := rfl
@[simp] theorem turn_g2 : turn (gT 2 (gsCons (gN i) (gsCons (gN j) gsNil))) F (.tup [a, b]) s = F ((s.set i (some (.im a))).set j (some (.im b))) := rfl
@[simp] theorem turn_g12 : turn (gT 2 (gsCons (gN i) (gsCons (gT 2 (gsCons (gN j) (gsCons (gN k) gsNil))) gsNil))) F (.tup [a, .tup [b, c]]) s = F (((s.set i (some (.im a))).set j (some (.im b))).set k (some (.im c))) := rfl
end
section
variable {α : Type} {enc : α → D} {g : D → LS → Option LS} {st : LS} {F : LS → Out} {xs : List α} {o : Out}
theorem loop (hL : forL g F (xs.map enc) st = o) (P : List α → LS → Prop) (h0 : P [] st) (h : ∀ pr x po s, xs = pr ++ x :: po → P pr s → ∃ s2, turn g F (enc x) s = .nx s2 ∧ P (pr ++ [x]) s2) : ∃ s', o = .nx s' ∧ P xs s' := by
  obtain ⟨s', a, b⟩ := for_inv (enc := enc) (g := g) (F := F) (xs := xs) P h0 fun pr x po s q p => by
    obtain ⟨s2, c, d⟩ := h pr x po s q p
    obtain ⟨s1, e1, e2⟩ := turn_nx c
    exact ⟨s1, s2, e1, e2, d⟩
  exact ⟨s', hL.symm.trans a, b⟩
end
section
variable {α β : Type} {enc : α → D} {g : D → LS → Option LS} {t : LS → R Bool} {f : LS → R D} {ft : LS → R T} {st : LS} {xs : List α} {o : R (List D)} {ot : R (List T)}
theorem comp (hC : compL g t f st (xs.map enc) = o) (e : β → D) (ψ : α → β) (h : ∀ x ∈ xs, ∃ st1, g (enc x) st = some st1 ∧ t st1 = .ok true ∧ f st1 = .ok (e (ψ x))) : o = .ok ((xs.map ψ).map e) := by
  rw [← hC, compL_map (φ := fun x => e (ψ x)) h, List.map_map]
  rfl
theorem compP (hC : compL g t f st (xs.map enc) = o) (p : α → Bool) (e : β → D) (ψ : α → β) (h : ∀ x ∈ xs, ∃ st1, g (enc x) st = some st1 ∧ t st1 = .ok (p x) ∧ (p x = true → f st1 = .ok (e (ψ x)))) : o = .ok (((xs.filter p).map ψ).map e) := by
  rw [← hC, compL_eq (p := p) (φ := fun x => e (ψ x)) h, List.map_map]
  rfl
theorem compT (hC : compTL g t ft st (xs.map enc) = ot) (φ : α → T) (h : ∀ x ∈ xs, ∃ st1, g (enc x) st = some st1 ∧ t st1 = .ok true ∧ ft st1 = .ok (φ x)) : ot = .ok (xs.map φ) := by
  rw [← hC]
  clear hC
  induction xs with
  | nil => rfl
  | cons x xs ih =>
    obtain ⟨st1, h1, h2, h3⟩ := h x List.mem_cons_self
    have ih := ih fun y m => h y (List.mem_cons_of_mem _ m)
    rw [List.map_cons]
    simp only [compTL, h1, h2, h3, ev_noex, ev_ok, ih, if_true, List.map_cons]
end
@[simp] theorem ev_compTF {fi : LS → R (List D)} {vs : List Nat} {gg : D → LS → Option LS} {c : LS → R Bool} {f : LS → R T} {st : LS} : compTF fi vs gg c f st = (fi st).bind fun ds => if ds.length ≤ sizeLine then (compTL gg c f (wipeS st vs) ds).bind fun ts => .ok (.lst ts) else .bad := rfl
section
variable {α : Type} {enc : α → D} {g : D → LS → Option LS} {st : LS} {F : LS → Out} {xs : List α} {o : Out}
theorem enumL_map (e : α → D) : ∀ (c : Int) (xs : List α), enumL c (xs.map e) = (xs.zipIdx).map fun p => .tup [.int (c + (p.2 : Int)), e p.1]
  | c, [] => rfl
  | c, x :: xs => by
    rw [List.map_cons, List.zipIdx_cons, List.map_cons]
    show D.tup [.int c, e x] :: enumL (c + 1) (xs.map e) = _
    rw [enumL_map e (c + 1) xs, List.zipIdx_succ, List.map_map]
    congr 1
    · simp
    · apply List.map_congr_left
      intro p _
      show D.tup [.int (c + 1 + (p.2 : Int)), e p.1] = D.tup [.int (c + ((p.2 + 1 : Nat) : Int)), e p.1]
      have : c + 1 + (p.2 : Int) = c + ((p.2 + 1 : Nat) : Int) := by omega
      rw [this]
theorem zipIdx_split {p : α × Nat} {pr po : List (α × Nat)} (h : xs.zipIdx = pr ++ p :: po) : p.2 = pr.length ∧ xs = pr.map (·.1) ++ p.1 :: po.map (·.1) := by
  have e : xs = (pr ++ p :: po).map (·.1) := by rw [← h, List.zipIdx_map_fst]
  have g : xs.zipIdx[pr.length]? = some p := by rw [h]; simp
  rw [List.getElem?_zipIdx] at g
  cases q : xs[pr.length]? with
  | none => rw [q] at g; cases g
  | some x =>
    rw [q] at g
    have g := Option.some.inj g
    refine ⟨by rw [← g]; simp, by rw [e, List.map_append]; rfl⟩
/-- a loop over enumerate -/
theorem loopE (hL : forL g F (enumL 0 (xs.map enc)) st = o) (P : List α → LS → Prop) (h0 : P [] st) (h : ∀ pr x po s, xs = pr ++ x :: po → P pr s → ∃ s2, turn g F (.tup [.int (pr.length : Int), enc x]) s = .nx s2 ∧ P (pr ++ [x]) s2) : ∃ s', o = .nx s' ∧ P xs s' := by
  rw [enumL_map] at hL
  obtain ⟨s', a, b⟩ := loop hL (fun pr s => P (pr.map (·.1)) s) h0 fun pr p po s q hp => by
    obtain ⟨e1, e2⟩ := zipIdx_split q
    obtain ⟨s2, c, d⟩ := h _ p.1 _ s e2 hp
    refine ⟨s2, ?_, by rw [List.map_append]; exact d⟩
    rw [e1, Int.zero_add]
    rw [List.length_map] at c
    exact c
  exact ⟨s', a, by rw [List.zipIdx_map_fst] at b; exact b⟩
end
theorem rangeD_length (lo : Int) (n : Nat) : (rangeD lo n).length = n := rangeD_len
/-! ### sets of tuples of numbers -/
theorem keys_enc : ∀ ks : List (List Int), keysOf (ks.map fun k => .tup (k.map .int)) = some ks
  | [] => rfl
  | k :: ks => by
    rw [List.map_cons]
    have e : tupInts (.tup (k.map .int)) = some k := dInts_map k
    unfold keysOf
    rw [e, keys_enc ks]
theorem ev_setE {fi : LS → R (List D)} {vs : List Nat} {g : D → LS → Option LS} {t : LS → R Bool} {f : LS → R D} {st : LS} {ks : List (List Int)} (h : compR fi vs g t f st = .ok (ks.map fun k => .tup (k.map .int))) (hl : ks.length < 64) : setE fi vs g t f st = .ok (.tset (onceK ks)) := by
  unfold setE setR
  simp only [h, ev_ok, keys_enc, if_pos hl]
theorem onceK_nodup {ks : List (List Int)} (h : ks.Nodup) : onceK ks = ks := by
  have gen : ∀ (ks xs : List (List Int)), (xs ++ ks).Nodup → ks.foldl addK xs = xs ++ ks := by
    intro ks
    induction ks with
    | nil => intro xs _; simp
    | cons k ks ih =>
      intro xs hn
      have nk : k ∉ xs := fun m => by
        have := (List.nodup_append.mp hn).2.2 k m k List.mem_cons_self
        exact this rfl
      have e : addK xs k = xs ++ [k] := if_neg nk
      show ks.foldl addK (addK xs k) = _
      rw [e, ih (xs ++ [k]) (by rw [List.append_assoc]; exact hn), List.append_assoc]
      rfl
  exact gen ks [] (by simpa using h)
theorem srtT_up' {ks : List (List Int)} (h : ks.Pairwise fun a b => lexle a b = true) : srtT ks = ks := by
  induction ks with
  | nil => rfl
  | cons k ks ih =>
    obtain ⟨h1, h2⟩ := List.pairwise_cons.mp h
    show insT k (srtT ks) = _
    rw [ih h2]
    cases ks with
    | nil => rfl
    | cons m ms =>
      unfold insT
      rw [if_pos (h1 m List.mem_cons_self)]
theorem ev_sortU {ks : List (List Int)} (h : okT ks = true) : dSortU [.tset ks] = some ((srtT ks).map fun k => .tup (k.map .int)) := if_pos h
end DI
end
section
set_option Elab.async false
set_option linter.all false
set_option maxRecDepth 100000
set_option maxHeartbeats 2000000
/-! DI: f(a, k = b): keywords that fill the parameters behind the positional ones. -/
namespace DI
open PySem PySem.Spec PyProof.Rows L2
section
variable {X : Cx} {cm : CM} {W : WH} {k n m : Nat} {f : Addr} {fd : FuncData} {ps ks : List Str} {x : Str} {p pos kpos : Pos} {e : Expr} {es : List Expr} {kws : List Keyword} {a b r : LS → R (List D)} {f1 : LS → R D} {F : List D → R D} {g : List Value → List Value → List Value} {nm : Option Str}
/-- positional ones, then the keywords' ones -/
def callK (m j : Nat) (F : List D → R D) (a b : LS → R (List D)) : LS → R D := fun st => (a st).bind fun xs => (b st).bind fun ys => if xs.length = m ∧ ys.length = j then F (xs ++ ys) else .bad
end
@[simp] theorem ev_callK {m j : Nat} {F : List D → R D} {a b : LS → R (List D)} {st : LS} : callK m j F a b st = (a st).bind fun xs => (b st).bind fun ys => if xs.length = m ∧ ys.length = j then F (xs ++ ys) else .bad := rfl
end DI
end
section
set_option Elab.async false
set_option linter.all false
set_option maxRecDepth 100000
set_option maxHeartbeats 2000000
/-! DI: x.extend(e), e a list that stands. -/
namespace DI
open PySem PySem.Spec PyProof.Rows L2
variable {cm : CM}
theorem OwnL.app {K : PySem.W.Frag} {S H : Hp} {ts2 : List T} {vs2 : List V} {g : List Addr} (o : OwnL K cm S H ts2 vs2 g) : ∀ {ts : List T} {vs : List V} {f : List Addr}, OwnL K cm S H ts vs f → OwnL K cm S H (ts ++ ts2) (vs ++ vs2) (f ++ g)
  | _, _, _, .nil => o
  | _, _, _, .cons h hs => by
    rw [List.append_assoc]
    exact .cons h (OwnL.app o hs)
def extL (st : LS) (i : Nat) (ts : List T) : D → Out
  | .lst ds => if ts.length + ds.length ≤ sizeLine then .nx (st.set i (some (.lst (ts ++ ds.map .im)))) else .bad
  | _ => .bad
def extS (i : Nat) (f : LS → R D) : LS → Out := fun st => match ownL st[i]? with
  | none => .bad
  | some ts => (f st).out st fun d => extL st i ts d
section
variable {X : Cx} {W : WH} {c : Fr} {pos : Pos} {e : Expr} {i : Nat}
theorem s_ext {f : LS → R D} (h : PE X e (tBM X.K "list" rExtend (tVar i) (tCons (E X.K cm W f) tNil))) (hs : swapsWith e none pos.line X.env = pure false := by rfl) : PS X (.Expr e pos) (SX X.K cm W c (extS i f)) := (ps_expr h hs).imp fun D σ H ⟨st, S, fp, r, p⟩ => by
  replace p : Post X.K cm W c D S (match ownL st[i]? with
    | none => .bad
    | some ts => (f st).out st fun d => extL st i ts d) := p
  cases q : ownL st[i]? with
  | none => rw [q] at p; exact p.elim
  | some ts =>
    rw [q] at p
    obtain ⟨v, f1, h1, h2, h3, h4, h5⟩ := r.mut (ownL_some q)
    cases h2 with
    | @lst a vs _ f2 ha hts =>
      obtain ⟨n1, n2⟩ := List.nodup_cons.mp h3
      refine ⟨.ref a, h1, .inl ⟨rfl, vs, SqL.of ha⟩, st, S, fp, r.rx, Post.go r p fun d S' H' x q v hv => ?_⟩
      cases d <;> try (exact q.elim)
      case lst ds =>
        replace q : Post X.K cm W c D S' (if ts.length + ds.length ≤ sizeLine then .nx (st.set i (some (.lst (ts ++ ds.map .im)))) else .bad) := q
        cases hv with
        | @lst b zs _ hb hz =>
          split at q
          · rename_i hl
            refine ⟨a, b, vs, zs, rfl, rfl, x.hh _ _ ha, x.sh _ _ hb, by rw [hts.length, hz.length]; exact hl, ?_⟩
            have ow := OwnL.app (own_imT (H := upd H' a (.lst (vs ++ zs))) hz) (ownL_upd (o := .lst (vs ++ zs)) n1 (hts.ext x))
            rw [List.append_nil] at ow
            exact q σ _ (h5 S' H' _ _ _ x (fun b n => upd_ne fun z => n (z ▸ List.mem_cons_self)) (.lst upd_same ow) (List.nodup_cons.mpr ⟨n1, n2⟩) fun b m => .inl m)
          · exact q.elim
end
end DI
end
section
set_option Elab.async false
set_option linter.all false
set_option maxRecDepth 100000
set_option maxHeartbeats 2000000
/-! DI: a list under construction is lent to an expression whose datum holds no list. -/
namespace DI
open PySem PySem.Spec PyProof.Rows L2
variable {cm : CM}
/-- without the node a -/
def wo (S : Hp) (a : Addr) : Hp := fun b => if b = a then none else S b
end DI
end
section
set_option Elab.async false
set_option linter.all false
set_option maxRecDepth 100000
set_option maxHeartbeats 2000000
/-! DI: x //= j, x *= j. -/
namespace DI
open PySem PySem.Spec PyProof.Rows L2
end DI
end
section
set_option Elab.async false
set_option linter.all false
set_option maxRecDepth 100000
set_option maxHeartbeats 2000000
/-! DI: errors: raise C(..), try: .. except C as e: .., what the suite asks of e. -/
namespace DI
open PySem PySem.Spec PyProof.Rows L2
/-! ### the classes -/
/-! ### __init__ -/
/-! ### raise -/
section
variable {K : PySem.W.Frag} {cm : CM} {W W' : WH} {c : Fr} {S S' H H' : Hp} {st : LS} {fp : List Addr} {σ : Sg}
theorem RR.to [Free W'] (r : RR K cm W c st S fp σ H) : RR K cm W' c st S fp σ H := ⟨r.rx.to, r.xt, r.fr, r.fx⟩
theorem On.to [Free W'] (r : On K cm W c S st σ H) : On K cm W' c S st σ H := let ⟨S', fp, a, b⟩ := r; ⟨S', fp, a, b.to⟩
end
/-! ### try: .. except C as n: .. -/
/-! ### in the suite -/
section
variable {X : Cx} {cm : CM} {a : Addr} {oe : Obj} {cls : Value} {d : Option Addr} {pn : List (Addr × Obj)} {e : Ex} {S0 : Hp} {i : Nat} {en f : Str} {p pos : Pos} {tbl : List (Nat × Nat)}
/-! isinstance(e, ..) -/
/-- a class that is asked for -/
inductive XT where
  | c (k : Nat)
  | b (n : String)
def XT.v (cm : CM) : XT → V
  | .c k => .ref (cm.addr k)
  | .b n => .ty n
def XT.vl (cm : CM) : XT → Value
  | .c k => .ref (cm.addr k)
  | .b n => .type n
def XT.sub (sub : Nat → Nat → Bool) (t : Nat) : XT → Bool
  | .c k => sub t k
  | .b _ => true
theorem XT.clsv (cm : CM) : ∀ t : XT, ClsV (t.v cm) (t.vl cm)
  | .b _ => .ty _
  | .c _ => .own _
variable {sub : Nat → Nat → Bool} {xs : List Nat} {t : XT} {ts : List XT} {ct : Expr} {es : List Expr} {kk : Nat} {p2 p3 tpos : Pos}
end
end DI
end
section
set_option Elab.async false
set_option linter.all false
set_option maxRecDepth 100000
set_option maxHeartbeats 2000000
/-! DI: a def that raises nothing and walks nothing, called in an except suite. -/
namespace DI
open PySem PySem.Spec PyProof.Rows L2 L2H
/-! comparisons in a suite -/
/-! C(..) with all its arguments -/
section
variable {X : Cx} {cm : CM} {W : WH} {k n c : Nat} {f : Addr} {x : Str} {p pos : Pos} {e : Expr} {es : List Expr} {args : LS → R (List D)} {G : List D → R (List D)} {dds : List D}
theorem e_makeF (h : IniP X.prog X.w X.K X.mg X.base cm k n c f G dds) (A : ClsAt X.K X.mg cm x c f) (tk : Takes X W.w) (hr : Room (k + 1) X.A) (ha : PA X (e :: es) (EA X.K cm W args)) (hg : Gl X x := by rfl) (hdb : (x == ("__debug__" : Str)) = false := by decide)
    (he : starEach (e :: es) X.env = (false, eval e X.env) :: starEach es X.env := by rfl) (hpl : (backTo pos (starEach es X.env)).any (·.1) = false := by rfl) : PE X (.Call (.Name x p) (e :: es) [] pos) (E X.K cm W (makeU c (arI n G) [] args)) := by
  have z := e_makeP (p := p) dds.length h A tk hr (Nat.le_refl _) ha hg hdb he hpl
  rw [List.drop_length] at z
  exact z
end
/-! C(e).f: an error that is made and asked at once -/
end DI
namespace DI
open PySem PySem.Spec PyProof.Rows L2
end DI
end
section
set_option Elab.async false
set_option linter.all false
set_option maxRecDepth 100000
set_option maxHeartbeats 2000000
/-! DI: max, min of a list or a tuple of numbers. -/
namespace DI
open PySem PySem.Spec PyProof.Rows L2
/-! by values -/
end DI
end
section
set_option Elab.async false
set_option linter.all false
set_option maxRecDepth 100000
set_option maxHeartbeats 2000000
/-! DI: a list under construction is lent, locked, to an expression whose datum does not hold it. -/
namespace DI
open PySem PySem.Spec PyProof.Rows L2
/-! reckoning -/
end DI
end
section
set_option Elab.async false
set_option linter.all false
set_option maxRecDepth 100000
set_option maxHeartbeats 2000000
/-! DI: f(), C(), is True, is False. -/
namespace DI
open PySem PySem.Spec PyProof.Rows L2
/-! f(..) with all its arguments -/
/-! ### is True, is not False -/
def dIsBl : D → D → Option D
  | .bl a, .bl b => some (.bl (decide (a = b)))
  | _, _ => none
def dNotBl : D → D → Option D
  | .bl a, .bl b => some (.bl (!decide (a = b)))
  | _, _ => none
@[simp] theorem ev_isBT {a : Bool} : dIsBl (.bl a) (.bl true) = some (.bl a) := by cases a <;> rfl
@[simp] theorem ev_isBF {a : Bool} : dIsBl (.bl a) (.bl false) = some (.bl (!a)) := by cases a <;> rfl
@[simp] theorem ev_notBT {a : Bool} : dNotBl (.bl a) (.bl true) = some (.bl (!a)) := by cases a <;> rfl
@[simp] theorem ev_notBF {a : Bool} : dNotBl (.bl a) (.bl false) = some (.bl a) := by cases a <;> rfl
end DI
end
section
set_option Elab.async false
set_option linter.all false
set_option maxRecDepth 100000
set_option maxHeartbeats 3200000
/-! DI: set(t), t a tuple of tuples of numbers. -/
namespace DI
open PySem PySem.Spec PyProof.Rows L2
end DI
end
section
set_option Elab.async false
set_option linter.all false
set_option maxRecDepth 100000
set_option maxHeartbeats 2000000
/-! DI: dicts with keys that are numbers and texts. -/
namespace DI
open PySem PySem.Spec PyProof.Rows L2
/-! ### keys -/
def keyD : D → Option Key
  | .int i => some (.inl i)
  | .str x => some (.inr x)
  | _ => none
def kIx (ks : List Key) (k : Key) : Option Nat := ks.findIdx? fun j => decide (j = k)
def getA {α : Type} (ks : List Key) (xs : List α) (k : Key) : Option α := (kIx ks k).bind fun j => xs[j]?
def putKs (ks : List Key) (k : Key) : List Key := match kIx ks k with
  | some _ => ks
  | none => ks ++ [k]
def putXs {α : Type} (ks : List Key) (xs : List α) (k : Key) (x : α) : List α := match kIx ks k with
  | some j => xs.set j x
  | none => xs ++ [x]
theorem kIx_some {ks : List Key} {k : Key} {j : Nat} (h : kIx ks k = some j) : ks[j]? = some k ∧ j < ks.length := by
  obtain ⟨h1, h2, _⟩ := List.findIdx?_eq_some_iff_getElem.mp h
  have e : ks[j] = k := by simpa using h2
  exact ⟨by rw [List.getElem?_eq_getElem h1, e], h1⟩
theorem kIx_none {ks : List Key} {k : Key} (h : kIx ks k = none) : k ∉ ks := fun m => by
  have := List.findIdx?_eq_none_iff.mp h k m
  simp at this
theorem kIx_cons {ks : List Key} {k j : Key} : kIx (j :: ks) k = if j = k then some 0 else (kIx ks k).map (· + 1) := by
  unfold kIx
  rw [List.findIdx?_cons]
  by_cases e : j = k
  · simp [e]
  · simp [e]
theorem getA_cons {α : Type} {ks : List Key} {xs : List α} {k j : Key} {x : α} : getA (j :: ks) (x :: xs) k = if j = k then some x else getA ks xs k := by
  unfold getA
  rw [kIx_cons]
  by_cases e : j = k
  · rw [if_pos e, if_pos e]; rfl
  · rw [if_neg e, if_neg e]
    cases kIx ks k with
    | none => rfl
    | some i => simp
theorem valV_zip : ∀ {ks : List Key} {vs : List V} (k : Key), ks.length = vs.length → valV (ks.zip vs) k = getA ks vs k
  | [], vs, k, _ => by cases vs <;> rfl
  | j :: ks, [], k, h => by simp at h
  | j :: ks, v :: vs, k, h => by
    rw [getA_cons, List.zip_cons_cons]
    by_cases e : j = k
    · rw [if_pos e, valV_pos e]
    · rw [if_neg e, valV_neg e, valV_zip k (by simpa using h)]
theorem repl_not {ks : List Key} {vs : List V} {k : Key} {v : V} (h : k ∉ ks) : ((ks.zip vs).map fun kv => if kv.1 = k then (kv.1, v) else kv) = ks.zip vs := by
  have : ∀ p ∈ ks.zip vs, (if p.1 = k then (p.1, v) else p) = id p := fun p m => by
    have ne : p.1 ≠ k := fun e => h (e ▸ (List.of_mem_zip (a := p.1) (b := p.2) m).1)
    rw [if_neg ne]; rfl
  rw [List.map_congr_left this, List.map_id]
theorem repl_zip {k : Key} {v : V} : ∀ {ks : List Key} {vs : List V} {j : Nat}, ks.Nodup → ks.length = vs.length → kIx ks k = some j → ((ks.zip vs).map fun kv => if kv.1 = k then (kv.1, v) else kv) = ks.zip (vs.set j v)
  | [], vs, j, _, _, h => by simp [kIx] at h
  | i :: ks, [], j, _, h, _ => by simp at h
  | i :: ks, u :: vs, j, nd, hl, h => by
    obtain ⟨n1, n2⟩ := List.nodup_cons.mp nd
    rw [kIx_cons] at h
    rw [List.zip_cons_cons, List.map_cons]
    by_cases e : i = k
    · rw [if_pos e] at h
      cases h
      subst e
      rw [if_pos rfl, repl_not n1]
      rfl
    · rw [if_neg e] at h
      cases q : kIx ks k with
      | none => rw [q] at h; cases h
      | some j' =>
        rw [q] at h
        cases h
        rw [if_neg e, repl_zip n2 (by simpa using hl) q]
        rfl
theorem putK_zip {ks : List Key} {vs : List V} (k : Key) (v : V) (nd : ks.Nodup) (hl : ks.length = vs.length) : putK (ks.zip vs) k v = (putKs ks k).zip (putXs ks vs k v) := by
  have e := valV_zip k hl
  unfold putKs putXs
  cases q : kIx ks k with
  | none =>
    have : valV (ks.zip vs) k = none := by rw [e]; unfold getA; rw [q]; rfl
    rw [putK_new v this]
    simp only []
    rw [List.zip_append hl]
    rfl
  | some j =>
    obtain ⟨h1, h2⟩ := kIx_some q
    have hj : j < vs.length := by omega
    have : (valV (ks.zip vs) k).isSome = true := by
      rw [e]; unfold getA; rw [q]
      simp [hj]
    have hany : ((ks.zip vs).any fun kv => decide (kv.1 = k)) = true := by rw [valV_any]; exact this
    simp only []
    rw [← repl_zip (v := v) nd hl q]
    unfold putK
    rw [if_pos hany]
theorem putKs_nodup {ks : List Key} {k : Key} (h : ks.Nodup) : (putKs ks k).Nodup := by
  unfold putKs
  cases q : kIx ks k with
  | none =>
    have := kIx_none q
    exact List.nodup_append.mpr ⟨h, by simp, fun a ha b hb e => this (by rw [List.mem_singleton.mp hb] at e; exact e ▸ ha)⟩
  | some j => exact h
theorem put_len {α : Type} {ks : List Key} {xs : List α} {k : Key} {x : α} (h : ks.length = xs.length) : (putKs ks k).length = (putXs ks xs k x).length := by
  unfold putKs putXs
  cases q : kIx ks k with
  | none => simp [h]
  | some j => simp [h]
section
variable {K : PySem.W.Frag} {cm : CM} {S H : Hp}
theorem RepL.putXs {v : V} {d : D} (h : Rep K cm S v d) {ks : List Key} {vs : List V} {ds : List D} (k : Key) (hs : RepL K cm S vs ds) : RepL K cm S (DI.putXs ks vs k v) (DI.putXs ks ds k d) := by
  unfold DI.putXs
  cases kIx ks k with
  | none => exact hs.append (.cons h .nil)
  | some j => exact RepL.set h j hs
theorem keyD_kV {v : V} {d : D} {k : Key} (h : Rep K cm S v d) (e : keyD d = some k) : v = kV k := by
  cases d <;> cases e <;> cases h <;> rfl
end
/-! ### {} under construction -/
def dctO : Option (Option T) → Option (List Key × List T)
  | some (some (.dct ks ts)) => some (ks, ts)
  | _ => none
theorem dctO_some {o : Option (Option T)} {ks : List Key} {ts : List T} (h : dctO o = some (ks, ts)) : o = some (some (.dct ks ts)) := by
  unfold dctO at h
  split at h
  · cases h; rfl
  · cases h
def dnewF : LS → R T := fun _ => .ok (.dct [] [])
section
variable {X : Cx} {cm : CM} {W : WH} {c : Fr} {pos pos' : Pos} {i : Nat} {e o : Expr} {f g : LS → R D}
theorem f_dnew : PE X (.Dict [] [] pos) (EF X.K cm W dnewF) := pe_dnewK.imp fun σ H Q ⟨st, S, fp, r, k⟩ p hp =>
  k _ S (Xt.own r.sh hp) (.ref p) [p] (.dct (vs := []) upd_same rfl List.nodup_nil .nil) (nodup1 p) fun a m => by
    have e : a = p := by simpa using m
    subst e
    exact ⟨hp, r.sh.free hp⟩
end
end DI
end
section
set_option Elab.async false
set_option linter.all false
set_option maxRecDepth 100000
set_option maxHeartbeats 2000000
/-! DI: a dict locked for good, its items; dict comprehensions; d.get(k, x). -/
namespace DI
open PySem PySem.Spec PyProof.Rows L2
end DI
end
section
set_option Elab.async false
set_option linter.all false
set_option maxRecDepth 100000
set_option maxHeartbeats 2000000
/-! DI: x in o, o an instance with its own __contains__. -/
namespace DI
open PySem PySem.Spec PyProof.Rows L2
end DI
end
section
set_option Elab.async false
set_option linter.all false
set_option maxRecDepth 100000
set_option maxHeartbeats 2000000
/-! DI: len(o), o an instance with its own __len__. -/
namespace DI
open PySem PySem.Spec PyProof.Rows L2
end DI
end
section
set_option Elab.async false
set_option linter.all false
set_option maxRecDepth 100000
set_option maxHeartbeats 2000000
/-! DI: a range object as a value. -/
namespace DI
open PySem PySem.Spec PyProof.Rows L2
end DI
end
section
set_option Elab.async false
set_option linter.all false
set_option maxRecDepth 100000
set_option maxHeartbeats 2000000
/-! DI: a dict of data under construction: d[k] = v, k in d, d[k]. -/
namespace DI
open PySem PySem.Spec PyProof.Rows L2
section
variable {K : PySem.W.Frag} {cm : CM}
/-- the data of a dict under construction -/
def dctI (o : Option (Option T)) : Option (List Key × List D) := (dctO o).bind fun p => (imms p.2).map fun ds => (p.1, ds)
theorem dctI_some {o : Option (Option T)} {ks : List Key} {ds : List D} (h : dctI o = some (ks, ds)) : ∃ ts, o = some (some (.dct ks ts)) ∧ imms ts = some ds := by
  unfold dctI at h
  cases q : dctO o with
  | none => rw [q] at h; cases h
  | some p =>
    rw [q] at h
    obtain ⟨ks', ts⟩ := p
    replace h : (imms ts).map (fun ds => (ks', ds)) = some (ks, ds) := h
    cases q2 : imms ts with
    | none => rw [q2] at h; cases h
    | some ds' =>
      rw [q2] at h
      cases h
      exact ⟨ts, dctO_some q, q2⟩
end
section
variable {X : Cx} {cm : CM} {W : WH} {c : Fr} {pos pos' : Pos} {i k : Nat} {o key value : Expr} {f g : LS → R D}
/-- d[g] = f -/
def dputS (i : Nat) (g f : LS → R D) : LS → Out := fun st => match dctI st[i]? with
  | none => .bad
  | some (ks, ds) => (f st).out st fun d => (g st).out st fun y => match keyD y with
    | none => .bad
    | some kk => if ds.length < sizeLine then .nx (st.set i (some (.dct (putKs ks kk) ((putXs ks ds kk d).map .im)))) else .bad
theorem s_dput (hr : Room k X.A) (ho : PE X o (tVar i)) (hk : PE X key (E X.K cm W g)) (hv : PE X value (E X.K cm W f)) (hs : swapsWith value (some (.Subscript o key pos')) pos.line X.env = pure false := by rfl) :
    PS X (.Assign [.Subscript o key pos'] value pos) (SX X.K cm W c (dputS i g f)) := (ps_dput (by have := hr.un; omega) ho hk hv hs).imp fun D σ H ⟨st, S, fp, r, p⟩ => by
  unfold dputS at p
  split at p
  case h_1 => exact p.elim
  rename_i ks ds q
  obtain ⟨ts, q1, q2⟩ := dctI_some q
  obtain ⟨v, f1, h1, h2, h3, h4, h5⟩ := r.mut q1
  cases h2 with
  | @dct a _ vs _ f2 ha hl hnd hts =>
    have hds := own_imms hts q2
    refine ⟨st, S, fp, r.rx, Post.go r p fun d S1 H1 x1 p1 u hu => ?_⟩
    refine ⟨.ref a, h1, st, S1, fp, r.rx.ext x1, Post.go (r.ext x1) p1 fun y S2 H2 x2 p2 w hw => ?_⟩
    cases qk : keyD y with
    | none => rw [qk] at p2; exact p2.elim
    | some kk =>
      rw [qk] at p2
      replace p2 : Post X.K cm W c D S2 (if ds.length < sizeLine then .nx (st.set i (some (.dct (putKs ks kk) ((putXs ks ds kk d).map .im)))) else .bad) := p2
      split at p2
      case isFalse => exact p2.elim
      rename_i few
      have x := x1.trans x2
      have hw := keyD_kV hw qk
      subst hw
      have hlv : vs.length = ds.length := hds.length
      refine ⟨a, _, rfl, DPut.k (x.hh _ _ ha) (by rw [List.length_zip]; omega), ?_⟩
      have hrep : RepL X.K cm S2 (putXs ks vs kk u) (putXs ks ds kk d) := RepL.putXs (hu.mono x2.ss) kk (hds.mono x.ss)
      refine p2 σ _ (h5 S2 H2 _ _ [a] x (fun b n => upd_ne fun e => n (e ▸ List.mem_cons_self)) ?_ (nodup1 a) fun b m => .inl (by rw [List.mem_singleton.mp m]; exact List.mem_cons_self))
      rw [putK_zip kk u hnd hl]
      exact .dct upd_same (put_len hl) (putKs_nodup hnd) (own_imT hrep)
/-- f in d -/
def dinE (neg : Bool) (i : Nat) (f : LS → R D) : LS → R D := fun st => (f st).bind fun y => match dctI st[i]?, keyD y with
  | some (ks, _), some kk => .ok (.bl (if neg = true then !(kIx ks kk).isSome else (kIx ks kk).isSome))
  | _, _ => .bad
theorem getA_isSome {α : Type} {ks : List Key} {xs : List α} {kk : Key} (hl : ks.length = xs.length) : (getA ks xs kk).isSome = (kIx ks kk).isSome := by
  unfold getA
  cases q : kIx ks kk with
  | none => rfl
  | some j =>
    have hj := (kIx_some q).2
    show (xs[j]?).isSome = true
    rw [List.getElem?_eq_getElem (by omega)]
    rfl
theorem din_core {neg : Bool} {σ : Sg} {H : Hp} {Q : VK} (q : E X.K cm W (dinE neg i f) σ H Q) : E X.K cm W f σ H fun y H1 => tVar i σ H1 fun x H2 => ∃ a ov, x = .ref a ∧ DGet H2 a y ov ∧ Q (.bl (if neg = true then !ov.isSome else ov.isSome)) H2 := by
  obtain ⟨st, S, fp, r, g⟩ := q
  refine ⟨st, S, fp, r, g.bind.mono fun y S1 H1 x1 k1 u hu => ?_⟩
  cases q1 : dctI st[i]? with
  | none => rw [q1] at k1; exact k1.elim
  | some p =>
    obtain ⟨ks, ds⟩ := p
    cases qk : keyD y with
    | none => rw [q1, qk] at k1; exact k1.elim
    | some kk =>
      rw [q1, qk] at k1
      replace k1 : Go X.K cm W (fun z S' H' => ∀ v, Rep X.K cm S' v z → Q v H') (.ok (.bl (if neg = true then !(kIx ks kk).isSome else (kIx ks kk).isSome))) S1 H1 σ := k1
      obtain ⟨ts, e1, e2⟩ := dctI_some q1
      obtain ⟨v, f1, g1, h1, h2, h3, h4, h5, h6, h7⟩ := (r.ext x1).sls.split e1 (r.ext x1).nd
      cases h2 with
      | @dct a _ vs _ f2 ha hl hnd hts =>
        have hu := keyD_kV hu qk
        subst hu
        have hlv : vs.length = ts.length := OwnL.length hts
        refine ⟨.ref a, h1, a, _, rfl, DGet.k ha, ?_⟩
        rw [valV_zip kk hl, getA_isSome hl]
        exact k1 H1 S1 (Xt.refl x1.sh) _ (.bl _)
theorem t_dnin (hr : Room k X.A) (hk : PE X key (E X.K cm W f)) (ho : PE X o (tVar i)) (hm : behindInMarks .NotIn o = false := by rfl) : PT X (.Compare key [.NotIn] [o] pos) (TB X.K cm W (tb (dinE true i f))) :=
  (pt_cmp (pc_dnotin (by have := hr.un; omega) hk ho) hm).imp fun σ H Q q => din_core (TB.of q)
end
end DI
end
section
set_option Elab.async false
set_option linter.all false
set_option maxRecDepth 100000
set_option maxHeartbeats 2000000
/-! DI: a dict made of one pair; d.get(k). -/
namespace DI
open PySem PySem.Spec PyProof.Rows L2
end DI
end
section
set_option Elab.async false
set_option linter.all false
set_option maxRecDepth 100000
set_option maxHeartbeats 2000000
/-! DI: a dict comprehension as a fresh dict; d.get(k) of a dict under construction. -/
namespace DI
open PySem PySem.Spec PyProof.Rows L2
end DI
end
section
set_option Elab.async false
set_option linter.all false
set_option maxRecDepth 100000
set_option maxHeartbeats 2000000
/-! DI: sorted(d) of a dict under construction with int keys; d.get(k) of a dict that stands. -/
namespace DI
open PySem PySem.Spec PyProof.Rows L2
end DI
end
section
set_option Elab.async false
set_option linter.all false
set_option maxRecDepth 100000
set_option maxHeartbeats 2000000
/-! DI: dicts whose keys are nested tuples, under construction: {}, {k: v}, k in d, d[k], d[k] = v (k new). -/
namespace DI
open PySem PySem.Spec PyProof.Rows L2
/-! ### keys -/
/-! ### keys and values -/
/-! ### readings and rules -/
/-! ### over data -/
end DI
end
section
set_option Elab.async false
set_option linter.all false
set_option maxRecDepth 100000
set_option maxHeartbeats 4000000
/-! DI: zip over three lists or tuples. -/
namespace DI
open PySem PySem.Spec PyProof.Rows L2
end DI
end
section
set_option Elab.async false
set_option linter.all false
set_option maxRecDepth 100000
set_option maxHeartbeats 4000000
/-! DI: l.index(x), gcd, divmod. -/
namespace DI
open PySem PySem.Spec PyProof.Rows L2
/-- the place of the first item that holds -/
def fstIx {α : Type} (p : α → Bool) : List α → Option Nat
  | [] => none
  | x :: xs => if p x = true then some 0 else (fstIx p xs).map (· + 1)
theorem fstIx_some {α : Type} {p : α → Bool} : ∀ {xs : List α} {j : Nat}, fstIx p xs = some j → (∃ z, xs[j]? = some z ∧ p z = true) ∧ ∀ (m : Nat) (z : α), m < j → xs[m]? = some z → p z = false
  | [], j, h => by cases h
  | x :: xs, j, h => by
    unfold fstIx at h
    by_cases q : p x = true
    · rw [if_pos q] at h
      cases h
      exact ⟨⟨x, rfl, q⟩, fun m z l => absurd l (Nat.not_lt_zero m)⟩
    · rw [if_neg q] at h
      cases e : fstIx p xs with
      | none => rw [e] at h; cases h
      | some i =>
        rw [e] at h
        cases h
        obtain ⟨⟨z, h1, h2⟩, h3⟩ := fstIx_some e
        refine ⟨⟨z, h1, h2⟩, fun m y l hm => ?_⟩
        cases m with
        | zero => cases hm; simpa using q
        | succ m => exact h3 m y (Nat.lt_of_succ_lt_succ l) hm
def dFst (d e : D) : Option D := match d.sh, e.sh with
  | some (.list ps), some p => (fstIx (fun z => PyData.eqv z p) ps).map fun j => .int (j : Nat)
  | _, _ => none
def isLst : D → Bool
  | .lst _ => true
  | _ => false
theorem isLst_some {d : D} (h : isLst d = true) : ∃ ds, d = .lst ds := by
  cases d <;> first | exact ⟨_, rfl⟩ | cases h
def idxE (fo fa : LS → R D) : LS → R D := fun st => (fo st).bind fun d => if isLst d = true then (fa st).bind fun e => .of (dFst d e) else .bad
section
variable {X : Cx} {cm : CM} {W : WH} {o e : Expr} {apos pos : Pos} {fo fa : LS → R D} {k : Nat}
theorem dFst_some {d e z : D} (h : dFst d e = some z) : ∃ ds ps p j, d = .lst ds ∧ (D.lst ds).py = some (.list ps) ∧ SeqAt.shaped (.list ps) = true ∧ e.py = some p ∧ SeqAt.shaped p = true ∧ fstIx (fun z => PyData.eqv z p) ps = some j ∧ z = .int (j : Nat) := by
  unfold dFst at h
  cases q1 : d.sh with
  | none => rw [q1] at h; cases h
  | some r =>
    cases q2 : e.sh with
    | none => rw [q1, q2] at h; cases r <;> cases h
    | some p =>
      rw [q1, q2] at h
      cases r <;> try (cases h; done)
      case list ps =>
        replace h : (fstIx (fun z => PyData.eqv z p) ps).map (fun j => D.int (j : Nat)) = some z := h
        cases q3 : fstIx (fun z => PyData.eqv z p) ps with
        | none => rw [q3] at h; cases h
        | some j =>
          rw [q3] at h
          cases h
          obtain ⟨a1, a2⟩ := D.sh_some q1
          obtain ⟨b1, b2⟩ := D.sh_some q2
          cases d <;> try (unfold D.py at a1; cases a1; done)
          case tup ds =>
            unfold D.py at a1
            cases q : D.pys ds with
            | none => rw [q] at a1; cases a1
            | some x => rw [q] at a1; cases a1
          case lst ds => exact ⟨ds, ps, p, j, rfl, a1, a2, b1, b2, q3, rfl⟩
theorem e_index (hr : Room k X.A) (ho : PE X o (VE X.K cm W fo)) (ha : PE X e (VE X.K cm W fa))
    (hbase : attributeBase o "index" X.env (eval o X.env) = eval o X.env := by rfl)
    (hfew : ((backTo pos (starEach [e] X.env)).all (fun x => !x.1) && (backToKw pos (keywordEach [] X.env)).all (fun x => x.1.isSome)
      && decide ([e].length + ([] : List Keyword).length + (if ([] : List Keyword).isEmpty then 0 else 1) < 30)) = true := by rfl)
    (hline : (apos.endLine == pos.line) = true := by rfl) (hs : starEach [e] X.env = (false, eval e X.env) :: starEach [] X.env := by rfl) (hplain : (backTo pos (starEach [] X.env)).any (·.1) = false := by rfl) :
    PE X (.Call (.Attribute o "index" apos) [e] [] pos) (E X.K cm W (idxE fo fa)) :=
  (pe_bm PySem.F.plainAttrs_list PySem.F.slot_list_index PySem.F.type_list_index (mt_indexD (by have := hr.un; omega)) ho (pa_cons ha pa_nil hs) hbase hfew hline hs hplain).imp fun σ H Q ⟨st, S, fp, rx, g⟩ => by
    refine ⟨st, S, fp, rx, g.bind.mono fun d S1 H1 x1 k1 v hv => ?_⟩
    replace k1 : Go X.K cm W (fun d S' H' => ∀ v, Rep X.K cm S' v d → Q v H') (if isLst d = true then (fa st).bind fun e => .of (dFst d e) else .bad) S1 H1 σ := k1
    split at k1
    · rename_i il
      obtain ⟨ds, rfl⟩ := isLst_some il
      have hv0 := hv
      obtain ⟨a, us, rfl, hl, ra⟩ := hv.lst x1.sh
      refine ⟨.inl ⟨rfl, us, SqL.of hl⟩, st, S1, fp, rx.ext x1, k1.bind.mono fun y S2 H2 x2 k2 u hu => ?_⟩
      obtain ⟨z, hz, k3⟩ := k2.of
      obtain ⟨ds', ps, p, j, e1, a1, a2, b1, b2, q3, rfl⟩ := dFst_some hz
      cases e1
      obtain ⟨⟨w, w1, w2⟩, w3⟩ := fstIx_some q3
      exact ⟨a, u, p, ps, j, w, rfl, rfl, (hv0.ext x2).dp x2.sh a1, hu.dp x2.sh b1, a2, b2, w1, w2, w3, k3 H2 S2 (Xt.refl x2.sh) _ (.int _)⟩
    · exact k1.elim
/-! ### gcd, divmod -/
end
end DI
namespace DI
open PySem PySem.Spec PyProof.Rows L2
end DI
end
section
set_option Elab.async false
set_option linter.all false
set_option maxRecDepth 100000
set_option maxHeartbeats 4000000
/-! DI: sorted(l), l a list of pairs of whole numbers. -/
namespace DI
open PySem PySem.Spec PyProof.Rows L2
/-! ### of data -/
end DI
end
section
set_option Elab.async false
set_option linter.all false
set_option maxRecDepth 100000
set_option maxHeartbeats 4000000
/-! DI: a name that holds a zip of three, walked at once behind it. -/
namespace DI
open PySem PySem.Spec PyProof.Rows L2
/-! ### cells that stand as they were made -/
/-! ### zip(..) as a value -/
/-! ### x = zip(..); return tuple([.. for .. in x]) -/
end DI
end
section
set_option Elab.async false
set_option linter.all false
set_option maxRecDepth 100000
set_option maxHeartbeats 3200000
/-! DI: sorted(set(t)), t a tuple of ints. -/
namespace DI
open PySem PySem.Spec PyProof.Rows L2
end DI
end
section
set_option Elab.async false
set_option linter.all false
set_option maxRecDepth 100000
set_option maxHeartbeats 2000000
/-! DI: name = {k: v for ..} on one line, the name a local. -/
namespace DI
open PySem PySem.Spec PyProof.Rows L2
end DI
end
section
set_option Elab.async false
set_option linter.all false
set_option maxRecDepth 100000
set_option maxHeartbeats 2000000
/-! DI: for c in text, sep.join(list of texts), text.find(text). -/
namespace DI
open PySem PySem.Spec PyProof.Rows L2
end DI
end
section
set_option Elab.async false
set_option linter.all false
set_option maxRecDepth 100000
set_option maxHeartbeats 4000000
/-! DI: sorted({e for ..}), e an int. -/
namespace DI
open PySem PySem.Spec PyProof.Rows L2
end DI
end
section
set_option Elab.async false
set_option linter.all false
set_option maxRecDepth 100000
set_option maxHeartbeats 4000000
/-! DI: x.pop(); xs[::-1]; range(a, b, -1); defs that hand back a node of their own. -/
namespace DI
open PySem PySem.Spec PyProof.Rows L2
section
variable {X : Cx} {cm : CM} {W : WH} {c : Fr} {pos : Pos} {e : Expr} {i : Nat}
/-! ### x.pop() -/
def popS (i : Nat) : LS → Out := fun st => match ownL st[i]? with
  | none => .bad
  | some ts => if 0 < ts.length then .nx (st.set i (some (.lst ts.dropLast))) else .bad
theorem OwnL.init {K : PySem.W.Frag} {S H : Hp} : ∀ {ts : List T} {vs : List V} {f : List Addr}, OwnL K cm S H ts vs f → ∃ f', OwnL K cm S H ts.dropLast vs.dropLast f' ∧ f'.Sublist f
  | _, _, _, .nil => ⟨[], .nil, List.Sublist.refl _⟩
  | _, _, _, .cons h .nil => ⟨[], .nil, List.nil_sublist _⟩
  | _, _, _, .cons (f1 := f1) h (.cons h2 hs) => by
    obtain ⟨f', a, b⟩ := OwnL.init (OwnL.cons h2 hs)
    exact ⟨f1 ++ f', .cons h a, (List.Sublist.refl f1).append b⟩
theorem s_pop (h : PE X e (tBM0 X.K "list" rPop (tVar i))) (hs : swapsWith e none pos.line X.env = pure false := by rfl) : PS X (.Expr e pos) (SX X.K cm W c (popS i)) := (ps_expr h hs).imp fun D σ H ⟨st, S, fp, r, p⟩ => by
  replace p : Post X.K cm W c D S (match ownL st[i]? with
    | none => .bad
    | some ts => if 0 < ts.length then .nx (st.set i (some (.lst ts.dropLast))) else .bad) := p
  cases q : ownL st[i]? with
  | none => rw [q] at p; exact p.elim
  | some ts =>
    rw [q] at p
    replace p : Post X.K cm W c D S (if 0 < ts.length then .nx (st.set i (some (.lst ts.dropLast))) else .bad) := p
    by_cases hl : 0 < ts.length
    case neg => rw [if_neg hl] at p; exact p.elim
    rw [if_pos hl] at p
    obtain ⟨v, f1, h1, h2, h3, h4, h5⟩ := r.mut (ownL_some q)
    cases h2 with
    | @lst a vs _ f2 ha hts =>
      obtain ⟨n1, n2⟩ := List.nodup_cons.mp h3
      obtain ⟨f', o', sb⟩ := hts.init
      have vl : vs.length - 1 < vs.length := by rw [hts.length]; omega
      refine ⟨.ref a, h1, .inl ⟨rfl, vs, SqL.of ha⟩, a, vs, vs[vs.length - 1], rfl, rfl, ha, List.getElem?_eq_getElem vl, ?_⟩
      refine p σ _ (h5 S H _ _ (a :: f') (Xt.refl r.rx.sh) (fun b n => upd_ne fun z => n (z ▸ List.mem_cons_self)) (.lst upd_same (ownL_upd (fun m => n1 (sb.mem m)) o')) (List.nodup_cons.mpr ⟨fun m => n1 (sb.mem m), n2.sublist sb⟩) fun b m => ?_)
      rcases List.mem_cons.mp m with m | m
      · exact .inl (by rw [m]; exact List.mem_cons_self)
      · exact .inl (List.mem_cons_of_mem _ (sb.mem m))
/-! ### xs[::-1] -/
variable {a : Expr} {f : LS → R D}
def revE (f : LS → R D) : LS → R D := fun st => (f st).bind fun d => match d with
  | .lst ds => .ok (.lst ds.reverse)
  | _ => .bad
theorem e_revL {k : Nat} {p1 p2 p3 : Pos} (ha : PE X a (VE X.K cm W f)) : PE X (.Subscript a (.Slice none none (some (.UnaryOp .USub (.Constant (.int 1) k p1) p2)) p3) pos) (E X.K cm W (revE f)) := (pe_revL ha).imp fun σ H Q ⟨st, S, fp, rx, k⟩ =>
  ⟨st, S, fp, rx, k.bind.mono fun d S1 H1 x1 k1 v hv => by
    cases d <;> try (exact k1.elim)
    case lst ds =>
      obtain ⟨a, vs, rfl, ha, ra⟩ := hv.lst x1.sh
      exact ⟨a, vs, rfl, SqL.of ha, fin_lst x1.sh ra.rev k1⟩⟩
/-! ### range(a, b, -1) -/
variable {tg : Expr} {p : Pos}
end
/-! ### a def that hands back a node of its own -/
/-- what a call leaves: a fresh node -/
def FinT (K : PySem.W.Frag) (cm : CM) (S H : Hp) (Q : VK) (E : XK) (r : R T) : Prop :=
  r.Res (fun t => ∀ v H' S' fn, Xt S S' H H' → Own K cm S' H' t v fn → fn.Nodup → (∀ a ∈ fn, H a = none ∧ S' a = none) → Q v H') fun _ => False
def spT (K : PySem.W.Frag) (cm : CM) (n : Nat) (F : List D → R T) : Sp := fun vs H Q E => vs.length = n ∧ ∃ S ds, Same S H ∧ RepL K cm S vs ds ∧ FinT K cm S H Q E (F ds)
/-- a body that ends by handing back what a slot holds -/
def SXT (K : PySem.W.Frag) (cm : CM) (W : WH) (c : Fr) (f : LS → R T) : TS := fun D σ H => ∃ st S fp, RR K cm W c st S fp σ H ∧
  (f st).Res (fun t => ∀ v H' S' fn, Same S S' → Xt c.S0 S' c.F H' → Own K cm S' H' t v fn → fn.Nodup → (∀ a ∈ fn, c.F a = none ∧ S' a = none) → D.rt v H') fun _ => False
def seqT (F : LS → Out) (G : LS → R T) : LS → R T := fun st => match F st with
  | .nx st => G st
  | _ => .bad
def retT (i : Nat) : LS → R T := fun st => match st[i]? with
  | some (some t) => .ok t
  | _ => .bad
def denT (m : Nat) (F : LS → R T) (ds : List D) : R T := F (st0 m ds)
section
variable {X : Cx} {cm : CM} {W : WH} {c : Fr} {pos : Pos} {s : Stmt} {rest : List Stmt} {F : LS → Out} {G : LS → R T}
theorem s_consT (h1 : PS X s (SX X.K cm W c F)) (h2 : PSs X rest (SXT X.K cm W c G)) : PSs X (s :: rest) (SXT X.K cm W c (seqT F G)) := (pss_cons h1 h2).imp fun D σ H ⟨st, S, fp, r, p⟩ => by
  refine ⟨st, S, fp, r, ?_⟩
  replace p : (match F st with
    | .nx st => G st
    | _ => .bad : R T).Res _ _ := p
  cases q : F st with
  | nx st' =>
    rw [q] at p
    exact fun σ' H' ⟨S', fp', a, b⟩ => ⟨st', S', fp', b, R.Res.mono p (fun t k v H2 S2 fn s2 => k v H2 S2 fn (a.trans s2)) fun _ k => k⟩
  | bad => rw [q] at p; exact p.elim
  | rt d => rw [q] at p; exact p.elim
  | bk st' => rw [q] at p; exact p.elim
  | ct st' => rw [q] at p; exact p.elim
  | ex st' e => rw [q] at p; exact p.elim
theorem s_retT (i : Nat) {x : Str} {p : Pos} (hN : X.N[i]? = some x := by rfl) (hv : Vis X.env.scope x := by first | exact Or.inl rfl | exact Or.inr (Or.inl rfl) | exact Or.inr (Or.inr rfl)) (hd : (x == ("__debug__" : Str)) = false := by decide)
    (hcd : (x == ("__classdict__" : Str)) = false := by decide) : PSs X [.Return (some (.Name x p)) pos] (SXT X.K cm W c (retT i)) := (pss_one (ps_ret (pe_var hN hv hd hcd))).imp fun D σ H ⟨st, S, fp, r, k⟩ => by
  replace k : (match st[i]? with
    | some (some t) => .ok t
    | _ => .bad : R T).Res _ _ := k
  cases q : st[i]? with
  | none => rw [q] at k; exact k.elim
  | some o =>
    cases o with
    | none => rw [q] at k; exact k.elim
    | some t =>
      rw [q] at k
      obtain ⟨v, f, h1, h2, h3, h4, _⟩ := r.mut q
      exact ⟨v, h1, k v H S f (Same.refl S) r.xt h2 h3 fun a m => ⟨r.fr a (h4 a m), r.rx.out a (h4 a m)⟩⟩
end
section
variable {P : Program} {w : World} {K : PySem.W.Frag} {mg : Str → Option Value} {base : Heap} {cm : CM} {x qual : Str} {params : Arguments} {body : List Stmt} {scope : Scope} {dvs : List V} {kws : List (Str × V)} {f : Addr} {fd : FuncData} {N ps : List Str} {k : Nat}
theorem fn_okT {F : LS → R T} (Fd : FunD K x qual params body scope dvs kws f fd) (Sc : FnScope N ps scope)
    (hb : ∀ (cdv : Value) (A : Around) (outer : List Env) (s : Shared) (H : Hp) (E : XK) (S0 F0 : Hp), Room k (A.deeper (envOfC qual scope s.heap.objs.size f cdv)) →
      Takes (cxOf (L2.CX P w) P w K mg base N qual scope f cdv A outer s H E) (fun cls d _ H => E cls d H) →
      PSs (cxOf (L2.CX P w) P w K mg base N qual scope f cdv A outer s H E) body (SXT K cm (wt fun cls d _ H => E cls d H) ⟨S0, F0, noFix⟩ F)) :
    FnOk P w K mg base (L2.CX P w) (k + 1) f fd ps (spT K cm ps.length (denT N.length F)) := by
  refine Fd.ok Sc (fun vs H Q E h => h.1) fun cdv A outer s H vs Q E hr ⟨hl, S, ds, sh, hv, fin⟩ => ?_
  refine ⟨_, hb cdv A outer s H E S H hr (takes_of rfl rfl rfl rfl), st0 N.length ds, S, [], ⟨⟨sh, ?_, List.nodup_nil, fun _ m => (nomatch m), trivial⟩, Xt.refl sh, fun _ m => (nomatch m), fun _ _ z => (nomatch z)⟩, ?_⟩
  · unfold L2.start st0
    rw [hv.length]
    exact sls_start _ hv
  · replace fin : FinT K cm S H Q E (F (st0 N.length ds)) := fin
    cases q : F (st0 N.length ds) with
    | bad => rw [q] at fin; exact fin.elim
    | ok t => rw [q] at fin; exact fun v H' S' fn ss xt o nd fr => fin v H' S' fn xt o nd fr
    | ex e => rw [q] at fin; exact fin.elim
end
/-! ### the call -/
section
variable {X : Cx} {cm : CM} {W : WH} {k n : Nat} {f : Addr} {fd : FuncData} {ps : List Str} {x : Str} {p pos : Pos} {e : Expr} {es : List Expr} {args : LS → R (List D)} {F : List D → R T} {dvs : List V} {dd : List D} {us : List Value}
def onlyT (r : R T) : R T := match r with
  | .ok t => .ok t
  | _ => .bad
def callT (F : List D → R T) (dd : List D) (args : LS → R (List D)) : LS → R T := fun st => (args st).bind fun ds => onlyT (F (ds ++ dd))
def arT (n : Nat) (F : List D → R T) : List D → R T := fun ds => if ds.length = n then F ds else .bad
theorem callT_reads (hd : ∀ S, RepL X.K cm S dvs dd) {σ : Sg} {H : Hp} {Q : VK} (k : EF X.K cm W (callT (arT n F) dd args) σ H Q) : tCallSD (spT X.K cm n F) dvs (WE W.w) (EA X.K cm W args) σ H Q := by
  obtain ⟨st, S, fp, r, k⟩ := k
  refine ⟨st, S, fp, r, k.bind.mono fun ds S1 H1 x1 k1 vs hv => ?_⟩
  have hv2 := hv.append (hd S1)
  unfold arT at k1
  split at k1
  case isFalse => exact k1.elim
  rename_i hl
  refine ⟨by rw [hv2.length]; exact hl, S1, ds ++ dd, x1.sh, hv2, ?_⟩
  cases q : F (ds ++ dd) with
  | bad => rw [q] at k1; exact k1.elim
  | ex e => rw [q] at k1; exact k1.elim
  | ok t =>
    rw [q] at k1
    exact fun v H' S' fn x2 o nd fr => k1 H' S' x2 v fn o nd fun a m => ⟨x1.hh.free (fr a m).1, (fr a m).2⟩
theorem f_callT0 (G : FnOk X.prog X.w X.K X.mg X.base (L2.CX X.prog X.w) k f fd ps (spT X.K cm n F)) (tk : Takes X W.w) (hr : Room k X.A) (hm : X.mg x = some (.ref f)) (hk : PySem.W.keepIn X.K (.ref f) = true) (hb : Binds X.K fd ps us) (hu : Vals dvs us) (hd : ∀ S, RepL X.K cm S dvs dd)
    (ha : PA X (e :: es) (EA X.K cm W args)) (hg : Gl X x := by rfl) (hdb : (x == ("__debug__" : Str)) = false := by decide) (he : starEach (e :: es) X.env = (false, eval e X.env) :: starEach es X.env := by rfl) (hpl : (backTo pos (starEach es X.env)).any (·.1) = false := by rfl) :
    PE X (.Call (.Name x p) (e :: es) [] pos) (EF X.K cm W (callT (arT n F) dd args)) :=
  (pe_callSD G hr hg hm hk hb hu (fun σ => passAt tk σ) ha hdb he hpl).imp fun σ H Q k => callT_reads hd k
/-- a def that hands back a node of its own -/
structure FrsP (P : Program) (w : World) (K : PySem.W.Frag) (mg : Str → Option Value) (base : Heap) (cm : CM) (k n : Nat) (f : Addr) (F : List D → R T) : Prop where
  ok : ∃ fd ps, FnOk P w K mg base (L2.CX P w) k f fd ps (spT K cm n F) ∧ Binds K fd ps []
theorem f_callP (h : FrsP X.prog X.w X.K X.mg X.base cm k n f F) (A : At X.K X.mg x f) (tk : Takes X W.w) (hr : Room k X.A) (ha : PA X (e :: es) (EA X.K cm W args)) (hg : Gl X x := by rfl) (hdb : (x == ("__debug__" : Str)) = false := by decide)
    (he : starEach (e :: es) X.env = (false, eval e X.env) :: starEach es X.env := by rfl) (hpl : (backTo pos (starEach es X.env)).any (·.1) = false := by rfl) : PE X (.Call (.Name x p) (e :: es) [] pos) (EF X.K cm W (callT (arT n F) [] args)) := by
  obtain ⟨fd, ps, h1, h2⟩ := h.ok
  exact f_callT0 h1 tk hr A.mg A.kp h2 .nil (fun S => .nil) ha hg hdb he hpl
end
end DI
end
section
set_option Elab.async false
set_option linter.all false
set_option maxRecDepth 100000
set_option maxHeartbeats 2000000
namespace FR
open PySem PySem.Spec PyProof.Rows L2 DI
def fl_around : List (Nat × Nat) := [(46, 2)]
def fl_lines : List (Nat × Nat) := [(32, 5), (35, 5), (45, 2), (46, 1)]
def fl_picture : List (Nat × Nat) := [(39, 1)]
def fl_size : List (Nat × Nat) := [(42, 1), (46, 0)]
def fl_web : List (Nat × Nat) := [(39, 0)]
def subL : List (Nat × Nat) := [(0, 0), (1, 1), (2, 2), (3, 3), (4, 4), (5, 5), (6, 6), (6, 5), (7, 7), (7, 5), (8, 8), (8, 5), (9, 9), (9, 5), (10, 10), (10, 5), (11, 11), (11, 5), (12, 12), (12, 5), (13, 13), (13, 5), (14, 14), (14, 5), (15, 15), (15, 5), (16, 16), (16, 5), (17, 17), (17, 5), (18, 18), (18, 5), (19, 19), (19, 5), (20, 20), (20, 5), (21, 21), (21, 5), (22, 22), (22, 21), (22, 5), (23, 23), (23, 21), (23, 5), (24, 24), (24, 21), (24, 5), (25, 25), (25, 21), (25, 5), (26, 26), (26, 21), (26, 5), (27, 27), (27, 21), (27, 5), (28, 28), (28, 21), (28, 5), (29, 29), (29, 21), (29, 5), (30, 30), (30, 21), (30, 5), (31, 31), (31, 21), (31, 5), (32, 32), (32, 35), (33, 33), (34, 34), (35, 35), (36, 36), (37, 37), (38, 38), (39, 39), (40, 40), (41, 41), (42, 42), (43, 43), (44, 44), (45, 45), (46, 46), (47, 47), (48, 48)]
def subC (a b : Nat) : Bool := subL.contains (a, b)
def d__law_web : List D → R D := den 9 (seqS (setS 2 (callE dMin2 (consA (vi 1) (consA (bin dIdx (lstE (consA (cc (.int 5)) (consA (cc (.int 4)) (consA (cc (.int 6)) (consA (cc (.int 3)) (consA (cc (.int 5)) (consA (cc (.int 7)) (consA (cc (.int 4)) (consA (cc (.int 6)) (consA (cc (.int 2)) (consA (cc (.int 5)) (consA (cc (.int 1)) (consA (cc (.int 6)) (nilA)))))))))))))) (bin dIdx (vi 0) (cc (.int 0)))) (nilA)))))
  (seqS (setF 3 (lstF (nilA)))
  (seqS (forS (callI rng2 (consA (cc (.int 1)) (consA (vi 2) (nilA)))) (gN 4)
  (seqS (setS 5 (bin dIdx (lstE (consA (bin dSub (vi 4) (cc (.int 1))) (consA (bin dSub (vi 4) (cc (.int 1))) (consA (bin dSub (vi 4) (cc (.int 1))) (consA (cc (.int 0)) (consA (bin dDiv (vi 4) (cc (.int 2))) (consA (cc (.int 0)) (nilA)))))))) (bin dIdx (vi 0) (bin dMul (cc (.int 2)) (vi 4)))))
  (seqS (ifS (tb (bin dLt (bin dIdx (vi 0) (cc (.int 13))) (cc (.int 4))))
  (setS 5 (bin dSub (vi 4) (cc (.int 1))))
  (nilS))
  (ifS (tb (bin dLt (bin dIdx (vi 0) (bin dSub (bin dMul (cc (.int 2)) (vi 4)) (cc (.int 1)))) (cc (.int 19))))
  (appS 3 (fun st => ((tupE (consA (vi 5) (consA (vi 4) (nilA)))) st).bind fun d => .ok (.im d)))
  (nilS)))))
  (seqS (ifS (andB (tb (bin dGt (vi 2) (cc (.int 2)))) (tb (bin dLt (bin dIdx (vi 0) (cc (.int 13))) (cc (.int 6)))))
  (appS 3 (fun st => ((tupE (consA (cc (.int 0)) (consA (bin dSub (vi 2) (cc (.int 1))) (nilA)))) st).bind fun d => .ok (.im d)))
  (nilS))
  (seqS (forS (callI rng1 (consA (cc (.int 3)) (nilA))) (gN 4)
  (seqS (setS 6 (bin dMod (bin dIdx (vi 0) (bin dAdd (cc (.int 14)) (bin dMul (cc (.int 2)) (vi 4)))) (vi 2)))
  (seqS (setS 7 (bin dMod (bin dIdx (vi 0) (bin dAdd (cc (.int 15)) (bin dMul (cc (.int 2)) (vi 4)))) (vi 2)))
  (ifS (andB (tb (bin dLt (vi 6) (vi 7))) (tb (bin dGt (bin dIdx (vi 0) (bin dAdd (cc (.int 15)) (bin dMul (cc (.int 2)) (vi 4)))) (cc (.int 2)))))
  (appS 3 (fun st => ((tupE (consA (vi 6) (consA (vi 7) (nilA)))) st).bind fun d => .ok (.im d)))
  (nilS)))))
  (seqS (setF 8 (lstF (nilA)))
  (seqS (forS (callI rng1 (consA (vi 2) (nilA))) (gN 6)
  (forS (callI rng2 (consA (bin dAdd (vi 6) (cc (.int 1))) (consA (vi 2) (nilA)))) (gN 7)
  (frzS 3 (ifS (tb (bin dIn (tupE (consA (vi 6) (consA (vi 7) (nilA)))) (vi 3)))
  (appS 8 (fun st => ((tupE (consA (vi 6) (consA (vi 7) (nilA)))) st).bind fun d => .ok (.im d)))
  (nilS)))))
  (frzS 8 (retS (lstE (consA (vi 2) (consA (vi 8) (nilA)))))))))))))
def d__law_digits : List D → R D := den 8 (seqS (setF 2 (lstF (nilA)))
  (seqS (setS 3 (callE dToInt (consA (vi 0) (nilA))))
  (seqS (ifS (tb (bin dGe (vi 3) (bin dPow (cc (.int 10)) (cc (.int 18)))))
  (seqS (setS 3 (bin dSub (vi 3) (bin dPow (cc (.int 10)) (cc (.int 18)))))
  (seqS (forS (items (vi 1)) (gN 4)
  (seqS (appS 2 (fun st => ((bin dMod (callE dToInt (consA (vi 3) (nilA))) (vi 4)) st).bind fun d => .ok (.im d)))
  (setS 3 (bin dDiv (callE dToInt (consA (vi 3) (nilA))) (vi 4)))))
  (frzS 2 (retS (vi 2)))))
  (nilS))
  (seqS (setS 5 (bin dMod (callE dToInt (consA (vi 3) (nilA))) (cc (.int 2147483629))))
  (seqS (forS (callI rng1 (consA (callE dLen (consA (vi 1) (nilA))) (nilA))) (gN 6)
  (seqS (setS 5 (bin dMod (callE dToInt (consA (bin dAdd (bin dAdd (bin dMul (vi 5) (cc (.int 48271))) (bin dMul (cc (.int 974711)) (vi 6))) (cc (.int 12345))) (nilA))) (cc (.int 2147483647))))
  (seqS (setS 7 (bin dMod (callE dToInt (consA (bin dMul (vi 5) (bin dAdd (bin dDiv (vi 5) (cc (.int 65537))) (cc (.int 3)))) (nilA))) (cc (.int 2147483629))))
  (appS 2 (fun st => ((bin dMod (bin dDiv (vi 7) (cc (.int 19))) (bin dIdx (vi 1) (vi 6))) st).bind fun d => .ok (.im d))))))
  (frzS 2 (retS (vi 2))))))))
def d__law_cell : List D → R D := den 4 (seqS (ifS (tb (bin dLt (vi 1) (callE dLen (consA (vi 0) (nilA)))))
  (retS (bin dIdx (vi 0) (vi 1)))
  (nilS))
  (seqS (setS 2 (cc (.int 17)))
  (seqS (forS (items (vi 0)) (gN 3)
  (setS 2 (bin dMod (callE dToInt (consA (bin dAdd (bin dMul (vi 2) (cc (.int 31))) (bin dMod (callE dToInt (consA (vi 3) (nilA))) (cc (.int 1000003)))) (nilA))) (cc (.int 1000003)))))
  (retS (bin dMod (callE dToInt (consA (bin dMul (bin dMul (bin dAdd (vi 2) (cc (.int 7))) (bin dAdd (vi 1) (cc (.int 3)))) (cc (.int 69621))) (nilA))) (cc (.int 2147483647)))))))
def d__law_picture : List D → R D := den 3 (seqS (ifS (andB (tb (bin dGe (bin dIdx (vi 0) (cc (.int 0))) (cc (.int 4)))) (tb (bin dLe (bin dIdx (vi 0) (cc (.int 0))) (cc (.int 7)))))
  (retS (callE dTuple (consA (compE (callI rng1 (consA (vi 1) (nilA))) [2] (gN 2) (yesT) (bin dMod (callE dToInt (consA (bin dAdd (vi 2) (bin dIdx (vi 0) (cc (.int 1)))) (nilA))) (cc (.int 3)))) (nilA))))
  (nilS))
  (seqS (ifS (tb (bin dEq (bin dIdx (vi 0) (cc (.int 0))) (cc (.int 8))))
  (retS (callE dTuple (consA (compE (callI rng1 (consA (vi 1) (nilA))) [2] (gN 2) (yesT) (bin dMul (bin dMod (callE dToInt (consA (bin dAdd (vi 2) (bin dIdx (vi 0) (cc (.int 1)))) (nilA))) (cc (.int 3))) (callE dToInt (consA (bin dNe (vi 2) (bin dAdd (bin dIdx (vi 0) (cc (.int 2))) (cc (.int 1)))) (nilA))))) (nilA))))
  (nilS))
  (seqS (ifS (tb (bin dEq (bin dIdx (vi 0) (cc (.int 0))) (cc (.int 9))))
  (retS (callE dTuple (consA (compE (callI rng1 (consA (vi 1) (nilA))) [2] (gN 2) (yesT) (callE dToInt (consA (bin dEq (vi 2) (bin dIdx (vi 0) (cc (.int 1)))) (nilA)))) (nilA))))
  (nilS))
  (retS (callE dTuple (consA (compE (callI rng1 (consA (vi 1) (nilA))) [2] (gN 2) (yesT) (bin dIdx (vi 0) (bin dAdd (cc (.int 2)) (vi 2)))) (nilA)))))))
def d__law_scene : List D → R D := den 5 (seqS (setS 3 (callU (ar 2 d__law_web) [] (consA (callU (ar 2 d__law_digits) [] (consA (callU (ar 2 d__law_cell) [] (consA (vi 0) (consA (vi 1) (nilA)))) (consA (bin dAdd (bin dAdd (bin dAdd (lstE (consA (cc (.int 12)) (nilA))) (bin dMul (lstE (consA (cc (.int 20)) (consA (cc (.int 6)) (nilA)))) (cc (.int 6)))) (lstE (consA (cc (.int 8)) (nilA)))) (bin dMul (lstE (consA (cc (.int 8)) (consA (cc (.int 8)) (nilA)))) (cc (.int 3)))) (nilA)))) (consA (vi 2) (nilA)))))
  (seqS (setS 4 (callU (ar 2 d__law_picture) [] (consA (callU (ar 2 d__law_digits) [] (consA (callU (ar 2 d__law_cell) [] (consA (vi 0) (consA (bin dAdd (vi 1) (cc (.int 1))) (nilA)))) (consA (bin dAdd (lstE (consA (cc (.int 10)) (consA (cc (.int 3)) (nilA)))) (bin dMul (lstE (consA (cc (.int 3)) (nilA))) (cc (.int 7)))) (nilA)))) (consA (bin dIdx (vi 3) (cc (.int 0))) (nilA)))))
  (retS (lstE (consA (bin dIdx (vi 3) (cc (.int 0))) (consA (bin dIdx (vi 3) (cc (.int 1))) (consA (vi 4) (nilA))))))))
def d__law_any_scene : List D → R D := den 8 (seqS (setS 2 (callU (ar 2 d__law_digits) [] (consA (callU (ar 2 d__law_cell) [] (consA (vi 0) (consA (vi 1) (nilA)))) (consA (bin dAdd (lstE (consA (cc (.int 7)) (consA (cc (.int 4)) (nilA)))) (bin dMul (lstE (consA (cc (.int 4)) (nilA))) (cc (.int 21)))) (nilA)))))
  (seqS (setS 3 (bin dIdx (lstE (consA (cc (.int 6)) (consA (cc (.int 7)) (consA (cc (.int 5)) (consA (cc (.int 7)) (consA (cc (.int 4)) (consA (cc (.int 6)) (consA (cc (.int 3)) (nilA))))))))) (bin dIdx (vi 2) (cc (.int 0)))))
  (seqS (setF 4 (lstF (nilA)))
  (seqS (forS (callI rng1 (consA (vi 3) (nilA))) (gN 5)
  (forS (callI rng2 (consA (bin dAdd (vi 5) (cc (.int 1))) (consA (vi 3) (nilA)))) (gN 6)
  (ifS (tb (bin dLe (bin dIdx (vi 2) (bin dAdd (bin dAdd (cc (.int 2)) (bin dDiv (bin dMul (vi 6) (bin dSub (vi 6) (cc (.int 1)))) (cc (.int 2)))) (vi 5))) (bin dIdx (vi 2) (cc (.int 1)))))
  (appS 4 (fun st => ((tupE (consA (vi 5) (consA (vi 6) (nilA)))) st).bind fun d => .ok (.im d)))
  (nilS))))
  (seqS (setS 7 (callU (ar 2 d__law_picture) [] (consA (callU (ar 2 d__law_digits) [] (consA (callU (ar 2 d__law_cell) [] (consA (vi 0) (consA (bin dAdd (vi 1) (cc (.int 1))) (nilA)))) (consA (bin dAdd (lstE (consA (cc (.int 10)) (consA (cc (.int 3)) (nilA)))) (bin dMul (lstE (consA (cc (.int 3)) (nilA))) (cc (.int 7)))) (nilA)))) (consA (vi 3) (nilA)))))
  (frzS 4 (retS (lstE (consA (vi 3) (consA (vi 4) (consA (vi 7) (nilA))))))))))))
def d_checked_lines : List D → R D := den 5 (seqS (forS (enumI (consA (vi 1) (nilA))) (gT 2 (gsCons (gN 2) (gsCons (gT 2 (gsCons (gN 3) (gsCons (gN 4) (gsNil)))) (gsNil))))
  (ifS (orB (tb (bin dEq (vi 3) (vi 4))) (orB (notB (tb (chain dLe dLt (cc (.int 0)) (vi 3) (vi 0)))) (notB (tb (chain dLe dLt (cc (.int 0)) (vi 4) (vi 0))))))
  (neverS)
  (nilS)))
  (retS (callE dTuple (consA (callE (fun ds => dL (dSortU ds)) (consA (setE (items (vi 1)) [3, 4] (gT 2 (gsCons (gN 3) (gsCons (gN 4) (gsNil)))) (yesT) (tupE (consA (callE dMin2 (consA (vi 3) (consA (vi 4) (nilA)))) (consA (callE dMax2 (consA (vi 3) (consA (vi 4) (nilA)))) (nilA))))) (nilA))) (nilA)))))
def d_frozen : Nat → List D → R D
  | 0 => fun _ => .bad
  | k + 1 => den 2 (seqS (ifS (tb (un (dIs subC [.b .list, .b .tuple]) (vi 0)))
  (retS (callE dTuple (consA (compE (items (vi 0)) [1] (gN 1) (yesT) (callU (ar 1 (d_frozen k)) [] (consA (vi 1) (nilA)))) (nilA))))
  (nilS))
  (retS (vi 0)))
def d_neighbour_rows : List D → R D := den 7 (seqS (setF 3 (compTF (callI rng1 (consA (vi 0) (nilA))) [2] (gN 2) (yesT) (lstF (nilA))))
  (seqS (forS (items (vi 1)) (gT 2 (gsCons (gN 4) (gsCons (gN 5) (gsNil))))
  (seqS (appPS 3 (vi 4) (fun st => ((vi 5) st).bind fun d => .ok (.im d)))
  (appPS 3 (vi 5) (fun st => ((vi 4) st).bind fun d => .ok (.im d)))))
  (frzS 3 (retS (callE dTuple (consA (compE (items (vi 3)) [6] (gN 6) (yesT) (callE dTuple (consA (callE (fun ds => dL (dSortF ds)) (consA (vi 6) (nilA))) (nilA)))) (nilA)))))))
def d_Web___init__ : List D → R (List D) := denI 3 46 (seqS (slfS 0 46 0 (vi 1))
  (seqS (slfS 0 46 1 (callU (ar 2 d_checked_lines) [] (consA (vi 1) (consA (callU (ar 1 (d_frozen 6)) [] (consA (vi 2) (nilA))) (nilA)))))
  (slfS 0 46 2 (callU (ar 2 d_neighbour_rows) [] (consA (vi 1) (consA (slfE 0 46 1) (nilA)))))))
def d__law_near : List D → R D := den 6 (seqS (setF 3 (compTF (callI rng1 (consA (vi 0) (nilA))) [2] (gN 2) (yesT) (lstF (nilA))))
  (seqS (forS (items (vi 1)) (gN 4)
  (seqS (appPS 3 (bin dIdx (vi 4) (cc (.int 0))) (fun st => ((bin dIdx (vi 4) (cc (.int 1))) st).bind fun d => .ok (.im d)))
  (appPS 3 (bin dIdx (vi 4) (cc (.int 1))) (fun st => ((bin dIdx (vi 4) (cc (.int 0))) st).bind fun d => .ok (.im d)))))
  (frzS 3 (retS (compE (items (vi 3)) [5] (gN 5) (yesT) (callE (fun ds => dL (dSortF ds)) (consA (vi 5) (nilA))))))))
def d__law_forest : List D → R D := den 9 (seqS (setF 2 (compF (items (vi 0)) [1] (gN 1) (yesT) (cc .non)))
  (seqS (setF 3 (lstF (nilA)))
  (seqS (forS (callI rng1 (consA (callE dLen (consA (vi 0) (nilA))) (nilA))) (gN 4)
  (ifS (tb (bin dNotIn (vi 4) (vv 3)))
  (seqS (setF 5 (lstF (consA (vi 4) (nilA))))
  (seqS (forS (callI rng1 (consA (callE dLen (consA (vi 0) (nilA))) (nilA))) (gN 6)
  (ifS (tb (bin dLt (vi 6) (callE dLen (consA (vv 5) (nilA)))))
  (seqS (setS 8 (compE (items (bin dIdx (vi 0) (bin dIdx (vv 5) (vi 6)))) [7] (gN 7) (tb (bin dNotIn (vi 7) (vv 5))) (vi 7)))
  (seqS (forS (items (vi 8)) (gN 7)
  (setIS 2 (fun st => ((bin dIdx (vv 5) (vi 6)) st).bind fun d => .ok (.im d)) (vi 7)))
  (extS 5 (vi 8))))
  (nilS)))
  (frzS 5 (extS 3 (vi 5)))))
  (nilS)))
  (frzS 2 (retS (vi 2))))))
def d_forest : List D → R D := den 7 (seqS (setF 1 (fun st => ((lstE (consA (cc .non) (nilA))) st).bind fun x => ((un (dFld fl_size) (vi 0)) st).bind fun y => .of ((dRep x y).map imT)))
  (seqS (setF 2 (dnewF))
  (seqS (forS (callI rng1 (consA (un (dFld fl_size) (vi 0)) (nilA))) (gN 3)
  (ifS (tb (dinE true 2 (vi 3)))
  (seqS (dputS 2 (vi 3) (cc (.bl true)))
  (seqS (setF 4 (lstF (consA (vi 3) (nilA))))
  (seqS (setS 5 (cc (.int 0)))
  (whileS fuel (tb (bin dLt (vi 5) (callE dLen (consA (vv 4) (nilA)))))
  (seqS (forS (items (bin dIdx (un (dFld fl_around) (vi 0)) (bin dIdx (vv 4) (vi 5)))) (gN 6)
  (ifS (tb (dinE true 2 (vi 6)))
  (seqS (dputS 2 (vi 6) (cc (.bl true)))
  (seqS (setIS 1 (fun st => ((bin dIdx (vv 4) (vi 5)) st).bind fun d => .ok (.im d)) (vi 6))
  (appS 4 (fun st => ((vi 6) st).bind fun d => .ok (.im d)))))
  (nilS)))
  (augS 5 dIAdd (cc (.int 1))))))))
  (nilS)))
  (frzS 1 (retS (callE dTuple (consA (vi 1) (nilA))))))))
def d__law_whole : List D → R D := den 1 (retS (andE (un (dIs subC [.b .int]) (vi 0)) (notE (un (dIs subC [.b .bool]) (vi 0)))))
def d__law_forest_asked : List D → R D := den 4 (seqS (setS 2 (callU (ar 1 d_forest) [] (consA (vi 0) (nilA))))
  (seqS (ifS (orB (notB (tb (un (dIs subC [.b .tuple]) (vi 2)))) (tb (bin dNe (callE (fun ds => dL (dListF ds)) (consA (vi 2) (nilA))) (vi 1))))
  (retS (cc (.bl false)))
  (nilS))
  (retS (bin dEq (callE dLen (consA (compE (items (vi 2)) [3] (gN 3) (andB (tb (bin dNotN (vi 3) (cc .non))) (notB (tb (callU (ar 1 d__law_whole) [] (consA (vi 3) (nilA)))))) (vi 3)) (nilA))) (cc (.int 0))))))
def d__law_up : List D → R D := den 4 (seqS (setF 2 (lstF (consA (vi 1) (nilA))))
  (seqS (forS (callI rng1 (consA (callE dLen (consA (vi 0) (nilA))) (nilA))) (gN 3)
  (ifS (tb (bin dNotN (bin dIdx (vi 0) (bin dIdx (vv 2) (bin dSub (callE dLen (consA (vv 2) (nilA))) (cc (.int 1))))) (cc .non)))
  (appS 2 (fun st => ((bin dIdx (vi 0) (bin dIdx (vv 2) (bin dSub (callE dLen (consA (vv 2) (nilA))) (cc (.int 1))))) st).bind fun d => .ok (.im d)))
  (nilS)))
  (frzS 2 (retS (vi 2)))))
def d__law_basic : List D → R D := den 10 (seqS (setS 3 (callU (ar 2 d__law_up) [] (consA (vi 0) (consA (vi 1) (nilA)))))
  (seqS (setS 4 (callU (ar 2 d__law_up) [] (consA (vi 0) (consA (vi 2) (nilA)))))
  (seqS (setS 6 (compE (items (vi 3)) [5] (gN 5) (tb (bin dIn (vi 5) (vi 4))) (vi 5)))
  (seqS (setS 7 (bin dIdx (vi 6) (cc (.int 0))))
  (seqS (setS 9 (compE (callI rng1 (consA (idxE (vi 4) (vi 7)) (nilA))) [8] (gN 8) (yesT) (bin dIdx (vi 4) (bin dSub (bin dSub (idxE (vi 4) (vi 7)) (cc (.int 1))) (vi 8)))))
  (retS (callE dTuple (consA (bin dAdd (bin dAdd (slE (vi 3) (partN) (partI (bin dAdd (idxE (vi 3) (vi 7)) (cc (.int 1))))) (vi 9)) (lstE (consA (vi 1) (nilA)))) (nilA)))))))))
def d_way_up : List D → R D := den 3 (seqS (setF 2 (lstF (consA (vi 1) (nilA))))
  (seqS (whileS fuel (tb (bin dNotN (bin dIdx (vi 0) (bin dIdx (vv 2) (un dNeg (cc (.int 1))))) (cc .non)))
  (appS 2 (fun st => ((bin dIdx (vi 0) (bin dIdx (vv 2) (un dNeg (cc (.int 1))))) st).bind fun d => .ok (.im d))))
  (frzS 2 (retS (vi 2)))))
def dT_way_up : List D → R T := denT 3 (seqT (setF 2 (lstF (consA (vi 1) (nilA))))
  (seqT (whileS fuel (tb (bin dNotN (bin dIdx (vi 0) (bin dIdx (vv 2) (un dNeg (cc (.int 1))))) (cc .non)))
  (appS 2 (fun st => ((bin dIdx (vi 0) (bin dIdx (vv 2) (un dNeg (cc (.int 1))))) st).bind fun d => .ok (.im d))))
  (retT 2)))
def d_tree_walk : List D → R D := den 5 (seqS (setF 3 (callT (arT 2 dT_way_up) [] (consA (vi 0) (consA (vi 1) (nilA)))))
  (seqS (setF 4 (callT (arT 2 dT_way_up) [] (consA (vi 0) (consA (vi 2) (nilA)))))
  (seqS (whileS fuel (andB (tb (bin dGt (callE dLen (consA (vv 3) (nilA))) (cc (.int 1)))) (andB (tb (bin dGt (callE dLen (consA (vv 4) (nilA))) (cc (.int 1)))) (tb (bin dEq (bin dIdx (vv 3) (un dNeg (cc (.int 2)))) (bin dIdx (vv 4) (un dNeg (cc (.int 2))))))))
  (seqS (popS 3)
  (popS 4)))
  (frzS 3 (frzS 4 (retS (callE dTuple (consA (bin dAdd (vi 3) (revE (slE (vi 4) (partN) (partI (un dNeg (cc (.int 1))))))) (nilA)))))))))
def d_basic_rings : List D → R D := den 5 (seqS (setS 1 (callU (ar 1 d_forest) [] (consA (vi 0) (nilA))))
  (seqS (setF 2 (lstF (nilA)))
  (seqS (forS (items (un (dFld fl_lines) (vi 0))) (gT 2 (gsCons (gN 3) (gsCons (gN 4) (gsNil))))
  (ifS (andB (tb (bin dNe (bin dIdx (vi 1) (vi 3)) (vi 4))) (tb (bin dNe (bin dIdx (vi 1) (vi 4)) (vi 3))))
  (appS 2 (fun st => ((bin dAdd (callU (ar 3 d_tree_walk) [] (consA (vi 1) (consA (vi 3) (consA (vi 4) (nilA))))) (tupE (consA (vi 3) (nilA)))) st).bind fun d => .ok (.im d)))
  (nilS)))
  (frzS 2 (retS (callE dTuple (consA (vi 2) (nilA))))))))
def d__law_row : List D → R D := den 3 (retS (andE (un (dIs subC [.b .tuple]) (vi 0)) (andE (bin dEq (callE dLen (consA (vi 0) (nilA))) (vi 1)) (bin dEq (callE dLen (consA (compE (items (vi 0)) [2] (gN 2) (notB (tb (callU (ar 1 d__law_whole) [] (consA (vi 2) (nilA))))) (vi 2)) (nilA))) (cc (.int 0))))))
def d_check_walk : List D → R D := den 4 (seqS (ifS (tb (bin dEq (callE dLen (consA (vi 1) (nilA))) (cc (.int 0))))
  (neverS)
  (nilS))
  (forS (enumI (consA (vi 1) (nilA))) (gT 2 (gsCons (gN 2) (gsCons (gN 3) (gsNil))))
  (seqS (ifS (notB (tb (chain dLe dLt (cc (.int 0)) (vi 3) (un (dFld fl_size) (vi 0)))))
  (neverS)
  (nilS))
  (ifS (andB (tb (bin dGt (vi 2) (cc (.int 0)))) (tb (bin dNotIn (vi 3) (bin dIdx (un (dFld fl_around) (vi 0)) (bin dIdx (vi 1) (bin dSub (vi 2) (cc (.int 1))))))))
  (neverS)
  (nilS)))))
def d_state_lead : List D → R D := den 2 (seqS (ifS (andB (tb (bin dEq (vi 0) (cc (.int 0)))) (tb (bin dEq (vi 1) (cc (.int 1)))))
  (retS (cc (.int 1)))
  (nilS))
  (seqS (ifS (andB (tb (bin dEq (vi 0) (cc (.int 1)))) (tb (bin dEq (vi 1) (cc (.int 0)))))
  (retS (un dNeg (cc (.int 1))))
  (nilS))
  (retS (cc (.int 0)))))
def d_lead_sum : List D → R D := den 6 (seqS (dropS (callU (ar 2 d_check_walk) [] (consA (un (dFld fl_web) (vi 0)) (consA (vi 1) (nilA)))))
  (seqS (setS 3 (compE (items (vi 1)) [2] (gN 2) (yesT) (bin dIdx (un (dFld fl_picture) (vi 0)) (vi 2))))
  (retS (callE dSum (consA (compE (zipI (consA (vi 3) (consA (slE (vi 3) (partI (cc (.int 1))) (partN)) (nilA)))) [4, 5] (gT 2 (gsCons (gN 4) (gsCons (gN 5) (gsNil)))) (yesT) (callU (ar 2 d_state_lead) [] (consA (vi 4) (consA (vi 5) (nilA))))) (nilA))))))
def d_ring_sums : List D → R D := den 2 (retS (callE dTuple (consA (compE (items (callU (ar 1 d_basic_rings) [] (consA (un (dFld fl_web) (vi 0)) (nilA)))) [1] (gN 1) (yesT) (callU (ar 2 d_lead_sum) [] (consA (vi 0) (consA (vi 1) (nilA))))) (nilA))))
def d_Scene___init__ : List D → R (List D) := denI 5 39 (seqS (setS 3 (callU (ar 1 (d_frozen 6)) [] (consA (vi 2) (nilA))))
  (seqS (forS (callI rng1 (consA (callE dMax2 (consA (un (dFld fl_size) (vi 1)) (consA (callE dLen (consA (vi 3) (nilA))) (nilA)))) (nilA))) (gN 4)
  (ifS (orB (tb (bin dGe (vi 4) (un (dFld fl_size) (vi 1)))) (orB (tb (bin dGe (vi 4) (callE dLen (consA (vi 3) (nilA))))) (tb (bin dNotIn (bin dIdx (vi 3) (vi 4)) (tupE (consA (cc (.int 0)) (consA (cc (.int 1)) (consA (cc (.int 2)) (nilA)))))))))
  (neverS)
  (nilS)))
  (seqS (slfS 0 39 0 (vi 1))
  (slfS 0 39 1 (vi 3)))))
def d__law_lead : List D → R D := den 2 (retS (bin dSub (callE dToInt (consA (andE (bin dEq (vi 0) (cc (.int 0))) (bin dEq (vi 1) (cc (.int 1)))) (nilA))) (callE dToInt (consA (andE (bin dEq (vi 0) (cc (.int 1))) (bin dEq (vi 1) (cc (.int 0)))) (nilA)))))
def d__law_lead_rows : List D → R D := den 3 (retS (compE (items (vi 0)) [1] (gN 1) (yesT) (compE (items (vi 0)) [2] (gN 2) (yesT) (callU (ar 2 d__law_lead) [] (consA (vi 1) (consA (vi 2) (nilA)))))))
def d__law_sum : List D → R D := den 3 (retS (callE dSum (consA (compE (callI rng1 (consA (bin dSub (callE dLen (consA (vi 1) (nilA))) (cc (.int 1))) (nilA))) [2] (gN 2) (yesT) (bin dIdx (bin dIdx (vi 0) (bin dIdx (vi 1) (vi 2))) (bin dIdx (vi 1) (bin dAdd (vi 2) (cc (.int 1)))))) (nilA))))
def d_law : List D → R D := den 17 (seqS (setS 1 (callU (ar 3 d__law_scene) [] (consA (vi 0) (consA (cc (.int 0)) (consA (cc (.int 7)) (nilA))))))
  (seqS (setS 2 (callU (ar 2 d__law_digits) [] (consA (callU (ar 2 d__law_cell) [] (consA (vi 0) (consA (cc (.int 2)) (nilA)))) (consA (lstE (consA (cc (.int 12)) (consA (cc (.int 2)) (nilA)))) (nilA)))))
  (seqS (ifS (tb (bin dEq (bin dIdx (vi 2) (cc (.int 1))) (cc (.int 1))))
  (setS 1 (callU (ar 2 d__law_any_scene) [] (consA (vi 0) (consA (cc (.int 0)) (nilA)))))
  (nilS))
  (seqS (setS 3 (bin dIdx (vi 1) (cc (.int 0))))
  (seqS (setS 4 (callE (fun ds => dL (dListF ds)) (consA (bin dIdx (vi 1) (cc (.int 1))) (nilA))))
  (seqS (setS 5 (callE (fun ds => dL (dListF ds)) (consA (bin dIdx (vi 1) (cc (.int 2))) (nilA))))
  (seqS (ifS (tb (bin dEq (bin dIdx (vi 2) (cc (.int 0))) (cc (.int 0))))
  (seqS (setS 6 (callU (ar 3 d__law_scene) [] (consA (vi 0) (consA (cc (.int 3)) (consA (cc (.int 5)) (nilA))))))
  (seqS (setS 4 (bin dAdd (vi 4) (compE (items (bin dIdx (vi 6) (cc (.int 1)))) [7] (gN 7) (yesT) (tupE (consA (bin dAdd (bin dIdx (vi 7) (cc (.int 0))) (vi 3)) (consA (bin dAdd (bin dIdx (vi 7) (cc (.int 1))) (vi 3)) (nilA)))))))
  (seqS (setS 3 (bin dAdd (vi 3) (bin dIdx (vi 6) (cc (.int 0)))))
  (setS 5 (bin dAdd (vi 5) (callE (fun ds => dL (dListF ds)) (consA (bin dIdx (vi 6) (cc (.int 2))) (nilA))))))))
  (nilS))
  (seqS (setS 8 (makeU 46 (arI 2 d_Web___init__) [] (consA (vi 3) (consA (vi 4) (nilA)))))
  (seqS (setS 9 (callU (ar 2 d__law_near) [] (consA (vi 3) (consA (vi 4) (nilA)))))
  (seqS (setS 10 (callU (ar 1 d__law_forest) [] (consA (vi 9) (nilA))))
  (seqS (ifS (orB (notB (tb (callU (ar 2 d__law_forest_asked) [] (consA (vi 8) (consA (vi 10) (nilA)))))) (notB (tb (callU (ar 2 d__law_forest_asked) [] (consA (makeU 46 (arI 2 d_Web___init__) [.tup []] (consA (cc (.int 0)) (nilA))) (consA (lstE (nilA)) (nilA)))))))
  (retS (cc (.bl false)))
  (nilS))
  (seqS (setF 11 (lstF (nilA)))
  (seqS (forS (items (vi 4)) (gN 7)
  (ifS (andB (tb (bin dNe (bin dIdx (vi 10) (bin dIdx (vi 7) (cc (.int 0)))) (bin dIdx (vi 7) (cc (.int 1))))) (tb (bin dNe (bin dIdx (vi 10) (bin dIdx (vi 7) (cc (.int 1)))) (bin dIdx (vi 7) (cc (.int 0))))))
  (appS 11 (fun st => ((callU (ar 3 d__law_basic) [] (consA (vi 10) (consA (bin dIdx (vi 7) (cc (.int 0))) (consA (bin dIdx (vi 7) (cc (.int 1))) (nilA))))) st).bind fun d => .ok (.im d)))
  (nilS)))
  (seqS (setS 12 (callU (ar 1 d_basic_rings) [] (consA (vi 8) (nilA))))
  (seqS (frzS 11 (ifS (orB (notB (tb (un (dIs subC [.b .tuple]) (vi 12)))) (tb (bin dNe (callE dLen (consA (vi 12) (nilA))) (callE dLen (consA (vi 11) (nilA))))))
  (retS (cc (.bl false)))
  (nilS)))
  (seqS (forS (callI rng1 (consA (callE dLen (consA (vi 11) (nilA))) (nilA))) (gN 13)
  (ifS (orB (notB (tb (callU (ar 2 d__law_row) [] (consA (bin dIdx (vi 12) (vi 13)) (consA (callE dLen (consA (bin dIdx (vi 11) (vi 13)) (nilA))) (nilA)))))) (tb (bin dNe (bin dIdx (vi 12) (vi 13)) (bin dIdx (vi 11) (vi 13)))))
  (retS (cc (.bl false)))
  (nilS)))
  (seqS (setS 14 (callU (ar 1 d_ring_sums) [] (consA (makeU 39 (arI 2 d_Scene___init__) [] (consA (vi 8) (consA (vi 5) (nilA)))) (nilA))))
  (seqS (setS 15 (callU (ar 1 d__law_lead_rows) [] (consA (vi 5) (nilA))))
  (seqS (ifS (orB (notB (tb (callU (ar 2 d__law_row) [] (consA (vi 14) (consA (callE dLen (consA (vi 11) (nilA))) (nilA)))))) (tb (bin dNe (callE (fun ds => dL (dListF ds)) (consA (vi 14) (nilA))) (compE (items (vi 11)) [16] (gN 16) (yesT) (callU (ar 2 d__law_sum) [] (consA (vi 15) (consA (vi 16) (nilA))))))))
  (retS (cc (.bl false)))
  (nilS))
  (seqS (ifS (orB (tb (bin dNe (callU (ar 1 d_basic_rings) [] (consA (makeU 46 (arI 2 d_Web___init__) [.tup []] (consA (cc (.int 0)) (nilA))) (nilA))) (tupE (nilA)))) (orB (tb (bin dNe (callU (ar 1 d_ring_sums) [] (consA (makeU 39 (arI 2 d_Scene___init__) [] (consA (makeU 46 (arI 2 d_Web___init__) [.tup []] (consA (cc (.int 0)) (nilA))) (consA (lstE (nilA)) (nilA)))) (nilA))) (tupE (nilA)))) (tb (bin dNe (callU (ar 1 d_basic_rings) [] (consA (makeU 46 (arI 2 d_Web___init__) [.tup []] (consA (vi 3) (nilA))) (nilA))) (tupE (nilA))))))
  (retS (cc (.bl false)))
  (nilS))
  (retS (andE (bin dEq (callU (ar 1 d_basic_rings) [] (consA (vi 8) (nilA))) (vi 12)) (callU (ar 2 d__law_forest_asked) [] (consA (vi 8) (consA (vi 10) (nilA))))))))))))))))))))))))))
end FR
end
section
set_option Elab.async false
set_option linter.all false
set_option maxRecDepth 100000
namespace FR
open PySem L2 DI
/-- lines of a web of n places: each a < b < n, in rising order -/
def ltP (p q : Int × Int) : Prop := p.1 < q.1 ∨ (p.1 = q.1 ∧ p.2 < q.2)
structure Lines (n : Int) (ls : List (Int × Int)) : Prop where
  ok : ∀ p ∈ ls, 0 ≤ p.1 ∧ p.1 < p.2 ∧ p.2 < n
  up : ls.Pairwise ltP
/-- the neighbours, as they come along the lines -/
def nb1 (rows : List (List Int)) (p : Int × Int) : List (List Int) := apR (apR rows p.1 p.2) p.2 p.1
def nbr (n : Int) (ls : List (Int × Int)) : List (List Int) := ls.foldl nb1 (List.replicate n.toNat [])
def arnd (n : Int) (ls : List (Int × Int)) : List (List Int) := (nbr n ls).map srtI
theorem nbr_snoc {n : Int} {ls : List (Int × Int)} {p : Int × Int} : nbr n (ls ++ [p]) = nb1 (nbr n ls) p := by unfold nbr; rw [List.foldl_append]; rfl
theorem nb1_len {rows : List (List Int)} {p : Int × Int} : (nb1 rows p).length = rows.length := by unfold nb1; rw [apR_len, apR_len]
theorem nbr_len {n : Int} {ls : List (Int × Int)} : (nbr n ls).length = n.toNat := by
  unfold nbr
  have : ∀ (ls : List (Int × Int)) (rows : List (List Int)), (ls.foldl nb1 rows).length = rows.length := by
    intro ls
    induction ls with
    | nil => intro rows; rfl
    | cons p ls ih => intro rows; rw [List.foldl_cons, ih, nb1_len]
  rw [this, List.length_replicate]
theorem apR_bound {rows : List (List Int)} {j y : Int} {b : Nat} (h : ∀ r ∈ rows, r.length ≤ b) : ∀ r ∈ apR rows j y, r.length ≤ b + 1 := fun r hr => by
  unfold apR at hr
  rcases List.mem_or_eq_of_mem_set hr with m | e
  · have := h r m; omega
  · rw [e, List.length_append, List.length_singleton, List.getD_eq_getElem?_getD]
    cases q : rows[j.toNat]? with
    | none => simp
    | some x =>
      have := h x (List.mem_of_getElem? q)
      simp
      omega
theorem nbr_bound {n : Int} (ls : List (Int × Int)) : ∀ r ∈ nbr n ls, r.length ≤ 2 * ls.length := by
  have gen : ∀ (ls : List (Int × Int)) (rows : List (List Int)) (b : Nat), (∀ r ∈ rows, r.length ≤ b) → ∀ r ∈ ls.foldl nb1 rows, r.length ≤ b + 2 * ls.length := by
    intro ls
    induction ls with
    | nil => intro rows b h r hr; exact h r hr
    | cons p ls ih =>
      intro rows b h r hr
      have := ih (nb1 rows p) (b + 2) (fun r hr => by unfold nb1 at hr; exact apR_bound (apR_bound h) r hr) r hr
      simp only [List.length_cons]
      omega
  intro r hr
  have := gen ls _ 0 (fun r hr => by rw [List.eq_of_mem_replicate hr]; exact Nat.le_refl 0) r hr
  omega
/-- rows of neighbours: as lists of a list, as tuples of a tuple -/
def rowsL (rows : List (List Int)) : D := .lst (rows.map fun r => .lst (r.map .int))
def rowsT (rows : List (List Int)) : D := .tup (rows.map fun r => .tup (r.map .int))
theorem compTL_rep {n : Nat} {st : LS} : compTL (gN 2) yesT (lstF nilA) st (rangeD 0 n) = .ok (List.replicate n (tE D.int [])) := by
  generalize hC : compTL _ _ _ _ _ = o
  have := compT hC (fun _ => tE D.int []) fun x _ => ⟨_, rfl, rfl, by rw [tE_nil.symm]; simp -implicitDefEqProofs (disch := first | omega | (simp -implicitDefEqProofs; done) | (simp -implicitDefEqProofs; omega)) [-List.map_map, BT.sub, ev_denI, ev_stI, ev_slfS, ev_slfE, ev_st0n, ev_mod, ev_div, ev_mul, ev_pow, ev_line, ev_rng1, ev_rng2, ev_ar, ev_arI, rangeD_length]⟩
  rw [this]
  congr 1
  rw [List.map_const', List.length_range]
theorem tN_rep {n : Nat} : T.lst (List.replicate n (tE D.int [])) = tN (List.replicate n []) := by unfold tN; rw [List.map_replicate]
theorem rows_ok (n : Int) (ls : List (Int × Int)) (hn : 0 ≤ n) (hn2 : n ≤ 1000) (hl : Lines n ls) (hlen : ls.length ≤ 10000) : d_neighbour_rows [.int n, .tup (ls.map dP)] = .ok (rowsT (arnd n ls)) := by
  unfold d_neighbour_rows
  have h1 : n.toNat ≤ 16777216 := by omega
  simp -implicitDefEqProofs (disch := first | omega | (simp -implicitDefEqProofs; done) | (simp -implicitDefEqProofs; omega)) [-List.map_map, BT.sub, ev_denI, ev_stI, ev_slfS, ev_slfE, ev_st0n, ev_mod, ev_div, ev_mul, ev_pow, ev_line, ev_rng1, ev_rng2, ev_ar, ev_arI, rangeD_length, rangeD_length, h1, compTL_rep, tN_rep]
  generalize hL : forL _ _ _ _ = o
  obtain ⟨s', rfl, j, j2, rfl⟩ := loop hL (fun pr s => ∃ j j2, s = [some (.im (.int n)), some (.im (.tup (ls.map dP))), none, some (tN (nbr n pr)), j, j2, none]) ⟨_, _, rfl⟩ (by
    rintro pr p po s q ⟨j, j2, rfl⟩
    obtain ⟨a1, a2, a3⟩ := hl.ok p (by rw [q]; simp)
    have hb := nbr_bound (n := n) pr
    have hlq : pr.length ≤ ls.length := by rw [q]; simp
    simp -implicitDefEqProofs (disch := first | omega | (simp -implicitDefEqProofs; done) | (simp -implicitDefEqProofs; omega)) [-List.map_map, BT.sub, ev_denI, ev_stI, ev_slfS, ev_slfE, ev_st0n, ev_mod, ev_div, ev_mul, ev_pow, ev_line, ev_rng1, ev_rng2, ev_ar, ev_arI, rangeD_length, dP]
    rw [ev_appP rfl (j := p.1) (y := p.2) (by simp -implicitDefEqProofs (disch := first | omega | (simp -implicitDefEqProofs; done) | (simp -implicitDefEqProofs; omega)) [-List.map_map, BT.sub, ev_denI, ev_stI, ev_slfS, ev_slfE, ev_st0n, ev_mod, ev_div, ev_mul, ev_pow, ev_line, ev_rng1, ev_rng2, ev_ar, ev_arI, rangeD_length]) (by simp -implicitDefEqProofs (disch := first | omega | (simp -implicitDefEqProofs; done) | (simp -implicitDefEqProofs; omega)) [-List.map_map, BT.sub, ev_denI, ev_stI, ev_slfS, ev_slfE, ev_st0n, ev_mod, ev_div, ev_mul, ev_pow, ev_line, ev_rng1, ev_rng2, ev_ar, ev_arI, rangeD_length]) a1 (by rw [nbr_len]; omega) (fun r hr => by have := hb r hr; omega)]
    simp -implicitDefEqProofs (disch := first | omega | (simp -implicitDefEqProofs; done) | (simp -implicitDefEqProofs; omega)) [-List.map_map, BT.sub, ev_denI, ev_stI, ev_slfS, ev_slfE, ev_st0n, ev_mod, ev_div, ev_mul, ev_pow, ev_line, ev_rng1, ev_rng2, ev_ar, ev_arI, rangeD_length]
    rw [ev_appP rfl (j := p.2) (y := p.1) (by simp -implicitDefEqProofs (disch := first | omega | (simp -implicitDefEqProofs; done) | (simp -implicitDefEqProofs; omega)) [-List.map_map, BT.sub, ev_denI, ev_stI, ev_slfS, ev_slfE, ev_st0n, ev_mod, ev_div, ev_mul, ev_pow, ev_line, ev_rng1, ev_rng2, ev_ar, ev_arI, rangeD_length]) (by simp -implicitDefEqProofs (disch := first | omega | (simp -implicitDefEqProofs; done) | (simp -implicitDefEqProofs; omega)) [-List.map_map, BT.sub, ev_denI, ev_stI, ev_slfS, ev_slfE, ev_st0n, ev_mod, ev_div, ev_mul, ev_pow, ev_line, ev_rng1, ev_rng2, ev_ar, ev_arI, rangeD_length]) (by omega) (by rw [apR_len, nbr_len]; omega) (fun r hr => by have := apR_bound hb r hr; omega)]
    simp -implicitDefEqProofs (disch := first | omega | (simp -implicitDefEqProofs; done) | (simp -implicitDefEqProofs; omega)) [-List.map_map, BT.sub, ev_denI, ev_stI, ev_slfS, ev_slfE, ev_st0n, ev_mod, ev_div, ev_mul, ev_pow, ev_line, ev_rng1, ev_rng2, ev_ar, ev_arI, rangeD_length]
    rw [nbr_snoc]
    rfl)
  simp -implicitDefEqProofs (disch := first | omega | (simp -implicitDefEqProofs; done) | (simp -implicitDefEqProofs; omega)) [-List.map_map, BT.sub, ev_denI, ev_stI, ev_slfS, ev_slfE, ev_st0n, ev_mod, ev_div, ev_mul, ev_pow, ev_line, ev_rng1, ev_rng2, ev_ar, ev_arI, rangeD_length, nbr_len, h1]
  generalize hC : compL _ _ _ _ _ = oc
  have q := comp hC (fun r : List Int => D.tup (r.map .int)) srtI fun r _ => ⟨_, rfl, rfl, by simp -implicitDefEqProofs (disch := first | omega | (simp -implicitDefEqProofs; done) | (simp -implicitDefEqProofs; omega)) [-List.map_map, BT.sub, ev_denI, ev_stI, ev_slfS, ev_slfE, ev_st0n, ev_mod, ev_div, ev_mul, ev_pow, ev_line, ev_rng1, ev_rng2, ev_ar, ev_arI, rangeD_length, ev_sort]⟩
  rw [q]
  rfl
/-! frozen -/
theorem frozen_int (k : Nat) (i : Int) : d_frozen (k + 1) [.int i] = .ok (.int i) := by
  unfold d_frozen
  simp -implicitDefEqProofs (disch := first | omega | (simp -implicitDefEqProofs; done) | (simp -implicitDefEqProofs; omega)) [-List.map_map, BT.sub, ev_denI, ev_stI, ev_slfS, ev_slfE, ev_st0n, ev_mod, ev_div, ev_mul, ev_pow, ev_line, ev_rng1, ev_rng2, ev_ar, ev_arI, rangeD_length, ev_if]
theorem frozen_lst {α : Type} {enc enc2 : α → D} (k : Nat) (xs : List α) (h : ∀ x ∈ xs, d_frozen k [enc x] = .ok (enc2 x)) (hl : xs.length ≤ 10000) : d_frozen (k + 1) [.lst (xs.map enc)] = .ok (.tup (xs.map enc2)) := by
  unfold d_frozen
  have h1 : xs.length ≤ 16777216 := by omega
  simp -implicitDefEqProofs (disch := first | omega | (simp -implicitDefEqProofs; done) | (simp -implicitDefEqProofs; omega)) [-List.map_map, BT.sub, ev_denI, ev_stI, ev_slfS, ev_slfE, ev_st0n, ev_mod, ev_div, ev_mul, ev_pow, ev_line, ev_rng1, ev_rng2, ev_ar, ev_arI, rangeD_length, ev_if, h1]
  generalize hC : compL _ _ _ _ _ = oc
  have q := comp hC enc2 id fun x m => ⟨_, rfl, rfl, by simp -implicitDefEqProofs (disch := first | omega | (simp -implicitDefEqProofs; done) | (simp -implicitDefEqProofs; omega)) [-List.map_map, BT.sub, ev_denI, ev_stI, ev_slfS, ev_slfE, ev_st0n, ev_mod, ev_div, ev_mul, ev_pow, ev_line, ev_rng1, ev_rng2, ev_ar, ev_arI, rangeD_length, h x m]⟩
  rw [q, List.map_id]
  rfl
theorem frozen_tup {α : Type} {enc enc2 : α → D} (k : Nat) (xs : List α) (h : ∀ x ∈ xs, d_frozen k [enc x] = .ok (enc2 x)) (hl : xs.length ≤ 10000) : d_frozen (k + 1) [.tup (xs.map enc)] = .ok (.tup (xs.map enc2)) := by
  unfold d_frozen
  have h1 : xs.length ≤ 16777216 := by omega
  simp -implicitDefEqProofs (disch := first | omega | (simp -implicitDefEqProofs; done) | (simp -implicitDefEqProofs; omega)) [-List.map_map, BT.sub, ev_denI, ev_stI, ev_slfS, ev_slfE, ev_st0n, ev_mod, ev_div, ev_mul, ev_pow, ev_line, ev_rng1, ev_rng2, ev_ar, ev_arI, rangeD_length, ev_if, h1]
  generalize hC : compL _ _ _ _ _ = oc
  have q := comp hC enc2 id fun x m => ⟨_, rfl, rfl, by simp -implicitDefEqProofs (disch := first | omega | (simp -implicitDefEqProofs; done) | (simp -implicitDefEqProofs; omega)) [-List.map_map, BT.sub, ev_denI, ev_stI, ev_slfS, ev_slfE, ev_st0n, ev_mod, ev_div, ev_mul, ev_pow, ev_line, ev_rng1, ev_rng2, ev_ar, ev_arI, rangeD_length, h x m]⟩
  rw [q, List.map_id]
  rfl
theorem frozen_dP (k : Nat) (p : Int × Int) : d_frozen (k + 2) [dP p] = .ok (dP p) :=
  frozen_tup (enc := D.int) (enc2 := D.int) (k + 1) [p.1, p.2] (fun x _ => frozen_int k x) (by simp)
theorem frozen_ints (k : Nat) (xs : List Int) (hl : xs.length ≤ 10000) : d_frozen (k + 2) [.lst (xs.map .int)] = .ok (.tup (xs.map .int)) := frozen_lst (k + 1) xs (fun x _ => frozen_int k x) hl
theorem frozen_dPs (k : Nat) (ls : List (Int × Int)) (hl : ls.length ≤ 10000) : d_frozen (k + 3) [.lst (ls.map dP)] = .ok (.tup (ls.map dP)) := frozen_lst (k + 2) ls (fun p _ => frozen_dP k p) hl
/-! checked_lines -/
def kP (p : Int × Int) : List Int := [p.1, p.2]
theorem kP_inj {p q : Int × Int} (h : kP p = kP q) : p = q := by
  unfold kP at h
  injection h with h1 h2
  injection h2 with h2
  exact Prod.ext h1 h2
theorem lexle_lt {p q : Int × Int} (h : ltP p q) : lexle (kP p) (kP q) = true := by
  unfold kP lexle lexle lexle
  rcases h with h | ⟨h, g⟩
  · simp [h]
  · simp [h, g]
theorem Lines.keys {n : Int} {ls : List (Int × Int)} (h : Lines n ls) : (ls.map kP).Nodup ∧ (ls.map kP).Pairwise (fun a b => lexle a b = true) ∧ okT (ls.map kP) = true := by
  refine ⟨?_, ?_, ?_⟩
  · unfold List.Nodup
    rw [List.pairwise_map]
    refine h.up.imp fun {p q} hl e => ?_
    have e := kP_inj e
    subst e
    unfold ltP at hl
    omega
  · rw [List.pairwise_map]
    exact h.up.imp fun {p q} hl => lexle_lt hl
  · cases ls with
    | nil => rfl
    | cons p ls =>
      unfold okT
      rw [List.map_cons]
      simp only [Bool.and_eq_true, decide_eq_true_eq, List.all_eq_true]
      refine ⟨by simp [kP], fun k hk => ?_⟩
      rw [← List.map_cons (f := kP)] at hk
      obtain ⟨q, m, rfl⟩ := List.mem_map.mp hk
      have := h.ok q m
      exact ⟨rfl, fun x hx => by
        unfold kP at hx
        rcases List.mem_cons.mp hx with e | hx
        · rw [e]; omega
        · rw [List.mem_singleton.mp hx]; omega⟩
theorem checked_ok (n : Int) (ls : List (Int × Int)) (hl : Lines n ls) (hlen : ls.length < 64) : d_checked_lines [.int n, .tup (ls.map dP)] = .ok (.tup (ls.map dP)) := by
  unfold d_checked_lines
  simp -implicitDefEqProofs (disch := first | omega | (simp -implicitDefEqProofs; done) | (simp -implicitDefEqProofs; omega)) [-List.map_map, BT.sub, ev_denI, ev_stI, ev_slfS, ev_slfE, ev_st0n, ev_mod, ev_div, ev_mul, ev_pow, ev_line, ev_rng1, ev_rng2, ev_ar, ev_arI, rangeD_length]
  generalize hL : forL _ _ _ _ = o
  obtain ⟨s', rfl, j2, j3, j4, rfl⟩ := loopE hL (fun pr s => ∃ j2 j3 j4, s = [some (.im (.int n)), some (.im (.tup (ls.map dP))), j2, j3, j4]) ⟨_, _, _, rfl⟩ (by
    rintro pr p po s q ⟨j2, j3, j4, rfl⟩
    obtain ⟨a1, a2, a3⟩ := hl.ok p (by rw [q]; simp)
    have b1 : ¬ p.1 = p.2 := by omega
    have b2 : p.1 < n := by omega
    have b3 : 0 ≤ p.2 := by omega
    simp -implicitDefEqProofs (disch := first | omega | (simp -implicitDefEqProofs; done) | (simp -implicitDefEqProofs; omega)) [-List.map_map, BT.sub, ev_denI, ev_stI, ev_slfS, ev_slfE, ev_st0n, ev_mod, ev_div, ev_mul, ev_pow, ev_line, ev_rng1, ev_rng2, ev_ar, ev_arI, rangeD_length, dP, ev_if, a1, b1, b2, b3, a3])
  obtain ⟨k1, k2, k3⟩ := hl.keys
  have h1 : ls.length ≤ 16777216 := by omega
  simp -implicitDefEqProofs (disch := first | omega | (simp -implicitDefEqProofs; done) | (simp -implicitDefEqProofs; omega)) [-List.map_map, BT.sub, ev_denI, ev_stI, ev_slfS, ev_slfE, ev_st0n, ev_mod, ev_div, ev_mul, ev_pow, ev_line, ev_rng1, ev_rng2, ev_ar, ev_arI, rangeD_length]
  generalize hS : setE _ _ _ _ _ _ = oS
  rw [ev_setE (ks := ls.map kP) (by
    simp -implicitDefEqProofs (disch := first | omega | (simp -implicitDefEqProofs; done) | (simp -implicitDefEqProofs; omega)) [-List.map_map, BT.sub, ev_denI, ev_stI, ev_slfS, ev_slfE, ev_st0n, ev_mod, ev_div, ev_mul, ev_pow, ev_line, ev_rng1, ev_rng2, ev_ar, ev_arI, rangeD_length, h1]
    generalize hC : compL _ _ _ _ _ = oc
    rw [comp hC (fun k : List Int => D.tup (k.map .int)) kP fun p m => ⟨_, rfl, rfl, by
      obtain ⟨a1, a2, a3⟩ := hl.ok p m
      have m1 : min p.1 p.2 = p.1 := by omega
      have m2 : max p.1 p.2 = p.2 := by omega
      simp -implicitDefEqProofs (disch := first | omega | (simp -implicitDefEqProofs; done) | (simp -implicitDefEqProofs; omega)) [-List.map_map, BT.sub, ev_denI, ev_stI, ev_slfS, ev_slfE, ev_st0n, ev_mod, ev_div, ev_mul, ev_pow, ev_line, ev_rng1, ev_rng2, ev_ar, ev_arI, rangeD_length, m1, m2]
      rfl⟩]) (by rw [List.length_map]; exact hlen), onceK_nodup k1] at hS
  subst hS
  simp -implicitDefEqProofs (disch := first | omega | (simp -implicitDefEqProofs; done) | (simp -implicitDefEqProofs; omega)) [-List.map_map, BT.sub, ev_denI, ev_stI, ev_slfS, ev_slfE, ev_st0n, ev_mod, ev_div, ev_mul, ev_pow, ev_line, ev_rng1, ev_rng2, ev_ar, ev_arI, rangeD_length, ev_sortU k3, srtT_up' k2]
  rw [List.map_map]
  rfl
end FR
end
section
set_option Elab.async false
set_option linter.all false
set_option maxRecDepth 100000
namespace FR
open PySem L2 DI
theorem near_okG (n : Int) (ls : List (Int × Int)) (hn : 0 ≤ n) (hn2 : n ≤ 1000) (hl : ∀ p ∈ ls, 0 ≤ p.1 ∧ p.1 < n ∧ 0 ≤ p.2 ∧ p.2 < n) (hlen : ls.length ≤ 10000) : d__law_near [.int n, .lst (ls.map dP)] = .ok (rowsL (arnd n ls)) := by
  unfold d__law_near
  have h1 : n.toNat ≤ 16777216 := by omega
  simp -implicitDefEqProofs (disch := first | omega | (simp -implicitDefEqProofs; done) | (simp -implicitDefEqProofs; omega)) [-List.map_map, BT.sub, ev_denI, ev_stI, ev_slfS, ev_slfE, ev_st0n, ev_mod, ev_div, ev_mul, ev_pow, ev_line, ev_rng1, ev_rng2, ev_ar, ev_arI, rangeD_length, rangeD_length, h1, compTL_rep, tN_rep]
  generalize hL : forL _ _ _ _ = o
  obtain ⟨s', rfl, j, rfl⟩ := loop hL (fun pr s => ∃ j, s = [some (.im (.int n)), some (.im (.lst (ls.map dP))), none, some (tN (nbr n pr)), j, none]) ⟨_, rfl⟩ (by
    rintro pr p po s q ⟨j, rfl⟩
    obtain ⟨a1, a2, a3, a4⟩ := hl p (by rw [q]; simp)
    have hb := nbr_bound (n := n) pr
    have hlq : pr.length ≤ ls.length := by rw [q]; simp
    simp -implicitDefEqProofs (disch := first | omega | (simp -implicitDefEqProofs; done) | (simp -implicitDefEqProofs; omega)) [-List.map_map, BT.sub, ev_denI, ev_stI, ev_slfS, ev_slfE, ev_st0n, ev_mod, ev_div, ev_mul, ev_pow, ev_line, ev_rng1, ev_rng2, ev_ar, ev_arI, rangeD_length, dP]
    rw [ev_appP rfl (j := p.1) (y := p.2) (by simp -implicitDefEqProofs (disch := first | omega | (simp -implicitDefEqProofs; done) | (simp -implicitDefEqProofs; omega)) [-List.map_map, BT.sub, ev_denI, ev_stI, ev_slfS, ev_slfE, ev_st0n, ev_mod, ev_div, ev_mul, ev_pow, ev_line, ev_rng1, ev_rng2, ev_ar, ev_arI, rangeD_length, ev_idx]) (by simp -implicitDefEqProofs (disch := first | omega | (simp -implicitDefEqProofs; done) | (simp -implicitDefEqProofs; omega)) [-List.map_map, BT.sub, ev_denI, ev_stI, ev_slfS, ev_slfE, ev_st0n, ev_mod, ev_div, ev_mul, ev_pow, ev_line, ev_rng1, ev_rng2, ev_ar, ev_arI, rangeD_length, ev_idx]) a1 (by rw [nbr_len]; omega) (fun r hr => by have := hb r hr; omega)]
    simp -implicitDefEqProofs (disch := first | omega | (simp -implicitDefEqProofs; done) | (simp -implicitDefEqProofs; omega)) [-List.map_map, BT.sub, ev_denI, ev_stI, ev_slfS, ev_slfE, ev_st0n, ev_mod, ev_div, ev_mul, ev_pow, ev_line, ev_rng1, ev_rng2, ev_ar, ev_arI, rangeD_length]
    rw [ev_appP rfl (j := p.2) (y := p.1) (by simp -implicitDefEqProofs (disch := first | omega | (simp -implicitDefEqProofs; done) | (simp -implicitDefEqProofs; omega)) [-List.map_map, BT.sub, ev_denI, ev_stI, ev_slfS, ev_slfE, ev_st0n, ev_mod, ev_div, ev_mul, ev_pow, ev_line, ev_rng1, ev_rng2, ev_ar, ev_arI, rangeD_length, ev_idx]) (by simp -implicitDefEqProofs (disch := first | omega | (simp -implicitDefEqProofs; done) | (simp -implicitDefEqProofs; omega)) [-List.map_map, BT.sub, ev_denI, ev_stI, ev_slfS, ev_slfE, ev_st0n, ev_mod, ev_div, ev_mul, ev_pow, ev_line, ev_rng1, ev_rng2, ev_ar, ev_arI, rangeD_length, ev_idx]) (by omega) (by rw [apR_len, nbr_len]; omega) (fun r hr => by have := apR_bound hb r hr; omega)]
    simp -implicitDefEqProofs (disch := first | omega | (simp -implicitDefEqProofs; done) | (simp -implicitDefEqProofs; omega)) [-List.map_map, BT.sub, ev_denI, ev_stI, ev_slfS, ev_slfE, ev_st0n, ev_mod, ev_div, ev_mul, ev_pow, ev_line, ev_rng1, ev_rng2, ev_ar, ev_arI, rangeD_length]
    rw [nbr_snoc]
    rfl)
  simp -implicitDefEqProofs (disch := first | omega | (simp -implicitDefEqProofs; done) | (simp -implicitDefEqProofs; omega)) [-List.map_map, BT.sub, ev_denI, ev_stI, ev_slfS, ev_slfE, ev_st0n, ev_mod, ev_div, ev_mul, ev_pow, ev_line, ev_rng1, ev_rng2, ev_ar, ev_arI, rangeD_length, nbr_len, h1]
  generalize hC : compL _ _ _ _ _ = oc
  have q := comp hC (fun r : List Int => D.lst (r.map .int)) srtI fun r _ => ⟨_, rfl, rfl, by simp -implicitDefEqProofs (disch := first | omega | (simp -implicitDefEqProofs; done) | (simp -implicitDefEqProofs; omega)) [-List.map_map, BT.sub, ev_denI, ev_stI, ev_slfS, ev_slfE, ev_st0n, ev_mod, ev_div, ev_mul, ev_pow, ev_line, ev_rng1, ev_rng2, ev_ar, ev_arI, rangeD_length, ev_sort]⟩
  rw [q]
  rfl
theorem near_ok (n : Int) (ls : List (Int × Int)) (hn : 0 ≤ n) (hn2 : n ≤ 1000) (hl : Lines n ls) (hlen : ls.length ≤ 10000) : d__law_near [.int n, .lst (ls.map dP)] = .ok (rowsL (arnd n ls)) :=
  near_okG n ls hn hn2 (fun p m => by have := hl.ok p m; omega) hlen
end FR
end
section
set_option Elab.async false
set_option linter.all false
set_option maxRecDepth 100000
namespace FR
open PySem L2 DI
def Pic (xs : List Int) : Prop := ∀ x ∈ xs, 0 ≤ x ∧ x ≤ 2
def webF (n : Int) (ls : List (Int × Int)) : List D := [.int n, .tup (ls.map dP), rowsT (arnd n ls)]
def webD (n : Int) (ls : List (Int × Int)) : D := .ins 46 (webF n ls)
theorem web_init (n : Int) (ls : List (Int × Int)) (hn : 0 ≤ n) (hn2 : n ≤ 1000) (hl : Lines n ls) (hlen : ls.length < 64) : d_Web___init__ [.int n, .lst (ls.map dP)] = .ok (webF n ls) := by
  unfold d_Web___init__
  have e1 := frozen_dPs 3 ls (by omega)
  have e2 := checked_ok n ls hl hlen
  have e3 := rows_ok n ls hn hn2 hl (by omega)
  simp -implicitDefEqProofs (disch := first | omega | (simp -implicitDefEqProofs; done) | (simp -implicitDefEqProofs; omega)) [-List.map_map, BT.sub, ev_denI, ev_stI, ev_slfS, ev_slfE, ev_st0n, ev_mod, ev_div, ev_mul, ev_pow, ev_line, ev_rng1, ev_rng2, ev_ar, ev_arI, rangeD_length, e1, e2, e3]
  rfl
@[simp] theorem fld_size {a : D} {ds : List D} : dFld fl_size (.ins 46 (a :: ds)) = some a := rfl
@[simp] theorem fld_lines {a b : D} {ds : List D} : dFld fl_lines (.ins 46 (a :: b :: ds)) = some b := rfl
@[simp] theorem fld_around {a b c : D} {ds : List D} : dFld fl_around (.ins 46 (a :: b :: c :: ds)) = some c := rfl
@[simp] theorem sub_web : subC 46 46 = true := by decide
end FR
end
section
set_option Elab.async false
set_option linter.all false
set_option maxRecDepth 100000
namespace FR
open PySem L2 DI
def scnD (w : D) (xs : List Int) : D := .ins 39 [w, .tup (xs.map .int)]
@[simp] theorem fld_web {a : D} {ds : List D} : dFld fl_web (.ins 39 (a :: ds)) = some a := rfl
@[simp] theorem fld_picture {a b : D} {ds : List D} : dFld fl_picture (.ins 39 (a :: b :: ds)) = some b := rfl
@[simp] theorem sub_scene : subC 39 39 = true := by decide
theorem scene_body (n : Int) (ls : List (Int × Int)) (xs : List Int) (q : D) (hq : d_frozen 6 [q] = .ok (.tup (xs.map .int))) (hn : 0 ≤ n) (hn2 : n ≤ 1000) (hx : xs.length = n.toNat) (hp : Pic xs) : d_Scene___init__ [webD n ls, q] = .ok [webD n ls, .tup (xs.map .int)] := by
  unfold d_Scene___init__ webD webF
  simp -implicitDefEqProofs (disch := first | omega | (simp -implicitDefEqProofs; done) | (simp -implicitDefEqProofs; omega)) [-List.map_map, BT.sub, ev_denI, ev_stI, ev_slfS, ev_slfE, ev_st0n, ev_mod, ev_div, ev_mul, ev_pow, ev_line, ev_rng1, ev_rng2, ev_ar, ev_arI, rangeD_length, hq]
  have e : max n xs.length = n := by omega
  simp -implicitDefEqProofs (disch := first | omega | (simp -implicitDefEqProofs; done) | (simp -implicitDefEqProofs; omega)) [-List.map_map, BT.sub, ev_denI, ev_stI, ev_slfS, ev_slfE, ev_st0n, ev_mod, ev_div, ev_mul, ev_pow, ev_line, ev_rng1, ev_rng2, ev_ar, ev_arI, rangeD_length, e]
  generalize hL : forL _ _ _ _ = o
  obtain ⟨s', rfl, j, rfl⟩ := loop hL (fun pr s => ∃ j, s = [some (.ins 39 []), some (.im (.ins 46 [.int n, .tup (ls.map dP), rowsT (arnd n ls)])), some (.im q), some (.im (.tup (xs.map .int))), j]) ⟨_, rfl⟩ (by
    rintro pr i po s hs ⟨j, rfl⟩
    obtain ⟨f1, f2, f3⟩ := range_split hs
    have c1 : ¬ n ≤ (i : Int) := by omega
    have c2 : ¬ (xs.length : Int) ≤ (i : Int) := by omega
    have c3 := hp (nI xs i) (nI_mem (by omega) (by omega))
    have c4 : nI xs (i : Int) ∈ ([0, 1, 2] : List Int) := by
      have : nI xs (i : Int) = 0 ∨ nI xs (i : Int) = 1 ∨ nI xs (i : Int) = 2 := by omega
      simpa using this
    have c5 : dNotIn (.int (nI xs i)) (.tup [.int 0, .int 1, .int 2]) = some (.bl false) := by
      have := ev_notInT (x := nI xs i) (xs := [0, 1, 2])
      rw [decide_eq_true c4] at this
      exact this
    simp -implicitDefEqProofs (disch := first | omega | (simp -implicitDefEqProofs; done) | (simp -implicitDefEqProofs; omega)) [-List.map_map, BT.sub, ev_denI, ev_stI, ev_slfS, ev_slfE, ev_st0n, ev_mod, ev_div, ev_mul, ev_pow, ev_line, ev_rng1, ev_rng2, ev_ar, ev_arI, rangeD_length, ev_if, c1, c2, ev_idxIT, c5])
  simp -implicitDefEqProofs (disch := first | omega | (simp -implicitDefEqProofs; done) | (simp -implicitDefEqProofs; omega)) [-List.map_map, BT.sub, ev_denI, ev_stI, ev_slfS, ev_slfE, ev_st0n, ev_mod, ev_div, ev_mul, ev_pow, ev_line, ev_rng1, ev_rng2, ev_ar, ev_arI, rangeD_length]
theorem scene_initL (n : Int) (ls : List (Int × Int)) (xs : List Int) (hn : 0 ≤ n) (hn2 : n ≤ 1000) (hx : xs.length = n.toNat) (hp : Pic xs) : d_Scene___init__ [webD n ls, .lst (xs.map .int)] = .ok [webD n ls, .tup (xs.map .int)] :=
  scene_body n ls xs _ (frozen_ints 4 xs (by omega)) hn hn2 hx hp
end FR
end
section
set_option Elab.async false
set_option linter.all false
set_option maxRecDepth 100000
namespace FR
open PySem L2 DI
theorem whole_ok (i : Int) : d__law_whole [.int i] = .ok (.bl true) := by
  unfold d__law_whole
  simp -implicitDefEqProofs (disch := first | omega | (simp -implicitDefEqProofs; done) | (simp -implicitDefEqProofs; omega)) [-List.map_map, BT.sub, ev_denI, ev_stI, ev_slfS, ev_slfE, ev_st0n, ev_mod, ev_div, ev_mul, ev_pow, ev_line, ev_rng1, ev_rng2, ev_ar, ev_arI, rangeD_length]
/-! one beat -/
theorem apR_mem {rows : List (List Int)} {j y : Int} {Q : Int → Prop} (h : ∀ r ∈ rows, ∀ x ∈ r, Q x) (hy : Q y) : ∀ r ∈ apR rows j y, ∀ x ∈ r, Q x := fun r hr x hx => by
  unfold apR at hr
  rcases List.mem_or_eq_of_mem_set hr with m | e
  · exact h r m x hx
  · rw [e] at hx
    rcases List.mem_append.mp hx with m | m
    · rw [List.getD_eq_getElem?_getD] at m
      cases q : rows[j.toNat]? with
      | none => rw [q] at m; cases m
      | some z => rw [q] at m; exact h z (List.mem_of_getElem? q) x m
    · rw [List.mem_singleton.mp m]; exact hy
theorem nbr_mem {n : Int} {ls : List (Int × Int)} (hl : Lines n ls) : ∀ r ∈ nbr n ls, ∀ x ∈ r, 0 ≤ x ∧ x < n := by
  have gen : ∀ (ls : List (Int × Int)) (rows : List (List Int)), (∀ p ∈ ls, 0 ≤ p.1 ∧ p.1 < p.2 ∧ p.2 < n) → (∀ r ∈ rows, ∀ x ∈ r, 0 ≤ x ∧ x < n) → ∀ r ∈ ls.foldl nb1 rows, ∀ x ∈ r, 0 ≤ x ∧ x < n := by
    intro ls
    induction ls with
    | nil => intro rows _ h; exact h
    | cons p ls ih =>
      intro rows hp h
      have := hp p List.mem_cons_self
      exact ih (nb1 rows p) (fun q m => hp q (List.mem_cons_of_mem _ m)) (apR_mem (apR_mem h (by omega)) (by omega))
  exact gen ls _ hl.ok fun r hr x hx => by rw [List.eq_of_mem_replicate hr] at hx; cases hx
theorem arnd_mem {n : Int} {ls : List (Int × Int)} (hl : Lines n ls) : ∀ r ∈ arnd n ls, ∀ x ∈ r, 0 ≤ x ∧ x < n := fun r hr x hx => by
  obtain ⟨q, m, rfl⟩ := List.mem_map.mp hr
  exact nbr_mem hl q m x ((srtI_perm q).mem_iff.mp hx)
theorem arnd_len {n : Int} {ls : List (Int × Int)} : (arnd n ls).length = n.toNat := by unfold arnd; rw [List.length_map, nbr_len]
/-- the neighbours of a place -/
def rowAt (n : Int) (ls : List (Int × Int)) (i : Int) : List Int := (arnd n ls).getD i.toNat []
theorem rowAt_get {n : Int} {ls : List (Int × Int)} {i : Int} (h : 0 ≤ i) (h2 : i < n) : (arnd n ls)[i.toNat]? = some (rowAt n ls i) := by
  have hl : i.toNat < (arnd n ls).length := by rw [arnd_len]; omega
  unfold rowAt
  rw [List.getD_eq_getElem?_getD, List.getElem?_eq_getElem hl]
  rfl
theorem rowAt_mem {n : Int} {ls : List (Int × Int)} (hl : Lines n ls) {i : Int} (h : 0 ≤ i) (h2 : i < n) : ∀ x ∈ rowAt n ls i, 0 ≤ x ∧ x < n :=
  arnd_mem hl _ (List.mem_of_getElem? (rowAt_get h h2))
theorem rowAt_bound {n : Int} {ls : List (Int × Int)} {i : Int} : (rowAt n ls i).length ≤ 2 * ls.length := by
  unfold rowAt
  rw [List.getD_eq_getElem?_getD]
  cases q : (arnd n ls)[i.toNat]? with
  | none => simp
  | some r =>
    obtain ⟨z, m, rfl⟩ := List.mem_map.mp (List.mem_of_getElem? q)
    show (srtI z).length ≤ _
    rw [(srtI_perm z).length_eq]
    exact nbr_bound ls z m
end FR
end
section
set_option Elab.async false
set_option linter.all false
set_option maxRecDepth 100000
namespace FR
open PySem L2 DI
/-! who is a neighbour of whom -/
theorem apR_at {rows : List (List Int)} {j y : Int} {i : Nat} (hj : 0 ≤ j) (hl : j.toNat < rows.length) : (apR rows j y).getD i [] = if i = j.toNat then rows.getD i [] ++ [y] else rows.getD i [] := by
  unfold apR
  rw [List.getD_eq_getElem?_getD, List.getD_eq_getElem?_getD]
  by_cases e : i = j.toNat
  · subst e
    rw [if_pos rfl, List.getElem?_set_self hl, List.getD_eq_getElem?_getD]
    rfl
  · rw [if_neg e, List.getElem?_set_ne (Ne.symm e), List.getD_eq_getElem?_getD]
theorem nbr_iff {n : Int} {ls : List (Int × Int)} (hl : ∀ p ∈ ls, 0 ≤ p.1 ∧ p.1 < n ∧ 0 ≤ p.2 ∧ p.2 < n) (i x : Int) (h0 : 0 ≤ i) (h1 : i < n) : x ∈ (nbr n ls).getD i.toNat [] ↔ (i, x) ∈ ls ∨ (x, i) ∈ ls := by
  have gen : ∀ (ls : List (Int × Int)) (rows : List (List Int)), rows.length = n.toNat → (∀ p ∈ ls, 0 ≤ p.1 ∧ p.1 < n ∧ 0 ≤ p.2 ∧ p.2 < n) → (x ∈ (ls.foldl nb1 rows).getD i.toNat [] ↔ x ∈ rows.getD i.toNat [] ∨ (i, x) ∈ ls ∨ (x, i) ∈ ls) := by
    intro ls
    induction ls with
    | nil => intro rows _ _; simp
    | cons p ls ih =>
      intro rows hr hp
      obtain ⟨a1, a2, a3, a4⟩ := hp p List.mem_cons_self
      rw [List.foldl_cons, ih (nb1 rows p) (by rw [nb1_len]; exact hr) fun q m => hp q (List.mem_cons_of_mem _ m)]
      unfold nb1
      rw [apR_at a3 (by rw [apR_len]; omega), apR_at a1 (by omega)]
      obtain ⟨a, b⟩ := p
      simp only at a1 a2 a3 a4 ⊢
      rw [List.mem_cons, List.mem_cons, Prod.mk.injEq, Prod.mk.injEq]
      by_cases c1 : i.toNat = b.toNat <;> by_cases c2 : i.toNat = a.toNat
      · have e1 : i = b := by omega
        have e2 : i = a := by omega
        rw [if_pos c1, if_pos c2]
        simp only [List.mem_append, List.mem_singleton]
        subst e1; subst e2
        constructor
        · rintro (((h | h) | h) | h | h)
          · exact .inl h
          · exact .inr (.inl (.inl ⟨rfl, h⟩))
          · exact .inr (.inl (.inl ⟨rfl, h⟩))
          · exact .inr (.inl (.inr h))
          · exact .inr (.inr (.inr h))
        · rintro (h | (⟨_, h⟩ | h) | ⟨h, _⟩ | h)
          · exact .inl (.inl (.inl h))
          · exact .inl (.inl (.inr h))
          · exact .inr (.inl h)
          · exact .inl (.inr h)
          · exact .inr (.inr h)
      · have e1 : i = b := by omega
        have e2 : i ≠ a := by omega
        rw [if_pos c1, if_neg c2]
        simp only [List.mem_append, List.mem_singleton]
        constructor
        · rintro ((h | h) | h | h)
          · exact .inl h
          · exact .inr (.inr (.inl ⟨h, e1⟩))
          · exact .inr (.inl (.inr h))
          · exact .inr (.inr (.inr h))
        · rintro (h | (⟨h, _⟩ | h) | ⟨h, _⟩ | h)
          · exact .inl (.inl h)
          · exact absurd h e2
          · exact .inr (.inl h)
          · exact .inl (.inr h)
          · exact .inr (.inr h)
      · have e1 : i ≠ b := by omega
        have e2 : i = a := by omega
        rw [if_neg c1, if_pos c2]
        simp only [List.mem_append, List.mem_singleton]
        constructor
        · rintro ((h | h) | h | h)
          · exact .inl h
          · exact .inr (.inl (.inl ⟨e2, h⟩))
          · exact .inr (.inl (.inr h))
          · exact .inr (.inr (.inr h))
        · rintro (h | (⟨_, h⟩ | h) | ⟨_, h⟩ | h)
          · exact .inl (.inl h)
          · exact .inl (.inr h)
          · exact .inr (.inl h)
          · exact absurd h e1
          · exact .inr (.inr h)
      · have e1 : i ≠ b := by omega
        have e2 : i ≠ a := by omega
        rw [if_neg c1, if_neg c2]
        constructor
        · rintro (h | h | h)
          · exact .inl h
          · exact .inr (.inl (.inr h))
          · exact .inr (.inr (.inr h))
        · rintro (h | (⟨h, _⟩ | h) | ⟨_, h⟩ | h)
          · exact .inl h
          · exact absurd h e2
          · exact .inr (.inl h)
          · exact absurd h e1
          · exact .inr (.inr h)
  have := gen ls (List.replicate n.toNat []) (by simp) hl
  unfold nbr
  rw [this]
  have e : (List.replicate n.toNat ([] : List Int)).getD i.toNat [] = [] := by
    rw [List.getD_eq_getElem?_getD, List.getElem?_replicate]
    split <;> rfl
  rw [e]
  simp
theorem rowAt_iff {n : Int} {ls : List (Int × Int)} (hl : Lines n ls) {i x : Int} (h0 : 0 ≤ i) (h1 : i < n) : x ∈ rowAt n ls i ↔ (i, x) ∈ ls ∨ (x, i) ∈ ls := by
  rw [← nbr_iff (fun p m => by have := hl.ok p m; omega) i x h0 h1]
  unfold rowAt arnd
  rw [List.getD_eq_getElem?_getD, List.getElem?_map, List.getD_eq_getElem?_getD]
  have hlt : i.toNat < (nbr n ls).length := by rw [nbr_len]; omega
  rw [List.getElem?_eq_getElem hlt]
  exact (srtI_perm _).mem_iff
theorem rowAt_symm {n : Int} {ls : List (Int × Int)} (hl : Lines n ls) {i x : Int} (h0 : 0 ≤ i) (h1 : i < n) (h2 : 0 ≤ x) (h3 : x < n) : x ∈ rowAt n ls i ↔ i ∈ rowAt n ls x := by
  rw [rowAt_iff hl h0 h1, rowAt_iff hl h2 h3]
  exact ⟨Or.symm, Or.symm⟩
end FR
end
section
set_option Elab.async false
set_option linter.all false
set_option maxRecDepth 100000
namespace FR
open PySem L2 DI
theorem row_ok (xs : List Int) (m : Int) (hl : xs.length ≤ 10000) : d__law_row [.tup (xs.map .int), .int m] = .ok (.bl (decide ((xs.length : Int) = m))) := by
  unfold d__law_row
  have h1 : xs.length ≤ 16777216 := by omega
  simp -implicitDefEqProofs (disch := first | omega | (simp -implicitDefEqProofs; done) | (simp -implicitDefEqProofs; omega)) [-List.map_map, BT.sub, ev_denI, ev_stI, ev_slfS, ev_slfE, ev_st0n, ev_mod, ev_div, ev_mul, ev_pow, ev_line, ev_rng1, ev_rng2, ev_ar, ev_arI, rangeD_length, h1]
  generalize hC : compL _ _ _ _ _ = oc
  have q := compP hC (fun _ => false) D.int id fun x m => ⟨_, rfl, by simp -implicitDefEqProofs (disch := first | omega | (simp -implicitDefEqProofs; done) | (simp -implicitDefEqProofs; omega)) [-List.map_map, BT.sub, ev_denI, ev_stI, ev_slfS, ev_slfE, ev_st0n, ev_mod, ev_div, ev_mul, ev_pow, ev_line, ev_rng1, ev_rng2, ev_ar, ev_arI, rangeD_length, whole_ok], fun z => nomatch z⟩
  have e : xs.filter (fun _ => false) = [] := by simp
  rw [e] at q
  subst q
  simp -implicitDefEqProofs (disch := first | omega | (simp -implicitDefEqProofs; done) | (simp -implicitDefEqProofs; omega)) [-List.map_map, BT.sub, ev_denI, ev_stI, ev_slfS, ev_slfE, ev_st0n, ev_mod, ev_div, ev_mul, ev_pow, ev_line, ev_rng1, ev_rng2, ev_ar, ev_arI, rangeD_length]
  by_cases c : (xs.length : Int) = m
  · simp [c]
  · simp [c]
end FR
end
section
set_option Elab.async false
set_option linter.all false
set_option maxRecDepth 100000
namespace FR
open PySem L2 DI
theorem mulb {a b A B : Int} (h1 : 0 ≤ a) (h2 : a ≤ A) (h3 : 0 ≤ b) (h4 : b ≤ B) : 0 ≤ a * b ∧ a * b ≤ A * B :=
  ⟨Int.mul_nonneg h1 h3, Int.mul_le_mul h2 h4 h3 (by omega)⟩
theorem cell_ok (ns : List Int) (k : Int) (hk : 0 ≤ k) (hk2 : k < 1000) : ∃ z, d__law_cell [.scr (ns.map D.int), .int k] = .ok (.int z) := by
  unfold d__law_cell
  simp -implicitDefEqProofs (disch := first | omega | (simp -implicitDefEqProofs; done) | (simp -implicitDefEqProofs; omega)) [-List.map_map, BT.sub, ev_denI, ev_stI, ev_slfS, ev_slfE, ev_st0n, ev_mod, ev_div, ev_mul, ev_pow, ev_line, ev_rng1, ev_rng2, ev_ar, ev_arI, rangeD_length, ev_if, ev_seq_ite, ev_end_ite]
  by_cases h : k < ns.length
  · rw [if_pos h]
    simp -implicitDefEqProofs (disch := first | omega | (simp -implicitDefEqProofs; done) | (simp -implicitDefEqProofs; omega)) [-List.map_map, BT.sub, ev_denI, ev_stI, ev_slfS, ev_slfE, ev_st0n, ev_mod, ev_div, ev_mul, ev_pow, ev_line, ev_rng1, ev_rng2, ev_ar, ev_arI, rangeD_length, ev_idxIS]
  · rw [if_neg h]
    generalize hL : forL _ _ _ _ = o
    obtain ⟨s', rfl, j, z, rfl, h0, h1⟩ := loop hL (fun _ s => ∃ j z, s = [some (.im (.scr (ns.map D.int))), some (.im (.int k)), some (.im (.int z)), j] ∧ 0 ≤ z ∧ z < 1000003)
      ⟨none, 17, rfl, by decide, by decide⟩ (by
        rintro pr x po s q ⟨j, z, rfl, h0, h1⟩
        simp -implicitDefEqProofs (disch := first | omega | (simp -implicitDefEqProofs; done) | (simp -implicitDefEqProofs; omega)) [-List.map_map, BT.sub, ev_denI, ev_stI, ev_slfS, ev_slfE, ev_st0n, ev_mod, ev_div, ev_mul, ev_pow, ev_line, ev_rng1, ev_rng2, ev_ar, ev_arI, rangeD_length]
        exact ⟨_, _, ⟨rfl, rfl⟩, by omega, by omega⟩)
    have := mulb (a := z + 7) (b := k + 3) (A := 1000010) (B := 1003) (by omega) (by omega) (by omega) (by omega)
    simp -implicitDefEqProofs (disch := first | omega | (simp -implicitDefEqProofs; done) | (simp -implicitDefEqProofs; omega)) [-List.map_map, BT.sub, ev_denI, ev_stI, ev_slfS, ev_slfE, ev_st0n, ev_mod, ev_div, ev_mul, ev_pow, ev_line, ev_rng1, ev_rng2, ev_ar, ev_arI, rangeD_length]
/-- each digit lies below its size -/
def Dg (ss ds : List Int) : Prop := ds.length = ss.length ∧ ∀ i : Nat, i < ss.length → 0 ≤ ds.getD i 0 ∧ ds.getD i 0 < ss.getD i 0
theorem Dg.gi {ss ds : List Int} (h : Dg ss ds) {i : Int} (h0 : 0 ≤ i) (h1 : i < ss.length) : 0 ≤ nI ds i ∧ nI ds i < nI ss i := h.2 i.toNat (by omega)
theorem getD_app {xs : List Int} {y : Int} {i : Nat} : (xs ++ [y]).getD i 0 = if i < xs.length then xs.getD i 0 else if i = xs.length then y else 0 := by
  rw [List.getD_eq_getElem?_getD, List.getD_eq_getElem?_getD]
  split
  · rw [List.getElem?_append_left (by assumption)]
  · rw [List.getElem?_append_right (by omega)]
    split
    · rename_i h; rw [h]; simp
    · rw [List.getElem?_eq_none (by simp; omega)]; rfl
theorem Dg.snoc {pr : List Int} {x y : Int} {ds : List Int} (h : Dg pr ds) (h0 : 0 ≤ y) (h1 : y < x) : Dg (pr ++ [x]) (ds ++ [y]) := by
  refine ⟨by simp [h.1], fun i hi => ?_⟩
  rw [getD_app, getD_app]
  simp only [List.length_append, List.length_singleton] at hi
  rw [h.1]
  split
  · exact h.2 i (by assumption)
  · rw [if_pos (by omega), if_pos (by omega)]; exact ⟨h0, h1⟩
/-- digits of a cell -/
theorem digits_ok (z : Int) (ss : List Int) (hs : ∀ s ∈ ss, 0 < s ∧ s < 1000000000000000000000000000000000000000000000000) (hl : ss.length < 10000) : ∃ ds : List Int, d__law_digits [.int z, .lst (ss.map D.int)] = .ok (.lst (ds.map D.int)) ∧ Dg ss ds := by
  unfold d__law_digits
  simp -implicitDefEqProofs (disch := first | omega | (simp -implicitDefEqProofs; done) | (simp -implicitDefEqProofs; omega)) [-List.map_map, BT.sub, ev_denI, ev_stI, ev_slfS, ev_slfE, ev_st0n, ev_mod, ev_div, ev_mul, ev_pow, ev_line, ev_rng1, ev_rng2, ev_ar, ev_arI, rangeD_length, ev_if, ev_seq_ite, ev_end_ite]
  rw [tE_nil (enc := D.int)]
  have plen : ∀ {pr : List Int} {x : Int} {po ds : List Int}, ss = pr ++ x :: po → Dg pr ds → ds.length < 16777216 := fun {pr x po ds} q hd => by
    have := congrArg List.length q
    simp at this
    have := hd.1
    omega
  split
  · generalize hL : forL _ _ _ _ = o
    obtain ⟨s', rfl, ds, y, j, rfl, hd⟩ := loop hL (fun pr s => ∃ (ds : List Int) (y : Int) (j : Option T), s = [some (.im (.int z)), some (.im (.lst (ss.map D.int))), some (tE D.int ds), some (.im (.int y)), j, none, none, none] ∧ Dg pr ds)
      ⟨[], _, _, rfl, rfl, fun i h => absurd h (by simp)⟩ (by
        rintro pr x po s q ⟨ds, y, j, rfl, hd⟩
        have hx := hs x (by rw [q]; simp)
        have hlen := plen q hd
        simp -implicitDefEqProofs (disch := first | omega | (simp -implicitDefEqProofs; done) | (simp -implicitDefEqProofs; omega)) [-List.map_map, BT.sub, ev_denI, ev_stI, ev_slfS, ev_slfE, ev_st0n, ev_mod, ev_div, ev_mul, ev_pow, ev_line, ev_rng1, ev_rng2, ev_ar, ev_arI, rangeD_length, hlen]
        exact ⟨_, rfl, hd.snoc (Int.emod_nonneg _ (by omega)) (Int.emod_lt_of_pos _ (by omega))⟩)
    refine ⟨ds, ?_, hd⟩
    simp -implicitDefEqProofs (disch := first | omega | (simp -implicitDefEqProofs; done) | (simp -implicitDefEqProofs; omega)) [-List.map_map, BT.sub, ev_denI, ev_stI, ev_slfS, ev_slfE, ev_st0n, ev_mod, ev_div, ev_mul, ev_pow, ev_line, ev_rng1, ev_rng2, ev_ar, ev_arI, rangeD_length]
  · generalize hL : forL _ _ _ _ = o
    obtain ⟨s', rfl, ds, y, j, j2, rfl, hd, h0, h1⟩ := loop hL (fun pr s => ∃ (ds : List Int) (y : Int) (j j2 : Option T), s = [some (.im (.int z)), some (.im (.lst (ss.map D.int))), some (tE D.int ds), some (.im (.int z)), none, some (.im (.int y)), j, j2] ∧ Dg (ss.take pr.length) ds ∧ 0 ≤ y ∧ y < 2147483647)
      ⟨[], _, _, _, rfl, ⟨rfl, fun i h => absurd h (by simp)⟩, by omega, by omega⟩ (by
        rintro pr i po s q ⟨ds, y, j, j2, rfl, hd, h0, h1⟩
        obtain ⟨e1, e2, e3⟩ := range_split q
        have hx := hs (ss[i]) (List.getElem_mem _)
        have tk : ss.take (pr.length + 1) = ss.take pr.length ++ [ss[i]] := by
          subst e1
          rw [List.take_append_getElem]
        have hlen : ds.length < 16777216 := by
          have := hd.1
          rw [List.length_take] at this
          omega
        have b := mulb (a := (y * 48271 + 974711 * (i : Int) + 12345) % 2147483647) (A := 2147483647) (b := (y * 48271 + 974711 * (i : Int) + 12345) % 2147483647 / 65537 + 3) (B := 2147483647) (by omega) (by omega) (by omega) (by omega)
        have gi := nI_nat e2
        simp -implicitDefEqProofs (disch := first | omega | (simp -implicitDefEqProofs; done) | (simp -implicitDefEqProofs; omega)) [-List.map_map, BT.sub, ev_denI, ev_stI, ev_slfS, ev_slfE, ev_st0n, ev_mod, ev_div, ev_mul, ev_pow, ev_line, ev_rng1, ev_rng2, ev_ar, ev_arI, rangeD_length, hlen, ev_idxI, gi]
        exact ⟨_, _, ⟨rfl, rfl⟩, by rw [tk]; exact hd.snoc (Int.emod_nonneg _ (by omega)) (Int.emod_lt_of_pos _ (by omega)), by omega, by omega⟩)
    refine ⟨ds, ?_, ?_⟩
    · simp -implicitDefEqProofs (disch := first | omega | (simp -implicitDefEqProofs; done) | (simp -implicitDefEqProofs; omega)) [-List.map_map, BT.sub, ev_denI, ev_stI, ev_slfS, ev_slfE, ev_st0n, ev_mod, ev_div, ev_mul, ev_pow, ev_line, ev_rng1, ev_rng2, ev_ar, ev_arI, rangeD_length]
    · rw [List.length_range, List.take_length] at hd
      exact hd
end FR
end
section
set_option Elab.async false
set_option linter.all false
set_option maxRecDepth 100000
namespace FR
open PySem L2 DI
theorem plain_ps (ps : List (Int × Int)) : D.plain 2 (.lst (ps.map dP)) = true := by
  unfold D.plain
  rw [List.all_eq_true]
  intro d hd
  obtain ⟨p, _, rfl⟩ := List.mem_map.mp hd
  rfl
def inF (ps : List (Int × Int)) (p : Int × Int) : Bool := (dInB (dP p) (.lst (ps.map dP))).getD false
theorem ev_inF (ps : List (Int × Int)) (a b : Int) : dIn (.tup [.int a, .int b]) (.lst (ps.map dP)) = some (.bl (inF ps (a, b))) := by
  obtain ⟨r, hr⟩ := inP (n := 1) (m := 2) (d := dP (a, b)) (e := .lst (ps.map dP)) rfl (plain_ps ps) (by omega) (by omega) ⟨_, .inl rfl⟩
  unfold inF
  show (dInB (dP (a, b)) _).map D.bl = _
  rw [hr]
  rfl
theorem Lines.snoc {n : Int} {ls : List (Int × Int)} {a b : Int} (h : Lines n ls) (h0 : 0 ≤ a) (h1 : a < b) (h2 : b < n) (hl : ∀ p ∈ ls, ltP p (a, b)) : Lines n (ls ++ [(a, b)]) := by
  refine ⟨fun p hp => ?_, ?_⟩
  · rcases List.mem_append.mp hp with m | m
    · exact h.ok p m
    · rw [List.mem_singleton.mp m]; exact ⟨h0, h1, h2⟩
  · rw [List.pairwise_append]
    exact ⟨h.up, List.pairwise_singleton _ _, fun p hp q hq => by rw [List.mem_singleton.mp hq]; exact hl p hp⟩
theorem web_ok (row : List Int) (most : Int) (hl : row.length = 20) (h0 : 0 ≤ nI row 0 ∧ nI row 0 < 12) (h2 : ∀ k : Int, 1 ≤ k → k ≤ 6 → 0 ≤ nI row (2 * k) ∧ nI row (2 * k) < 6) (hm : 1 ≤ most) (hm2 : most < 100) :
    ∃ (n : Int) (ls : List (Int × Int)), d__law_web [.lst (row.map D.int), .int most] = .ok (.lst [.int n, .lst (ls.map dP)]) ∧ 1 ≤ n ∧ n ≤ 7 ∧ n ≤ most ∧ Lines n ls ∧ ls.length ≤ 49 := by
  unfold d__law_web
  have L0 : ∀ i : Nat, i < 12 → 1 ≤ ([5, 4, 6, 3, 5, 7, 4, 6, 2, 5, 1, 6] : List Int).getD i 0 ∧ ([5, 4, 6, 3, 5, 7, 4, 6, 2, 5, 1, 6] : List Int).getD i 0 ≤ 7 := by decide
  have e0 : ∀ i : Int, 0 ≤ i → i < 20 → dIdx (.lst (row.map D.int)) (.int i) = some (.int (nI row i)) := fun i a b => ev_idxI a (by rw [hl]; exact b)
  have e1 : dIdx (.lst [.int 5, .int 4, .int 6, .int 3, .int 5, .int 7, .int 4, .int 6, .int 2, .int 5, .int 1, .int 6]) (.int (nI row 0)) = some (.int (nI [5, 4, 6, 3, 5, 7, 4, 6, 2, 5, 1, 6] (nI row 0))) :=
    ev_idxI (xs := [5, 4, 6, 3, 5, 7, 4, 6, 2, 5, 1, 6]) h0.1 (by show _ < (12 : Int); omega)
  have l0 : 1 ≤ nI [5, 4, 6, 3, 5, 7, 4, 6, 2, 5, 1, 6] (nI row 0) ∧ nI [5, 4, 6, 3, 5, 7, 4, 6, 2, 5, 1, 6] (nI row 0) ≤ 7 := L0 (nI row 0).toNat (by omega)
  generalize nI [5, 4, 6, 3, 5, 7, 4, 6, 2, 5, 1, 6] (nI row 0) = v at e1 l0
  simp -implicitDefEqProofs (disch := first | omega | (simp -implicitDefEqProofs; done) | (simp -implicitDefEqProofs; omega)) [-List.map_map, BT.sub, ev_denI, ev_stI, ev_slfS, ev_slfE, ev_st0n, ev_mod, ev_div, ev_mul, ev_pow, ev_line, ev_rng1, ev_rng2, ev_ar, ev_arI, rangeD_length, e0, e1]
  generalize hn : min most v = n
  have n1 : 1 ≤ n := by omega
  have n7 : n ≤ 7 := by omega
  have nm : n ≤ most := by omega
  clear e1 l0 L0
  rw [tE_nil (enc := dP)]
  generalize hL : forL _ _ _ _ = o
  obtain ⟨s', rfl, ps, j4, j5, rfl, hp⟩ := loop hL (fun pr s => ∃ (ps : List (Int × Int)) (j4 j5 : Option T), s = [some (.im (.lst (row.map D.int))), some (.im (.int most)), some (.im (.int n)), some (tE dP ps), j4, j5, none, none, none] ∧ ps.length ≤ pr.length)
    ⟨[], _, _, rfl, Nat.zero_le _⟩ (by
      rintro pr i po s q ⟨ps, j4, j5, rfl, hp⟩
      obtain ⟨e1, e2, e3⟩ := range_split q
      have hlen : ps.length < 16777216 := by omega
      have hk := h2 (1 + (i : Int)) (by omega) (by omega)
      have em : ∀ (k x : Int), 0 ≤ x → x < 6 → ∃ m, dIdx (.lst [.int (k - 1), .int (k - 1), .int (k - 1), .int 0, .int (k / 2), .int 0]) (.int x) = some (.int m) := fun k x a b => ⟨_, ev_idxI (xs := [k - 1, k - 1, k - 1, 0, k / 2, 0]) a (by show _ < (6 : Int); omega)⟩
      obtain ⟨m, em⟩ := em (1 + (i : Int)) _ hk.1 hk.2
      simp -implicitDefEqProofs (disch := first | omega | (simp -implicitDefEqProofs; done) | (simp -implicitDefEqProofs; omega)) [-List.map_map, BT.sub, ev_denI, ev_stI, ev_slfS, ev_slfE, ev_st0n, ev_mod, ev_div, ev_mul, ev_pow, ev_line, ev_rng1, ev_rng2, ev_ar, ev_arI, rangeD_length, hlen, e0, em, ev_if, ev_seq_ite]
      split <;> split <;> exact ⟨_, rfl, _, ⟨_, _, rfl⟩, by first | omega | (rw [List.length_append, List.length_singleton]; omega)⟩)
  rw [List.length_range] at hp
  have hlen : ps.length < 16777216 := by omega
  simp -implicitDefEqProofs (disch := first | omega | (simp -implicitDefEqProofs; done) | (simp -implicitDefEqProofs; omega)) [-List.map_map, BT.sub, ev_denI, ev_stI, ev_slfS, ev_slfE, ev_st0n, ev_mod, ev_div, ev_mul, ev_pow, ev_line, ev_rng1, ev_rng2, ev_ar, ev_arI, rangeD_length, hlen, e0]
  generalize hI : ifS _ _ _ _ = o
  obtain ⟨s', rfl, ps2, rfl, hp2⟩ : ∃ s', o = .nx s' ∧ ∃ ps2 : List (Int × Int), s' = [some (T.im (D.lst (List.map D.int row))), some (T.im (D.int most)), some (T.im (D.int n)), some (tE dP ps2), j4, j5, none, none, none] ∧ ps2.length ≤ 7 := by
    rw [← hI]
    simp -implicitDefEqProofs (disch := first | omega | (simp -implicitDefEqProofs; done) | (simp -implicitDefEqProofs; omega)) [-List.map_map, BT.sub, ev_denI, ev_stI, ev_slfS, ev_slfE, ev_st0n, ev_mod, ev_div, ev_mul, ev_pow, ev_line, ev_rng1, ev_rng2, ev_ar, ev_arI, rangeD_length, ev_if, hlen, e0]
    split
    · split
      · exact ⟨_, rfl, _, rfl, by rw [List.length_append, List.length_singleton]; omega⟩
      · exact ⟨_, rfl, _, rfl, by omega⟩
    · exact ⟨_, rfl, _, rfl, by omega⟩
  simp -implicitDefEqProofs (disch := first | omega | (simp -implicitDefEqProofs; done) | (simp -implicitDefEqProofs; omega)) [-List.map_map, BT.sub, ev_denI, ev_stI, ev_slfS, ev_slfE, ev_st0n, ev_mod, ev_div, ev_mul, ev_pow, ev_line, ev_rng1, ev_rng2, ev_ar, ev_arI, rangeD_length]
  generalize hL3 : forL _ _ _ _ = o
  obtain ⟨s', rfl, ps3, k4, k6, k7, rfl, hp3⟩ := loop hL3 (fun pr s => ∃ (ps : List (Int × Int)) (j4 j6 j7 : Option T), s = [some (.im (.lst (row.map D.int))), some (.im (.int most)), some (.im (.int n)), some (tE dP ps), j4, j5, j6, j7, none] ∧ ps.length ≤ 7 + pr.length)
    ⟨_, _, _, _, rfl, hp2⟩ (by
      rintro pr i po s q ⟨ps, j4, j6, j7, rfl, hp⟩
      obtain ⟨e1, e2, e3⟩ := range_split q
      have hlen : ps.length < 16777216 := by omega
      simp -implicitDefEqProofs (disch := first | omega | (simp -implicitDefEqProofs; done) | (simp -implicitDefEqProofs; omega)) [-List.map_map, BT.sub, ev_denI, ev_stI, ev_slfS, ev_slfE, ev_st0n, ev_mod, ev_div, ev_mul, ev_pow, ev_line, ev_rng1, ev_rng2, ev_ar, ev_arI, rangeD_length, hlen, e0, ev_if, ev_seq_ite]
      split
      · split <;> exact ⟨_, rfl, _, ⟨_, _, _, rfl⟩, by first | omega | (rw [List.length_append, List.length_singleton]; omega)⟩
      · exact ⟨_, rfl, _, ⟨_, _, _, rfl⟩, by omega⟩)
  rw [List.length_range] at hp3
  simp -implicitDefEqProofs (disch := first | omega | (simp -implicitDefEqProofs; done) | (simp -implicitDefEqProofs; omega)) [-List.map_map, BT.sub, ev_denI, ev_stI, ev_slfS, ev_slfE, ev_st0n, ev_mod, ev_div, ev_mul, ev_pow, ev_line, ev_rng1, ev_rng2, ev_ar, ev_arI, rangeD_length]
  rw [tE_nil (enc := dP)]
  generalize hL4 : forL _ _ _ _ = o
  obtain ⟨s', rfl, ls, kn, i6, i7, rfl, hk, hls, hlt, hlen⟩ := loop hL4 (fun pr s => ∃ (ls : List (Int × Int)) (kn : T) (j6 j7 : Option T), s = [some (.im (.lst (row.map D.int))), some (.im (.int most)), some (.im (.int n)), some kn, k4, j5, j6, j7, some (tE dP ls)] ∧ (kn = tE dP ps3 ∨ kn = .im (.lst (ps3.map dP))) ∧ Lines n ls ∧ (∀ p ∈ ls, p.1 < pr.length) ∧ ls.length ≤ 7 * pr.length)
    ⟨[], _, _, _, rfl, .inl rfl, ⟨fun _ m => (nomatch m), List.Pairwise.nil⟩, fun _ m => (nomatch m), Nat.zero_le _⟩ (by
      rintro pr a po s q ⟨ls, kn, j6, j7, rfl, hk, hls, hlt, hlen⟩
      obtain ⟨e1, e2, e3⟩ := range_split q
      simp -implicitDefEqProofs (disch := first | omega | (simp -implicitDefEqProofs; done) | (simp -implicitDefEqProofs; omega)) [-List.map_map, BT.sub, ev_denI, ev_stI, ev_slfS, ev_slfE, ev_st0n, ev_mod, ev_div, ev_mul, ev_pow, ev_line, ev_rng1, ev_rng2, ev_ar, ev_arI, rangeD_length]
      generalize hL5 : forL _ _ _ _ = o
      obtain ⟨s', rfl, ls2, kn2, j7', rfl, hk2, hls2, hlt2, hlen2⟩ := loop hL5 (fun pr2 s => ∃ (ls : List (Int × Int)) (kn : T) (j7 : Option T), s = [some (.im (.lst (row.map D.int))), some (.im (.int most)), some (.im (.int n)), some kn, k4, j5, some (.im (.int (a : Int))), j7, some (tE dP ls)] ∧ (kn = tE dP ps3 ∨ kn = .im (.lst (ps3.map dP))) ∧ Lines n ls ∧ (∀ p ∈ ls, p.1 < pr.length ∨ (p.1 = pr.length ∧ p.2 < pr.length + 1 + pr2.length)) ∧ ls.length ≤ 7 * pr.length + pr2.length)
        ⟨_, _, _, rfl, hk, hls, fun p m => .inl (hlt p m), hlen⟩ (by
          rintro pr2 b po2 s q2 ⟨ls, kn, j7, rfl, hk, hls, hlt, hlen⟩
          obtain ⟨f1, f2, f3⟩ := range_split q2
          have hlen' : ls.length < 16777216 := by omega
          have kD : kn.toD = .lst (ps3.map dP) := by
            rcases hk with rfl | rfl
            · exact ev_toDE
            · exact ev_toDim
          simp -implicitDefEqProofs (disch := first | omega | (simp -implicitDefEqProofs; done) | (simp -implicitDefEqProofs; omega)) [-List.map_map, BT.sub, ev_denI, ev_stI, ev_slfS, ev_slfE, ev_st0n, ev_mod, ev_div, ev_mul, ev_pow, ev_line, ev_rng1, ev_rng2, ev_ar, ev_arI, rangeD_length, kD, hlen', ev_if, ev_inF]
          split
          · refine ⟨_, rfl, _, _, ⟨_, rfl⟩, .inr rfl, hls.snoc (by omega) (by omega) (by omega) fun p m => ?_, fun x y m => ?_, by rw [List.length_append, List.length_singleton]; omega⟩
            · have := hlt p m
              unfold ltP
              simp only
              omega
            · rcases List.mem_append.mp m with m | m
              · have := hlt (x, y) m
                simp only at this
                omega
              · have := List.mem_singleton.mp m
                cases this
                omega
          · exact ⟨_, rfl, _, _, ⟨_, rfl⟩, .inr rfl, hls, fun x y m => by
              have := hlt (x, y) m
              simp only at this
              omega, by omega⟩)
      refine ⟨_, rfl, _, _, ⟨_, _, rfl⟩, hk2, hls2, fun x y m => ?_, ?_⟩
      · have := hlt2 (x, y) m
        simp only at this
        omega
      · rw [List.length_range] at hlen2
        omega)
  simp -implicitDefEqProofs (disch := first | omega | (simp -implicitDefEqProofs; done) | (simp -implicitDefEqProofs; omega)) [-List.map_map, BT.sub, ev_denI, ev_stI, ev_slfS, ev_slfE, ev_st0n, ev_mod, ev_div, ev_mul, ev_pow, ev_line, ev_rng1, ev_rng2, ev_ar, ev_arI, rangeD_length]
  exact ⟨n, ls, ⟨rfl, rfl⟩, n1, n7, nm, hls, by rw [List.length_range] at hlen; omega⟩
end FR
end
section
set_option Elab.async false
set_option linter.all false
set_option maxRecDepth 100000
namespace FR
open PySem L2 DI
theorem picture_ok (row : List Int) (n : Int) (hl : row.length = 9) (h : ∀ i : Int, 2 ≤ i → i < 9 → 0 ≤ nI row i ∧ nI row i ≤ 2) (h1 : 0 ≤ nI row 1) (hn : 0 ≤ n) (hn7 : n ≤ 7) :
    ∃ pic : List Int, d__law_picture [.lst (row.map D.int), .int n] = .ok (.tup (pic.map D.int)) ∧ pic.length = n.toNat ∧ Pic pic := by
  unfold d__law_picture
  have e0 : ∀ i : Int, 0 ≤ i → i < 9 → dIdx (.lst (row.map D.int)) (.int i) = some (.int (nI row i)) := fun i a b => ev_idxI a (by rw [hl]; exact b)
  have hlen : n.toNat ≤ 16777216 := by omega
  have mem : ∀ {i : Nat}, i ∈ List.range n.toNat → (i : Int) < 7 := fun m => by
    have := List.mem_range.mp m
    omega
  have fin : ∀ (ψ : Nat → Int), (∀ i ∈ List.range n.toNat, 0 ≤ ψ i ∧ ψ i ≤ 2) → ((List.range n.toNat).map ψ).length = n.toNat ∧ Pic ((List.range n.toNat).map ψ) := fun ψ hp => by
    refine ⟨by simp, fun x hx => ?_⟩
    obtain ⟨i, m, rfl⟩ := List.mem_map.mp hx
    exact hp i m
  simp -implicitDefEqProofs (disch := first | omega | (simp -implicitDefEqProofs; done) | (simp -implicitDefEqProofs; omega)) [-List.map_map, BT.sub, ev_denI, ev_stI, ev_slfS, ev_slfE, ev_st0n, ev_mod, ev_div, ev_mul, ev_pow, ev_line, ev_rng1, ev_rng2, ev_ar, ev_arI, rangeD_length, e0, rangeD_length, hlen, ev_if, ev_seq_ite, ev_end_ite]
  generalize hC1 : compL _ _ _ _ _ = o1
  generalize hC2 : compL _ _ _ _ _ = o2
  generalize hC3 : compL _ _ _ _ _ = o3
  generalize hC4 : compL _ _ _ _ _ = o4
  have q1 := comp hC1 D.int (fun i : Nat => ((i : Int) + nI row 1) % 3) fun i m => ⟨_, rfl, rfl, by
    have := mem m
    simp -implicitDefEqProofs (disch := first | omega | (simp -implicitDefEqProofs; done) | (simp -implicitDefEqProofs; omega)) [-List.map_map, BT.sub, ev_denI, ev_stI, ev_slfS, ev_slfE, ev_st0n, ev_mod, ev_div, ev_mul, ev_pow, ev_line, ev_rng1, ev_rng2, ev_ar, ev_arI, rangeD_length, e0]⟩
  have q2 := comp hC2 D.int (fun i : Nat => ((i : Int) + nI row 1) % 3 * (if (i : Int) = nI row 2 + 1 then 0 else 1)) fun i m => ⟨_, rfl, rfl, by
    have := mem m
    simp -implicitDefEqProofs (disch := first | omega | (simp -implicitDefEqProofs; done) | (simp -implicitDefEqProofs; omega)) [-List.map_map, BT.sub, ev_denI, ev_stI, ev_slfS, ev_slfE, ev_st0n, ev_mod, ev_div, ev_mul, ev_pow, ev_line, ev_rng1, ev_rng2, ev_ar, ev_arI, rangeD_length, e0]⟩
  have q3 := comp hC3 D.int (fun i : Nat => if (i : Int) = nI row 1 then 1 else 0) fun i m => ⟨_, rfl, rfl, by
    have := mem m
    simp -implicitDefEqProofs (disch := first | omega | (simp -implicitDefEqProofs; done) | (simp -implicitDefEqProofs; omega)) [-List.map_map, BT.sub, ev_denI, ev_stI, ev_slfS, ev_slfE, ev_st0n, ev_mod, ev_div, ev_mul, ev_pow, ev_line, ev_rng1, ev_rng2, ev_ar, ev_arI, rangeD_length, e0]⟩
  have q4 := comp hC4 D.int (fun i : Nat => nI row (2 + (i : Int))) fun i m => ⟨_, rfl, rfl, by
    have := mem m
    simp -implicitDefEqProofs (disch := first | omega | (simp -implicitDefEqProofs; done) | (simp -implicitDefEqProofs; omega)) [-List.map_map, BT.sub, ev_denI, ev_stI, ev_slfS, ev_slfE, ev_st0n, ev_mod, ev_div, ev_mul, ev_pow, ev_line, ev_rng1, ev_rng2, ev_ar, ev_arI, rangeD_length, e0]⟩
  clear hC1 hC2 hC3 hC4
  subst q1 q2 q3 q4
  simp -implicitDefEqProofs (disch := first | omega | (simp -implicitDefEqProofs; done) | (simp -implicitDefEqProofs; omega)) [-List.map_map, BT.sub, ev_denI, ev_stI, ev_slfS, ev_slfE, ev_st0n, ev_mod, ev_div, ev_mul, ev_pow, ev_line, ev_rng1, ev_rng2, ev_ar, ev_arI, rangeD_length]
  have r1 := fin (fun i : Nat => ((i : Int) + nI row 1) % 3) fun i m => by constructor <;> omega
  have r2 := fin (fun i : Nat => ((i : Int) + nI row 1) % 3 * (if (i : Int) = nI row 2 + 1 then 0 else 1)) fun i m => by
    split <;> constructor <;> omega
  have r3 := fin (fun i : Nat => if (i : Int) = nI row 1 then 1 else 0) fun i m => by split <;> constructor <;> omega
  have r4 := fin (fun i : Nat => nI row (2 + (i : Int))) fun i m => by
    have := mem m
    exact h _ (by omega) (by omega)
  repeat' split
  all_goals first | exact ⟨_, rfl, r1⟩ | exact ⟨_, rfl, r2⟩ | exact ⟨_, rfl, r3⟩ | exact ⟨_, rfl, r4⟩
end FR
end
section
set_option Elab.async false
set_option linter.all false
set_option maxRecDepth 100000
namespace FR
open PySem L2 DI
def sz20 : List Int := [12, 20, 6, 20, 6, 20, 6, 20, 6, 20, 6, 20, 6, 8, 8, 8, 8, 8, 8, 8]
def sz9 : List Int := [10, 3, 3, 3, 3, 3, 3, 3, 3]
theorem mk20 : dMul (.lst [.int 20, .int 6]) (.int 6) = some (.lst [.int 20, .int 6, .int 20, .int 6, .int 20, .int 6, .int 20, .int 6, .int 20, .int 6, .int 20, .int 6]) := rfl
theorem mk8 : dMul (.lst [.int 8, .int 8]) (.int 3) = some (.lst [.int 8, .int 8, .int 8, .int 8, .int 8, .int 8]) := rfl
theorem mk3 : dMul (.lst [.int 3]) (.int 7) = some (.lst [.int 3, .int 3, .int 3, .int 3, .int 3, .int 3, .int 3]) := rfl
theorem digits20 (z : Int) : ∃ ds : List Int, d__law_digits [.int z, .lst [.int 12, .int 20, .int 6, .int 20, .int 6, .int 20, .int 6, .int 20, .int 6, .int 20, .int 6, .int 20, .int 6, .int 8, .int 8, .int 8, .int 8, .int 8, .int 8, .int 8]] = .ok (.lst (ds.map D.int)) ∧ Dg sz20 ds :=
  digits_ok z sz20 (by decide) (by decide)
theorem digits9 (z : Int) : ∃ ds : List Int, d__law_digits [.int z, .lst [.int 10, .int 3, .int 3, .int 3, .int 3, .int 3, .int 3, .int 3, .int 3]] = .ok (.lst (ds.map D.int)) ∧ Dg sz9 ds :=
  digits_ok z sz9 (by decide) (by decide)
theorem scene_ok (ns : List Int) (k most : Int) (hk : 0 ≤ k) (hk2 : k < 900) (hm : 1 ≤ most) (hm2 : most < 100) :
    ∃ (n : Int) (ls : List (Int × Int)) (pic : List Int), d__law_scene [.scr (ns.map D.int), .int k, .int most] = .ok (.lst [.int n, .lst (ls.map dP), .tup (pic.map .int)]) ∧ 1 ≤ n ∧ n ≤ 7 ∧ n ≤ most ∧ Lines n ls ∧ ls.length ≤ 49 ∧ pic.length = n.toNat ∧ Pic pic := by
  unfold d__law_scene
  obtain ⟨z1, e1⟩ := cell_ok ns k hk (by omega)
  obtain ⟨z2, e2⟩ := cell_ok ns (k + 1) (by omega) (by omega)
  obtain ⟨ds1, f1, g1⟩ := digits20 z1
  obtain ⟨ds2, f2, g2⟩ := digits9 z2
  have b0 : 0 ≤ nI ds1 0 ∧ nI ds1 0 < 12 := g1.gi (by omega) (by decide)
  have b1 : ∀ k : Int, 1 ≤ k → k ≤ 6 → 0 ≤ nI ds1 (2 * k) ∧ nI ds1 (2 * k) < 6 := fun k h h2 => by
    have := g1.gi (i := 2 * k) (by omega) (by show _ < (20 : Int); omega)
    have e : nI sz20 (2 * k) = 6 := by
      have : k = 1 ∨ k = 2 ∨ k = 3 ∨ k = 4 ∨ k = 5 ∨ k = 6 := by omega
      rcases this with rfl | rfl | rfl | rfl | rfl | rfl <;> rfl
    rw [e] at this
    exact this
  obtain ⟨n, ls, h1, n1, n7, nm, hl, hlen⟩ := web_ok ds1 most g1.1 b0 b1 hm hm2
  have b2 : ∀ i : Int, 1 ≤ i → i < 9 → 0 ≤ nI ds2 i ∧ nI ds2 i ≤ 2 := fun i h h2 => by
    have := g2.gi (i := i) (by omega) (by show _ < (9 : Int); omega)
    have e : nI sz9 i = 3 := by
      have : i = 1 ∨ i = 2 ∨ i = 3 ∨ i = 4 ∨ i = 5 ∨ i = 6 ∨ i = 7 ∨ i = 8 := by omega
      rcases this with rfl | rfl | rfl | rfl | rfl | rfl | rfl | rfl <;> rfl
    rw [e] at this
    omega
  obtain ⟨pic, h2, p1, p2⟩ := picture_ok ds2 n g2.1 (fun i h h2 => b2 i (by omega) h2) (b2 1 (by omega) (by omega)).1 (by omega) n7
  refine ⟨n, ls, pic, ?_, n1, n7, nm, hl, hlen, p1, p2⟩
  simp -implicitDefEqProofs (disch := first | omega | (simp -implicitDefEqProofs; done) | (simp -implicitDefEqProofs; omega)) [-List.map_map, BT.sub, ev_denI, ev_stI, ev_slfS, ev_slfE, ev_st0n, ev_mod, ev_div, ev_mul, ev_pow, ev_line, ev_rng1, ev_rng2, ev_ar, ev_arI, rangeD_length, e1, e2, mk20, mk8, mk3, f1, f2, h1, h2]
end FR
end
section
set_option Elab.async false
set_option linter.all false
set_option maxRecDepth 100000
namespace FR
open PySem L2 DI
theorem around_idx {n : Int} {ls : List (Int × Int)} {x : Int} (h : 0 ≤ x) (h2 : x < n) : dIdx (rowsT (arnd n ls)) (.int x) = some (.tup ((rowAt n ls x).map .int)) :=
  ev_idxET (enc := fun r : List Int => .tup (r.map .int)) h (rowAt_get h h2)
theorem near_idx {n : Int} {ls : List (Int × Int)} {x : Int} (h : 0 ≤ x) (h2 : x < n) : dIdx (rowsL (arnd n ls)) (.int x) = some (.lst ((rowAt n ls x).map .int)) :=
  ev_idxE (enc := fun r : List Int => .lst (r.map .int)) h (rowAt_get h h2)
theorem cut1 {α : Type} {d : α} {ds : List α} : cutL (d :: ds) (some 1) none = ds := by
  unfold cutL HT.sIx
  simp
theorem len_near {n : Int} {ls : List (Int × Int)} (hn : 0 ≤ n) : dLen [rowsL (arnd n ls)] = some (.int n) := by
  unfold rowsL
  simp -implicitDefEqProofs (disch := first | omega | (simp -implicitDefEqProofs; done) | (simp -implicitDefEqProofs; omega)) [-List.map_map, BT.sub, ev_denI, ev_stI, ev_slfS, ev_slfE, ev_st0n, ev_mod, ev_div, ev_mul, ev_pow, ev_line, ev_rng1, ev_rng2, ev_ar, ev_arI, rangeD_length, arnd_len]
  omega
end FR
end
section
set_option Elab.async false
set_option linter.all false
set_option maxRecDepth 100000
namespace FR
open PySem L2 DI
/-! == and in of data without truth values -/
def nb : Nat → D → Bool
  | _, .non => true
  | _, .int _ => true
  | _, .str x => PyData.strOk x
  | n + 1, .tup ds => ds.all (nb n)
  | n + 1, .lst ds => ds.all (nb n)
  | _, _ => false
@[simp] theorem nb_int {n : Nat} {i : Int} : nb n (.int i) = true := by cases n <;> rfl
@[simp] theorem nb_non {n : Nat} : nb n .non = true := by cases n <;> rfl
@[simp] theorem nb_tup {n : Nat} {ds : List D} : nb (n + 1) (.tup ds) = ds.all (nb n) := rfl
@[simp] theorem nb_lst {n : Nat} {ds : List D} : nb (n + 1) (.lst ds) = ds.all (nb n) := rfl
theorem nbs_of {n : Nat} (ih : ∀ d, nb n d = true → ∃ p, d.py = some p ∧ p.canLay0 = true ∧ p.depth ≤ n + 1) : ∀ ds : List D, ds.all (nb n) = true → ∃ ps, D.pys ds = some ps ∧ PyData.canLayAll0 ps = true ∧ PyData.depthAll ps ≤ n + 1
  | [], _ => ⟨[], by unfold D.pys; rfl, by unfold PyData.canLayAll0; rfl, by unfold PyData.depthAll; omega⟩
  | d :: ds, h => by
    rw [List.all_cons, Bool.and_eq_true] at h
    obtain ⟨p, e1, c1, d1⟩ := ih d h.1
    obtain ⟨ps, e2, c2, d2⟩ := nbs_of ih ds h.2
    refine ⟨p :: ps, by unfold D.pys; rw [e1, e2], by unfold PyData.canLayAll0; rw [c1, c2]; rfl, by unfold PyData.depthAll; omega⟩
theorem nb_py : ∀ (n : Nat) (d : D), nb n d = true → ∃ p, d.py = some p ∧ p.canLay0 = true ∧ p.depth ≤ n + 1
  | n, .non, _ => ⟨.none, by unfold D.py; rfl, by unfold PyData.canLay0; rfl, by unfold PyData.depth; omega⟩
  | n, .int i, _ => ⟨.int i, by unfold D.py; rfl, by unfold PyData.canLay0; rfl, by unfold PyData.depth; omega⟩
  | n, .str x, h => ⟨.str x, by unfold D.py; rfl, by unfold PyData.canLay0; cases n <;> exact h, by unfold PyData.depth; omega⟩
  | n + 1, .tup ds, h => by
    obtain ⟨ps, e, c, dd⟩ := nbs_of (nb_py n) ds h
    exact ⟨.tuple ps, by unfold D.py; rw [e]; rfl, by unfold PyData.canLay0; exact c, by unfold PyData.depth; omega⟩
  | n + 1, .lst ds, h => by
    obtain ⟨ps, e, c, dd⟩ := nbs_of (nb_py n) ds h
    exact ⟨.list ps, by unfold D.py; rw [e]; rfl, by unfold PyData.canLay0; exact c, by unfold PyData.depth; omega⟩
  | 0, .tup _, h => by cases h
  | 0, .lst _, h => by cases h
  | n, .bl _, h => by cases n <;> cases h
  | n, .ins _ _, h => by cases n <;> cases h
  | n, .scr _, h => by cases n <;> cases h
  | n, .tset _, h => by cases n <;> cases h
  | n, .dct _ _ _, h => by cases n <;> cases h
  | n, .rng _ _, h => by cases n <;> cases h
  | n, .nd _ _, h => by cases n <;> cases h
theorem nb_sh {n : Nat} {d : D} (h : nb n d = true) (hn : n ≤ 60) : ∃ p, d.py = some p ∧ d.sh = some p := by
  obtain ⟨p, e, c, dd⟩ := nb_py n d h
  refine ⟨p, e, ?_⟩
  have : SeqAt.shaped p = true := by
    unfold SeqAt.shaped
    rw [c]
    simp
    omega
  unfold D.sh
  rw [e]
  show (if SeqAt.shaped p = true then some p else none) = _
  rw [if_pos this]
theorem py_tup {ds : List D} {p : PyData} (h : (D.tup ds).py = some p) : ∃ ps, D.pys ds = some ps ∧ p = .tuple ps := by
  unfold D.py at h
  cases q : D.pys ds with
  | none => rw [q] at h; cases h
  | some ps => rw [q] at h; cases h; exact ⟨ps, rfl, rfl⟩
theorem py_lst {ds : List D} {p : PyData} (h : (D.lst ds).py = some p) : ∃ ps, D.pys ds = some ps ∧ p = .list ps := by
  unfold D.py at h
  cases q : D.pys ds with
  | none => rw [q] at h; cases h
  | some ps => rw [q] at h; cases h; exact ⟨ps, rfl, rfl⟩
theorem pys_cons {d : D} {ds : List D} {ps : List PyData} (h : D.pys (d :: ds) = some ps) : ∃ p qs, d.py = some p ∧ D.pys ds = some qs ∧ ps = p :: qs := by
  unfold D.pys at h
  cases q1 : D.py d with
  | none => rw [q1] at h; cases h
  | some p =>
    cases q2 : D.pys ds with
    | none => rw [q1, q2] at h; cases h
    | some qs => rw [q1, q2] at h; cases h; exact ⟨p, qs, rfl, rfl, rfl⟩
theorem pys_nil {ps : List PyData} (h : D.pys [] = some ps) : ps = [] := by unfold D.pys at h; cases h; rfl
theorem eqvs_nb {n m : Nat} (ih : ∀ d e p q, nb n d = true → nb m e = true → d.py = some p → e.py = some q → (PyData.eqv p q = true ↔ d = e)) : ∀ (ds es : List D) (ps qs : List PyData), ds.all (nb n) = true → es.all (nb m) = true → D.pys ds = some ps → D.pys es = some qs → (PyData.eqvAll ps qs = true ↔ ds = es)
  | [], [], ps, qs, _, _, h1, h2 => by rw [pys_nil h1, pys_nil h2]; simp [PyData.eqvAll]
  | [], e :: es, ps, qs, _, _, h1, h2 => by
    obtain ⟨q, qs', _, _, rfl⟩ := pys_cons h2
    rw [pys_nil h1]; simp [PyData.eqvAll]
  | d :: ds, [], ps, qs, _, _, h1, h2 => by
    obtain ⟨q, qs', _, _, rfl⟩ := pys_cons h1
    rw [pys_nil h2]; simp [PyData.eqvAll]
  | d :: ds, e :: es, ps, qs, a1, a2, h1, h2 => by
    obtain ⟨p, ps', b1, b2, rfl⟩ := pys_cons h1
    obtain ⟨q, qs', c1, c2, rfl⟩ := pys_cons h2
    rw [List.all_cons, Bool.and_eq_true] at a1 a2
    have i1 := ih d e p q a1.1 a2.1 b1 c1
    have i2 := eqvs_nb ih ds es ps' qs' a1.2 a2.2 b2 c2
    simp only [PyData.eqvAll, Bool.and_eq_true, i1, i2, List.cons.injEq]
theorem eqv_nb : ∀ (n m : Nat) (d e : D) (p q : PyData), nb n d = true → nb m e = true → d.py = some p → e.py = some q → (PyData.eqv p q = true ↔ d = e) := by
  intro n
  induction n with
  | zero =>
    intro m d e p q h1 h2 e1 e2
    cases d <;> try (cases h1; done)
    all_goals
      unfold D.py at e1
      cases e1
      cases e <;> first
        | (cases m <;> cases h2; done)
        | (unfold D.py at e2; cases e2; simp [PyData.eqv]; done)
        | (obtain ⟨ps, _, rfl⟩ := py_tup e2; simp [PyData.eqv]; done)
        | (obtain ⟨ps, _, rfl⟩ := py_lst e2; simp [PyData.eqv]; done)
  | succ n ih =>
    intro m d e p q h1 h2 e1 e2
    cases d <;> try (cases h1; done)
    case tup ds =>
      obtain ⟨ps, b1, rfl⟩ := py_tup e1
      cases e <;> first
        | (cases m <;> cases h2; done)
        | (unfold D.py at e2; cases e2; simp [PyData.eqv]; done)
        | (obtain ⟨ps, _, rfl⟩ := py_lst e2; simp [PyData.eqv]; done)
        | skip
      rename_i es
      obtain ⟨qs, c1, rfl⟩ := py_tup e2
      cases m with
      | zero => cases h2
      | succ m =>
        have := eqvs_nb (n := n) (m := m) (fun d e p q => ih m d e p q) ds es ps qs h1 h2 b1 c1
        simp only [PyData.eqv, this, D.tup.injEq]
    case lst ds =>
      obtain ⟨ps, b1, rfl⟩ := py_lst e1
      cases e <;> first
        | (cases m <;> cases h2; done)
        | (unfold D.py at e2; cases e2; simp [PyData.eqv]; done)
        | (obtain ⟨ps, _, rfl⟩ := py_tup e2; simp [PyData.eqv]; done)
        | skip
      rename_i es
      obtain ⟨qs, c1, rfl⟩ := py_lst e2
      cases m with
      | zero => cases h2
      | succ m =>
        have := eqvs_nb (n := n) (m := m) (fun d e p q => ih m d e p q) ds es ps qs h1 h2 b1 c1
        simp only [PyData.eqv, this, D.lst.injEq]
    all_goals
      unfold D.py at e1
      cases e1
      cases e <;> first
        | (cases m <;> cases h2; done)
        | (unfold D.py at e2; cases e2; simp [PyData.eqv]; done)
        | (obtain ⟨ps, _, rfl⟩ := py_tup e2; simp [PyData.eqv]; done)
        | (obtain ⟨ps, _, rfl⟩ := py_lst e2; simp [PyData.eqv]; done)
open Classical in
theorem ev_eqN {d e : D} (n : Nat) (h1 : nb n d = true) (h2 : nb n e = true) (hn : n ≤ 60) : dEq d e = some (.bl (decide (d = e))) := by
  obtain ⟨p, a1, a2⟩ := nb_sh h1 hn
  obtain ⟨q, b1, b2⟩ := nb_sh h2 hn
  unfold dEq dEqB
  rw [a2, b2]
  show some (D.bl _) = _
  congr 2
  rw [Bool.eq_iff_iff, eqv_nb n n d e p q h1 h2 a1 b1]
  simp
open Classical in
theorem ev_neN {d e : D} (n : Nat) (h1 : nb n d = true) (h2 : nb n e = true) (hn : n ≤ 60) : dNe d e = some (.bl (!decide (d = e))) := by
  obtain ⟨p, a1, a2⟩ := nb_sh h1 hn
  obtain ⟨q, b1, b2⟩ := nb_sh h2 hn
  unfold dNe dEqB
  rw [a2, b2]
  show some (D.bl (!_)) = _
  congr 3
  rw [Bool.eq_iff_iff, eqv_nb n n d e p q h1 h2 a1 b1]
  simp
end FR
end
section
set_option Elab.async false
set_option linter.all false
set_option maxRecDepth 100000
namespace FR
open PySem L2 DI
theorem nodup_sub {α : Type} [DecidableEq α] : ∀ {l m : List α}, l.Nodup → (∀ x ∈ l, x ∈ m) → l.length ≤ m.length
  | [], m, _, _ => Nat.zero_le _
  | x :: l, m, h, hs => by
    have nd := List.nodup_cons.mp h
    have xm := hs x List.mem_cons_self
    have := nodup_sub (l := l) (m := m.erase x) nd.2 (fun y hy => (List.mem_erase_of_ne (fun e => nd.1 (by rw [← e]; exact hy))).mpr (hs y (List.mem_cons_of_mem _ hy)))
    rw [List.length_erase_of_mem xm] at this
    have := List.length_pos_of_mem xm
    simp
    omega
end FR
end
section
set_option Elab.async false
set_option linter.all false
set_option maxRecDepth 100000
namespace FR
open PySem L2 DI
/-! the queue of a piece -/
theorem nbr_nodup {n : Int} {ls : List (Int × Int)} (hl : Lines n ls) (i : Int) (h0 : 0 ≤ i) (h1 : i < n) : ((nbr n ls).getD i.toNat []).Nodup := by
  have gen : ∀ (po pr : List (Int × Int)) (rows : List (List Int)), rows.length = n.toNat → (∀ p ∈ po, 0 ≤ p.1 ∧ p.1 < p.2 ∧ p.2 < n) → po.Nodup → (∀ p ∈ po, p ∉ pr) → (∀ p ∈ pr, p.1 < p.2) → (rows.getD i.toNat []).Nodup → (∀ x ∈ rows.getD i.toNat [], (i, x) ∈ pr ∨ (x, i) ∈ pr) → ((po.foldl nb1 rows).getD i.toNat []).Nodup := by
    intro po
    induction po with
    | nil => intro pr rows _ _ _ _ _ h _; exact h
    | cons p po ih =>
      intro pr rows hr hp hn hd hq h hm
      obtain ⟨a1, a2, a3⟩ := hp p List.mem_cons_self
      obtain ⟨n1, n2⟩ := List.nodup_cons.mp hn
      have np := hd p List.mem_cons_self
      rw [List.foldl_cons]
      obtain ⟨a, b⟩ := p
      simp only at a1 a2 a3
      have at_ : (nb1 rows (a, b)).getD i.toNat [] = if i = b then rows.getD i.toNat [] ++ [a] else if i = a then rows.getD i.toNat [] ++ [b] else rows.getD i.toNat [] := by
        unfold nb1
        rw [apR_at (by omega) (by rw [apR_len]; show b.toNat < _; omega), apR_at (by omega) (by show a.toNat < _; omega)]
        simp only
        by_cases c1 : i = b
        · subst c1
          rw [if_pos rfl, if_neg (by omega), if_pos rfl]
        · by_cases c2 : i = a
          · subst c2
            rw [if_neg (by omega), if_pos rfl, if_neg c1, if_pos rfl]
          · rw [if_neg (by omega), if_neg (by omega), if_neg c1, if_neg c2]
      have snoc : ∀ y, y ∉ rows.getD i.toNat [] → (rows.getD i.toNat [] ++ [y]).Nodup := fun y hy => List.nodup_append.mpr ⟨h, by simp, fun u hu v hv e => hy (by rw [List.mem_singleton.mp hv] at e; exact e ▸ hu)⟩
      refine ih ((a, b) :: pr) (nb1 rows (a, b)) (by rw [nb1_len]; exact hr) (fun q m => hp q (List.mem_cons_of_mem _ m)) n2 (fun q m z => ?_) (fun q m => ?_) ?_ (fun x hx => ?_)
      · rcases List.mem_cons.mp z with rfl | z
        · exact n1 m
        · exact hd q (List.mem_cons_of_mem _ m) z
      · rcases List.mem_cons.mp m with rfl | m
        · exact a2
        · exact hq q m
      · rw [at_]
        split
        case isTrue c =>
          subst c
          refine snoc a fun z => ?_
          rcases hm a z with z | z
          · have := hq _ z; simp only at this; omega
          · exact np z
        case isFalse c =>
          split
          case isTrue c2 =>
            subst c2
            refine snoc b fun z => ?_
            rcases hm b z with z | z
            · exact np z
            · have := hq _ z; simp only at this; omega
          case isFalse c2 => exact h
      · rw [at_] at hx
        have old : x ∈ rows.getD i.toNat [] → (i, x) ∈ (a, b) :: pr ∨ (x, i) ∈ (a, b) :: pr := fun z => (hm x z).imp (List.mem_cons_of_mem _) (List.mem_cons_of_mem _)
        split at hx
        case isTrue c =>
          subst c
          rcases List.mem_append.mp hx with z | z
          · exact old z
          · rw [List.mem_singleton.mp z]; exact .inr List.mem_cons_self
        case isFalse c =>
          split at hx
          case isTrue c2 =>
            subst c2
            rcases List.mem_append.mp hx with z | z
            · exact old z
            · rw [List.mem_singleton.mp z]; exact .inl List.mem_cons_self
          case isFalse c2 => exact old hx
  have e : (List.replicate n.toNat ([] : List Int)).getD i.toNat [] = [] := by
    rw [List.getD_eq_getElem?_getD, List.getElem?_replicate]
    split <;> rfl
  have hn : ls.Nodup := hl.up.imp fun {a b} z e => by
    subst e
    rcases z with z | ⟨_, z⟩ <;> omega
  unfold nbr
  exact gen ls [] (List.replicate n.toNat []) (by simp) hl.ok hn (fun _ _ z => nomatch z) (fun _ z => nomatch z) (by rw [e]; exact List.nodup_nil) (fun x z => by rw [e] at z; cases z)
theorem rowAt_nodup {n : Int} {ls : List (Int × Int)} (hl : Lines n ls) {i : Int} (h0 : 0 ≤ i) (h1 : i < n) : (rowAt n ls i).Nodup := by
  have h := nbr_nodup hl i h0 h1
  unfold rowAt arnd
  rw [List.getD_eq_getElem?_getD, List.getElem?_map]
  have hlt : i.toNat < (nbr n ls).length := by rw [nbr_len]; omega
  rw [List.getD_eq_getElem?_getD, List.getElem?_eq_getElem hlt] at h
  rw [List.getElem?_eq_getElem hlt]
  exact (srtI_perm _).nodup_iff.mpr h
def extQ (r : List Int) (L : List Int) : List Int := L ++ r.filter fun o => decide (o ∉ L)
def stepQ (n : Int) (ls : List (Int × Int)) (L : List Int) (k : Nat) : List Int := if k < L.length then extQ (rowAt n ls (nI L (k : Int))) L else L
def queue (n : Int) (ls : List (Int × Int)) (p : Int) : Nat → List Int
  | 0 => [p]
  | k + 1 => stepQ n ls (queue n ls p k) k
inductive Rch (n : Int) (ls : List (Int × Int)) : Int → Int → Prop
  | refl (p : Int) : Rch n ls p p
  | step {p v u : Int} : Rch n ls p v → u ∈ rowAt n ls v → Rch n ls p u
section
variable {n : Int} {ls : List (Int × Int)} {p : Int}
theorem queue_le {k : Nat} : ∃ t, queue n ls p (k + 1) = queue n ls p k ++ t := by
  show ∃ t, stepQ n ls (queue n ls p k) k = _
  unfold stepQ extQ
  split
  · exact ⟨_, rfl⟩
  · exact ⟨[], by simp⟩
theorem queue_pre {k : Nat} : ∀ {m : Nat}, k ≤ m → ∃ t, queue n ls p m = queue n ls p k ++ t
  | 0, h => by
    have : k = 0 := by omega
    subst this
    exact ⟨[], by simp⟩
  | m + 1, h => by
    by_cases c : k = m + 1
    · subst c; exact ⟨[], by simp⟩
    · obtain ⟨t, e⟩ := queue_pre (k := k) (m := m) (by omega)
      obtain ⟨t2, e2⟩ := queue_le (n := n) (ls := ls) (p := p) (k := m)
      exact ⟨t ++ t2, by rw [e2, e, List.append_assoc]⟩
theorem queue_all (hl : Lines n ls) (h0 : 0 ≤ p) (h1 : p < n) : ∀ k, (queue n ls p k).Nodup ∧ ∀ x ∈ queue n ls p k, (0 ≤ x ∧ x < n) ∧ Rch n ls p x
  | 0 => ⟨by show [p].Nodup; simp, fun x m => by rw [List.mem_singleton.mp m]; exact ⟨⟨h0, h1⟩, .refl p⟩⟩
  | k + 1 => by
    obtain ⟨a, b⟩ := queue_all hl h0 h1 k
    show (stepQ n ls (queue n ls p k) k).Nodup ∧ ∀ x ∈ stepQ n ls (queue n ls p k) k, _
    unfold stepQ extQ
    split
    case isFalse => exact ⟨a, b⟩
    case isTrue c =>
      have vm := nI_mem (xs := queue n ls p k) (i := (k : Int)) (by omega) (by omega)
      obtain ⟨vr, vp⟩ := b _ vm
      refine ⟨List.nodup_append.mpr ⟨a, (rowAt_nodup hl vr.1 vr.2).filter _, fun x hx y hy e => ?_⟩, fun x m => ?_⟩
      · subst e
        have := (List.mem_filter.mp hy).2
        simp only [decide_eq_true_eq] at this
        exact this hx
      · rcases List.mem_append.mp m with m | m
        · exact b x m
        · have m := (List.mem_filter.mp m).1
          exact ⟨rowAt_mem hl vr.1 vr.2 x m, .step vp m⟩
theorem queue_len (hl : Lines n ls) (h0 : 0 ≤ p) (h1 : p < n) (k : Nat) : (queue n ls p k).length ≤ n.toNat := by
  obtain ⟨a, b⟩ := queue_all hl h0 h1 k
  have := nodup_sub (m := (List.range n.toNat).map fun i : Nat => (i : Int)) a fun x m => by
    have := (b x m).1
    exact List.mem_map.mpr ⟨x.toNat, List.mem_range.mpr (by omega), by omega⟩
  rwa [List.length_map, List.length_range] at this
theorem queue_stay {k : Nat} (h : (queue n ls p k).length ≤ k) : ∀ m, k ≤ m → queue n ls p m = queue n ls p k
  | 0, hm => by
    have : k = 0 := by omega
    rw [this]
  | m + 1, hm => by
    by_cases c : k = m + 1
    · rw [c]
    · have e := queue_stay h m (by omega)
      show stepQ n ls (queue n ls p m) m = _
      rw [e]
      unfold stepQ
      rw [if_neg (by omega)]
/-- the piece, as it is found -/
def pieceQ (n : Int) (ls : List (Int × Int)) (p : Int) : List Int := queue n ls p n.toNat
theorem piece_closed (hl : Lines n ls) (h0 : 0 ≤ p) (h1 : p < n) {v u : Int} (hv : v ∈ pieceQ n ls p) (hu : u ∈ rowAt n ls v) : u ∈ pieceQ n ls p := by
  obtain ⟨j, hj, e⟩ := List.mem_iff_getElem.mp hv
  have len := queue_len hl h0 h1 n.toNat
  have jn : j < n.toNat := by unfold pieceQ at hj; omega
  have lj : j < (queue n ls p j).length := by
    refine Classical.byContradiction fun c => ?_
    have := queue_stay (n := n) (ls := ls) (p := p) (k := j) (by omega) n.toNat (by omega)
    unfold pieceQ at hj
    rw [this] at hj
    exact c hj
  obtain ⟨t, et⟩ := queue_pre (n := n) (ls := ls) (p := p) (k := j) (m := n.toNat) (by omega)
  have e2 : nI (queue n ls p j) (j : Int) = v := by
    rw [nI_nat lj, ← e]
    unfold pieceQ
    simp only [et]
    rw [List.getElem_append_left lj]
  obtain ⟨t2, et2⟩ := queue_pre (n := n) (ls := ls) (p := p) (k := j + 1) (m := n.toNat) (by omega)
  unfold pieceQ
  rw [et2]
  refine List.mem_append_left _ ?_
  show u ∈ stepQ n ls (queue n ls p j) j
  unfold stepQ extQ
  rw [if_pos lj, e2]
  by_cases c : u ∈ queue n ls p j
  · exact List.mem_append_left _ c
  · exact List.mem_append_right _ (List.mem_filter.mpr ⟨hu, by simpa using c⟩)
theorem piece_iff (hl : Lines n ls) (h0 : 0 ≤ p) (h1 : p < n) {x : Int} : x ∈ pieceQ n ls p ↔ Rch n ls p x := by
  refine ⟨fun m => ((queue_all hl h0 h1 n.toNat).2 x m).2, fun r => ?_⟩
  induction r with
  | refl =>
    obtain ⟨t, e⟩ := queue_pre (n := n) (ls := ls) (p := p) (k := 0) (m := n.toNat) (by omega)
    unfold pieceQ
    rw [e]
    exact List.mem_append_left _ List.mem_cons_self
  | step _ m ih => exact piece_closed hl h0 h1 ih m
theorem Rch.trans {a b c : Int} (h : Rch n ls a b) (g : Rch n ls b c) : Rch n ls a c := by
  induction g with
  | refl => exact h
  | step _ m ih => exact .step ih m
theorem Rch.symm (hl : Lines n ls) {a b : Int} (h : Rch n ls a b) (h0 : 0 ≤ a) (h1 : a < n) : (0 ≤ b ∧ b < n) ∧ Rch n ls b a := by
  induction h with
  | refl => exact ⟨⟨h0, h1⟩, .refl _⟩
  | step _ m ih =>
    obtain ⟨vr, r⟩ := ih
    have ur := rowAt_mem hl vr.1 vr.2 _ m
    exact ⟨ur, Rch.trans (.step (.refl _) ((rowAt_symm hl vr.1 vr.2 ur.1 ur.2).mp m)) r⟩
end
end FR
end
section
set_option Elab.async false
set_option linter.all false
set_option maxRecDepth 100000
namespace FR
open PySem L2 DI
/-! the groups, plain -/
/-- the groups, the places done -/
def grp (n : Int) (ls : List (Int × Int)) : Nat → List (List Int) × List Int
  | 0 => ([], [])
  | k + 1 => if (k : Int) ∈ (grp n ls k).2 then grp n ls k else ((grp n ls k).1 ++ [srtI (pieceQ n ls (k : Int))], (grp n ls k).2 ++ pieceQ n ls (k : Int))
theorem grp_len {n : Int} {ls : List (Int × Int)} (hl : Lines n ls) : ∀ k : Nat, k ≤ n.toNat → (grp n ls k).2.length ≤ k * n.toNat ∧ (grp n ls k).1.length ≤ k
  | 0, _ => ⟨by show ([] : List Int).length ≤ _; simp, Nat.le_refl _⟩
  | k + 1, h => by
    obtain ⟨a, b⟩ := grp_len hl k (by omega)
    have q := queue_len (p := (k : Int)) hl (by omega) (by omega) n.toNat
    unfold grp
    split
    · exact ⟨Nat.le_trans a (Nat.mul_le_mul_right _ (by omega)), by omega⟩
    · refine ⟨?_, by rw [List.length_append, List.length_singleton]; omega⟩
      rw [List.length_append, Nat.succ_mul]
      unfold pieceQ
      omega
end FR
end
section
set_option Elab.async false
set_option linter.all false
set_option maxRecDepth 100000
namespace FR
open PySem L2 DI
/-! the forest: parents by the rounds of the queues -/
def updL (xs : List Int) (v : Int) (f : Int → Option Int) : Int → Option Int := fun y => if y ∈ xs then some v else f y
def newQ (n : Int) (ls : List (Int × Int)) (L : List Int) (k : Nat) : List Int := (rowAt n ls (nI L (k : Int))).filter fun o => decide (o ∉ L)
def parQ (n : Int) (ls : List (Int × Int)) (p : Int) (g : Int → Option Int) : Nat → Int → Option Int
  | 0 => g
  | k + 1 => if k < (queue n ls p k).length then updL (newQ n ls (queue n ls p k) k) (nI (queue n ls p k) (k : Int)) (parQ n ls p g k) else parQ n ls p g k
def par (n : Int) (ls : List (Int × Int)) : Nat → Int → Option Int
  | 0 => fun _ => none
  | k + 1 => if (k : Int) ∈ (grp n ls k).2 then par n ls k else parQ n ls (k : Int) (par n ls k) n.toNat
/-- the parents of the places found -/
structure Fst (n : Int) (ls : List (Int × Int)) (K : List Int) (P : Int → Option Int) : Prop where
  nd : K.Nodup
  rg : ∀ x ∈ K, 0 ≤ x ∧ x < n
  out : ∀ x, x ∉ K → P x = none
  par : ∀ x ∈ K, ∀ v, P x = some v → v ∈ K ∧ v ∈ rowAt n ls x ∧ K.idxOf v < K.idxOf x
  one : ∀ x ∈ K, ∀ y ∈ K, P x = none → P y = none → Rch n ls x y → x = y
section
variable {n : Int} {ls : List (Int × Int)}
theorem idxOf_app {K xs : List Int} {x : Int} (h : x ∈ K) : (K ++ xs).idxOf x = K.idxOf x := by
  rw [List.idxOf_append, if_pos h]
theorem idxOf_app2 {K xs : List Int} {x : Int} (h : x ∉ K) : K.length ≤ (K ++ xs).idxOf x := by
  rw [List.idxOf_append, if_neg h]
  omega
theorem Fst.ext {K : List Int} {P : Int → Option Int} (h : Fst n ls K P) (hl : Lines n ls) {v : Int} (hv : v ∈ K) {xs : List Int} (nd : xs.Nodup) (dj : ∀ x ∈ xs, x ∉ K) (hr : ∀ x ∈ xs, x ∈ rowAt n ls v) : Fst n ls (K ++ xs) (updL xs v P) := by
  have vr := h.rg v hv
  have xr : ∀ x ∈ xs, 0 ≤ x ∧ x < n := fun x hx => rowAt_mem hl vr.1 vr.2 x (hr x hx)
  have some_ : ∀ x ∈ xs, updL xs v P x = some v := fun x hx => if_pos hx
  have old : ∀ x, x ∉ xs → updL xs v P x = P x := fun x hx => if_neg hx
  refine ⟨List.nodup_append.mpr ⟨h.nd, nd, fun a ha b hb e => dj b hb (e ▸ ha)⟩, fun x hx => (List.mem_append.mp hx).elim (h.rg x) (xr x), fun x hx => ?_, fun x hx u hu => ?_, fun x hx y hy px py r => ?_⟩
  · rw [old x fun m => hx (List.mem_append_right _ m)]
    exact h.out x fun m => hx (List.mem_append_left _ m)
  · by_cases c : x ∈ xs
    · rw [some_ x c] at hu
      cases hu
      refine ⟨List.mem_append_left _ hv, (rowAt_symm hl vr.1 vr.2 (xr x c).1 (xr x c).2).mp (hr x c), ?_⟩
      rw [idxOf_app hv]
      exact Nat.lt_of_lt_of_le (List.idxOf_lt_length_of_mem hv) (idxOf_app2 (dj x c))
    · rw [old x c] at hu
      have hx := (List.mem_append.mp hx).resolve_right c
      obtain ⟨a1, a2, a3⟩ := h.par x hx u hu
      refine ⟨List.mem_append_left _ a1, a2, ?_⟩
      rw [idxOf_app a1, idxOf_app hx]
      exact a3
  · have nx : x ∉ xs := fun m => by rw [some_ x m] at px; cases px
    have ny : y ∉ xs := fun m => by rw [some_ y m] at py; cases py
    rw [old x nx] at px
    rw [old y ny] at py
    exact h.one x ((List.mem_append.mp hx).resolve_right nx) y ((List.mem_append.mp hy).resolve_right ny) px py r
theorem Fst.root {K : List Int} {P : Int → Option Int} (h : Fst n ls K P) (hl : Lines n ls) {p : Int} (p0 : 0 ≤ p) (p1 : p < n) (hp : ∀ x, Rch n ls p x → x ∉ K) : Fst n ls (K ++ [p]) P := by
  have np := hp p (.refl p)
  refine ⟨List.nodup_append.mpr ⟨h.nd, by simp, fun a ha b hb e => np (by rw [← List.mem_singleton.mp hb, ← e]; exact ha)⟩, fun x hx => (List.mem_append.mp hx).elim (h.rg x) fun m => by rw [List.mem_singleton.mp m]; exact ⟨p0, p1⟩, fun x hx => h.out x fun m => hx (List.mem_append_left _ m), fun x hx u hu => ?_, fun x hx y hy px py r => ?_⟩
  · have hx2 : x ∈ K := by
      rcases List.mem_append.mp hx with m | m
      · exact m
      · rw [List.mem_singleton.mp m, h.out p np] at hu
        cases hu
    obtain ⟨a1, a2, a3⟩ := h.par x hx2 u hu
    refine ⟨List.mem_append_left _ a1, a2, ?_⟩
    rw [idxOf_app a1, idxOf_app hx2]
    exact a3
  · rcases List.mem_append.mp hx with m1 | m1 <;> rcases List.mem_append.mp hy with m2 | m2
    · exact h.one x m1 y m2 px py r
    · rw [List.mem_singleton.mp m2] at r
      have xr := h.rg x m1
      exact absurd m1 (hp x (r.symm hl xr.1 xr.2).2)
    · rw [List.mem_singleton.mp m1] at r
      exact absurd m2 (hp y r)
    · rw [List.mem_singleton.mp m1, List.mem_singleton.mp m2]
theorem queue_new {p : Int} {k : Nat} (c : k < (queue n ls p k).length) : queue n ls p (k + 1) = queue n ls p k ++ newQ n ls (queue n ls p k) k := by
  show stepQ n ls (queue n ls p k) k = _
  unfold stepQ
  rw [if_pos c]
  rfl
theorem parQ_new {p : Int} {g : Int → Option Int} {k : Nat} (c : k < (queue n ls p k).length) : parQ n ls p g (k + 1) = updL (newQ n ls (queue n ls p k) k) (nI (queue n ls p k) (k : Int)) (parQ n ls p g k) := by
  conv => lhs; unfold parQ
  rw [if_pos c]
theorem queue_old {p : Int} {k : Nat} (c : ¬ k < (queue n ls p k).length) : queue n ls p (k + 1) = queue n ls p k := by
  show stepQ n ls (queue n ls p k) k = _
  unfold stepQ
  rw [if_neg c]
theorem parQ_old {p : Int} {g : Int → Option Int} {k : Nat} (c : ¬ k < (queue n ls p k).length) : parQ n ls p g (k + 1) = parQ n ls p g k := by
  conv => lhs; unfold parQ
  rw [if_neg c]
theorem newQ_ok (hl : Lines n ls) {p : Int} (p0 : 0 ≤ p) (p1 : p < n) {k : Nat} (c : k < (queue n ls p k).length) : nI (queue n ls p k) (k : Int) ∈ queue n ls p k ∧ (newQ n ls (queue n ls p k) k).Nodup ∧ ∀ x ∈ newQ n ls (queue n ls p k) k, x ∉ queue n ls p k ∧ x ∈ rowAt n ls (nI (queue n ls p k) (k : Int)) := by
  have vm := nI_mem (xs := queue n ls p k) (i := (k : Int)) (by omega) (by omega)
  have vr := ((queue_all hl p0 p1 k).2 _ vm).1
  refine ⟨vm, (rowAt_nodup hl vr.1 vr.2).filter _, fun x hx => ?_⟩
  obtain ⟨h1, h2⟩ := List.mem_filter.mp hx
  exact ⟨by simpa using h2, h1⟩
theorem fst_queue (hl : Lines n ls) {K : List Int} {g : Int → Option Int} (h : Fst n ls K g) {p : Int} (p0 : 0 ≤ p) (p1 : p < n) (hp : ∀ x, Rch n ls p x → x ∉ K) : ∀ k, Fst n ls (K ++ queue n ls p k) (parQ n ls p g k)
  | 0 => h.root hl p0 p1 hp
  | k + 1 => by
    have ih := fst_queue hl h p0 p1 hp k
    by_cases c : k < (queue n ls p k).length
    · obtain ⟨a1, a2, a3⟩ := newQ_ok hl p0 p1 c
      rw [queue_new c, parQ_new c, ← List.append_assoc]
      have qa := queue_all hl p0 p1 (k + 1)
      rw [queue_new c] at qa
      exact ih.ext hl (List.mem_append_right _ a1) a2 (fun x hx m => (List.mem_append.mp m).elim (hp x (qa.2 x (List.mem_append_right _ hx)).2) (a3 x hx).1) fun x hx => (a3 x hx).2
    · rw [queue_old c, parQ_old c]
      exact ih
theorem grp_succ (k : Nat) : grp n ls (k + 1) = if (k : Int) ∈ (grp n ls k).2 then grp n ls k else ((grp n ls k).1 ++ [srtI (pieceQ n ls (k : Int))], (grp n ls k).2 ++ pieceQ n ls (k : Int)) := by
  conv => lhs; unfold grp
theorem par_succ (k : Nat) : par n ls (k + 1) = if (k : Int) ∈ (grp n ls k).2 then par n ls k else parQ n ls (k : Int) (par n ls k) n.toNat := by
  conv => lhs; unfold par
/-- what is found stays whole -/
theorem grp_closed (hl : Lines n ls) : ∀ k : Nat, k ≤ n.toNat → ∀ x ∈ (grp n ls k).2, (0 ≤ x ∧ x < n) ∧ ∀ y, Rch n ls x y → y ∈ (grp n ls k).2
  | 0, _, x, m => nomatch m
  | k + 1, h, x, m => by
    rw [grp_succ] at m ⊢
    split at m
    · rename_i c
      rw [if_pos c]
      exact grp_closed hl k (by omega) x m
    · rename_i c
      rw [if_neg c]
      rcases List.mem_append.mp m with m | m
      · obtain ⟨a, b⟩ := grp_closed hl k (by omega) x m
        exact ⟨a, fun y r => List.mem_append_left _ (b y r)⟩
      · have q := queue_all (p := (k : Int)) hl (by omega) (by omega) n.toNat
        obtain ⟨a, b⟩ := q.2 x m
        exact ⟨a, fun y r => List.mem_append_right _ ((piece_iff hl (by omega) (by omega)).mpr (b.trans r))⟩
theorem grp_apart (hl : Lines n ls) {k : Nat} (hk : k < n.toNat) (c : (k : Int) ∉ (grp n ls k).2) : ∀ x, Rch n ls (k : Int) x → x ∉ (grp n ls k).2 := fun x r m => by
  obtain ⟨a, b⟩ := grp_closed hl k (by omega) x m
  exact c (b _ (r.symm hl (by omega) (by omega)).2)
theorem grp_cover (hl : Lines n ls) : ∀ k : Nat, k ≤ n.toNat → ∀ j : Nat, j < k → (j : Int) ∈ (grp n ls k).2
  | 0, _, j, h => absurd h (Nat.not_lt_zero j)
  | k + 1, h, j, hj => by
    rw [grp_succ]
    split
    · rename_i c
      by_cases e : j = k
      · rw [e]; exact c
      · exact grp_cover hl k (by omega) j (by omega)
    · by_cases e : j = k
      · subst e
        exact List.mem_append_right _ ((piece_iff hl (by omega) (by omega)).mpr (.refl _))
      · exact List.mem_append_left _ (grp_cover hl k (by omega) j (by omega))
theorem par_fst (hl : Lines n ls) : ∀ k : Nat, k ≤ n.toNat → Fst n ls (grp n ls k).2 (par n ls k)
  | 0, _ => ⟨List.nodup_nil, fun _ m => (nomatch m), fun _ _ => rfl, fun _ m => (nomatch m), fun _ m => (nomatch m)⟩
  | k + 1, h => by
    have ih := par_fst hl k (by omega)
    rw [grp_succ, par_succ]
    by_cases c : (k : Int) ∈ (grp n ls k).2
    · rw [if_pos c, if_pos c]; exact ih
    · rw [if_neg c, if_neg c]
      exact fst_queue hl ih (by omega) (by omega) (grp_apart hl (by omega) c) n.toNat
/-- the parents of a web's places -/
abbrev parE (n : Int) (ls : List (Int × Int)) : Int → Option Int := par n ls n.toNat
abbrev allK (n : Int) (ls : List (Int × Int)) : List Int := (grp n ls n.toNat).2
theorem allK_mem (hl : Lines n ls) {x : Int} : x ∈ allK n ls ↔ 0 ≤ x ∧ x < n := by
  constructor
  · exact fun m => (grp_closed hl n.toNat (Nat.le_refl _) x m).1
  · rintro ⟨a, b⟩
    have := grp_cover hl n.toNat (Nat.le_refl _) x.toNat (by omega)
    rwa [Int.toNat_of_nonneg a] at this
theorem allK_len (hl : Lines n ls) : (allK n ls).length = n.toNat := by
  have nd : (allK n ls).Nodup := (par_fst hl n.toNat (Nat.le_refl _)).nd
  have a := nodup_sub (m := (List.range n.toNat).map fun i : Nat => (i : Int)) nd fun x m => by
    have := (allK_mem hl).mp m
    exact List.mem_map.mpr ⟨x.toNat, List.mem_range.mpr (by omega), by omega⟩
  have b := nodup_sub (l := (List.range n.toNat).map fun i : Nat => (i : Int)) (m := allK n ls) (by
    refine List.Pairwise.map _ (fun a b h e => h (by omega)) List.nodup_range) fun x m => by
    obtain ⟨i, hi, rfl⟩ := List.mem_map.mp m
    have := List.mem_range.mp hi
    exact (allK_mem hl).mpr (by omega)
  rw [List.length_map, List.length_range] at a b
  show (allK n ls).length = _
  omega
/-- a line to a parent -/
def isT (n : Int) (ls : List (Int × Int)) (p : Int × Int) : Bool := decide (parE n ls p.1 = some p.2 ∨ parE n ls p.2 = some p.1)
end
end FR
end
section
set_option Elab.async false
set_option linter.all false
set_option maxRecDepth 100000
namespace FR
open PySem L2 DI
theorem extQ_snoc {pr L : List Int} {x : Int} (h : x ∉ pr) : (x ∈ extQ pr L ↔ x ∈ L) ∧ extQ (pr ++ [x]) L = if x ∈ L then extQ pr L else extQ pr L ++ [x] := by
  unfold extQ
  constructor
  · constructor
    · intro m
      rcases List.mem_append.mp m with m | m
      · exact m
      · exact absurd (List.mem_filter.mp m).1 h
    · exact fun m => List.mem_append_left _ m
  · rw [List.filter_append]
    by_cases c : x ∈ L
    · rw [if_pos c]
      simp [c]
    · rw [if_neg c]
      simp [c]
end FR
end
section
set_option Elab.async false
set_option linter.all false
set_option maxRecDepth 100000
namespace FR
open PySem L2 DI
/-! a dict whose keys are ints -/
def kI (xs : List Int) : List Key := xs.map Sum.inl
def kd (K : List Int) (e : Int → D) : T := .dct (kI K) ((K.map e).map .im)
theorem kIx_mem : ∀ {K : List Int} {x : Int}, (kIx (kI K) (.inl x)).isSome = decide (x ∈ K)
  | [], x => by simp [kI, kIx]
  | y :: K, x => by
    show (kIx (Sum.inl y :: kI K) (.inl x)).isSome = _
    rw [kIx_cons]
    by_cases e : y = x
    · subst e
      rw [if_pos rfl]
      simp
    · rw [if_neg (fun z => e (Sum.inl.inj z)), Option.isSome_map, kIx_mem]
      have : ¬ x = y := fun z => e z.symm
      simp [this]
theorem kIx_no {K : List Int} {x : Int} (h : x ∉ K) : kIx (kI K) (.inl x) = none := by
  have := kIx_mem (K := K) (x := x)
  rw [decide_eq_false h] at this
  cases q : kIx (kI K) (.inl x) with
  | none => rfl
  | some j => rw [q] at this; cases this
theorem put_new {K : List Int} {x : Int} {ds : List D} {d : D} (h : x ∉ K) : putKs (kI K) (.inl x) = kI (K ++ [x]) ∧ putXs (kI K) ds (.inl x) d = ds ++ [d] := by
  have e := kIx_no h
  constructor
  · unfold putKs
    rw [e]
    unfold kI
    rw [List.map_append]
    rfl
  · unfold putXs
    rw [e]
theorem dctI_kd {K : List Int} {e : Int → D} : dctI (some (some (kd K e))) = some (kI K, K.map e) := by
  unfold dctI kd
  show (imms ((K.map e).map .im)).map (fun ds => (kI K, ds)) = _
  rw [ev_imms]
  rfl
section
variable {st : LS} {i : Nat} {f g : LS → R D} {K : List Int} {e : Int → D} {x : Int}
theorem ev_dnin (h1 : st[i]? = some (some (kd K e))) (h2 : f st = .ok (.int x)) : dinE true i f st = .ok (.bl (!decide (x ∈ K))) := by
  unfold dinE
  rw [h2, h1, dctI_kd]
  show R.ok (D.bl (if true = true then !(kIx (kI K) (.inl x)).isSome else (kIx (kI K) (.inl x)).isSome)) = _
  rw [if_pos rfl, kIx_mem]
theorem ev_dput {v : D} (h1 : st[i]? = some (some (kd K e))) (h2 : g st = .ok (.int x)) (h3 : f st = .ok v) (hx : x ∉ K) (hl : K.length < 16777216) (e' : Int → D) (he : ∀ y ∈ K, e' y = e y) (hv : e' x = v) : dputS i g f st = .nx (st.set i (some (kd (K ++ [x]) e'))) := by
  unfold dputS
  rw [h1, dctI_kd]
  show (f st).out st _ = _
  rw [h3]
  show (g st).out st _ = _
  rw [h2]
  show (if (K.map e).length < sizeLine then Out.nx (st.set i (some (.dct (putKs (kI K) (.inl x)) ((putXs (kI K) (K.map e) (.inl x) v).map T.im)))) else Out.bad) = _
  rw [List.length_map, if_pos (by show K.length < 16777216; exact hl), (put_new (ds := []) (d := D.non) hx).1, (put_new hx).2]
  unfold kd
  have : K.map e ++ [v] = (K ++ [x]).map e' := by
    rw [List.map_append, List.map_congr_left he, ← hv]
    rfl
  rw [this]
end
end FR
end
section
set_option Elab.async false
set_option linter.all false
set_option maxRecDepth 100000
namespace FR
open PySem L2 DI
theorem while_go {b : LS → R Bool} {F : LS → Out} (P : Nat → LS → Prop) (step : ∀ k s, P (k + 1) s → b s = .ok true ∧ ∃ k' s2, k' ≤ k ∧ F s = .nx s2 ∧ P k' s2) (stop : ∀ s, P 0 s → b s = .ok false) :
    ∀ (N k : Nat) (s : LS), k < N → P k s → ∃ s', whileL b F N s = .nx s' ∧ P 0 s'
  | 0, k, s, h, _ => by omega
  | N + 1, 0, s, _, p => by
    refine ⟨s, ?_, p⟩
    unfold whileL
    rw [stop s p]
    rfl
  | N + 1, k + 1, s, h, p => by
    obtain ⟨e1, k', s2, hk, e2, p2⟩ := step k s p
    obtain ⟨s', e3, p3⟩ := while_go P step stop N k' s2 (by omega) p2
    refine ⟨s', ?_, p3⟩
    unfold whileL
    rw [e1]
    show (match F s with
      | .nx st2 => whileL b F N st2
      | .ct st2 => whileL b F N st2
      | .bk st2 => .nx st2
      | o => o) = _
    rw [e2]
    exact e3
theorem while_hL {b : LS → R Bool} {F : LS → Out} {N : Nat} {s : LS} {o : Out} (hW : whileL b F N s = o) (P : Nat → LS → Prop) (h0 : ∃ k, k < N ∧ P k s) (step : ∀ k s, P (k + 1) s → b s = .ok true ∧ ∃ k' s2, k' ≤ k ∧ F s = .nx s2 ∧ P k' s2) (stop : ∀ s, P 0 s → b s = .ok false) : ∃ s', o = .nx s' ∧ P 0 s' := by
  obtain ⟨k, hk, p⟩ := h0
  rw [← hW]
  exact while_go P step stop N k s hk p
end FR
end
section
set_option Elab.async false
set_option linter.all false
set_option maxRecDepth 100000
namespace FR
open PySem L2 DI
/-! walks judged -/
theorem ev_notInL {x : Int} {xs : List Int} : dNotIn (.int x) (.lst (xs.map .int)) = some (.bl (!decide (x ∈ xs))) := by
  have h := ev_inL (x := x) (xs := xs)
  unfold dIn at h
  unfold dNotIn
  cases q : dInB (.int x) (.lst (xs.map .int)) with
  | none => rw [q] at h; cases h
  | some b =>
    rw [q] at h
    injection h with h
    injection h with h
    rw [← h]
    rfl
end FR
end
section
set_option Elab.async false
set_option linter.all false
set_option maxRecDepth 100000
namespace FR
open PySem L2 DI
/-! the program's forest -/
def eO : Option Int → D
  | none => .non
  | some v => .int v
theorem ev_setISE {α : Type} {enc : α → D} {i : Nat} {f : LS → R T} {g : LS → R D} {st : LS} {xs : List α} {j : Int} {v : α} (h1 : st[i]? = some (some (tE enc xs))) (h2 : f st = .ok (.im (enc v))) (h3 : g st = .ok (.int j)) (h4 : 0 ≤ j) (h5 : j < xs.length) :
    setIS i f g st = .nx (st.set i (some (tE enc (xs.set j.toNat v)))) := by
  have e1 : ownL st[i]? = some (xs.map (T.im ∘ enc)) := by rw [h1]; rfl
  have e2 : placeD (xs.map (T.im ∘ enc)).length (.int j) = some j.toNat := by
    show ixN (xs.map (T.im ∘ enc)).length j = _
    unfold ixN
    rw [if_pos h4, if_pos (by rw [List.length_map]; exact h5)]
  unfold setIS
  rw [e1]
  show (f st).out st _ = _
  rw [h2]
  show (g st).out st _ = _
  rw [h3]
  show (match placeD (xs.map (T.im ∘ enc)).length (.int j) with
    | some j => Out.nx (st.set i (some (.lst ((xs.map (T.im ∘ enc)).set j (.im (enc v))))))
    | none => .bad) = _
  rw [e2]
  unfold tE
  rw [List.map_set]
  rfl
/-- the list of a map of places -/
def lsO (N : Nat) (f : Int → Option Int) : List (Option Int) := (List.range N).map fun i : Nat => f (i : Int)
theorem lsO_set {N : Nat} {f : Int → Option Int} {x : Int} (x0 : 0 ≤ x) (v : Int) : (lsO N f).set x.toNat (some v) = lsO N fun y => if y = x then some v else f y := by
  unfold lsO
  apply List.ext_getElem?
  intro j
  by_cases h : j < N
  · by_cases e : x.toNat = j
    · rw [e, List.getElem?_set_self (by simpa using h), List.getElem?_map, List.getElem?_range h]
      have : (j : Int) = x := by omega
      simp [this]
    · rw [List.getElem?_set_ne e, List.getElem?_map, List.getElem?_map, List.getElem?_range h]
      have : ¬ (j : Int) = x := by omega
      simp [this]
  · rw [List.getElem?_eq_none (by simp; omega), List.getElem?_eq_none (by simp; omega)]
theorem lsO_len {N : Nat} {f : Int → Option Int} : (lsO N f).length = N := by unfold lsO; simp
theorem updL_snoc {xs : List Int} {v x : Int} {f : Int → Option Int} : (fun y => if y = x then some v else updL xs v f y) = updL (xs ++ [x]) v f := by
  funext y
  unfold updL
  by_cases c : y = x
  · rw [if_pos c, if_pos (by simp [c])]
  · rw [if_neg c]
    by_cases m : y ∈ xs
    · rw [if_pos m, if_pos (by simp [m])]
    · rw [if_neg m, if_neg (by simp [m, c])]
theorem filter_snoc {pr Q : List Int} {x : Int} : (pr ++ [x]).filter (fun o => decide (o ∉ Q)) = if x ∈ Q then pr.filter (fun o => decide (o ∉ Q)) else pr.filter (fun o => decide (o ∉ Q)) ++ [x] := by
  rw [List.filter_append]
  by_cases c : x ∈ Q
  · rw [if_pos c]
    simp [c]
  · rw [if_neg c]
    simp [c]
set_option maxHeartbeats 4000000 in
theorem forest_ok {n : Int} {ls : List (Int × Int)} (hl : Lines n ls) (hn0 : 0 ≤ n) (hn2 : n ≤ 1000) : d_forest [webD n ls] = .ok (.tup ((lsO n.toNat (parE n ls)).map eO)) := by
  unfold d_forest
  have fs : dFld fl_size (webD n ls) = some (.int n) := rfl
  have wa : dFld fl_around (webD n ls) = some (rowsT (arnd n ls)) := rfl
  have rp : dRep (.lst [.non]) (.int n) = some ((lsO n.toNat fun _ => none).map eO) := by
    have e : (lsO n.toNat fun _ => none).map eO = List.replicate n.toNat .non := by
      unfold lsO
      rw [List.map_map]
      show (List.range n.toNat).map (fun _ => D.non) = _
      rw [List.map_const', List.length_range]
    rw [e]
    show repD [.non] n = _
    unfold repD
    rw [if_pos ⟨by omega, by omega, by simp; omega⟩]
    simp
  have e0 : dnewF = fun _ => R.ok (kd [] fun _ => .bl true) := rfl
  have n16 : n.toNat ≤ 16777216 := by omega
  have im0 : imT ((lsO n.toNat fun _ => none).map eO) = tE eO (lsO n.toNat (par n ls 0)) := by
    unfold imT tE
    rw [List.map_map]
    rfl
  simp -implicitDefEqProofs (disch := first | omega | (simp -implicitDefEqProofs; done) | (simp -implicitDefEqProofs; omega)) [-List.map_map, BT.sub, ev_denI, ev_stI, ev_slfS, ev_slfE, ev_st0n, ev_mod, ev_div, ev_mul, ev_pow, ev_line, ev_rng1, ev_rng2, ev_ar, ev_arI, rangeD_length, fs, rp, e0]
  rw [im0]
  generalize hL : forL _ _ _ _ = o
  obtain ⟨s', rfl, j3, j4, j5, j6, rfl⟩ := loop (α := Nat) hL (fun pr s => ∃ (j3 j4 j5 j6 : Option T), s = [some (.im (webD n ls)), some (tE eO (lsO n.toNat (par n ls pr.length))), some (kd (grp n ls pr.length).2 fun _ => .bl true), j3, j4, j5, j6]) ⟨none, none, none, none, rfl⟩ (by
    rintro pr k po s q ⟨j3, j4, j5, j6, rfl⟩
    obtain ⟨e1, e2, e3⟩ := range_split q
    rw [List.length_append, List.length_singleton]
    subst e1
    generalize pr.length = k at *
    have dn : ∀ j4 j5 j6 : Option T, dinE true 2 (vi 3) [some (.im (webD n ls)), some (tE eO (lsO n.toNat (par n ls k))), some (kd (grp n ls k).2 fun _ => .bl true), some (.im (.int (k : Int))), j4, j5, j6] = .ok (.bl (!decide ((k : Int) ∈ (grp n ls k).2))) := fun _ _ _ => ev_dnin rfl rfl
    by_cases c : (k : Int) ∈ (grp n ls k).2
    · rw [grp_succ, par_succ, if_pos c, if_pos c]
      rw [decide_eq_true c] at dn
      exact ⟨_, by simp -implicitDefEqProofs (disch := first | omega | (simp -implicitDefEqProofs; done) | (simp -implicitDefEqProofs; omega)) [-List.map_map, BT.sub, ev_denI, ev_stI, ev_slfS, ev_slfE, ev_st0n, ev_mod, ev_div, ev_mul, ev_pow, ev_line, ev_rng1, ev_rng2, ev_ar, ev_arI, rangeD_length, ev_if, dn], some (.im (.int (k : Int))), j4, j5, j6, rfl⟩
    · rw [decide_eq_false c] at dn
      have ap := grp_apart hl e2 c
      have F := par_fst hl k (by omega)
      obtain ⟨Kl, _⟩ := grp_len hl k (by omega)
      have kn : (grp n ls k).2.length ≤ 1000000 := Nat.le_trans Kl (Nat.mul_le_mul (show k ≤ 1000 by omega) (show n.toNat ≤ 1000 by omega))
      rw [grp_succ, par_succ, if_neg c, if_neg c]
      generalize (grp n ls k).2 = K at *
      generalize par n ls k = g at *
      have dp : ∀ j4 j5 j6 : Option T, dputS 2 (vi 3) (cc (.bl true)) [some (.im (webD n ls)), some (tE eO (lsO n.toNat g)), some (kd K fun _ => .bl true), some (.im (.int (k : Int))), j4, j5, j6] = .nx [some (.im (webD n ls)), some (tE eO (lsO n.toNat g)), some (kd (K ++ [(k : Int)]) fun _ => .bl true), some (.im (.int (k : Int))), j4, j5, j6] := fun _ _ _ =>
        ev_dput rfl rfl rfl c (by omega) _ (fun _ _ => rfl) rfl
      refine (fun (h : ∃ j5 j6 : Option T, _ = Out.nx [some (.im (webD n ls)), some (tE eO (lsO n.toNat (parQ n ls (k : Int) g n.toNat))), some (kd (K ++ pieceQ n ls (k : Int)) fun _ => .bl true), some (.im (.int (k : Int))), some (tE D.int (pieceQ n ls (k : Int))), j5, j6]) => h.elim fun j5 h => h.elim fun j6 e => ⟨_, e, _, _, _, _, rfl⟩) ?_
      simp -implicitDefEqProofs (disch := first | omega | (simp -implicitDefEqProofs; done) | (simp -implicitDefEqProofs; omega)) [-List.map_map, BT.sub, ev_denI, ev_stI, ev_slfS, ev_slfE, ev_st0n, ev_mod, ev_div, ev_mul, ev_pow, ev_line, ev_rng1, ev_rng2, ev_ar, ev_arI, rangeD_length, ev_if, dn, dp]
      have im : imT [D.int (k : Int)] = tE D.int [(k : Int)] := rfl
      rw [im]
      generalize hW : whileL _ _ _ _ = o
      have p0 : (0 : Int) ≤ (k : Int) := by omega
      have p1 : (k : Int) < n := by omega
      generalize (k : Int) = p at *
      obtain ⟨s', rfl, a, j6', rfl, an, hk⟩ := while_hL hW (fun m s => ∃ (a : Nat) (j6 : Option T), s = [some (.im (webD n ls)), some (tE eO (lsO n.toNat (parQ n ls p g a))), some (kd (K ++ queue n ls p a) fun _ => .bl true), some (.im (.int p)), some (tE D.int (queue n ls p a)), some (.im (.int (a : Int))), j6] ∧ a ≤ n.toNat ∧ m = if a < (queue n ls p a).length then n.toNat - a else 0)
        ⟨n.toNat, (by unfold fuel; omega), 0, _, rfl, Nat.zero_le _, by rw [if_pos (by show 0 < [p].length; simp)]; rfl⟩
        (by
          rintro m s ⟨a, j6, rfl, an, hk⟩
          have ca : a < (queue n ls p a).length := by
            refine Classical.byContradiction fun z => ?_
            rw [if_neg z] at hk
            omega
          rw [if_pos ca] at hk
          have len := queue_len hl p0 p1 a
          have len2 := queue_len hl p0 p1 (a + 1)
          have qs := queue_new ca
          have qp := parQ_new (g := g) ca
          have vr := ((queue_all hl p0 p1 a).2 _ (nI_mem (xs := queue n ls p a) (i := (a : Int)) (by omega) (by omega))).1
          have vR := ((queue_all hl p0 p1 a).2 _ (nI_mem (xs := queue n ls p a) (i := (a : Int)) (by omega) (by omega))).2
          have i2 := around_idx (ls := ls) vr.1 vr.2
          have nd := rowAt_nodup hl vr.1 vr.2
          have rowK : ∀ x ∈ rowAt n ls (nI (queue n ls p a) (a : Int)), x ∉ K ∧ 0 ≤ x ∧ x < n := fun x hx => ⟨ap x (.step vR hx), rowAt_mem hl vr.1 vr.2 x hx⟩
          constructor
          · simp -implicitDefEqProofs (disch := first | omega | (simp -implicitDefEqProofs; done) | (simp -implicitDefEqProofs; omega)) [-List.map_map, BT.sub, ev_denI, ev_stI, ev_slfS, ev_slfE, ev_st0n, ev_mod, ev_div, ev_mul, ev_pow, ev_line, ev_rng1, ev_rng2, ev_ar, ev_arI, rangeD_length, ca]
          · refine (fun (h : ∃ j6' : Option T, _ = Out.nx [some (.im (webD n ls)), some (tE eO (lsO n.toNat (parQ n ls p g (a + 1)))), some (kd (K ++ queue n ls p (a + 1)) fun _ => .bl true), some (.im (.int p)), some (tE D.int (queue n ls p (a + 1))), some (.im (.int ((a : Int) + 1))), j6']) => h.elim fun j6' e => ⟨if a + 1 < (queue n ls p (a + 1)).length then n.toNat - (a + 1) else 0, _, by split <;> omega, e, a + 1, j6', by rw [Int.natCast_succ], by omega, rfl⟩) ?_
            rw [qs, qp]
            have lenE : ∀ pr po : List Int, rowAt n ls (nI (queue n ls p a) (a : Int)) = pr ++ po → (extQ pr (queue n ls p a)).length ≤ n.toNat := fun pr po e => by
              rw [qs] at len2
              unfold newQ at len2
              rw [e] at len2
              unfold extQ
              rw [List.filter_append] at len2
              simp only [List.length_append] at len2 ⊢
              omega
            clear qs qp len2
            obtain ⟨NW, hNW⟩ : ∃ NW, NW = newQ n ls (queue n ls p a) a := ⟨_, rfl⟩
            rw [← hNW]
            unfold newQ at hNW
            have iQ : ∀ t : List Int, dIdx (.lst ((queue n ls p a ++ t).map .int)) (.int (a : Int)) = some (.int (nI (queue n ls p a) (a : Int))) := fun t => by
              rw [ev_idxI (by omega) (by rw [List.length_append]; omega), nI_nat (by rw [List.length_append]; omega), nI_nat ca, List.getElem_append_left ca]
            have i1 := iQ []
            rw [List.append_nil] at i1
            generalize rowAt n ls (nI (queue n ls p a) (a : Int)) = row at *
            generalize nI (queue n ls p a) (a : Int) = v at *
            generalize queue n ls p a = Q at *
            generalize parQ n ls p g a = f at *
            simp -implicitDefEqProofs (disch := first | omega | (simp -implicitDefEqProofs; done) | (simp -implicitDefEqProofs; omega)) [-List.map_map, BT.sub, ev_denI, ev_stI, ev_slfS, ev_slfE, ev_st0n, ev_mod, ev_div, ev_mul, ev_pow, ev_line, ev_rng1, ev_rng2, ev_ar, ev_arI, rangeD_length, wa, i1, i2]
            generalize hL2 : forL _ _ _ _ = o2
            obtain ⟨s', rfl, j6', rfl⟩ := loop hL2 (fun pr s => ∃ j6, s = [some (.im (webD n ls)), some (tE eO (lsO n.toNat (updL (pr.filter fun o => decide (o ∉ Q)) v f))), some (kd (K ++ extQ pr Q) fun _ => .bl true), some (.im (.int p)), some (tE D.int (extQ pr Q)), some (.im (.int (a : Int))), j6]) ⟨j6, by
                have : updL (([] : List Int).filter fun o => decide (o ∉ Q)) v f = f := by
                  funext y
                  unfold updL
                  rw [if_neg (by simp)]
                rw [this]
                simp [extQ]⟩ (by
              rintro pr x po s q ⟨j6, rfl⟩
              have xp : x ∉ pr := fun m => by
                rw [q] at nd
                exact (List.nodup_append.mp nd).2.2 x m x List.mem_cons_self rfl
              obtain ⟨m1, m2⟩ := extQ_snoc (L := Q) xp
              obtain ⟨xK, x0, x1⟩ := rowK x (by rw [q]; simp)
              have le := lenE pr (x :: po) q
              refine ⟨[some (.im (webD n ls)), some (tE eO (lsO n.toNat (updL ((pr ++ [x]).filter fun o => decide (o ∉ Q)) v f))), some (kd (K ++ extQ (pr ++ [x]) Q) fun _ => .bl true), some (.im (.int p)), some (tE D.int (extQ (pr ++ [x]) Q)), some (.im (.int (a : Int))), some (.im (.int x))], ?_, _, rfl⟩
              have iE : dIdx (.lst ((extQ pr Q).map .int)) (.int (a : Int)) = some (.int v) := iQ _
              rw [m2, filter_snoc]
              generalize extQ pr Q = E at *
              generalize pr.filter (fun o => decide (o ∉ Q)) = F2 at *
              have dn : dinE true 2 (vi 6) [some (.im (webD n ls)), some (tE eO (lsO n.toNat (updL F2 v f))), some (kd (K ++ E) fun _ => .bl true), some (.im (.int p)), some (tE D.int E), some (.im (.int (a : Int))), some (.im (.int x))] = .ok (.bl (!decide (x ∈ K ++ E))) := ev_dnin rfl rfl
              by_cases cx : x ∈ Q
              · rw [if_pos cx, if_pos cx]
                have c' : x ∈ K ++ E := List.mem_append_right _ (m1.mpr cx)
                rw [decide_eq_true c'] at dn
                simp -implicitDefEqProofs (disch := first | omega | (simp -implicitDefEqProofs; done) | (simp -implicitDefEqProofs; omega)) [-List.map_map, BT.sub, ev_denI, ev_stI, ev_slfS, ev_slfE, ev_st0n, ev_mod, ev_div, ev_mul, ev_pow, ev_line, ev_rng1, ev_rng2, ev_ar, ev_arI, rangeD_length, ev_if, dn]
              · rw [if_neg cx, if_neg cx]
                have c' : ¬ x ∈ K ++ E := fun z => (List.mem_append.mp z).elim xK fun z => cx (m1.mp z)
                rw [decide_eq_false c'] at dn
                have lE : E.length < 16777216 := by omega
                have lKE : (K ++ E).length < 16777216 := by rw [List.length_append]; omega
                have dp : dputS 2 (vi 6) (cc (.bl true)) [some (.im (webD n ls)), some (tE eO (lsO n.toNat (updL F2 v f))), some (kd (K ++ E) fun _ => .bl true), some (.im (.int p)), some (tE D.int E), some (.im (.int (a : Int))), some (.im (.int x))] = .nx [some (.im (webD n ls)), some (tE eO (lsO n.toNat (updL F2 v f))), some (kd (K ++ (E ++ [x])) fun _ => .bl true), some (.im (.int p)), some (tE D.int E), some (.im (.int (a : Int))), some (.im (.int x))] := by
                  rw [← List.append_assoc]
                  exact ev_dput rfl rfl rfl c' lKE _ (fun _ _ => rfl) rfl
                have si : ∀ fv : LS → R T, fv [some (.im (webD n ls)), some (tE eO (lsO n.toNat (updL F2 v f))), some (kd (K ++ (E ++ [x])) fun _ => .bl true), some (.im (.int p)), some (tE D.int E), some (.im (.int (a : Int))), some (.im (.int x))] = .ok (.im (.int v)) → setIS 1 fv (vi 6) [some (.im (webD n ls)), some (tE eO (lsO n.toNat (updL F2 v f))), some (kd (K ++ (E ++ [x])) fun _ => .bl true), some (.im (.int p)), some (tE D.int E), some (.im (.int (a : Int))), some (.im (.int x))] = .nx [some (.im (webD n ls)), some (tE eO (lsO n.toNat (updL (F2 ++ [x]) v f))), some (kd (K ++ (E ++ [x])) fun _ => .bl true), some (.im (.int p)), some (tE D.int E), some (.im (.int (a : Int))), some (.im (.int x))] := fun fv h => by
                  rw [ev_setISE (enc := eO) (xs := lsO n.toNat (updL F2 v f)) (v := some v) (j := x) rfl h rfl x0 (by rw [lsO_len]; omega), lsO_set x0, updL_snoc]
                  rfl
                simp -implicitDefEqProofs (disch := first | omega | (simp -implicitDefEqProofs; done) | (simp -implicitDefEqProofs; omega)) [-List.map_map, BT.sub, ev_denI, ev_stI, ev_slfS, ev_slfE, ev_st0n, ev_mod, ev_div, ev_mul, ev_pow, ev_line, ev_rng1, ev_rng2, ev_ar, ev_arI, rangeD_length, ev_if, dn, dp]
                refine (congrArg (fun o => Out.seq o _) (si _ ?_)).trans ?_
                · simp -implicitDefEqProofs (disch := first | omega | (simp -implicitDefEqProofs; done) | (simp -implicitDefEqProofs; omega)) [-List.map_map, BT.sub, ev_denI, ev_stI, ev_slfS, ev_slfE, ev_st0n, ev_mod, ev_div, ev_mul, ev_pow, ev_line, ev_rng1, ev_rng2, ev_ar, ev_arI, rangeD_length, iE]
                · simp -implicitDefEqProofs (disch := first | omega | (simp -implicitDefEqProofs; done) | (simp -implicitDefEqProofs; omega)) [-List.map_map, BT.sub, ev_denI, ev_stI, ev_slfS, ev_slfE, ev_st0n, ev_mod, ev_div, ev_mul, ev_pow, ev_line, ev_rng1, ev_rng2, ev_ar, ev_arI, rangeD_length, lE])
            refine ⟨j6', ?_⟩
            have ex : extQ row Q = Q ++ NW := by rw [hNW]; rfl
            rw [← hNW, ex]
            simp -implicitDefEqProofs (disch := first | omega | (simp -implicitDefEqProofs; done) | (simp -implicitDefEqProofs; omega)) [-List.map_map, BT.sub, ev_denI, ev_stI, ev_slfS, ev_slfE, ev_st0n, ev_mod, ev_div, ev_mul, ev_pow, ev_line, ev_rng1, ev_rng2, ev_ar, ev_arI, rangeD_length]
            rfl)
        (by
          rintro s ⟨a, j6, rfl, an, hk⟩
          have len := queue_len hl p0 p1 a
          have c : ¬ a < (queue n ls p a).length := fun z => by
            rw [if_pos z] at hk
            omega
          simp -implicitDefEqProofs (disch := first | omega | (simp -implicitDefEqProofs; done) | (simp -implicitDefEqProofs; omega)) [-List.map_map, BT.sub, ev_denI, ev_stI, ev_slfS, ev_slfE, ev_st0n, ev_mod, ev_div, ev_mul, ev_pow, ev_line, ev_rng1, ev_rng2, ev_ar, ev_arI, rangeD_length, c])
      have len := queue_len hl p0 p1 a
      have ca : ¬ a < (queue n ls p a).length := fun z => by
        rw [if_pos z] at hk
        omega
      have qe : pieceQ n ls p = queue n ls p a := queue_stay (by omega) _ an
      have pe : parQ n ls p g n.toNat = parQ n ls p g a := by
        have gen : ∀ m, a ≤ m → parQ n ls p g m = parQ n ls p g a := by
          intro m
          induction m with
          | zero =>
            intro h
            rw [show a = 0 by omega]
          | succ m ih =>
            intro h
            by_cases e : a = m + 1
            · rw [e]
            · have e2 := queue_stay (n := n) (ls := ls) (p := p) (k := a) (by omega) m (by omega)
              rw [parQ_old (by rw [e2]; omega), ih (by omega)]
        exact gen _ an
      rw [qe, pe]
      exact ⟨_, _, rfl⟩)
  rw [List.length_range]
  have ll : (lsO n.toNat (parE n ls)).length ≤ 16777216 := by rw [lsO_len]; omega
  simp -implicitDefEqProofs (disch := first | omega | (simp -implicitDefEqProofs; done) | (simp -implicitDefEqProofs; omega)) [-List.map_map, BT.sub, ev_denI, ev_stI, ev_slfS, ev_slfE, ev_st0n, ev_mod, ev_div, ev_mul, ev_pow, ev_line, ev_rng1, ev_rng2, ev_ar, ev_arI, rangeD_length, ll]
end FR
end
section
set_option Elab.async false
set_option linter.all false
set_option maxRecDepth 100000
namespace FR
open PySem L2 DI
theorem ext_ev {i : Nat} {f : LS → R D} {st : LS} : extS i f st = oB (ownL st[i]?) fun ts => (f st).out st fun d => extL st i ts d := by
  unfold extS
  cases ownL st[i]? <;> rfl
theorem extL_ev {i : Nat} {st : LS} {ts : List T} {ds : List D} : extL st i ts (.lst ds) = if ts.length + ds.length ≤ sizeLine then .nx (st.set i (some (.lst (ts ++ ds.map .im)))) else .bad := rfl
theorem tE_app2 {α : Type} {enc : α → D} {xs ys : List α} : T.lst (xs.map (T.im ∘ enc) ++ (ys.map enc).map T.im) = tE enc (xs ++ ys) := by
  unfold tE
  rw [List.map_map, List.map_append]
end FR
end
section
set_option Elab.async false
set_option linter.all false
set_option maxRecDepth 100000
namespace FR
open PySem L2 DI
/-! the law's own forest -/
set_option maxHeartbeats 4000000 in
theorem lforest_ok {n : Int} {ls : List (Int × Int)} (hl : Lines n ls) (hn0 : 0 ≤ n) (hn2 : n ≤ 1000) (hln : ls.length ≤ 10000) : d__law_forest [rowsL (arnd n ls)] = .ok (.lst ((lsO n.toNat (parE n ls)).map eO)) := by
  unfold d__law_forest
  have ln := len_near (ls := ls) hn0
  have al : (arnd n ls).length = n.toNat := arnd_len
  have a16 : (arnd n ls).length ≤ 16777216 := by omega
  have iD : itemsD (rowsL (arnd n ls)) = some ((arnd n ls).map fun r => .lst (r.map .int)) := rfl
  obtain ⟨RW, hRW⟩ : ∃ RW, RW = rowsL (arnd n ls) := ⟨_, rfl⟩
  have nidx : ∀ x : Int, 0 ≤ x → x < n → dIdx RW (.int x) = some (.lst ((rowAt n ls x).map .int)) := fun x x0 x1 => by rw [hRW]; exact near_idx x0 x1
  rw [← hRW] at ln iD ⊢
  simp -implicitDefEqProofs (disch := first | omega | (simp -implicitDefEqProofs; done) | (simp -implicitDefEqProofs; omega)) [-List.map_map, BT.sub, ev_denI, ev_stI, ev_slfS, ev_slfE, ev_st0n, ev_mod, ev_div, ev_mul, ev_pow, ev_line, ev_rng1, ev_rng2, ev_ar, ev_arI, rangeD_length, iD, a16]
  generalize hC : compL _ _ _ _ _ = oc
  have qz := comp hC eO (fun _ : List Int => (none : Option Int)) fun r _ => ⟨_, rfl, rfl, rfl⟩
  subst qz
  clear hC
  have im0 : imT (((arnd n ls).map fun _ : List Int => (none : Option Int)).map eO) = tE eO (lsO n.toNat (par n ls 0)) := by
    have e : (arnd n ls).map (fun _ : List Int => (none : Option Int)) = lsO n.toNat fun _ => none := by
      unfold lsO
      rw [List.map_const', List.map_const', al, List.length_range]
    rw [e]
    unfold imT tE
    rw [List.map_map]
    rfl
  have n16 : n.toNat ≤ 16777216 := by omega
  simp -implicitDefEqProofs (disch := first | omega | (simp -implicitDefEqProofs; done) | (simp -implicitDefEqProofs; omega)) [-List.map_map, BT.sub, ev_denI, ev_stI, ev_slfS, ev_slfE, ev_st0n, ev_mod, ev_div, ev_mul, ev_pow, ev_line, ev_rng1, ev_rng2, ev_ar, ev_arI, rangeD_length]
  rw [im0]
  simp -implicitDefEqProofs (disch := first | omega | (simp -implicitDefEqProofs; done) | (simp -implicitDefEqProofs; omega)) [-List.map_map, BT.sub, ev_denI, ev_stI, ev_slfS, ev_slfE, ev_st0n, ev_mod, ev_div, ev_mul, ev_pow, ev_line, ev_rng1, ev_rng2, ev_ar, ev_arI, rangeD_length, ln]
  generalize hL : forL _ _ _ _ = o
  obtain ⟨s', rfl, j4, j5, j6, j7, j8, rfl⟩ := loop (α := Nat) hL (fun pr s => ∃ (j4 j5 j6 j7 j8 : Option T), s = [some (.im RW), none, some (tE eO (lsO n.toNat (par n ls pr.length))), some (tE D.int (grp n ls pr.length).2), j4, j5, j6, j7, j8]) ⟨none, none, none, none, none, rfl⟩ (by
    rintro pr k po s q ⟨j4, j5, j6, j7, j8, rfl⟩
    obtain ⟨e1, e2, e3⟩ := range_split q
    rw [List.length_append, List.length_singleton]
    subst e1
    generalize pr.length = k at *
    obtain ⟨g1, g2⟩ := grp_len hl k (by omega)
    have g1 : (grp n ls k).2.length ≤ 1000000 := Nat.le_trans g1 (Nat.mul_le_mul (show k ≤ 1000 by omega) (show n.toNat ≤ 1000 by omega))
    have nin := ev_notInL (x := (k : Int)) (xs := (grp n ls k).2)
    rw [grp_succ, par_succ]
    by_cases c : (k : Int) ∈ (grp n ls k).2
    · rw [if_pos c, if_pos c]
      rw [decide_eq_true c] at nin
      refine ⟨_, ?_, some (.im (.int (k : Int))), j5, j6, j7, j8, rfl⟩
      simp -implicitDefEqProofs (disch := first | omega | (simp -implicitDefEqProofs; done) | (simp -implicitDefEqProofs; omega)) [-List.map_map, BT.sub, ev_denI, ev_stI, ev_slfS, ev_slfE, ev_st0n, ev_mod, ev_div, ev_mul, ev_pow, ev_line, ev_rng1, ev_rng2, ev_ar, ev_arI, rangeD_length, ev_if, nin]
    · rw [if_neg c, if_neg c]
      rw [decide_eq_false c] at nin
      generalize (grp n ls k).2 = K at *
      generalize par n ls k = g at *
      refine (fun (h : ∃ j6 j7 j8 : Option T, _ = Out.nx [some (.im RW), none, some (tE eO (lsO n.toNat (parQ n ls (k : Int) g n.toNat))), some (tE D.int (K ++ pieceQ n ls (k : Int))), some (.im (.int (k : Int))), some (.im (.lst ((pieceQ n ls (k : Int)).map .int))), j6, j7, j8]) => h.elim fun j6 h => h.elim fun j7 h => h.elim fun j8 e => ⟨_, e, _, _, _, _, _, rfl⟩) ?_
      simp -implicitDefEqProofs (disch := first | omega | (simp -implicitDefEqProofs; done) | (simp -implicitDefEqProofs; omega)) [-List.map_map, BT.sub, ev_denI, ev_stI, ev_slfS, ev_slfE, ev_st0n, ev_mod, ev_div, ev_mul, ev_pow, ev_line, ev_rng1, ev_rng2, ev_ar, ev_arI, rangeD_length, ev_if, nin, ln]
      have im : imT [D.int (k : Int)] = tE D.int [(k : Int)] := rfl
      rw [im]
      generalize hL2 : forL _ _ _ _ = o2
      have p0 : (0 : Int) ≤ (k : Int) := by omega
      have p1 : (k : Int) < n := by omega
      generalize (k : Int) = p at *
      obtain ⟨s', rfl, j6', j7', j8', rfl⟩ := loop (α := Nat) hL2 (fun pr s => ∃ j6 j7 j8 : Option T, s = [some (.im RW), none, some (tE eO (lsO n.toNat (parQ n ls p g pr.length))), some (tE D.int K), some (.im (.int p)), some (tE D.int (queue n ls p pr.length)), j6, j7, j8]) ⟨_, _, _, rfl⟩ (by
        rintro pr2 j po2 s q2 ⟨j6, j7, j8, rfl⟩
        obtain ⟨f1, f2, f3⟩ := range_split q2
        rw [List.length_append, List.length_singleton]
        subst f1
        generalize pr2.length = j at *
        have len := queue_len hl p0 p1 j
        have len2 := queue_len hl p0 p1 (j + 1)
        by_cases cj : j < (queue n ls p j).length
        · obtain ⟨nq1, nq2, nq3⟩ := newQ_ok hl p0 p1 cj
          have vr := ((queue_all hl p0 p1 j).2 _ nq1).1
          have i1 := ev_idxI (xs := queue n ls p j) (i := (j : Int)) (by omega) (by omega)
          have i2 := nidx _ vr.1 vr.2
          have rb := rowAt_bound (n := n) (ls := ls) (i := nI (queue n ls p j) (j : Int))
          have xr : ∀ x ∈ newQ n ls (queue n ls p j) j, 0 ≤ x ∧ x < n := fun x hx => rowAt_mem hl vr.1 vr.2 x (nq3 x hx).2
          rw [queue_new cj] at len2
          rw [queue_new cj, parQ_new cj]
          obtain ⟨NW, hNW⟩ : ∃ NW, NW = newQ n ls (queue n ls p j) j := ⟨_, rfl⟩
          rw [← hNW] at len2 xr ⊢
          unfold newQ at hNW
          refine (fun (h : ∃ j7 : Option T, _ = Out.nx [some (.im RW), none, some (tE eO (lsO n.toNat (updL NW (nI (queue n ls p j) (j : Int)) (parQ n ls p g j)))), some (tE D.int K), some (.im (.int p)), some (tE D.int (queue n ls p j ++ NW)), some (.im (.int (j : Int))), j7, some (.im (.lst (NW.map .int)))]) => h.elim fun j7 e => ⟨_, e, _, _, _, rfl⟩) ?_
          generalize rowAt n ls (nI (queue n ls p j) (j : Int)) = row at *
          generalize nI (queue n ls p j) (j : Int) = v at *
          generalize queue n ls p j = Q at *
          generalize parQ n ls p g j = f at *
          have rb2 : row.length ≤ 16777216 := by omega
          simp -implicitDefEqProofs (disch := first | omega | (simp -implicitDefEqProofs; done) | (simp -implicitDefEqProofs; omega)) [-List.map_map, BT.sub, ev_denI, ev_stI, ev_slfS, ev_slfE, ev_st0n, ev_mod, ev_div, ev_mul, ev_pow, ev_line, ev_rng1, ev_rng2, ev_ar, ev_arI, rangeD_length, ev_if, cj, i1, i2, rb2]
          generalize hC : compL _ _ _ _ _ = oc
          have q3 := compP hC (fun o => decide (o ∉ Q)) D.int id fun x m => ⟨_, rfl, by
            have nx := ev_notInL (x := x) (xs := Q)
            simp -implicitDefEqProofs (disch := first | omega | (simp -implicitDefEqProofs; done) | (simp -implicitDefEqProofs; omega)) [-List.map_map, BT.sub, ev_denI, ev_stI, ev_slfS, ev_slfE, ev_st0n, ev_mod, ev_div, ev_mul, ev_pow, ev_line, ev_rng1, ev_rng2, ev_ar, ev_arI, rangeD_length, nx], fun _ => by simp -implicitDefEqProofs (disch := first | omega | (simp -implicitDefEqProofs; done) | (simp -implicitDefEqProofs; omega)) [-List.map_map, BT.sub, ev_denI, ev_stI, ev_slfS, ev_slfE, ev_st0n, ev_mod, ev_div, ev_mul, ev_pow, ev_line, ev_rng1, ev_rng2, ev_ar, ev_arI, rangeD_length]⟩
          subst q3
          clear hC
          rw [List.map_id, ← hNW]
          simp -implicitDefEqProofs (disch := first | omega | (simp -implicitDefEqProofs; done) | (simp -implicitDefEqProofs; omega)) [-List.map_map, BT.sub, ev_denI, ev_stI, ev_slfS, ev_slfE, ev_st0n, ev_mod, ev_div, ev_mul, ev_pow, ev_line, ev_rng1, ev_rng2, ev_ar, ev_arI, rangeD_length]
          generalize hL3 : forL _ _ _ _ = o3
          obtain ⟨s', rfl, j7', rfl⟩ := loop hL3 (fun pr s => ∃ j7 : Option T, s = [some (.im RW), none, some (tE eO (lsO n.toNat (updL pr v f))), some (tE D.int K), some (.im (.int p)), some (tE D.int Q), some (.im (.int (j : Int))), j7, some (.im (.lst (NW.map .int)))]) ⟨_, by
              have : updL [] v f = f := by
                funext y
                unfold updL
                rw [if_neg (by simp)]
              rw [this]⟩ (by
            rintro pr x po s q ⟨j7, rfl⟩
            obtain ⟨x0, x1⟩ := xr x (by rw [q]; simp)
            have si : ∀ fv : LS → R T, fv [some (.im RW), none, some (tE eO (lsO n.toNat (updL pr v f))), some (tE D.int K), some (.im (.int p)), some (tE D.int Q), some (.im (.int (j : Int))), some (.im (.int x)), some (.im (.lst (NW.map .int)))] = .ok (.im (.int v)) → setIS 2 fv (vi 7) [some (.im RW), none, some (tE eO (lsO n.toNat (updL pr v f))), some (tE D.int K), some (.im (.int p)), some (tE D.int Q), some (.im (.int (j : Int))), some (.im (.int x)), some (.im (.lst (NW.map .int)))] = .nx [some (.im RW), none, some (tE eO (lsO n.toNat (updL (pr ++ [x]) v f))), some (tE D.int K), some (.im (.int p)), some (tE D.int Q), some (.im (.int (j : Int))), some (.im (.int x)), some (.im (.lst (NW.map .int)))] := fun fv h => by
              rw [ev_setISE (enc := eO) (xs := lsO n.toNat (updL pr v f)) (v := some v) (j := x) rfl h rfl x0 (by rw [lsO_len]; omega), lsO_set x0, updL_snoc]
              rfl
            refine ⟨[some (.im RW), none, some (tE eO (lsO n.toNat (updL (pr ++ [x]) v f))), some (tE D.int K), some (.im (.int p)), some (tE D.int Q), some (.im (.int (j : Int))), some (.im (.int x)), some (.im (.lst (NW.map .int)))], ?_, _, rfl⟩
            simp -implicitDefEqProofs (disch := first | omega | (simp -implicitDefEqProofs; done) | (simp -implicitDefEqProofs; omega)) [-List.map_map, BT.sub, ev_denI, ev_stI, ev_slfS, ev_slfE, ev_st0n, ev_mod, ev_div, ev_mul, ev_pow, ev_line, ev_rng1, ev_rng2, ev_ar, ev_arI, rangeD_length]
            refine (si _ ?_)
            simp -implicitDefEqProofs (disch := first | omega | (simp -implicitDefEqProofs; done) | (simp -implicitDefEqProofs; omega)) [-List.map_map, BT.sub, ev_denI, ev_stI, ev_slfS, ev_slfE, ev_st0n, ev_mod, ev_div, ev_mul, ev_pow, ev_line, ev_rng1, ev_rng2, ev_ar, ev_arI, rangeD_length, i1])
          refine ⟨j7', ?_⟩
          have lE : Q.length + NW.length ≤ 16777216 := by
            rw [List.length_append] at len2
            omega
          simp -implicitDefEqProofs (disch := first | omega | (simp -implicitDefEqProofs; done) | (simp -implicitDefEqProofs; omega)) [-List.map_map, BT.sub, ev_denI, ev_stI, ev_slfS, ev_slfE, ev_st0n, ev_mod, ev_div, ev_mul, ev_pow, ev_line, ev_rng1, ev_rng2, ev_ar, ev_arI, rangeD_length, ext_ev, extL_ev, lE, tE_app2]
        · rw [queue_old cj, parQ_old cj]
          refine ⟨_, ?_, some (.im (.int (j : Int))), j7, j8, rfl⟩
          simp -implicitDefEqProofs (disch := first | omega | (simp -implicitDefEqProofs; done) | (simp -implicitDefEqProofs; omega)) [-List.map_map, BT.sub, ev_denI, ev_stI, ev_slfS, ev_slfE, ev_st0n, ev_mod, ev_div, ev_mul, ev_pow, ev_line, ev_rng1, ev_rng2, ev_ar, ev_arI, rangeD_length, ev_if, cj])
      refine ⟨j6', j7', j8', ?_⟩
      rw [List.length_range]
      have len := queue_len hl p0 p1 n.toNat
      show _ = Out.nx [_, _, _, some (tE D.int (K ++ queue n ls p n.toNat)), _, some (.im (.lst ((queue n ls p n.toNat).map .int))), _, _, _]
      generalize queue n ls p n.toNat = Q at *
      have lE : K.length + Q.length ≤ 16777216 := by omega
      simp -implicitDefEqProofs (disch := first | omega | (simp -implicitDefEqProofs; done) | (simp -implicitDefEqProofs; omega)) [-List.map_map, BT.sub, ev_denI, ev_stI, ev_slfS, ev_slfE, ev_st0n, ev_mod, ev_div, ev_mul, ev_pow, ev_line, ev_rng1, ev_rng2, ev_ar, ev_arI, rangeD_length, ext_ev, extL_ev, lE, tE_app2])
  rw [List.length_range]
  simp -implicitDefEqProofs (disch := first | omega | (simp -implicitDefEqProofs; done) | (simp -implicitDefEqProofs; omega)) [-List.map_map, BT.sub, ev_denI, ev_stI, ev_slfS, ev_slfE, ev_st0n, ev_mod, ev_div, ev_mul, ev_pow, ev_line, ev_rng1, ev_rng2, ev_ar, ev_arI, rangeD_length]
end FR
end
section
set_option Elab.async false
set_option linter.all false
set_option maxRecDepth 100000
namespace FR
open PySem L2 DI
def leadI (x y : Int) : Int := if x = 0 ∧ y = 1 then 1 else if x = 1 ∧ y = 0 then -1 else 0
end FR
end
section
set_option Elab.async false
set_option linter.all false
set_option maxRecDepth 100000
namespace FR
open PySem L2 DI
theorem lead_ok (x y : Int) : d_state_lead [.int x, .int y] = .ok (.int (leadI x y)) := by
  unfold d_state_lead leadI
  by_cases c1 : x = 0
  · by_cases c2 : y = 1
    · simp -implicitDefEqProofs (disch := first | omega | (simp -implicitDefEqProofs; done) | (simp -implicitDefEqProofs; omega)) [-List.map_map, BT.sub, ev_denI, ev_stI, ev_slfS, ev_slfE, ev_st0n, ev_mod, ev_div, ev_mul, ev_pow, ev_line, ev_rng1, ev_rng2, ev_ar, ev_arI, rangeD_length, ev_if, c1, c2]
    · simp -implicitDefEqProofs (disch := first | omega | (simp -implicitDefEqProofs; done) | (simp -implicitDefEqProofs; omega)) [-List.map_map, BT.sub, ev_denI, ev_stI, ev_slfS, ev_slfE, ev_st0n, ev_mod, ev_div, ev_mul, ev_pow, ev_line, ev_rng1, ev_rng2, ev_ar, ev_arI, rangeD_length, ev_if, c1, c2]
  · by_cases c2 : x = 1
    · by_cases c3 : y = 0
      · simp -implicitDefEqProofs (disch := first | omega | (simp -implicitDefEqProofs; done) | (simp -implicitDefEqProofs; omega)) [-List.map_map, BT.sub, ev_denI, ev_stI, ev_slfS, ev_slfE, ev_st0n, ev_mod, ev_div, ev_mul, ev_pow, ev_line, ev_rng1, ev_rng2, ev_ar, ev_arI, rangeD_length, ev_if, c1, c2, c3]
        rfl
      · simp -implicitDefEqProofs (disch := first | omega | (simp -implicitDefEqProofs; done) | (simp -implicitDefEqProofs; omega)) [-List.map_map, BT.sub, ev_denI, ev_stI, ev_slfS, ev_slfE, ev_st0n, ev_mod, ev_div, ev_mul, ev_pow, ev_line, ev_rng1, ev_rng2, ev_ar, ev_arI, rangeD_length, ev_if, c1, c2, c3]
    · simp -implicitDefEqProofs (disch := first | omega | (simp -implicitDefEqProofs; done) | (simp -implicitDefEqProofs; omega)) [-List.map_map, BT.sub, ev_denI, ev_stI, ev_slfS, ev_slfE, ev_st0n, ev_mod, ev_div, ev_mul, ev_pow, ev_line, ev_rng1, ev_rng2, ev_ar, ev_arI, rangeD_length, ev_if, c1, c2]
end FR
end
section
set_option Elab.async false
set_option linter.all false
set_option maxRecDepth 100000
namespace FR
open PySem L2 DI
theorem llead_ok (x y : Int) : d__law_lead [.int x, .int y] = .ok (.int (leadI x y)) := by
  unfold d__law_lead leadI
  by_cases c1 : x = 0
  · by_cases c2 : y = 1
    · simp -implicitDefEqProofs (disch := first | omega | (simp -implicitDefEqProofs; done) | (simp -implicitDefEqProofs; omega)) [-List.map_map, BT.sub, ev_denI, ev_stI, ev_slfS, ev_slfE, ev_st0n, ev_mod, ev_div, ev_mul, ev_pow, ev_line, ev_rng1, ev_rng2, ev_ar, ev_arI, rangeD_length, c1, c2]
    · simp -implicitDefEqProofs (disch := first | omega | (simp -implicitDefEqProofs; done) | (simp -implicitDefEqProofs; omega)) [-List.map_map, BT.sub, ev_denI, ev_stI, ev_slfS, ev_slfE, ev_st0n, ev_mod, ev_div, ev_mul, ev_pow, ev_line, ev_rng1, ev_rng2, ev_ar, ev_arI, rangeD_length, c1, c2]
  · by_cases c2 : x = 1
    · by_cases c3 : y = 0
      · simp -implicitDefEqProofs (disch := first | omega | (simp -implicitDefEqProofs; done) | (simp -implicitDefEqProofs; omega)) [-List.map_map, BT.sub, ev_denI, ev_stI, ev_slfS, ev_slfE, ev_st0n, ev_mod, ev_div, ev_mul, ev_pow, ev_line, ev_rng1, ev_rng2, ev_ar, ev_arI, rangeD_length, c1, c2, c3]
      · simp -implicitDefEqProofs (disch := first | omega | (simp -implicitDefEqProofs; done) | (simp -implicitDefEqProofs; omega)) [-List.map_map, BT.sub, ev_denI, ev_stI, ev_slfS, ev_slfE, ev_st0n, ev_mod, ev_div, ev_mul, ev_pow, ev_line, ev_rng1, ev_rng2, ev_ar, ev_arI, rangeD_length, c1, c2, c3]
    · simp -implicitDefEqProofs (disch := first | omega | (simp -implicitDefEqProofs; done) | (simp -implicitDefEqProofs; omega)) [-List.map_map, BT.sub, ev_denI, ev_stI, ev_slfS, ev_slfE, ev_st0n, ev_mod, ev_div, ev_mul, ev_pow, ev_line, ev_rng1, ev_rng2, ev_ar, ev_arI, rangeD_length, c1, c2]
end FR
end
section
set_option Elab.async false
set_option linter.all false
set_option maxRecDepth 100000
namespace FR
open PySem L2 DI
/-! walks -/
/-- neighbours one after another -/
def Chain (n : Int) (ls : List (Int × Int)) : List Int → Prop
  | [] => True
  | [x] => 0 ≤ x ∧ x < n
  | x :: y :: w => (0 ≤ x ∧ x < n) ∧ y ∈ rowAt n ls x ∧ Chain n ls (y :: w)
theorem Chain.head {n : Int} {ls : List (Int × Int)} {x : Int} {w : List Int} (h : Chain n ls (x :: w)) : 0 ≤ x ∧ x < n := by
  cases w with
  | nil => exact h
  | cons y w => exact h.1
theorem Chain.tail {n : Int} {ls : List (Int × Int)} {x : Int} {w : List Int} (h : Chain n ls (x :: w)) : Chain n ls w := by
  cases w with
  | nil => trivial
  | cons y w => exact h.2.2
theorem Chain.mem {n : Int} {ls : List (Int × Int)} : ∀ {w : List Int}, Chain n ls w → ∀ x ∈ w, 0 ≤ x ∧ x < n
  | [], _, x, m => nomatch m
  | y :: w, h, x, m => by
    rcases List.mem_cons.mp m with rfl | m
    · exact h.head
    · exact h.tail.mem x m
theorem Chain.step {n : Int} {ls : List (Int × Int)} : ∀ {w : List Int}, Chain n ls w → ∀ (k : Nat) (x y : Int), w[k]? = some x → w[k + 1]? = some y → y ∈ rowAt n ls x
  | [], _, k, x, y, a, b => by simp at a
  | [z], _, k, x, y, a, b => by simp at b
  | z :: z2 :: w, h, 0, x, y, a, b => by
    simp at a b
    rw [← a, ← b]
    exact h.2.1
  | z :: z2 :: w, h, k + 1, x, y, a, b => h.2.2.step k x y a b
theorem check_walk_ok {n : Int} {ls : List (Int × Int)} (hl : Lines n ls) (w : List Int) (d : D) (hd : d = .lst (w.map .int) ∨ d = .tup (w.map .int)) (hw : Chain n ls w) (h0 : 0 < w.length) : d_check_walk [webD n ls, d] = .ok .non := by
  unfold d_check_walk
  have ws : dFld fl_size (webD n ls) = some (.int n) := rfl
  have wa : dFld fl_around (webD n ls) = some (rowsT (arnd n ls)) := rfl
  have wne : ¬ w = [] := by intro e; rw [e] at h0; simp at h0
  have fin : ∀ {g : D → LS → Option LS} {F : LS → Out} {o : Out}, (∀ (pr po : List Int) (x : Int) (j2 j3 : Option T), w = pr ++ x :: po → ∃ j2' j3', turn g F (.tup [.int (pr.length : Int), .int x]) [some (.im (webD n ls)), some (.im d), j2, j3] = .nx [some (.im (webD n ls)), some (.im d), j2', j3']) → forL g F (enumL 0 (w.map .int)) [some (.im (webD n ls)), some (.im d), none, none] = o → o.end = .ok .non := by
    intro g F o step hL
    obtain ⟨s', rfl, j2, j3, rfl⟩ := loopE hL (fun _ s => ∃ j2 j3, s = [some (.im (webD n ls)), some (.im d), j2, j3]) ⟨_, _, rfl⟩ (by
      rintro pr x po s q ⟨j2, j3, rfl⟩
      obtain ⟨a, b, e⟩ := step pr po x j2 j3 q
      exact ⟨_, e, _, _, rfl⟩)
    rfl
  have st : ∀ (pr po : List Int) (x : Int), w = pr ++ x :: po → (0 ≤ x ∧ x < n) ∧ (0 < (pr.length : Int) → ∃ y, dIdx d (.int ((pr.length : Int) - 1)) = some (.int y) ∧ dIdx (rowsT (arnd n ls)) (.int y) = some (.tup ((rowAt n ls y).map .int)) ∧ x ∈ rowAt n ls y) := by
    intro pr po x q
    refine ⟨hw.mem x (by rw [q]; simp), fun hpr => ?_⟩
    have hp : pr.length - 1 < w.length := by rw [q]; simp; omega
    have g1 : w[pr.length - 1]? = some w[pr.length - 1] := List.getElem?_eq_getElem hp
    have g2 : w[pr.length - 1 + 1]? = some x := by
      rw [show pr.length - 1 + 1 = pr.length by omega, q]; simp
    have y0 := hw.mem _ (List.getElem_mem hp)
    refine ⟨w[pr.length - 1], ?_, around_idx y0.1 y0.2, hw.step _ _ _ g1 g2⟩
    have tn : ((pr.length : Int) - 1).toNat = pr.length - 1 := by omega
    rcases hd with rfl | rfl
    · exact ev_idxE (enc := D.int) (by omega) (by rw [tn]; exact g1)
    · exact ev_idxET (enc := D.int) (by omega) (by rw [tn]; exact g1)
  rcases hd with rfl | rfl
  · simp -implicitDefEqProofs (disch := first | omega | (simp -implicitDefEqProofs; done) | (simp -implicitDefEqProofs; omega)) [-List.map_map, BT.sub, ev_denI, ev_stI, ev_slfS, ev_slfE, ev_st0n, ev_mod, ev_div, ev_mul, ev_pow, ev_line, ev_rng1, ev_rng2, ev_ar, ev_arI, rangeD_length, ev_if, wne]
    generalize hL : forL _ _ _ _ = o
    refine fin (fun pr po x j2 j3 q => ?_) hL
    obtain ⟨⟨a, b⟩, c⟩ := st pr po x q
    have b' : ¬ n ≤ x := by omega
    by_cases hp : 0 < (pr.length : Int)
    · obtain ⟨y, i1, i2, m⟩ := c hp
      have nin : dNotIn (.int x) (.tup ((rowAt n ls y).map .int)) = some (.bl false) := by rw [ev_notInT, decide_eq_true m]; rfl
      have hp' : 0 < pr.length := by omega
      refine ⟨some (.im (.int (pr.length : Int))), some (.im (.int x)), ?_⟩
      simp -implicitDefEqProofs (disch := first | omega | (simp -implicitDefEqProofs; done) | (simp -implicitDefEqProofs; omega)) [-List.map_map, BT.sub, ev_denI, ev_stI, ev_slfS, ev_slfE, ev_st0n, ev_mod, ev_div, ev_mul, ev_pow, ev_line, ev_rng1, ev_rng2, ev_ar, ev_arI, rangeD_length, ev_if, ws, wa, a, b', hp, hp', i1, i2, nin]
    · have hp' : pr = [] := by
        cases pr with
        | nil => rfl
        | cons z pr => simp at hp
      refine ⟨some (.im (.int (pr.length : Int))), some (.im (.int x)), ?_⟩
      simp -implicitDefEqProofs (disch := first | omega | (simp -implicitDefEqProofs; done) | (simp -implicitDefEqProofs; omega)) [-List.map_map, BT.sub, ev_denI, ev_stI, ev_slfS, ev_slfE, ev_st0n, ev_mod, ev_div, ev_mul, ev_pow, ev_line, ev_rng1, ev_rng2, ev_ar, ev_arI, rangeD_length, ev_if, ws, wa, a, b', hp, hp']
  · simp -implicitDefEqProofs (disch := first | omega | (simp -implicitDefEqProofs; done) | (simp -implicitDefEqProofs; omega)) [-List.map_map, BT.sub, ev_denI, ev_stI, ev_slfS, ev_slfE, ev_st0n, ev_mod, ev_div, ev_mul, ev_pow, ev_line, ev_rng1, ev_rng2, ev_ar, ev_arI, rangeD_length, ev_if, wne]
    generalize hL : forL _ _ _ _ = o
    refine fin (fun pr po x j2 j3 q => ?_) hL
    obtain ⟨⟨a, b⟩, c⟩ := st pr po x q
    have b' : ¬ n ≤ x := by omega
    by_cases hp : 0 < (pr.length : Int)
    · obtain ⟨y, i1, i2, m⟩ := c hp
      have nin : dNotIn (.int x) (.tup ((rowAt n ls y).map .int)) = some (.bl false) := by rw [ev_notInT, decide_eq_true m]; rfl
      have hp' : 0 < pr.length := by omega
      refine ⟨some (.im (.int (pr.length : Int))), some (.im (.int x)), ?_⟩
      simp -implicitDefEqProofs (disch := first | omega | (simp -implicitDefEqProofs; done) | (simp -implicitDefEqProofs; omega)) [-List.map_map, BT.sub, ev_denI, ev_stI, ev_slfS, ev_slfE, ev_st0n, ev_mod, ev_div, ev_mul, ev_pow, ev_line, ev_rng1, ev_rng2, ev_ar, ev_arI, rangeD_length, ev_if, ws, wa, a, b', hp, hp', i1, i2, nin]
    · have hp' : pr = [] := by
        cases pr with
        | nil => rfl
        | cons z pr => simp at hp
      refine ⟨some (.im (.int (pr.length : Int))), some (.im (.int x)), ?_⟩
      simp -implicitDefEqProofs (disch := first | omega | (simp -implicitDefEqProofs; done) | (simp -implicitDefEqProofs; omega)) [-List.map_map, BT.sub, ev_denI, ev_stI, ev_slfS, ev_slfE, ev_st0n, ev_mod, ev_div, ev_mul, ev_pow, ev_line, ev_rng1, ev_rng2, ev_ar, ev_arI, rangeD_length, ev_if, ws, wa, a, b', hp, hp']
end FR
end
section
set_option Elab.async false
set_option linter.all false
set_option maxRecDepth 100000
namespace FR
open PySem L2 DI
/-! ways up, walks over lines to parents -/
inductive Up (P : Int → Option Int) : Int → List Int → Prop
  | top {y : Int} : P y = none → Up P y [y]
  | step {y v : Int} {w : List Int} : P y = some v → Up P v w → Up P y (y :: w)
section
variable {n : Int} {ls : List (Int × Int)} {P : Int → Option Int}
theorem Up.uniq {y : Int} {w w' : List Int} (h : Up P y w) (g : Up P y w') : w = w' := by
  induction h generalizing w' with
  | top e =>
    cases g with
    | top _ => rfl
    | step e2 _ => rw [e] at e2; cases e2
  | step e _ ih =>
    cases g with
    | top e2 => rw [e] at e2; cases e2
    | step e2 g2 =>
      rw [e] at e2
      cases e2
      rw [ih g2]
theorem Up.head {y : Int} {w : List Int} (h : Up P y w) : ∃ s, w = y :: s := by
  cases h with
  | top _ => exact ⟨[], rfl⟩
  | step _ _ => exact ⟨_, rfl⟩
theorem parE_ok (hl : Lines n ls) {y v : Int} (y0 : 0 ≤ y) (y1 : y < n) (e : parE n ls y = some v) : (0 ≤ v ∧ v < n) ∧ v ∈ rowAt n ls y ∧ (allK n ls).idxOf v < (allK n ls).idxOf y := by
  have F := par_fst hl n.toNat (Nat.le_refl _)
  obtain ⟨a, b, c⟩ := F.par y ((allK_mem hl).mpr ⟨y0, y1⟩) v e
  exact ⟨F.rg v a, b, c⟩
theorem up_ex (hl : Lines n ls) : ∀ (k : Nat) (y : Int), 0 ≤ y → y < n → (allK n ls).idxOf y ≤ k → ∃ w, Up (parE n ls) y w ∧ w.length ≤ k + 1
  | 0, y, y0, y1, h => by
    cases e : parE n ls y with
    | none => exact ⟨[y], .top e, Nat.le_refl _⟩
    | some v =>
      have := (parE_ok hl y0 y1 e).2.2
      omega
  | k + 1, y, y0, y1, h => by
    cases e : parE n ls y with
    | none => exact ⟨[y], .top e, by simp⟩
    | some v =>
      obtain ⟨a, b, c⟩ := parE_ok hl y0 y1 e
      obtain ⟨w, u, l⟩ := up_ex hl k v a.1 a.2 (by omega)
      exact ⟨y :: w, .step e u, by simp; omega⟩
theorem up_of (hl : Lines n ls) {y : Int} (y0 : 0 ≤ y) (y1 : y < n) : ∃ w, Up (parE n ls) y w ∧ w.length ≤ n.toNat := by
  have hm := (allK_mem hl).mpr ⟨y0, y1⟩
  have lt := List.idxOf_lt_length_of_mem hm
  rw [allK_len hl] at lt
  obtain ⟨w, u, l⟩ := up_ex hl (n.toNat - 1) y y0 y1 (by omega)
  exact ⟨w, u, by omega⟩
theorem Up.chain (hl : Lines n ls) {y : Int} {w : List Int} (h : Up (parE n ls) y w) (y0 : 0 ≤ y) (y1 : y < n) : Chain n ls w := by
  induction h with
  | top _ => exact ⟨y0, y1⟩
  | @step y v w e u ih =>
    obtain ⟨a, b, c⟩ := parE_ok hl y0 y1 e
    have ch := ih a.1 a.2
    obtain ⟨s, rfl⟩ := u.head
    exact ⟨⟨y0, y1⟩, b, ch⟩
/-- the root above a place -/
theorem Up.root (hl : Lines n ls) {y : Int} {w : List Int} (h : Up (parE n ls) y w) (y0 : 0 ≤ y) (y1 : y < n) : ∃ u r, w = u ++ [r] ∧ (0 ≤ r ∧ r < n) ∧ parE n ls r = none ∧ Rch n ls y r := by
  induction h with
  | @top y e => exact ⟨[], y, rfl, ⟨y0, y1⟩, e, .refl y⟩
  | @step y v w e _ ih =>
    obtain ⟨a, b, c⟩ := parE_ok hl y0 y1 e
    obtain ⟨u, r, e1, e2, e3, e4⟩ := ih a.1 a.2
    exact ⟨y :: u, r, by rw [e1]; rfl, e2, e3, Rch.trans (.step (.refl y) b) e4⟩
/-- both ends of a line have one root -/
theorem same_root (hl : Lines n ls) {a b : Int} (a0 : 0 ≤ a) (a1 : a < n) (hb : b ∈ rowAt n ls a) {wa wb : List Int} (ha : Up (parE n ls) a wa) (hwb : Up (parE n ls) b wb) : ∃ u d r, wa = u ++ [r] ∧ wb = d ++ [r] := by
  have br := rowAt_mem hl a0 a1 b hb
  obtain ⟨u, r, e1, e2, e3, e4⟩ := ha.root hl a0 a1
  obtain ⟨d, q, g1, g2, g3, g4⟩ := hwb.root hl br.1 br.2
  have F := par_fst hl n.toNat (Nat.le_refl _)
  have e : r = q := F.one r ((allK_mem hl).mpr e2) q ((allK_mem hl).mpr g2) e3 g3 ((e4.symm hl a0 a1).2.trans (Rch.trans (.step (.refl a) hb) g4))
  subst e
  exact ⟨u, d, r, e1, g1⟩
/-! the program -/
abbrev parD (n : Int) (ls : List (Int × Int)) : D := .tup ((lsO n.toNat (parE n ls)).map eO)
theorem par_idx {y : Int} (y0 : 0 ≤ y) (y1 : y < n) : dIdx (parD n ls) (.int y) = some (eO (parE n ls y)) := by
  refine ev_idxET (enc := eO) (x := parE n ls y) y0 ?_
  unfold lsO
  rw [List.getElem?_map, List.getElem?_range (by omega)]
  show some (parE n ls ((y.toNat : Nat) : Int)) = _
  rw [Int.toNat_of_nonneg y0]
theorem idx_m1 (pr : List Int) (x : Int) : dIdx (.lst (pr.map D.int ++ [D.int x])) (.int (-1)) = some (.int x) := by
  show atI (pr.map D.int ++ [D.int x]) (-1) = _
  unfold atI ixN
  have h : (pr.map D.int ++ [D.int x]).length = pr.length + 1 := by simp
  rw [if_neg (by omega), if_pos (by omega)]
  show (pr.map D.int ++ [D.int x])[_]? = _
  rw [h, show (-1 + ((pr.length + 1 : Nat) : Int)).toNat = pr.length from by omega, List.getElem?_append_right (by simp)]
  simp
theorem idx_m2 (pr : List Int) (x t : Int) : dIdx (.lst (pr.map D.int ++ [D.int x, D.int t])) (.int (-2)) = some (.int x) := by
  show atI (pr.map D.int ++ [D.int x, D.int t]) (-2) = _
  unfold atI ixN
  have h : (pr.map D.int ++ [D.int x, D.int t]).length = pr.length + 2 := by simp
  rw [if_neg (by omega), if_pos (by omega)]
  show (pr.map D.int ++ [D.int x, D.int t])[_]? = _
  rw [h, show (-2 + ((pr.length + 2 : Nat) : Int)).toNat = pr.length from by omega, List.getElem?_append_right (by simp)]
  simp
theorem wayT_ok (hl : Lines n ls) (hn2 : n ≤ 1000) {y : Int} (y0 : 0 ≤ y) (y1 : y < n) {w : List Int} (hw : Up (parE n ls) y w) : dT_way_up [parD n ls, .int y] = .ok (tE D.int w) := by
  have wl : w.length ≤ n.toNat := by
    obtain ⟨w', u, l⟩ := up_of hl y0 y1
    rw [hw.uniq u]; exact l
  unfold dT_way_up denT seqT
  have ng : dNeg (.int 1) = some (.int (-1)) := rfl
  have s1 : setF 2 (lstF (consA (vi 1) nilA)) (st0 3 [parD n ls, .int y]) = .nx [some (.im (parD n ls)), some (.im (.int y)), some (tE D.int [y])] := rfl
  rw [s1]
  show (match whileS fuel _ _ _ with
    | .nx st => _
    | _ => _ : R T) = _
  generalize hb : tb (DI.bin dNotN (DI.bin dIdx (vi 0) (DI.bin dIdx (vv 2) (un dNeg (cc (.int 1))))) (cc .non)) = b
  generalize hF : appS 2 _ = F
  show (match whileL b F fuel [some (.im (parD n ls)), some (.im (.int y)), some (tE D.int [y])] with
    | .nx st => _
    | _ => _ : R T) = _
  generalize hW : whileL b F fuel _ = o
  have cond : ∀ (pr : List Int) (x : Int), 0 ≤ x → x < n → b [some (.im (parD n ls)), some (.im (.int y)), some (tE D.int (pr ++ [x]))] = .ok (parE n ls x).isSome := fun pr x x0 x1 => by
    have i1 := idx_m1 pr x
    have i2 := par_idx (ls := ls) x0 x1
    subst hb
    cases q : parE n ls x with
    | none =>
      rw [q] at i2
      have nn : dNotN (eO none) .non = some (.bl false) := rfl
      simp -implicitDefEqProofs (disch := first | omega | (simp -implicitDefEqProofs; done) | (simp -implicitDefEqProofs; omega)) [-List.map_map, BT.sub, ev_denI, ev_stI, ev_slfS, ev_slfE, ev_st0n, ev_mod, ev_div, ev_mul, ev_pow, ev_line, ev_rng1, ev_rng2, ev_ar, ev_arI, rangeD_length, ng, i1, i2, nn]
    | some v =>
      rw [q] at i2
      have nn : dNotN (eO (some v)) .non = some (.bl true) := rfl
      simp -implicitDefEqProofs (disch := first | omega | (simp -implicitDefEqProofs; done) | (simp -implicitDefEqProofs; omega)) [-List.map_map, BT.sub, ev_denI, ev_stI, ev_slfS, ev_slfE, ev_st0n, ev_mod, ev_div, ev_mul, ev_pow, ev_line, ev_rng1, ev_rng2, ev_ar, ev_arI, rangeD_length, ng, i1, i2, nn]
  obtain ⟨s', rfl, pr, x, s, e1, rfl, hx, xr, hk⟩ := while_hL hW (fun k st => ∃ (pr : List Int) (x : Int) (s : List Int), w = pr ++ x :: s ∧ st = [some (.im (parD n ls)), some (.im (.int y)), some (tE D.int (pr ++ [x]))] ∧ Up (parE n ls) x (x :: s) ∧ (0 ≤ x ∧ x < n) ∧ k = s.length)
    (by
      obtain ⟨s, e⟩ := hw.head
      refine ⟨s.length, ?_, [], y, s, by rw [e]; rfl, rfl, by rw [← e]; exact hw, ⟨y0, y1⟩, rfl⟩
      rw [e, List.length_cons] at wl
      unfold fuel
      omega)
    (by
      rintro k st ⟨pr, x, s, e1, rfl, hx, xr, hk⟩
      have c := cond pr x xr.1 xr.2
      cases hx with
      | top e => cases hk
      | @step _ v _ e u =>
        obtain ⟨a, _, _⟩ := parE_ok hl xr.1 xr.2 e
        obtain ⟨s2, e2⟩ := u.head
        subst e2
        rw [e] at c
        refine ⟨c, s2.length, [some (.im (parD n ls)), some (.im (.int y)), some (tE D.int (pr ++ [x] ++ [v]))], by rw [List.length_cons] at hk; omega, ?_, pr ++ [x], v, s2, by rw [e1]; simp, rfl, u, a, rfl⟩
        have i1 := idx_m1 pr x
        have i2 := par_idx (ls := ls) xr.1 xr.2
        rw [e] at i2
        have e3 : eO (some v) = .int v := rfl
        rw [e3] at i2
        have ll : pr.length + 1 < 16777216 := by
          rw [e1] at wl
          simp at wl
          omega
        subst hF
        simp -implicitDefEqProofs (disch := first | omega | (simp -implicitDefEqProofs; done) | (simp -implicitDefEqProofs; omega)) [-List.map_map, BT.sub, ev_denI, ev_stI, ev_slfS, ev_slfE, ev_st0n, ev_mod, ev_div, ev_mul, ev_pow, ev_line, ev_rng1, ev_rng2, ev_ar, ev_arI, rangeD_length, ng, i1, i2, ll]
        unfold tE
        rw [List.map_append]
        rfl)
    (by
      rintro st ⟨pr, x, s, e1, rfl, hx, xr, hk⟩
      have c := cond pr x xr.1 xr.2
      cases hx with
      | top e => rw [e] at c; exact c
      | step e u =>
        obtain ⟨s2, e2⟩ := u.head
        rw [e2] at hk
        cases hk)
  have s0 : s = [] := List.length_eq_zero_iff.mp hk.symm
  subst s0
  rw [e1]
  rfl
/-- a walk over lines to parents -/
theorem tree_walk_ok (hl : Lines n ls) (hn2 : n ≤ 1000) {a b : Int} (a0 : 0 ≤ a) (a1 : a < n) (b0 : 0 ≤ b) (b1 : b < n) {u0 d0 : List Int} {r : Int} (ha : Up (parE n ls) a (u0 ++ [r])) (hb : Up (parE n ls) b (d0 ++ [r])) :
    ∃ u t s d, u0 ++ [r] = u ++ t :: s ∧ d0 ++ [r] = d ++ t :: s ∧ ¬ (0 < u.length ∧ 0 < d.length ∧ u.getLast? = d.getLast?) ∧ d_tree_walk [parD n ls, .int a, .int b] = .ok (.tup ((u ++ t :: d.reverse).map .int)) := by
  have wa := wayT_ok hl hn2 a0 a1 ha
  have wb := wayT_ok hl hn2 b0 b1 hb
  have la : (u0 ++ [r]).length ≤ n.toNat := by
    obtain ⟨w', u, l⟩ := up_of hl a0 a1
    rw [ha.uniq u]; exact l
  have lb : (d0 ++ [r]).length ≤ n.toNat := by
    obtain ⟨w', u, l⟩ := up_of hl b0 b1
    rw [hb.uniq u]; exact l
  unfold d_tree_walk
  have ng : dNeg (.int 2) = some (.int (-2)) := rfl
  have ng1 : dNeg (.int 1) = some (.int (-1)) := rfl
  have cT : ∀ (ds : List D) (t : T), dT_way_up ds = .ok t → ds.length = 2 → ∀ (args : LS → R (List D)) (st : LS), args st = .ok ds → callT (arT 2 dT_way_up) [] args st = .ok t := fun ds t h l args st e => by
    unfold callT
    rw [e]
    show onlyT (arT 2 dT_way_up (ds ++ [])) = _
    rw [List.append_nil]
    unfold arT
    rw [if_pos l, h]
    rfl
  have c1 : ∀ st : LS, st[0]? = some (some (.im (parD n ls))) → st[1]? = some (some (.im (.int a))) → callT (arT 2 dT_way_up) [] (consA (vi 0) (consA (vi 1) nilA)) st = .ok (tE D.int (u0 ++ [r])) := fun st h0 h1 => cT _ _ wa rfl _ _ (by simp -implicitDefEqProofs (disch := first | omega | (simp -implicitDefEqProofs; done) | (simp -implicitDefEqProofs; omega)) [-List.map_map, BT.sub, ev_denI, ev_stI, ev_slfS, ev_slfE, ev_st0n, ev_mod, ev_div, ev_mul, ev_pow, ev_line, ev_rng1, ev_rng2, ev_ar, ev_arI, rangeD_length, h0, h1])
  have c2 : ∀ st : LS, st[0]? = some (some (.im (parD n ls))) → st[2]? = some (some (.im (.int b))) → callT (arT 2 dT_way_up) [] (consA (vi 0) (consA (vi 2) nilA)) st = .ok (tE D.int (d0 ++ [r])) := fun st h0 h1 => cT _ _ wb rfl _ _ (by simp -implicitDefEqProofs (disch := first | omega | (simp -implicitDefEqProofs; done) | (simp -implicitDefEqProofs; omega)) [-List.map_map, BT.sub, ev_denI, ev_stI, ev_slfS, ev_slfE, ev_st0n, ev_mod, ev_div, ev_mul, ev_pow, ev_line, ev_rng1, ev_rng2, ev_ar, ev_arI, rangeD_length, h0, h1])
  have d1 := c1 [some (.im (parD n ls)), some (.im (.int a)), some (.im (.int b)), none, none] rfl rfl
  have d2 := c2 [some (.im (parD n ls)), some (.im (.int a)), some (.im (.int b)), some (tE D.int (u0 ++ [r])), none] rfl rfl
  simp -implicitDefEqProofs (disch := first | omega | (simp -implicitDefEqProofs; done) | (simp -implicitDefEqProofs; omega)) [-List.map_map, BT.sub, ev_denI, ev_stI, ev_slfS, ev_slfE, ev_st0n, ev_mod, ev_div, ev_mul, ev_pow, ev_line, ev_rng1, ev_rng2, ev_ar, ev_arI, rangeD_length, d1, d2]
  generalize hW : whileL _ _ _ _ = o
  have snoc : ∀ l : List Int, 0 < l.length → ∃ l' x, l = l' ++ [x] := fun l h => ⟨l.dropLast, l.getLast (List.ne_nil_of_length_pos h), (List.dropLast_concat_getLast _).symm⟩
  obtain ⟨s', rfl, u, t, s, d, e1, e2, rfl, hk⟩ := while_hL hW (fun k st => ∃ (u : List Int) (t : Int) (s d : List Int), u0 ++ [r] = u ++ t :: s ∧ d0 ++ [r] = d ++ t :: s ∧ st = [some (.im (parD n ls)), some (.im (.int a)), some (.im (.int b)), some (tE D.int (u ++ [t])), some (tE D.int (d ++ [t]))] ∧ k = if 0 < u.length ∧ 0 < d.length ∧ u.getLast? = d.getLast? then u.length else 0)
    ⟨_, by
      split
      · rw [List.length_append, List.length_singleton] at la
        unfold fuel
        have : u0.length < 1000 := by omega
        omega
      · unfold fuel
        omega, u0, r, [], d0, rfl, rfl, rfl, rfl⟩
    (by
      rintro k st ⟨u, t, s, d, e1, e2, rfl, hk⟩
      have cc : 0 < u.length ∧ 0 < d.length ∧ u.getLast? = d.getLast? := by
        refine Classical.byContradiction fun z => ?_
        rw [if_neg z] at hk
        cases hk
      rw [if_pos cc] at hk
      obtain ⟨u', x, rfl⟩ := snoc u cc.1
      obtain ⟨d', z, rfl⟩ := snoc d cc.2.1
      have xz : x = z := by
        have := cc.2.2
        rw [List.getLast?_concat, List.getLast?_concat] at this
        exact Option.some.inj this
      subst xz
      have i1 := idx_m2 u' x t
      have i2 := idx_m2 d' x t
      have g1 : (1 : Int) < (u'.length : Int) + 2 := by omega
      have g2 : (1 : Int) < (d'.length : Int) + 2 := by omega
      constructor
      · simp -implicitDefEqProofs (disch := first | omega | (simp -implicitDefEqProofs; done) | (simp -implicitDefEqProofs; omega)) [-List.map_map, BT.sub, ev_denI, ev_stI, ev_slfS, ev_slfE, ev_st0n, ev_mod, ev_div, ev_mul, ev_pow, ev_line, ev_rng1, ev_rng2, ev_ar, ev_arI, rangeD_length, ng, i1, i2, g1, g2]
      · refine ⟨if 0 < u'.length ∧ 0 < d'.length ∧ u'.getLast? = d'.getLast? then u'.length else 0, [some (.im (parD n ls)), some (.im (.int a)), some (.im (.int b)), some (tE D.int (u' ++ [x])), some (tE D.int (d' ++ [x]))], ?_, ?_, u', x, t :: s, d', by rw [e1]; simp, by rw [e2]; simp, rfl, rfl⟩
        · rw [List.length_append, List.length_singleton] at hk
          split <;> omega
        · have pp : ∀ (i : Nat) (l : List Int) (st : LS), st[i]? = some (some (tE D.int (l ++ [x] ++ [t]))) → popS i st = .nx (st.set i (some (tE D.int (l ++ [x])))) := fun i l st h => by
            unfold popS
            rw [h]
            show (if 0 < ((l ++ [x] ++ [t]).map (T.im ∘ D.int)).length then Out.nx (st.set i (some (.lst ((l ++ [x] ++ [t]).map (T.im ∘ D.int)).dropLast))) else .bad) = _
            rw [if_pos (by simp), ← List.map_dropLast, List.dropLast_concat]
            rfl
          show (popS 3 _).seq _ = _
          rw [pp 3 u' _ rfl]
          show popS 4 [some (.im (parD n ls)), some (.im (.int a)), some (.im (.int b)), some (tE D.int (u' ++ [x])), some (tE D.int (d' ++ [x] ++ [t]))] = _
          exact pp 4 d' _ rfl)
    (by
      rintro st ⟨u, t, s, d, e1, e2, rfl, hk⟩
      have cc : ¬ (0 < u.length ∧ 0 < d.length ∧ u.getLast? = d.getLast?) := fun z => by
        rw [if_pos z] at hk
        omega
      by_cases hu : 0 < u.length
      · by_cases hd : 0 < d.length
        · obtain ⟨u', x, rfl⟩ := snoc u hu
          obtain ⟨d', z, rfl⟩ := snoc d hd
          have xz : ¬ x = z := fun e => cc ⟨hu, hd, by rw [e, List.getLast?_concat, List.getLast?_concat]⟩
          have i1 := idx_m2 u' x t
          have i2 := idx_m2 d' z t
          have g1 : (1 : Int) < (u'.length : Int) + 2 := by omega
          have g2 : (1 : Int) < (d'.length : Int) + 2 := by omega
          simp -implicitDefEqProofs (disch := first | omega | (simp -implicitDefEqProofs; done) | (simp -implicitDefEqProofs; omega)) [-List.map_map, BT.sub, ev_denI, ev_stI, ev_slfS, ev_slfE, ev_st0n, ev_mod, ev_div, ev_mul, ev_pow, ev_line, ev_rng1, ev_rng2, ev_ar, ev_arI, rangeD_length, ng, i1, i2, xz, g1, g2]
        · have : d = [] := List.length_eq_zero_iff.mp (by omega)
          subst this
          have g1 : (1 : Int) < (u.length : Int) + 1 := by omega
          simp -implicitDefEqProofs (disch := first | omega | (simp -implicitDefEqProofs; done) | (simp -implicitDefEqProofs; omega)) [-List.map_map, BT.sub, ev_denI, ev_stI, ev_slfS, ev_slfE, ev_st0n, ev_mod, ev_div, ev_mul, ev_pow, ev_line, ev_rng1, ev_rng2, ev_ar, ev_arI, rangeD_length, g1]
      · have : u = [] := List.length_eq_zero_iff.mp (by omega)
        subst this
        simp -implicitDefEqProofs (disch := first | omega | (simp -implicitDefEqProofs; done) | (simp -implicitDefEqProofs; omega)) [-List.map_map, BT.sub, ev_denI, ev_stI, ev_slfS, ev_slfE, ev_st0n, ev_mod, ev_div, ev_mul, ev_pow, ev_line, ev_rng1, ev_rng2, ev_ar, ev_arI, rangeD_length])
  have cc : ¬ (0 < u.length ∧ 0 < d.length ∧ u.getLast? = d.getLast?) := fun z => by
    rw [if_pos z] at hk
    omega
  refine ⟨u, t, s, e1, d, e2, fun z1 z2 z3 => cc ⟨z1, z2, z3⟩, ?_⟩
  have sl : dSl (.lst (d.map D.int ++ [D.int t])) none (some (-1)) = some (.lst (d.map D.int)) := by
    show some (D.lst (cutL (d.map D.int ++ [D.int t]) none (some (-1)))) = _
    unfold cutL
    have h1 : HT.sIx (d.map D.int ++ [D.int t]).length 0 none = 0 := rfl
    have h2 : HT.sIx (d.map D.int ++ [D.int t]).length (d.map D.int ++ [D.int t]).length (some (-1)) = d.length := by
      show (if (-1 : Int) < 0 then ((-1 : Int) + ((d.map D.int ++ [D.int t]).length : Int)).toNat else min (-1 : Int).toNat (d.map D.int ++ [D.int t]).length) = _
      rw [if_pos (by omega), List.length_append, List.length_map, List.length_singleton]
      omega
    rw [h1, h2, List.drop_zero, Nat.sub_zero, List.take_left' (by simp)]
  have rv : ∀ (f : LS → R D) (st : LS), revE f st = (f st).bind fun d => match d with
    | .lst ds => .ok (.lst ds.reverse)
    | _ => .bad := fun _ _ => rfl
  have l1 : (u ++ [t]).length + d.length ≤ 16777216 := by
    rw [e1] at la
    rw [e2] at lb
    simp at la lb ⊢
    omega
  have cat : dAdd (.lst (u.map D.int ++ [D.int t])) (.lst (d.map D.int).reverse) = some (.lst ((u ++ t :: d.reverse).map .int)) := by
    rw [ev_catL (by simp at l1 ⊢; omega)]
    simp
  simp -implicitDefEqProofs (disch := first | omega | (simp -implicitDefEqProofs; done) | (simp -implicitDefEqProofs; omega)) [-List.map_map, BT.sub, ev_denI, ev_stI, ev_slfS, ev_slfE, ev_st0n, ev_mod, ev_div, ev_mul, ev_pow, ev_line, ev_rng1, ev_rng2, ev_ar, ev_arI, rangeD_length, ng1, sl, rv, cat]
end
end FR
end
section
set_option Elab.async false
set_option linter.all false
set_option maxRecDepth 100000
namespace FR
open PySem L2 DI
theorem add_tup (xs ds : List D) (h : xs.length + ds.length ≤ 1000000) : dAdd (.tup xs) (.tup ds) = some (.tup (xs ++ ds)) := by
  show (lineC xs ds).map D.tup = _
  unfold lineC
  rw [if_pos (by rw [ev_size]; omega)]
  rfl
end FR
end
section
set_option Elab.async false
set_option linter.all false
set_option maxRecDepth 100000
namespace FR
open PySem L2 DI
/-! basic rings -/
/-- the walk over lines to parents, and back over the line -/
def TW (n : Int) (ls : List (Int × Int)) (p : Int × Int) (w : List Int) : Prop := ∃ u t s d, Up (parE n ls) p.1 (u ++ t :: s) ∧ Up (parE n ls) p.2 (d ++ t :: s) ∧ ¬ (0 < u.length ∧ 0 < d.length ∧ u.getLast? = d.getLast?) ∧ w = u ++ t :: d.reverse
def encW (w : List Int) : D := .tup (w.map .int)
section
variable {n : Int} {ls : List (Int × Int)}
theorem ne_O (o : Option Int) (b : Int) : dNe (eO o) (.int b) = some (.bl (!decide (o = some b))) := by
  cases o with
  | none => rfl
  | some v =>
    show dNe (.int v) (.int b) = _
    by_cases c : v = b
    · subst c
      simp -implicitDefEqProofs (disch := first | omega | (simp -implicitDefEqProofs; done) | (simp -implicitDefEqProofs; omega)) [-List.map_map, BT.sub, ev_denI, ev_stI, ev_slfS, ev_slfE, ev_st0n, ev_mod, ev_div, ev_mul, ev_pow, ev_line, ev_rng1, ev_rng2, ev_ar, ev_arI, rangeD_length]
    · have c2 : ¬ (some v = some b) := fun e => c (Option.some.inj e)
      rw [decide_eq_false c2]
      simp -implicitDefEqProofs (disch := first | omega | (simp -implicitDefEqProofs; done) | (simp -implicitDefEqProofs; omega)) [-List.map_map, BT.sub, ev_denI, ev_stI, ev_slfS, ev_slfE, ev_st0n, ev_mod, ev_div, ev_mul, ev_pow, ev_line, ev_rng1, ev_rng2, ev_ar, ev_arI, rangeD_length, c]
theorem isT_not {p : Int × Int} : isT n ls p = false ↔ ¬ parE n ls p.1 = some p.2 ∧ ¬ parE n ls p.2 = some p.1 := by
  unfold isT
  rw [decide_eq_false_iff_not, not_or]
theorem basic_rings_ok (hl : Lines n ls) (hn0 : 0 ≤ n) (hn2 : n ≤ 1000) (hln : ls.length ≤ 10000) : ∃ f : Int × Int → List Int, (∀ p ∈ ls, TW n ls p (f p) ∧ (f p).length ≤ 2000) ∧ d_basic_rings [webD n ls] = .ok (.tup ((((ls.filter fun p => !isT n ls p)).map fun p => f p ++ [p.1]).map encW)) := by
  have hx : ∀ p : Int × Int, ∃ w, p ∈ ls → (TW n ls p w ∧ w.length ≤ 2000) ∧ d_tree_walk [parD n ls, .int p.1, .int p.2] = .ok (encW w) := fun p => by
    by_cases hp : p ∈ ls
    · have o := hl.ok p hp
      have m : p.2 ∈ rowAt n ls p.1 := (rowAt_iff hl (by omega) (by omega)).mpr (.inl hp)
      obtain ⟨wa, ua, la⟩ := up_of hl (y := p.1) (by omega) (by omega)
      obtain ⟨wb, ub, lb⟩ := up_of hl (y := p.2) (by omega) (by omega)
      obtain ⟨u0, d0, r, rfl, rfl⟩ := same_root hl (by omega) (by omega) m ua ub
      obtain ⟨u, t, s, d, e1, e2, e3, e4⟩ := tree_walk_ok hl hn2 (a := p.1) (b := p.2) (by omega) (by omega) (by omega) (by omega) ua ub
      refine ⟨u ++ t :: d.reverse, fun _ => ⟨⟨⟨u, t, s, d, by rw [← e1]; exact ua, by rw [← e2]; exact ub, e3, rfl⟩, ?_⟩, e4⟩⟩
      rw [e1] at la
      rw [e2] at lb
      simp at la lb ⊢
      omega
    · exact ⟨[], fun h => absurd h hp⟩
  obtain ⟨f, hf⟩ := Classical.skolem.mp hx
  refine ⟨f, fun p hp => (hf p hp).1, ?_⟩
  unfold d_basic_rings
  have fo := forest_ok hl hn0 hn2
  have fo : d_forest [webD n ls] = .ok (parD n ls) := fo
  have wl : dFld fl_lines (webD n ls) = some (.tup (ls.map dP)) := rfl
  simp -implicitDefEqProofs (disch := first | omega | (simp -implicitDefEqProofs; done) | (simp -implicitDefEqProofs; omega)) [-List.map_map, BT.sub, ev_denI, ev_stI, ev_slfS, ev_slfE, ev_st0n, ev_mod, ev_div, ev_mul, ev_pow, ev_line, ev_rng1, ev_rng2, ev_ar, ev_arI, rangeD_length, fo, wl]
  rw [tE_nil (enc := encW)]
  generalize hL : forL _ _ _ _ = o
  obtain ⟨s', rfl, j3, j4, rfl⟩ := loop hL (fun pr s => ∃ (j3 j4 : Option T), s = [some (.im (webD n ls)), some (.im (parD n ls)), some (tE encW ((pr.filter fun p => !isT n ls p).map fun p => f p ++ [p.1])), j3, j4]) ⟨none, none, rfl⟩ (by
    rintro pr p po s q ⟨j3, j4, rfl⟩
    have hp : p ∈ ls := by rw [q]; simp
    have o := hl.ok p hp
    have i1 := par_idx (ls := ls) (y := p.1) (by omega) (show p.1 < n by omega)
    have i2 := par_idx (ls := ls) (y := p.2) (by omega) (show p.2 < n by omega)
    have n1 := ne_O (parE n ls p.1) p.2
    have n2 := ne_O (parE n ls p.2) p.1
    obtain ⟨⟨_, fl⟩, tw⟩ := hf p hp
    have hlen : pr.length ≤ 10000 := by
      have := congrArg List.length q
      simp at this
      omega
    have fl2 := List.length_filter_le (fun p => !isT n ls p) pr
    rw [List.filter_append, List.map_append]
    by_cases c : isT n ls p = false
    · obtain ⟨c1, c2⟩ := isT_not.mp c
      rw [decide_eq_false c1] at n1
      rw [decide_eq_false c2] at n2
      have e : ([p].filter fun p => !isT n ls p).map (fun p => f p ++ [p.1]) = [f p ++ [p.1]] := by simp [c]
      rw [e]
      have ad : dAdd (encW (f p)) (.tup [.int p.1]) = some (encW (f p ++ [p.1])) := by
        unfold encW
        rw [add_tup _ _ (by simp; omega), List.map_append]
        rfl
      have ll : ((pr.filter fun p => !isT n ls p).map fun p => f p ++ [p.1]).length < 16777216 := by rw [List.length_map]; omega
      generalize (pr.filter fun p => !isT n ls p).map (fun p => f p ++ [p.1]) = L at *
      exact ⟨_, by simp -implicitDefEqProofs (disch := first | omega | (simp -implicitDefEqProofs; done) | (simp -implicitDefEqProofs; omega)) [-List.map_map, BT.sub, ev_denI, ev_stI, ev_slfS, ev_slfE, ev_st0n, ev_mod, ev_div, ev_mul, ev_pow, ev_line, ev_rng1, ev_rng2, ev_ar, ev_arI, rangeD_length, dP, ev_if, i1, i2, n1, n2, tw, ad, ll], some (.im (.int p.1)), some (.im (.int p.2)), rfl⟩
    · have ct : isT n ls p = true := by simpa using c
      have e : ([p].filter fun p => !isT n ls p).map (fun p => f p ++ [p.1]) = [] := by simp [ct]
      rw [e, List.append_nil]
      generalize (pr.filter fun p => !isT n ls p).map (fun p => f p ++ [p.1]) = L at *
      have ct := of_decide_eq_true ct
      by_cases c1 : parE n ls p.1 = some p.2
      · rw [decide_eq_true c1] at n1
        exact ⟨_, by simp -implicitDefEqProofs (disch := first | omega | (simp -implicitDefEqProofs; done) | (simp -implicitDefEqProofs; omega)) [-List.map_map, BT.sub, ev_denI, ev_stI, ev_slfS, ev_slfE, ev_st0n, ev_mod, ev_div, ev_mul, ev_pow, ev_line, ev_rng1, ev_rng2, ev_ar, ev_arI, rangeD_length, dP, ev_if, i1, i2, n1, n2], some (.im (.int p.1)), some (.im (.int p.2)), rfl⟩
      · have c2 := ct.resolve_left c1
        rw [decide_eq_false c1] at n1
        rw [decide_eq_true c2] at n2
        exact ⟨_, by simp -implicitDefEqProofs (disch := first | omega | (simp -implicitDefEqProofs; done) | (simp -implicitDefEqProofs; omega)) [-List.map_map, BT.sub, ev_denI, ev_stI, ev_slfS, ev_slfE, ev_st0n, ev_mod, ev_div, ev_mul, ev_pow, ev_line, ev_rng1, ev_rng2, ev_ar, ev_arI, rangeD_length, dP, ev_if, i1, i2, n1, n2], some (.im (.int p.1)), some (.im (.int p.2)), rfl⟩)
  have fl := List.length_filter_le (fun p => !isT n ls p) ls
  have ll : ((ls.filter fun p => !isT n ls p).map fun p => f p ++ [p.1]).length ≤ 16777216 := by rw [List.length_map]; omega
  generalize (ls.filter fun p => !isT n ls p).map (fun p => f p ++ [p.1]) = L at *
  simp -implicitDefEqProofs (disch := first | omega | (simp -implicitDefEqProofs; done) | (simp -implicitDefEqProofs; omega)) [-List.map_map, BT.sub, ev_denI, ev_stI, ev_slfS, ev_slfE, ev_st0n, ev_mod, ev_div, ev_mul, ev_pow, ev_line, ev_rng1, ev_rng2, ev_ar, ev_arI, rangeD_length, ll]
/-! they are rings of the web -/
theorem Chain.join0 : ∀ {u : List Int} {x : Int} {v : List Int}, Chain n ls (u ++ [x]) → Chain n ls (x :: v) → Chain n ls (u ++ x :: v)
  | [], x, v, _, h => h
  | [y], x, v, g, h => ⟨g.1, g.2.1, h⟩
  | y :: z :: u, x, v, g, h => ⟨g.1, g.2.1, Chain.join0 (u := z :: u) g.2.2 h⟩
theorem Chain.pre : ∀ {u v : List Int}, Chain n ls (u ++ v) → Chain n ls u
  | [], v, _ => trivial
  | [y], v, g => g.head
  | y :: z :: u, v, g => ⟨g.1, g.2.1, Chain.pre (u := z :: u) g.2.2⟩
theorem Chain.rev (hl : Lines n ls) : ∀ {w : List Int}, Chain n ls w → Chain n ls w.reverse
  | [], _ => trivial
  | [x], h => h
  | x :: y :: w, h => by
    have ih := Chain.rev hl h.2.2
    have yr := h.2.2.head
    rw [List.reverse_cons, List.reverse_cons] at *
    rw [List.append_assoc]
    exact Chain.join0 ih ⟨yr, (rowAt_symm hl h.1.1 h.1.2 yr.1 yr.2).mp h.2.1, h.1⟩
/-- a closed walk of at least three steps -/
def RingOk (n : Int) (ls : List (Int × Int)) (r : List Int) : Prop := ∃ x w, r = x :: w ++ [x] ∧ Chain n ls r ∧ 2 ≤ w.length ∧ w.length ≤ 2000
theorem TW.ring (hl : Lines n ls) {p : Int × Int} (hp : p ∈ ls) (ht : isT n ls p = false) {w : List Int} (h : TW n ls p w) (lw : w.length ≤ 2000) : RingOk n ls (w ++ [p.1]) := by
  obtain ⟨u, t, s, d, h1, h2, _, rfl⟩ := h
  have o := hl.ok p hp
  have c1 := h1.chain hl (by omega) (by omega)
  have c2 := h2.chain hl (by omega) (by omega)
  have m : p.2 ∈ rowAt n ls p.1 := (rowAt_iff hl (by omega) (by omega)).mpr (.inl hp)
  have m2 := (rowAt_symm hl (by omega) (by omega) (by omega) (by omega)).mp m
  obtain ⟨n1, n2⟩ := isT_not.mp ht
  obtain ⟨x1, g1⟩ := h1.head
  obtain ⟨x2, g2⟩ := h2.head
  have q1 : Chain n ls (u ++ [t]) := Chain.pre (v := s) (by rw [List.append_assoc]; exact c1)
  have q2 : Chain n ls (d ++ [t]) := Chain.pre (v := s) (by rw [List.append_assoc]; exact c2)
  have q3 := q2.rev hl
  -- the start and the end
  obtain ⟨v1, e1⟩ : ∃ v, u ++ [t] = p.1 :: v := by
    cases u with
    | nil =>
      rw [List.nil_append] at g1
      exact ⟨[], by rw [(List.cons.inj g1).1]; rfl⟩
    | cons z u =>
      rw [List.cons_append] at g1
      exact ⟨u ++ [t], by rw [(List.cons.inj g1).1]; rfl⟩
  obtain ⟨v2, e2⟩ : ∃ v, d ++ [t] = p.2 :: v := by
    cases d with
    | nil =>
      rw [List.nil_append] at g2
      exact ⟨[], by rw [(List.cons.inj g2).1]; rfl⟩
    | cons z d =>
      rw [List.cons_append] at g2
      exact ⟨d ++ [t], by rw [(List.cons.inj g2).1]; rfl⟩
  have e3 : t :: d.reverse = v2.reverse ++ [p.2] := by
    have := congrArg List.reverse e2
    rw [List.reverse_append, List.reverse_cons] at this
    simpa using this
  have q4 : Chain n ls (t :: d.reverse ++ [p.1]) := by
    rw [e2, List.reverse_cons] at q3
    rw [e3, List.append_assoc]
    exact Chain.join0 q3 ⟨⟨by omega, by omega⟩, m2, by omega, by omega⟩
  have q5 : Chain n ls (u ++ t :: (d.reverse ++ [p.1])) := Chain.join0 q1 q4
  have ln : 2 ≤ u.length + d.length := by
    refine Classical.byContradiction fun z => ?_
    have cases4 : (u = [] ∧ d = []) ∨ (∃ x, u = [x] ∧ d = []) ∨ (∃ x, u = [] ∧ d = [x]) := by
      match u, d, z with
      | [], [], _ => exact .inl ⟨rfl, rfl⟩
      | [x], [], _ => exact .inr (.inl ⟨x, rfl, rfl⟩)
      | [], [x], _ => exact .inr (.inr ⟨x, rfl, rfl⟩)
      | _ :: _ :: _, _, z => exact absurd (by simp; omega) z
      | _, _ :: _ :: _, z => exact absurd (by simp; omega) z
      | [_], [_], z => exact absurd (by simp) z
    rcases cases4 with ⟨rfl, rfl⟩ | ⟨x, rfl, rfl⟩ | ⟨x, rfl, rfl⟩
    · have a := (List.cons.inj g1).1
      have b := (List.cons.inj g2).1
      omega
    · -- p.1's parent is t = p.2
      have a := (List.cons.inj g2).1
      cases h1 with
      | step e u2 =>
        obtain ⟨s2, e2⟩ := u2.head
        have := (List.cons.inj e2).1
        exact n1 (by rw [e, ← this, a])
    · have a := (List.cons.inj g1).1
      cases h2 with
      | step e u2 =>
        obtain ⟨s2, e2⟩ := u2.head
        have := (List.cons.inj e2).1
        exact n2 (by rw [e, ← this, a])
  have e4 : u ++ t :: d.reverse = p.1 :: (v1 ++ d.reverse) := by
    have : u ++ t :: d.reverse = (u ++ [t]) ++ d.reverse := by simp
    rw [this, e1]
    rfl
  refine ⟨p.1, v1 ++ d.reverse, by rw [e4], by rw [List.append_assoc, List.cons_append]; exact q5, ?_, ?_⟩
  · have := congrArg List.length e4
    simp at this ⊢
    omega
  · rw [e4] at lw
    simp at lw ⊢
    omega
end
end FR
end
section
set_option Elab.async false
set_option linter.all false
set_option maxRecDepth 100000
namespace FR
open PySem L2 DI
/-! l.index(x) for ints -/
theorem ints_sh (xs : List Int) : (D.lst (xs.map .int)).sh = some (.list (xs.map .int)) := by
  obtain ⟨p, y, e2⟩ := sh_plain (n := 1) (d := .lst (xs.map .int)) (by unfold D.plain; exact ints_plain xs) (by omega)
  unfold D.py at y
  rw [pys_ints] at y
  cases y
  exact e2
theorem fst_ints (x : Int) : ∀ xs : List Int, x ∈ xs → fstIx (fun z => PyData.eqv z (.int x)) (xs.map PyData.int) = some (xs.idxOf x)
  | [], h => by cases h
  | y :: ys, h => by
    rw [List.map_cons]
    unfold fstIx
    have e : PyData.eqv (.int y) (.int x) = decide (y = x) := by
      unfold PyData.eqv
      rfl
    rw [e, List.idxOf_cons]
    by_cases c : y = x
    · subst c
      simp
    · have hb : (y == x) = false := by simpa using c
      have m : x ∈ ys := by
        rcases List.mem_cons.mp h with e | m
        · exact absurd e.symm c
        · exact m
      rw [if_neg (by simpa using c), fst_ints x ys m, hb]
      rfl
theorem ev_fst (x : Int) (xs : List Int) (h : x ∈ xs) : dFst (.lst (xs.map .int)) (.int x) = some (.int ((xs.idxOf x : Nat) : Int)) := by
  unfold dFst
  rw [ints_sh, sh_int]
  show (fstIx (fun z => PyData.eqv z (.int x)) (xs.map PyData.int)).map (fun j => D.int (j : Nat)) = _
  rw [fst_ints x xs h]
  rfl
end FR
end
section
set_option Elab.async false
set_option linter.all false
set_option maxRecDepth 100000
namespace FR
open PySem L2 DI
/-! the law's own basic rings -/
abbrev lparD (n : Int) (ls : List (Int × Int)) : D := .lst ((lsO n.toNat (parE n ls)).map eO)
section
variable {n : Int} {ls : List (Int × Int)}
theorem lpar_idx {y : Int} (y0 : 0 ≤ y) (y1 : y < n) : dIdx (lparD n ls) (.int y) = some (eO (parE n ls y)) := by
  refine ev_idxE (enc := eO) (x := parE n ls y) y0 ?_
  unfold lsO
  rw [List.getElem?_map, List.getElem?_range (by omega)]
  show some (parE n ls ((y.toNat : Nat) : Int)) = _
  rw [Int.toNat_of_nonneg y0]
theorem idx_len1 (pr : List Int) (x : Int) : dIdx (.lst (pr.map D.int ++ [D.int x])) (.int (pr.length : Int)) = some (.int x) := by
  show atI (pr.map D.int ++ [D.int x]) (pr.length : Int) = _
  unfold atI ixN
  rw [if_pos (by omega), if_pos (by simp; omega)]
  show (pr.map D.int ++ [D.int x])[_]? = _
  rw [Int.toNat_natCast, List.getElem?_append_right (by simp)]
  simp
theorem lup_ok (hl : Lines n ls) (hn2 : n ≤ 1000) {y : Int} (y0 : 0 ≤ y) (y1 : y < n) {w : List Int} (hw : Up (parE n ls) y w) : d__law_up [lparD n ls, .int y] = .ok (.lst (w.map .int)) := by
  have wl : w.length ≤ n.toNat := by
    obtain ⟨w', u, l⟩ := up_of hl y0 y1
    rw [hw.uniq u]; exact l
  unfold d__law_up
  have ln : dLen [lparD n ls] = some (.int n) := by
    rw [ev_lenL, List.length_map, lsO_len, Int.toNat_of_nonneg (by omega)]
  obtain ⟨s0, es⟩ := hw.head
  simp -implicitDefEqProofs (disch := first | omega | (simp -implicitDefEqProofs; done) | (simp -implicitDefEqProofs; omega)) [-List.map_map, BT.sub, ev_denI, ev_stI, ev_slfS, ev_slfE, ev_st0n, ev_mod, ev_div, ev_mul, ev_pow, ev_line, ev_rng1, ev_rng2, ev_ar, ev_arI, rangeD_length, ln]
  have im : imT [D.int y] = tE D.int [y] := rfl
  rw [im]
  generalize hL : forL _ _ _ _ = o
  obtain ⟨s', rfl, pr, x, s, j3, e1, rfl, hx, xr, hk⟩ := loop (α := Nat) hL (fun qr st => ∃ (pr : List Int) (x : Int) (s : List Int) (j3 : Option T), w = pr ++ x :: s ∧ st = [some (.im (lparD n ls)), some (.im (.int y)), some (tE D.int (pr ++ [x])), j3] ∧ Up (parE n ls) x (x :: s) ∧ (0 ≤ x ∧ x < n) ∧ (s = [] ∨ pr.length = qr.length)) ⟨[], y, s0, none, es, rfl, by rw [← es]; exact hw, ⟨y0, y1⟩, .inr rfl⟩ (by
    rintro qr k po st q ⟨pr, x, s, j3, e1, rfl, hx, xr, hk⟩
    obtain ⟨f1, f2, f3⟩ := range_split q
    have i1 := idx_len1 pr x
    have i2 := lpar_idx (ls := ls) xr.1 xr.2
    have el : (pr.length : Int) + 1 - 1 = pr.length := by omega
    have pl : pr.length + 1 ≤ n.toNat := by
      rw [e1] at wl
      simp at wl
      omega
    cases hx with
    | top e =>
      rw [e] at i2
      have nn : dNotN (eO none) .non = some (.bl false) := rfl
      exact ⟨_, by simp -implicitDefEqProofs (disch := first | omega | (simp -implicitDefEqProofs; done) | (simp -implicitDefEqProofs; omega)) [-List.map_map, BT.sub, ev_denI, ev_stI, ev_slfS, ev_slfE, ev_st0n, ev_mod, ev_div, ev_mul, ev_pow, ev_line, ev_rng1, ev_rng2, ev_ar, ev_arI, rangeD_length, ev_if, el, i1, i2, nn], pr, x, [], some (.im (.int (k : Int))), e1, rfl, .top e, xr, .inl rfl⟩
    | @step _ v _ e u =>
      obtain ⟨a, _, _⟩ := parE_ok hl xr.1 xr.2 e
      obtain ⟨s2, e2⟩ := u.head
      subst e2
      rw [e] at i2
      have e3 : eO (some v) = .int v := rfl
      rw [e3] at i2
      have nn : dNotN (.int v) .non = some (.bl true) := rfl
      have ll : pr.length + 1 < 16777216 := by omega
      refine ⟨[some (.im (lparD n ls)), some (.im (.int y)), some (tE D.int (pr ++ [x] ++ [v])), some (.im (.int (k : Int)))], ?_, pr ++ [x], v, s2, some (.im (.int (k : Int))), by rw [e1]; simp, rfl, u, a, .inr ?_⟩
      · simp -implicitDefEqProofs (disch := first | omega | (simp -implicitDefEqProofs; done) | (simp -implicitDefEqProofs; omega)) [-List.map_map, BT.sub, ev_denI, ev_stI, ev_slfS, ev_slfE, ev_st0n, ev_mod, ev_div, ev_mul, ev_pow, ev_line, ev_rng1, ev_rng2, ev_ar, ev_arI, rangeD_length, ev_if, el, i1, i2, nn, ll]
        unfold tE
        rw [List.map_append]
        rfl
      · rcases hk with h | h
        · cases h
        · rw [List.length_append, List.length_append, h, List.length_singleton, List.length_singleton])
  have s0 : s = [] := by
    rcases hk with h | h
    · exact h
    · rw [List.length_range] at h
      rw [e1] at wl
      simp at wl
      omega
  subst s0
  rw [e1]
  simp -implicitDefEqProofs (disch := first | omega | (simp -implicitDefEqProofs; done) | (simp -implicitDefEqProofs; omega)) [-List.map_map, BT.sub, ev_denI, ev_stI, ev_slfS, ev_slfE, ev_st0n, ev_mod, ev_div, ev_mul, ev_pow, ev_line, ev_rng1, ev_rng2, ev_ar, ev_arI, rangeD_length]
theorem Up.nodup (hl : Lines n ls) {y : Int} {w : List Int} (h : Up (parE n ls) y w) (y0 : 0 ≤ y) (y1 : y < n) : w.Nodup ∧ ∀ x ∈ w, (allK n ls).idxOf x ≤ (allK n ls).idxOf y := by
  induction h with
  | @top y e => exact ⟨by simp, fun x m => by rw [List.mem_singleton.mp m]; exact Nat.le_refl _⟩
  | @step y v w e _ ih =>
    obtain ⟨a, b, c⟩ := parE_ok hl y0 y1 e
    obtain ⟨h1, h2⟩ := ih a.1 a.2
    refine ⟨List.nodup_cons.mpr ⟨fun m => by
      have := h2 y m
      omega, h1⟩, fun x m => ?_⟩
    rcases List.mem_cons.mp m with m | m
    · rw [m]; exact Nat.le_refl _
    · have := h2 x m
      omega
/-- what stands above a place on a way up -/
theorem Up.tail {P : Int → Option Int} {y : Int} : ∀ {u : List Int} {x : Int} {s : List Int} {w : List Int}, Up P y w → w = u ++ x :: s → Up P x (x :: s)
  | [], x, s, w, h, e => by
    obtain ⟨s', e'⟩ := h.head
    rw [List.nil_append] at e
    rw [e] at h e'
    rw [(List.cons.inj e').1]
    have := (List.cons.inj e').1
    rw [this] at h
    exact h
  | z :: u, x, s, w, h, e => by
    cases h with
    | top e2 =>
      rw [List.cons_append] at e
      have := (List.cons.inj e).2
      cases u <;> cases this
    | step e2 h2 =>
      rw [List.cons_append] at e
      exact Up.tail (u := u) h2 (List.cons.inj e).2
/-- the ways meet first where the walk turns -/
theorem TW.apart (hl : Lines n ls) {p : Int × Int} {u s d : List Int} {t : Int} (p0 : 0 ≤ p.1 ∧ p.1 < n) (p1 : 0 ≤ p.2 ∧ p.2 < n) (h1 : Up (parE n ls) p.1 (u ++ t :: s)) (h2 : Up (parE n ls) p.2 (d ++ t :: s)) (h3 : ¬ (0 < u.length ∧ 0 < d.length ∧ u.getLast? = d.getLast?)) :
    ∀ x ∈ u, x ∉ d ++ t :: s := fun x hx m => by
  have n1 := (h1.nodup hl p0.1 p0.2).1
  obtain ⟨u1, u2, rfl⟩ := List.append_of_mem hx
  rcases List.mem_append.mp m with m | m
  · obtain ⟨d1, d2, rfl⟩ := List.append_of_mem m
    have a := h1.tail (u := u1) (x := x) (s := u2 ++ t :: s) (by simp)
    have b := h2.tail (u := d1) (x := x) (s := d2 ++ t :: s) (by simp)
    have e := (List.cons.inj (a.uniq b)).2
    have e := List.append_cancel_right e
    subst e
    have gl : ∀ l : List Int, (l ++ x :: u2).getLast? = (x :: u2).getLast? := fun l => by
      rw [List.getLast?_append]
      cases h : (x :: u2).getLast? with
      | none => simp at h
      | some z => rfl
    exact h3 ⟨by simp; omega, by simp; omega, by rw [gl, gl]⟩
  · exact (List.nodup_append.mp n1).2.2 x (by simp) x m rfl
theorem idx_mid {u s : List Int} {t : Int} (h : t ∉ u) : (u ++ t :: s).idxOf t = u.length := by
  rw [List.idxOf_append, if_neg h, List.idxOf_cons_self]
  omega
theorem lbasic_ok (hl : Lines n ls) (hn2 : n ≤ 1000) {p : Int × Int} (hp : p ∈ ls) {w : List Int} (h : TW n ls p w) : d__law_basic [lparD n ls, .int p.1, .int p.2] = .ok (encW (w ++ [p.1])) := by
  obtain ⟨u, t, s, d, h1, h2, h3, rfl⟩ := h
  have o := hl.ok p hp
  have ap := TW.apart hl (by omega) (by omega) h1 h2 h3
  have ap2 := TW.apart (p := (p.2, p.1)) hl (by show 0 ≤ p.2 ∧ p.2 < n; omega) (by show 0 ≤ p.1 ∧ p.1 < n; omega) h2 h1 fun z => h3 ⟨z.2.1, z.1, z.2.2.symm⟩
  have l1 := lup_ok hl hn2 (by omega) (by omega) h1
  have l2 := lup_ok hl hn2 (by omega) (by omega) h2
  have n1 := (h1.nodup hl (by omega) (by omega)).1
  have n2 := (h2.nodup hl (by omega) (by omega)).1
  have tu : t ∉ u := fun m => ap t m (by simp)
  have td : t ∉ d := fun m => ap2 t m (by simp)
  have la : (u ++ t :: s).length ≤ n.toNat := by
    obtain ⟨w', u', l⟩ := up_of hl (y := p.1) (by omega) (by omega)
    rw [h1.uniq u']; exact l
  have lb : (d ++ t :: s).length ≤ n.toNat := by
    obtain ⟨w', u', l⟩ := up_of hl (y := p.2) (by omega) (by omega)
    rw [h2.uniq u']; exact l
  have f1 : dFst (.lst ((u ++ t :: s).map .int)) (.int t) = some (.int (u.length : Int)) := by rw [ev_fst t _ (by simp), idx_mid tu]
  have f2 : dFst (.lst ((d ++ t :: s).map .int)) (.int t) = some (.int (d.length : Int)) := by rw [ev_fst t _ (by simp), idx_mid td]
  have sh : (u ++ t :: s).filter (fun x => decide (x ∈ d ++ t :: s)) = t :: s := by
    rw [List.filter_append]
    have a : u.filter (fun x => decide (x ∈ d ++ t :: s)) = [] := by
      rw [List.filter_eq_nil_iff]
      intro x hx
      have := ap x hx
      simpa using this
    have b : (t :: s).filter (fun x => decide (x ∈ d ++ t :: s)) = t :: s := by
      rw [List.filter_eq_self]
      intro x hx
      exact decide_eq_true (List.mem_append_right _ hx)
    rw [a, b]
    rfl
  have dI : ∀ k : Nat, k < d.length → dIdx (.lst ((d ++ t :: s).map .int)) (.int ((d.length : Int) - 1 - (k : Int))) = some (.int (d.reverse.getD k 0)) := fun k hk => by
    have e : (d.length : Int) - 1 - (k : Int) = ((d.length - 1 - k : Nat) : Int) := by omega
    rw [e]
    refine ev_idxE (enc := D.int) (by omega) ?_
    rw [Int.toNat_natCast, List.getElem?_append_left (by omega), List.getD_eq_getElem?_getD, List.getElem?_reverse hk, List.getElem?_eq_getElem (show d.length - 1 - k < d.length by omega)]
    rfl
  unfold d__law_basic
  obtain ⟨RH, hRH⟩ : ∃ RH, RH = encW (u ++ t :: d.reverse ++ [p.1]) := ⟨_, rfl⟩
  rw [← hRH]
  have evx : ∀ (fo fa : LS → R D) (st : LS), idxE fo fa st = (fo st).bind fun d => if isLst d = true then (fa st).bind fun e => .of (dFst d e) else .bad := fun _ _ _ => rfl
  have isl : ∀ ds : List D, isLst (.lst ds) = true := fun _ => rfl
  have inl := fun x : Int => ev_inL (x := x) (xs := d ++ t :: s)
  have sl : dSl (.lst ((u ++ t :: s).map .int)) none (some ((u.length : Int) + 1)) = some (.lst ((u ++ [t]).map .int)) := by
    have e : (u ++ t :: s).take (u.length + 1) = u ++ [t] := by
      rw [show u ++ t :: s = (u ++ [t]) ++ s by simp, List.take_left' (by simp)]
    rw [ev_slL (by omega), ← List.map_take, show ((u.length : Int) + 1).toNat = u.length + 1 by omega, e]
  have A16 : (u ++ t :: s).length ≤ 16777216 := by omega
  obtain ⟨U, hU⟩ : ∃ U, U = u ++ t :: s := ⟨_, rfl⟩
  obtain ⟨V, hV⟩ : ∃ V, V = d ++ t :: s := ⟨_, rfl⟩
  rw [← hU] at l1 f1 sh sl A16
  rw [← hV] at l2 f2 sh dI inl
  clear hU hV
  simp -implicitDefEqProofs (disch := first | omega | (simp -implicitDefEqProofs; done) | (simp -implicitDefEqProofs; omega)) [-List.map_map, BT.sub, ev_denI, ev_stI, ev_slfS, ev_slfE, ev_st0n, ev_mod, ev_div, ev_mul, ev_pow, ev_line, ev_rng1, ev_rng2, ev_ar, ev_arI, rangeD_length, l1, l2, A16]
  generalize hC : compL _ _ _ _ _ = oc
  have qz := compP hC (fun x => decide (x ∈ V)) D.int id fun x hx => ⟨_, rfl, by
    have := inl x
    simp -implicitDefEqProofs (disch := first | omega | (simp -implicitDefEqProofs; done) | (simp -implicitDefEqProofs; omega)) [-List.map_map, BT.sub, ev_denI, ev_stI, ev_slfS, ev_slfE, ev_st0n, ev_mod, ev_div, ev_mul, ev_pow, ev_line, ev_rng1, ev_rng2, ev_ar, ev_arI, rangeD_length, this], fun _ => rfl⟩
  rw [sh, List.map_id] at qz
  subst qz
  clear hC
  have d16 : d.length ≤ 16777216 := by
    simp at lb
    omega
  have t0 : dIdx (.lst (D.int t :: s.map D.int)) (.int 0) = some (.int t) := by simp
  simp -implicitDefEqProofs (disch := first | omega | (simp -implicitDefEqProofs; done) | (simp -implicitDefEqProofs; omega)) [-List.map_map, BT.sub, ev_denI, ev_stI, ev_slfS, ev_slfE, ev_st0n, ev_mod, ev_div, ev_mul, ev_pow, ev_line, ev_rng1, ev_rng2, ev_ar, ev_arI, rangeD_length, t0, evx, isl, f2, d16]
  generalize hC : compL _ _ _ _ _ = oc
  have qz := comp (α := Nat) hC D.int (fun k => d.reverse.getD k 0) fun k hk => ⟨_, rfl, rfl, by
    have := dI k (List.mem_range.mp hk)
    simp -implicitDefEqProofs (disch := first | omega | (simp -implicitDefEqProofs; done) | (simp -implicitDefEqProofs; omega)) [-List.map_map, BT.sub, ev_denI, ev_stI, ev_slfS, ev_slfE, ev_st0n, ev_mod, ev_div, ev_mul, ev_pow, ev_line, ev_rng1, ev_rng2, ev_ar, ev_arI, rangeD_length, evx, isl, f2, this]⟩
  have er : (List.range d.length).map (fun k => d.reverse.getD k 0) = d.reverse := by
    apply List.ext_getElem
    · simp
    · intro i a b
      rw [List.getElem_map, List.getElem_range, List.getD_eq_getElem?_getD, List.getElem?_eq_getElem b]
      rfl
  rw [er] at qz
  subst qz
  clear hC
  have c1 : dAdd (.lst ((u ++ [t]).map .int)) (.lst (d.reverse.map .int)) = some (.lst ((u ++ t :: d.reverse).map .int)) := by
    rw [ev_catL (by simp at la lb ⊢; omega), ← List.map_append, show u ++ [t] ++ d.reverse = u ++ t :: d.reverse by simp]
  have c2 : dAdd (.lst ((u ++ t :: d.reverse).map .int)) (.lst [.int p.1]) = some (.lst ((u ++ t :: d.reverse ++ [p.1]).map .int)) := by
    rw [ev_catL (by simp at la lb ⊢; omega), List.map_append (l₁ := u ++ t :: d.reverse)]
    rfl
  have l3 : (u ++ t :: d.reverse ++ [p.1]).length ≤ 16777216 := by
    simp at la lb ⊢
    omega
  have fin : D.tup ((u ++ t :: d.reverse ++ [p.1]).map .int) = RH := by rw [hRH]; rfl
  clear hRH
  generalize u ++ t :: d.reverse ++ [p.1] = W3 at *
  generalize u ++ t :: d.reverse = W2 at *
  generalize u ++ [t] = W1 at *
  generalize d.reverse = dr at *
  simp -implicitDefEqProofs (disch := first | omega | (simp -implicitDefEqProofs; done) | (simp -implicitDefEqProofs; omega)) [-List.map_map, BT.sub, ev_denI, ev_stI, ev_slfS, ev_slfE, ev_st0n, ev_mod, ev_div, ev_mul, ev_pow, ev_line, ev_rng1, ev_rng2, ev_ar, ev_arI, rangeD_length, evx, isl, f1, sl, c1, c2, l3, fin]
end
end FR
end
section
set_option Elab.async false
set_option linter.all false
set_option maxRecDepth 100000
namespace FR
open PySem L2 DI
def SumW (f : Int → Int → Int) : Int → List Int → Int
  | _, [] => 0
  | x, y :: w => f x y + SumW f y w
theorem zip_sum {f : Int → Int → Int} : ∀ (x : Int) (w : List Int), (((x :: w).zip w).map fun p => f p.1 p.2).sum = SumW f x w
  | x, [] => rfl
  | x, y :: w => by
    rw [List.zip_cons_cons, List.map_cons, List.sum_cons, zip_sum y w]
    rfl
theorem zip_map_sum {f : Int → Int → Int} {s : Int → Int} (x : Int) (w : List Int) : (((x :: w).map s).zip (w.map s)).map (fun p => f p.1 p.2) = ((x :: w).zip w).map fun p => f (s p.1) (s p.2) := by
  rw [List.zip_map, List.map_map]
  rfl
theorem lstInts_ok : ∀ xs : List Int, lstInts (.lst (xs.map .int)) = some xs := by
  intro xs
  show dInts (xs.map D.int) = _
  induction xs with
  | nil => rfl
  | cons x xs ih =>
    rw [List.map_cons]
    unfold dInts
    rw [ih]
    rfl
theorem sum_ok (xs : List Int) : dSum [.lst (xs.map .int)] = some (.int xs.sum) := by
  show (lstInts (.lst (xs.map .int))).map _ = _
  rw [lstInts_ok]
  rfl
theorem zipL_ok {α : Type} {enc : α → D} : ∀ (xs ys : List α), zipL (xs.map enc) (ys.map enc) = (xs.zip ys).map fun p => .tup [enc p.1, enc p.2]
  | [], _ => by simp [zipL]
  | _ :: _, [] => by simp [zipL]
  | x :: xs, y :: ys => by
    rw [List.map_cons, List.map_cons, List.zip_cons_cons, List.map_cons, ← zipL_ok xs ys]
    rfl
theorem sl1 {ds : List D} {d : D} : dSl (.lst (d :: ds)) (some 1) none = some (.lst ds) := by
  show some (D.lst (cutL (d :: ds) (some 1) none)) = _
  rw [cut1]
/-- the sum of a walk, by the program -/
theorem lsumT_ok {n : Int} {ls : List (Int × Int)} {xs : List Int} (hl : Lines n ls) (hx : xs.length = n.toNat) (x : Int) (w : List Int) (hw : Chain n ls (x :: w)) (hle : w.length ≤ 10000) : d_lead_sum [scnD (webD n ls) xs, .tup ((x :: w).map .int)] = .ok (.int (SumW (fun i j => leadI (nI xs i) (nI xs j)) x w)) := by
  unfold d_lead_sum
  have fp : dFld fl_picture (scnD (webD n ls) xs) = some (.tup (xs.map .int)) := rfl
  have fw : dFld fl_web (scnD (webD n ls) xs) = some (webD n ls) := rfl
  have ck := check_walk_ok hl (x :: w) (.tup ((x :: w).map .int)) (.inr rfl) hw (by simp)
  have hl2 : (x :: w).length ≤ 16777216 := by simp; omega
  have mem := hw.mem
  rw [← zip_sum]
  generalize hv : x :: w = v at *
  simp -implicitDefEqProofs (disch := first | omega | (simp -implicitDefEqProofs; done) | (simp -implicitDefEqProofs; omega)) [-List.map_map, BT.sub, ev_denI, ev_stI, ev_slfS, ev_slfE, ev_st0n, ev_mod, ev_div, ev_mul, ev_pow, ev_line, ev_rng1, ev_rng2, ev_ar, ev_arI, rangeD_length, fp, fw, ck, hl2]
  generalize hC : compL _ _ _ _ _ = oc
  have q := comp hC D.int (nI xs) fun i m => ⟨_, rfl, rfl, by
    have := mem i m
    have e : dIdx (.tup (xs.map D.int)) (.int i) = some (.int (nI xs i)) := ev_idxIT (by omega) (by omega)
    simp -implicitDefEqProofs (disch := first | omega | (simp -implicitDefEqProofs; done) | (simp -implicitDefEqProofs; omega)) [-List.map_map, BT.sub, ev_denI, ev_stI, ev_slfS, ev_slfE, ev_st0n, ev_mod, ev_div, ev_mul, ev_pow, ev_line, ev_rng1, ev_rng2, ev_ar, ev_arI, rangeD_length, fp, e]⟩
  subst q
  have s1 : dSl (.lst ((v.map (nI xs)).map D.int)) (some 1) none = some (.lst ((w.map (nI xs)).map D.int)) := by
    rw [← hv, List.map_cons, List.map_cons, sl1]
  have zl : zipL ((v.map (nI xs)).map D.int) ((w.map (nI xs)).map D.int) = ((v.map (nI xs)).zip (w.map (nI xs))).map fun p => .tup [.int p.1, .int p.2] := zipL_ok _ _
  have zlen : min v.length w.length ≤ 16777216 := by omega
  simp -implicitDefEqProofs (disch := first | omega | (simp -implicitDefEqProofs; done) | (simp -implicitDefEqProofs; omega)) [-List.map_map, BT.sub, ev_denI, ev_stI, ev_slfS, ev_slfE, ev_st0n, ev_mod, ev_div, ev_mul, ev_pow, ev_line, ev_rng1, ev_rng2, ev_ar, ev_arI, rangeD_length, s1, zl, zlen]
  generalize hC2 : compL _ _ _ _ _ = oc2
  have q2 := comp hC2 D.int (fun p => leadI p.1 p.2) fun p m => ⟨_, rfl, rfl, by
    have e := lead_ok p.1 p.2
    simp -implicitDefEqProofs (disch := first | omega | (simp -implicitDefEqProofs; done) | (simp -implicitDefEqProofs; omega)) [-List.map_map, BT.sub, ev_denI, ev_stI, ev_slfS, ev_slfE, ev_st0n, ev_mod, ev_div, ev_mul, ev_pow, ev_line, ev_rng1, ev_rng2, ev_ar, ev_arI, rangeD_length, e]⟩
  subst q2
  have so := sum_ok (((v.map (nI xs)).zip (w.map (nI xs))).map fun p => leadI p.1 p.2)
  simp -implicitDefEqProofs (disch := first | omega | (simp -implicitDefEqProofs; done) | (simp -implicitDefEqProofs; omega)) [-List.map_map, BT.sub, ev_denI, ev_stI, ev_slfS, ev_slfE, ev_st0n, ev_mod, ev_div, ev_mul, ev_pow, ev_line, ev_rng1, ev_rng2, ev_ar, ev_arI, rangeD_length, so]
  rw [← hv, zip_map_sum]
/-- the law's own rows and sum -/
def leadRows (xs : List Int) : List (List Int) := xs.map fun x => xs.map fun y => leadI x y
theorem leadRows_get {xs : List Int} {i j : Int} (h0 : 0 ≤ i) (h1 : i < xs.length) (g0 : 0 ≤ j) (g1 : j < xs.length) : ∃ r : List Int, dIdx (rowsL (leadRows xs)) (.int i) = some (.lst (r.map .int)) ∧ dIdx (.lst (r.map D.int)) (.int j) = some (.int (leadI (nI xs i) (nI xs j))) := by
  refine ⟨xs.map fun y => leadI (nI xs i) y, ?_, ?_⟩
  · refine ev_idxE (enc := fun r : List Int => D.lst (r.map .int)) h0 ?_
    unfold leadRows
    have hi : i.toNat < xs.length := by omega
    have e : (i.toNat : Int) = i := by omega
    have := nI_nat hi
    rw [e] at this
    rw [List.getElem?_map, List.getElem?_eq_getElem hi, this]
    rfl
  · refine ev_idxE (enc := D.int) g0 ?_
    have hj : j.toNat < xs.length := by omega
    have e : (j.toNat : Int) = j := by omega
    have := nI_nat hj
    rw [e] at this
    rw [List.getElem?_map, List.getElem?_eq_getElem hj, this]
    rfl
theorem lawsumT_ok (xs : List Int) (x : Int) (w : List Int) (hm : ∀ i ∈ x :: w, 0 ≤ i ∧ i < xs.length) (hle : w.length ≤ 10000) : d__law_sum [rowsL (leadRows xs), .tup ((x :: w).map .int)] = .ok (.int (SumW (fun i j => leadI (nI xs i) (nI xs j)) x w)) := by
  unfold d__law_sum
  rw [← zip_sum]
  have hlen : (x :: w).length = w.length + 1 := rfl
  have hnn : (((w.length + 1 : Nat) : Int) - 1) = (w.length : Int) := by omega
  have hl2 : w.length ≤ 16777216 := by omega
  have r1 : ∀ k : Nat, k < w.length → ∃ i j, (x :: w)[k]? = some i ∧ (x :: w)[k + 1]? = some j ∧ ((x :: w).zip w)[k]? = some (i, j) := fun k hk => by
    refine ⟨(x :: w)[k]'(by simp; omega), w[k], List.getElem?_eq_getElem _, by rw [List.getElem?_cons_succ, List.getElem?_eq_getElem hk], ?_⟩
    rw [List.getElem?_eq_getElem (by simp; omega), List.getElem_zip]
  generalize hv : x :: w = v at *
  simp -implicitDefEqProofs (disch := first | omega | (simp -implicitDefEqProofs; done) | (simp -implicitDefEqProofs; omega)) [-List.map_map, BT.sub, ev_denI, ev_stI, ev_slfS, ev_slfE, ev_st0n, ev_mod, ev_div, ev_mul, ev_pow, ev_line, ev_rng1, ev_rng2, ev_ar, ev_arI, rangeD_length, hlen, rangeD_length, hl2]
  have hnn2 : ((w.length : Int) + 1 - 1).toNat = w.length := by omega
  generalize hC : compL _ _ _ _ _ = oc
  have q := comp hC D.int (fun k : Nat => ((v.zip w).map fun p => leadI (nI xs p.1) (nI xs p.2)).getD k 0) fun k m => ⟨_, rfl, rfl, by
    have hk : k < w.length := by
      have := List.mem_range.mp m
      omega
    obtain ⟨i, j, e1, e2, e3⟩ := r1 k hk
    have i0 := hm i (List.mem_of_getElem? e1)
    have j0 := hm j (List.mem_of_getElem? e2)
    have x1 : dIdx (.tup (v.map D.int)) (.int (k : Int)) = some (.int i) := ev_idxET (enc := D.int) (by omega) (by rw [Int.toNat_natCast]; exact e1)
    have x2 : dIdx (.tup (v.map D.int)) (.int ((k : Int) + 1)) = some (.int j) := ev_idxET (enc := D.int) (by omega) (by rw [show ((k : Int) + 1).toNat = k + 1 by omega]; exact e2)
    obtain ⟨r, y1, y2⟩ := leadRows_get (xs := xs) i0.1 i0.2 j0.1 j0.2
    rw [List.getD_eq_getElem?_getD, List.getElem?_map, e3]
    simp -implicitDefEqProofs (disch := first | omega | (simp -implicitDefEqProofs; done) | (simp -implicitDefEqProofs; omega)) [-List.map_map, BT.sub, ev_denI, ev_stI, ev_slfS, ev_slfE, ev_st0n, ev_mod, ev_div, ev_mul, ev_pow, ev_line, ev_rng1, ev_rng2, ev_ar, ev_arI, rangeD_length, x1, x2, y1, y2]⟩
  subst q
  have so := sum_ok ((v.zip w).map fun p => leadI (nI xs p.1) (nI xs p.2))
  have e : (List.range w.length).map (fun k : Nat => ((v.zip w).map fun p => leadI (nI xs p.1) (nI xs p.2)).getD k 0) = (v.zip w).map fun p => leadI (nI xs p.1) (nI xs p.2) := by
    apply List.ext_getElem?
    intro k
    by_cases hk : k < w.length
    · obtain ⟨i, j, e1, e2, e3⟩ := r1 k hk
      rw [List.getElem?_map, List.getElem?_range hk]
      show some (((v.zip w).map fun p => leadI (nI xs p.1) (nI xs p.2)).getD k 0) = _
      rw [List.getD_eq_getElem?_getD, List.getElem?_map, e3]
      rfl
    · rw [List.getElem?_eq_none (by simp; omega), List.getElem?_eq_none (by simp; omega)]
  first | rw [e] | (have e' := e; simp only [] at e'; rw [e'])
  simp -implicitDefEqProofs (disch := first | omega | (simp -implicitDefEqProofs; done) | (simp -implicitDefEqProofs; omega)) [-List.map_map, BT.sub, ev_denI, ev_stI, ev_slfS, ev_slfE, ev_st0n, ev_mod, ev_div, ev_mul, ev_pow, ev_line, ev_rng1, ev_rng2, ev_ar, ev_arI, rangeD_length, so]
end FR
end
section
set_option Elab.async false
set_option linter.all false
set_option maxRecDepth 100000
namespace FR
open PySem L2 DI
/-! sums of rings -/
/-- the sum of a ring -/
def rsm (f : Int → Int → Int) (xs : List Int) : List Int → Int
  | [] => 0
  | x :: w => SumW (fun i j => f (nI xs i) (nI xs j)) x w
section
variable {n : Int} {ls : List (Int × Int)} {xs : List Int} {pk : Int → List Int}
theorem RingOk.sumL {r : List Int} (h : RingOk n ls r) (hl : Lines n ls) (hx : xs.length = n.toNat) : d_lead_sum [scnD (webD n ls) xs, encW r] = .ok (.int (rsm leadI xs r)) := by
  obtain ⟨x, w, rfl, c, _, lw⟩ := h
  exact lsumT_ok hl hx x (w ++ [x]) c (by simp; omega)
theorem ring_sums_ok (hl : Lines n ls) (hx : xs.length = n.toNat) {R : List (List Int)} (hb : d_basic_rings [webD n ls] = .ok (.tup (R.map encW))) (hR : ∀ r ∈ R, RingOk n ls r) (hRl : R.length ≤ 10000) : d_ring_sums [scnD (webD n ls) xs] = .ok (.tup ((R.map (rsm leadI xs)).map .int)) := by
  unfold d_ring_sums
  have fw : dFld fl_web (scnD (webD n ls) xs) = some (webD n ls) := rfl
  have Rl : R.length ≤ 16777216 := by omega
  simp -implicitDefEqProofs (disch := first | omega | (simp -implicitDefEqProofs; done) | (simp -implicitDefEqProofs; omega)) [-List.map_map, BT.sub, ev_denI, ev_stI, ev_slfS, ev_slfE, ev_st0n, ev_mod, ev_div, ev_mul, ev_pow, ev_line, ev_rng1, ev_rng2, ev_ar, ev_arI, rangeD_length, fw, hb, Rl]
  generalize hC : compL _ _ _ _ _ = oc
  have q := comp hC D.int (rsm leadI xs) fun r m => ⟨_, rfl, rfl, by
    have := (hR r m).sumL (xs := xs) hl hx
    simp -implicitDefEqProofs (disch := first | omega | (simp -implicitDefEqProofs; done) | (simp -implicitDefEqProofs; omega)) [-List.map_map, BT.sub, ev_denI, ev_stI, ev_slfS, ev_slfE, ev_st0n, ev_mod, ev_div, ev_mul, ev_pow, ev_line, ev_rng1, ev_rng2, ev_ar, ev_arI, rangeD_length, this]⟩
  subst q
  clear hC
  simp -implicitDefEqProofs (disch := first | omega | (simp -implicitDefEqProofs; done) | (simp -implicitDefEqProofs; omega)) [-List.map_map, BT.sub, ev_denI, ev_stI, ev_slfS, ev_slfE, ev_st0n, ev_mod, ev_div, ev_mul, ev_pow, ev_line, ev_rng1, ev_rng2, ev_ar, ev_arI, rangeD_length, Rl]
end
end FR
end
section
set_option Elab.async false
set_option linter.all false
set_option maxRecDepth 100000
namespace FR
open PySem L2 DI
theorem web_body0 : d_Web___init__ [.int 0, .tup []] = .ok (webF 0 []) := by
  unfold d_Web___init__
  have e1 : d_frozen 6 [.tup []] = .ok (.tup []) := frozen_tup (enc := dP) (enc2 := dP) 5 [] (fun p m => nomatch m) (by simp)
  have e2 : d_checked_lines [.int 0, .tup []] = .ok (.tup []) := checked_ok 0 [] ⟨fun _ m => (nomatch m), List.Pairwise.nil⟩ (by simp)
  have e3 : d_neighbour_rows [.int 0, .tup []] = .ok (rowsT (arnd 0 [])) := rows_ok 0 [] (by omega) (by omega) ⟨fun _ m => (nomatch m), List.Pairwise.nil⟩ (by simp)
  simp -implicitDefEqProofs (disch := first | omega | (simp -implicitDefEqProofs; done) | (simp -implicitDefEqProofs; omega)) [-List.map_map, BT.sub, ev_denI, ev_stI, ev_slfS, ev_slfE, ev_st0n, ev_mod, ev_div, ev_mul, ev_pow, ev_line, ev_rng1, ev_rng2, ev_ar, ev_arI, rangeD_length, e1, e2, e3]
  rfl
theorem lines0 : Lines 0 [] := ⟨fun _ m => (nomatch m), List.Pairwise.nil⟩
end FR
end
section
set_option Elab.async false
set_option linter.all false
set_option maxRecDepth 100000
namespace FR
open PySem L2 DI
/-! any web -/
def sz23 : List Int := [7, 4, 4, 4, 4, 4, 4, 4, 4, 4, 4, 4, 4, 4, 4, 4, 4, 4, 4, 4, 4, 4, 4]
theorem mk4 : dMul (.lst [.int 4]) (.int 21) = some (.lst [.int 4, .int 4, .int 4, .int 4, .int 4, .int 4, .int 4, .int 4, .int 4, .int 4, .int 4, .int 4, .int 4, .int 4, .int 4, .int 4, .int 4, .int 4, .int 4, .int 4, .int 4]) := rfl
theorem digits23 (z : Int) : ∃ ds : List Int, d__law_digits [.int z, .lst [.int 7, .int 4, .int 4, .int 4, .int 4, .int 4, .int 4, .int 4, .int 4, .int 4, .int 4, .int 4, .int 4, .int 4, .int 4, .int 4, .int 4, .int 4, .int 4, .int 4, .int 4, .int 4, .int 4]] = .ok (.lst (ds.map D.int)) ∧ Dg sz23 ds :=
  digits_ok z sz23 (by decide) (by decide)
theorem any_scene_ok (ns : List Int) (k : Int) (hk : 0 ≤ k) (hk2 : k < 900) :
    ∃ (n : Int) (ls : List (Int × Int)) (pic : List Int), d__law_any_scene [.scr (ns.map D.int), .int k] = .ok (.lst [.int n, .lst (ls.map dP), .tup (pic.map .int)]) ∧ 1 ≤ n ∧ n ≤ 7 ∧ Lines n ls ∧ ls.length ≤ 49 ∧ pic.length = n.toNat ∧ Pic pic := by
  unfold d__law_any_scene
  obtain ⟨z1, e1⟩ := cell_ok ns k hk (by omega)
  obtain ⟨z2, e2⟩ := cell_ok ns (k + 1) (by omega) (by omega)
  obtain ⟨row, f1, g1⟩ := digits23 z1
  obtain ⟨ds2, f2, g2⟩ := digits9 z2
  have hl : row.length = 23 := g1.1
  have b0 : 0 ≤ nI row 0 ∧ nI row 0 < 7 := g1.gi (by omega) (by decide)
  have b2 : ∀ i : Int, 1 ≤ i → i < 9 → 0 ≤ nI ds2 i ∧ nI ds2 i ≤ 2 := fun i h h2 => by
    have := g2.gi (i := i) (by omega) (by show _ < (9 : Int); omega)
    have e : nI sz9 i = 3 := by
      have : i = 1 ∨ i = 2 ∨ i = 3 ∨ i = 4 ∨ i = 5 ∨ i = 6 ∨ i = 7 ∨ i = 8 := by omega
      rcases this with rfl | rfl | rfl | rfl | rfl | rfl | rfl | rfl <;> rfl
    rw [e] at this
    omega
  have L0 : ∀ i : Nat, i < 7 → 3 ≤ ([6, 7, 5, 7, 4, 6, 3] : List Int).getD i 0 ∧ ([6, 7, 5, 7, 4, 6, 3] : List Int).getD i 0 ≤ 7 := by decide
  have ix0 : dIdx (.lst [.int 6, .int 7, .int 5, .int 7, .int 4, .int 6, .int 3]) (.int (nI row 0)) = some (.int (nI [6, 7, 5, 7, 4, 6, 3] (nI row 0))) :=
    ev_idxI (xs := [6, 7, 5, 7, 4, 6, 3]) b0.1 (by show _ < (7 : Int); omega)
  have l0 : 3 ≤ nI [6, 7, 5, 7, 4, 6, 3] (nI row 0) ∧ nI [6, 7, 5, 7, 4, 6, 3] (nI row 0) ≤ 7 := L0 (nI row 0).toNat (by omega)
  generalize nI [6, 7, 5, 7, 4, 6, 3] (nI row 0) = n at *
  have e0 : ∀ i : Int, 0 ≤ i → i < 23 → dIdx (.lst (row.map D.int)) (.int i) = some (.int (nI row i)) := fun i a b => ev_idxI a (by rw [hl]; exact b)
  have c0 := e0 0 (by omega) (by omega)
  have c1 := e0 1 (by omega) (by omega)
  simp -implicitDefEqProofs (disch := first | omega | (simp -implicitDefEqProofs; done) | (simp -implicitDefEqProofs; omega)) [-List.map_map, BT.sub, ev_denI, ev_stI, ev_slfS, ev_slfE, ev_st0n, ev_mod, ev_div, ev_mul, ev_pow, ev_line, ev_rng1, ev_rng2, ev_ar, ev_arI, rangeD_length, e1, mk4, f1, c0, ix0]
  rw [tE_nil (enc := dP)]
  generalize hL4 : forL _ _ _ _ = o
  obtain ⟨s', rfl, ls, i5, i6, rfl, hls, hlt, hlen⟩ := loop (α := Nat) hL4 (fun pr s => ∃ (ls : List (Int × Int)) (j5 j6 : Option T), s = [some (.im (.scr (ns.map D.int))), some (.im (.int k)), some (.im (.lst (row.map D.int))), some (.im (.int n)), some (tE dP ls), j5, j6, none] ∧ Lines n ls ∧ (∀ p ∈ ls, p.1 < pr.length) ∧ ls.length ≤ 7 * pr.length)
    ⟨[], _, _, rfl, ⟨fun _ m => (nomatch m), List.Pairwise.nil⟩, fun _ m => (nomatch m), Nat.zero_le _⟩ (by
      rintro pr a po s q ⟨ls, j5, j6, rfl, hls, hlt, hlen⟩
      obtain ⟨e1, e2, e3⟩ := range_split q
      simp -implicitDefEqProofs (disch := first | omega | (simp -implicitDefEqProofs; done) | (simp -implicitDefEqProofs; omega)) [-List.map_map, BT.sub, ev_denI, ev_stI, ev_slfS, ev_slfE, ev_st0n, ev_mod, ev_div, ev_mul, ev_pow, ev_line, ev_rng1, ev_rng2, ev_ar, ev_arI, rangeD_length]
      generalize hL5 : forL _ _ _ _ = o
      obtain ⟨s', rfl, ls2, j6', rfl, hls2, hlt2, hlen2⟩ := loop (α := Nat) hL5 (fun pr2 s => ∃ (ls : List (Int × Int)) (j6 : Option T), s = [some (.im (.scr (ns.map D.int))), some (.im (.int k)), some (.im (.lst (row.map D.int))), some (.im (.int n)), some (tE dP ls), some (.im (.int (a : Int))), j6, none] ∧ Lines n ls ∧ (∀ p ∈ ls, p.1 < pr.length ∨ (p.1 = pr.length ∧ p.2 < pr.length + 1 + pr2.length)) ∧ ls.length ≤ 7 * pr.length + pr2.length)
        ⟨_, _, rfl, hls, fun p m => .inl (hlt p m), hlen⟩ (by
          rintro pr2 b po2 s q2 ⟨ls, j6, rfl, hls, hlt, hlen⟩
          obtain ⟨f1, f2, f3⟩ := range_split q2
          have hlen' : ls.length < 16777216 := by omega
          have B : (a : Int) + 1 + (b : Int) ≤ 6 := by omega
          have tri : 0 ≤ ((a : Int) + 1 + (b : Int)) * ((a : Int) + 1 + (b : Int) - 1) / 2 ∧ ((a : Int) + 1 + (b : Int)) * ((a : Int) + 1 + (b : Int) - 1) / 2 ≤ 15 := by
            have c : (a : Int) + 1 + (b : Int) = 1 ∨ (a : Int) + 1 + (b : Int) = 2 ∨ (a : Int) + 1 + (b : Int) = 3 ∨ (a : Int) + 1 + (b : Int) = 4 ∨ (a : Int) + 1 + (b : Int) = 5 ∨ (a : Int) + 1 + (b : Int) = 6 := by omega
            rcases c with c | c | c | c | c | c <;> rw [c] <;> decide
          have ck := e0 (2 + ((a : Int) + 1 + (b : Int)) * ((a : Int) + 1 + (b : Int) - 1) / 2 + (a : Int)) (by omega) (by omega)
          simp -implicitDefEqProofs (disch := first | omega | (simp -implicitDefEqProofs; done) | (simp -implicitDefEqProofs; omega)) [-List.map_map, BT.sub, ev_denI, ev_stI, ev_slfS, ev_slfE, ev_st0n, ev_mod, ev_div, ev_mul, ev_pow, ev_line, ev_rng1, ev_rng2, ev_ar, ev_arI, rangeD_length, hlen', ck, c1, ev_if]
          split
          · refine ⟨_, rfl, _, ⟨_, rfl⟩, hls.snoc (by omega) (by omega) (by omega) fun p m => ?_, fun x y m => ?_, by rw [List.length_append, List.length_singleton]; omega⟩
            · have := hlt p m
              unfold ltP
              simp only
              omega
            · rcases List.mem_append.mp m with m | m
              · have := hlt (x, y) m
                simp only at this
                omega
              · have := List.mem_singleton.mp m
                cases this
                omega
          · exact ⟨_, rfl, _, ⟨_, rfl⟩, hls, fun x y m => by
              have := hlt (x, y) m
              simp only at this
              omega, by omega⟩)
      refine ⟨_, rfl, _, ⟨_, _, rfl⟩, hls2, fun x y m => ?_, ?_⟩
      · have := hlt2 (x, y) m
        simp only at this
        omega
      · rw [List.length_range] at hlen2
        omega)
  obtain ⟨pic, h2, p1, p2⟩ := picture_ok ds2 n g2.1 (fun i h h2 => b2 i (by omega) h2) (b2 1 (by omega) (by omega)).1 (by omega) (by omega)
  simp -implicitDefEqProofs (disch := first | omega | (simp -implicitDefEqProofs; done) | (simp -implicitDefEqProofs; omega)) [-List.map_map, BT.sub, ev_denI, ev_stI, ev_slfS, ev_slfE, ev_st0n, ev_mod, ev_div, ev_mul, ev_pow, ev_line, ev_rng1, ev_rng2, ev_ar, ev_arI, rangeD_length, e2, mk3, f2, h2]
  exact ⟨n, ls, pic, ⟨rfl, rfl, rfl⟩, by omega, by omega, hls, by rw [List.length_range] at hlen; omega, p1, p2⟩
end FR
end
section
set_option Elab.async false
set_option linter.all false
set_option maxRecDepth 100000
namespace FR
open PySem L2 DI
/-! few lines (not with f7 or mx7, which have the same) -/
def allP : List (Int × Int) := [(0, 1), (0, 2), (0, 3), (0, 4), (0, 5), (0, 6), (1, 2), (1, 3), (1, 4), (1, 5), (1, 6), (2, 3), (2, 4), (2, 5), (2, 6), (3, 4), (3, 5), (3, 6), (4, 5), (4, 6), (5, 6)]
theorem allP_mem {a b : Int} (h0 : 0 ≤ a) (h1 : a < b) (h2 : b < 7) : (a, b) ∈ allP := by
  have ha : a = 0 ∨ a = 1 ∨ a = 2 ∨ a = 3 ∨ a = 4 ∨ a = 5 := by omega
  have hb : b = 1 ∨ b = 2 ∨ b = 3 ∨ b = 4 ∨ b = 5 ∨ b = 6 := by omega
  rcases ha with rfl | rfl | rfl | rfl | rfl | rfl <;> rcases hb with rfl | rfl | rfl | rfl | rfl | rfl <;> first | omega | decide
theorem Lines.nodup {n : Int} {ls : List (Int × Int)} (h : Lines n ls) : ls.Nodup := h.up.imp fun {a b} z e => by
  subst e
  unfold ltP at z
  omega
theorem Lines.few {n : Int} {ls : List (Int × Int)} (h : Lines n ls) (hn : n ≤ 7) : ls.length ≤ 21 :=
  nodup_sub (m := allP) h.nodup fun p m => by
    have := h.ok p m
    exact allP_mem this.1 this.2.1 (by omega)
end FR
end
section
set_option Elab.async false
set_option linter.all false
set_option maxRecDepth 100000
namespace FR
open PySem L2 DI
theorem nb_W (w : List Int) : nb 3 (encW w) = true := by
  show nb 3 (.tup (w.map .int)) = true
  rw [nb_tup, List.all_eq_true]
  intro z hz
  obtain ⟨y, _, rfl⟩ := List.mem_map.mp hz
  rfl
theorem nb_O (o : Option Int) (k : Nat) : nb k (eO o) = true := by
  cases o with
  | none => exact nb_non
  | some v => exact nb_int
theorem lrowsL_ok (xs : List Int) (hle : xs.length ≤ 10000) : d__law_lead_rows [.lst (xs.map .int)] = .ok (rowsL (leadRows xs)) := by
  unfold d__law_lead_rows rowsL leadRows
  have hl2 : xs.length ≤ 16777216 := by omega
  simp -implicitDefEqProofs (disch := first | omega | (simp -implicitDefEqProofs; done) | (simp -implicitDefEqProofs; omega)) [-List.map_map, BT.sub, ev_denI, ev_stI, ev_slfS, ev_slfE, ev_st0n, ev_mod, ev_div, ev_mul, ev_pow, ev_line, ev_rng1, ev_rng2, ev_ar, ev_arI, rangeD_length, hl2]
  generalize hC : compL _ _ _ _ _ = oc
  have q := comp hC (fun r : List Int => D.lst (r.map .int)) (fun x => xs.map fun y => leadI x y) fun x m => ⟨_, rfl, rfl, by
    simp -implicitDefEqProofs (disch := first | omega | (simp -implicitDefEqProofs; done) | (simp -implicitDefEqProofs; omega)) [-List.map_map, BT.sub, ev_denI, ev_stI, ev_slfS, ev_slfE, ev_st0n, ev_mod, ev_div, ev_mul, ev_pow, ev_line, ev_rng1, ev_rng2, ev_ar, ev_arI, rangeD_length, hl2]
    generalize hC2 : compL _ _ _ _ _ = oc2
    have q2 := comp hC2 D.int (fun y => leadI x y) fun y m => ⟨_, rfl, rfl, by
      have e := llead_ok x y
      simp -implicitDefEqProofs (disch := first | omega | (simp -implicitDefEqProofs; done) | (simp -implicitDefEqProofs; omega)) [-List.map_map, BT.sub, ev_denI, ev_stI, ev_slfS, ev_slfE, ev_st0n, ev_mod, ev_div, ev_mul, ev_pow, ev_line, ev_rng1, ev_rng2, ev_ar, ev_arI, rangeD_length, e]⟩
    subst q2
    simp -implicitDefEqProofs (disch := first | omega | (simp -implicitDefEqProofs; done) | (simp -implicitDefEqProofs; omega)) [-List.map_map, BT.sub, ev_denI, ev_stI, ev_slfS, ev_slfE, ev_st0n, ev_mod, ev_div, ev_mul, ev_pow, ev_line, ev_rng1, ev_rng2, ev_ar, ev_arI, rangeD_length]⟩
  subst q
  simp -implicitDefEqProofs (disch := first | omega | (simp -implicitDefEqProofs; done) | (simp -implicitDefEqProofs; omega)) [-List.map_map, BT.sub, ev_denI, ev_stI, ev_slfS, ev_slfE, ev_st0n, ev_mod, ev_div, ev_mul, ev_pow, ev_line, ev_rng1, ev_rng2, ev_ar, ev_arI, rangeD_length]
theorem RingOk.lawS {n : Int} {ls : List (Int × Int)} {xs r : List Int} (h : RingOk n ls r) (hx : xs.length = n.toNat) : d__law_sum [rowsL (leadRows xs), encW r] = .ok (.int (rsm leadI xs r)) := by
  obtain ⟨x, w, rfl, c, _, lw⟩ := h
  exact lawsumT_ok xs x (w ++ [x]) (fun i m => by
    have := c.mem i m
    omega) (by simp; omega)
theorem forest_asked_ok {n : Int} {ls : List (Int × Int)} (hl : Lines n ls) (hn0 : 0 ≤ n) (hn2 : n ≤ 1000) : d__law_forest_asked [webD n ls, lparD n ls] = .ok (.bl true) := by
  show d__law_forest_asked [webD n ls, .lst ((lsO n.toNat (parE n ls)).map eO)] = _
  unfold d__law_forest_asked
  have fo := forest_ok hl hn0 hn2
  have ll : (lsO n.toNat (parE n ls)).length ≤ 16777216 := by rw [lsO_len]; omega
  generalize lsO n.toNat (parE n ls) = L at *
  have ne : dNe (.lst (L.map eO)) (.lst (L.map eO)) = some (.bl false) := by
    rw [ev_neN 5 (by
      rw [nb_lst, List.all_eq_true]
      intro z hz
      obtain ⟨y, _, rfl⟩ := List.mem_map.mp hz
      exact nb_O y 4) (by
      rw [nb_lst, List.all_eq_true]
      intro z hz
      obtain ⟨y, _, rfl⟩ := List.mem_map.mp hz
      exact nb_O y 4) (by omega)]
    simp
  have it : dIs subC [.b .tuple] (.tup (L.map eO)) = some (.bl true) := rfl
  simp -implicitDefEqProofs (disch := first | omega | (simp -implicitDefEqProofs; done) | (simp -implicitDefEqProofs; omega)) [-List.map_map, BT.sub, ev_denI, ev_stI, ev_slfS, ev_slfE, ev_st0n, ev_mod, ev_div, ev_mul, ev_pow, ev_line, ev_rng1, ev_rng2, ev_ar, ev_arI, rangeD_length, ev_if, fo, it, ne, ll]
  generalize hC : compL _ _ _ _ _ = oc
  have q := compP hC (fun _ => false) eO id fun o ho => ⟨_, rfl, by
    cases o with
    | none =>
      have nn : dNotN (eO none) .non = some (.bl false) := rfl
      simp -implicitDefEqProofs (disch := first | omega | (simp -implicitDefEqProofs; done) | (simp -implicitDefEqProofs; omega)) [-List.map_map, BT.sub, ev_denI, ev_stI, ev_slfS, ev_slfE, ev_st0n, ev_mod, ev_div, ev_mul, ev_pow, ev_line, ev_rng1, ev_rng2, ev_ar, ev_arI, rangeD_length, nn]
    | some v =>
      have nn : dNotN (eO (some v)) .non = some (.bl true) := rfl
      have wo : d__law_whole [eO (some v)] = .ok (.bl true) := whole_ok v
      simp -implicitDefEqProofs (disch := first | omega | (simp -implicitDefEqProofs; done) | (simp -implicitDefEqProofs; omega)) [-List.map_map, BT.sub, ev_denI, ev_stI, ev_slfS, ev_slfE, ev_st0n, ev_mod, ev_div, ev_mul, ev_pow, ev_line, ev_rng1, ev_rng2, ev_ar, ev_arI, rangeD_length, nn, wo], fun h => by cases h⟩
  have e : L.filter (fun _ => false) = [] := by simp
  rw [e] at q
  subst q
  simp -implicitDefEqProofs (disch := first | omega | (simp -implicitDefEqProofs; done) | (simp -implicitDefEqProofs; omega)) [-List.map_map, BT.sub, ev_denI, ev_stI, ev_slfS, ev_slfE, ev_st0n, ev_mod, ev_div, ev_mul, ev_pow, ev_line, ev_rng1, ev_rng2, ev_ar, ev_arI, rangeD_length]
theorem Lines.beside {n m : Int} {ls ms : List (Int × Int)} (h : Lines n ls) (g : Lines m ms) (n0 : 0 ≤ n) (m0 : 0 ≤ m) : Lines (n + m) (ls ++ ms.map fun p => (p.1 + n, p.2 + n)) := by
  refine ⟨fun p hp => ?_, List.pairwise_append.mpr ⟨h.up, ?_, fun a ha b hb => ?_⟩⟩
  · rcases List.mem_append.mp hp with hp | hp
    · have := h.ok p hp
      omega
    · obtain ⟨q, hq, rfl⟩ := List.mem_map.mp hp
      have := g.ok q hq
      show 0 ≤ q.1 + n ∧ q.1 + n < q.2 + n ∧ q.2 + n < n + m
      omega
  · refine List.pairwise_map.mpr (g.up.imp fun {a b} h => ?_)
    unfold ltP at h ⊢
    show a.1 + n < b.1 + n ∨ a.1 + n = b.1 + n ∧ a.2 + n < b.2 + n
    omega
  · obtain ⟨q, hq, rfl⟩ := List.mem_map.mp hb
    have a1 := h.ok a ha
    have b1 := g.ok q hq
    unfold ltP
    left
    show a.1 < q.1 + n
    omega
theorem web_none (n : Int) (n0 : 0 ≤ n) (n1 : n ≤ 1000) : d_Web___init__ [.int n, .tup []] = .ok (webF n []) := by
  have hl : Lines n [] := ⟨fun _ m => (nomatch m), List.Pairwise.nil⟩
  unfold d_Web___init__
  have e1 : d_frozen 6 [.tup []] = .ok (.tup []) := frozen_tup (enc := dP) (enc2 := dP) 5 [] (fun p m => nomatch m) (by simp)
  have e2 : d_checked_lines [.int n, .tup []] = .ok (.tup []) := checked_ok n [] hl (by simp)
  have e3 : d_neighbour_rows [.int n, .tup []] = .ok (rowsT (arnd n [])) := rows_ok n [] n0 n1 hl (by simp)
  simp -implicitDefEqProofs (disch := first | omega | (simp -implicitDefEqProofs; done) | (simp -implicitDefEqProofs; omega)) [-List.map_map, BT.sub, ev_denI, ev_stI, ev_slfS, ev_slfE, ev_st0n, ev_mod, ev_div, ev_mul, ev_pow, ev_line, ev_rng1, ev_rng2, ev_ar, ev_arI, rangeD_length, e1, e2, e3]
  rfl
set_option maxHeartbeats 8000000 in
theorem main : ∀ ns : List Int, ns.length ≤ 63 → (∀ z ∈ ns, Builtin.Int.intBits z ≤ 1048576) → d_law [.scr (ns.map D.int)] = .ok (.bl true) := by
  intro ns _ _
  unfold d_law
  obtain ⟨z2, hz2⟩ := cell_ok ns 2 (by omega) (by omega)
  obtain ⟨row, hr, hd⟩ := digits_ok z2 [12, 2] (by decide) (by decide)
  have hr : d__law_digits [.int z2, .lst [.int 12, .int 2]] = .ok (.lst (row.map D.int)) := hr
  have lrow : row.length = 2 := hd.1
  have c0 : dIdx (.lst (row.map D.int)) (.int 0) = some (.int (nI row 0)) := ev_idxI (by omega) (by omega)
  have c1 : dIdx (.lst (row.map D.int)) (.int 1) = some (.int (nI row 1)) := ev_idxI (by omega) (by omega)
  generalize nI row 0 = t0 at *
  generalize nI row 1 = t1 at *
  generalize hG : seqS (setS 8 _) _ = G
  have key : ∀ (N : Int) (LS : List (Int × Int)) (PX : List Int) (j1 j6 j7 j8 j9 j10 j11 j12 j13 j14 j15 j16 : Option T), 1 ≤ N → N ≤ 12 → Lines N LS → LS.length ≤ 42 → PX.length = N.toNat → Pic PX →
      (G [some (.im (.scr (ns.map .int))), j1, some (.im (.lst (row.map .int))), some (.im (.int N)), some (.im (.lst (LS.map dP))), some (.im (.lst (PX.map .int))), j6, j7, j8, j9, j10, j11, j12, j13, j14, j15, j16]).end = .ok (.bl true) := by
    intro N LS PX j1 j6 j7 j8 j9 j10 j11 j12 j13 j14 j15 j16 N1 N12 hl few p1 p2
    subst hG
    have near := near_ok N LS (by omega) (by omega) hl (by omega)
    have web := web_init N LS (by omega) (by omega) hl (by omega)
    have wdw : D.ins 46 (webF N LS) = webD N LS := rfl
    have lf := lforest_ok hl (by omega) (by omega) (by omega)
    have fa := forest_asked_ok hl (by omega) (by omega)
    have w0 := web_body0
    have wd0 : D.ins 46 (webF 0 []) = webD 0 [] := rfl
    have fa0 : d__law_forest_asked [webD 0 [], .lst []] = .ok (.bl true) := forest_asked_ok lines0 (by omega) (by omega)
    obtain ⟨f, hf, hb⟩ := basic_rings_ok hl (by omega) (by omega) (by omega)
    obtain ⟨R, hR⟩ : ∃ R, R = (LS.filter fun p => !isT N LS p).map fun p => f p ++ [p.1] := ⟨_, rfl⟩
    rw [← hR] at hb
    have ring : ∀ r ∈ R, RingOk N LS r := fun r hr => by
      rw [hR] at hr
      obtain ⟨p, hp, rfl⟩ := List.mem_map.mp hr
      obtain ⟨h1, h2⟩ := List.mem_filter.mp hp
      exact TW.ring hl h1 (by simpa using h2) (hf p h1).1 (hf p h1).2
    have Rl : R.length ≤ 42 := by
      rw [hR, List.length_map]
      exact Nat.le_trans (List.length_filter_le _ _) few
    have b0 : d_basic_rings [webD 0 []] = .ok (.tup []) := by
      obtain ⟨_, _, h⟩ := basic_rings_ok lines0 (by omega) (by omega) (by simp)
      exact h
    have lN : Lines N [] := ⟨fun _ m => (nomatch m), List.Pairwise.nil⟩
    have bN : d_basic_rings [webD N []] = .ok (.tup []) := by
      obtain ⟨_, _, h⟩ := basic_rings_ok lN (by omega) (by omega) (by simp)
      exact h
    have wN := web_none N (by omega) (by omega)
    have wdN : D.ins 46 (webF N []) = webD N [] := rfl
    have pn : Pic [] := fun x m => (nomatch m)
    have sc0 : d_Scene___init__ [webD 0 [], .lst []] = .ok [webD 0 [], .tup []] := scene_initL 0 [] [] (by omega) (by omega) rfl pn
    have wds0 : D.ins 39 [webD 0 [], .tup []] = scnD (webD 0 []) [] := rfl
    have s0 : d_ring_sums [scnD (webD 0 []) []] = .ok (.tup []) := ring_sums_ok (xs := []) lines0 rfl (R := []) b0 (fun _ m => (nomatch m)) (by simp)
    have sc := scene_initL N LS PX (by omega) (by omega) p1 p2
    have wds : D.ins 39 [webD N LS, .tup (PX.map .int)] = scnD (webD N LS) PX := rfl
    have rs := ring_sums_ok hl p1 hb ring (by omega)
    have lr := lrowsL_ok PX (by omega)
    have tup6 : dIs subC [.b .tuple] (.tup (R.map encW)) = some (.bl true) := rfl
    have neT : dNe (.tup []) (.tup []) = some (.bl false) := rfl
    have eqR : dEq (.tup (R.map encW)) (.tup (R.map encW)) = some (.bl true) := by
      rw [ev_eqN 4 (by
        rw [nb_tup, List.all_eq_true]
        intro z hz
        obtain ⟨y, _, rfl⟩ := List.mem_map.mp hz
        exact nb_W y) (by
        rw [nb_tup, List.all_eq_true]
        intro z hz
        obtain ⟨y, _, rfl⟩ := List.mem_map.mp hz
        exact nb_W y) (by omega)]
      simp
    have R16 : R.length ≤ 16777216 := by omega
    simp -implicitDefEqProofs (disch := first | omega | (simp -implicitDefEqProofs; done) | (simp -implicitDefEqProofs; omega)) [-List.map_map, BT.sub, ev_denI, ev_stI, ev_slfS, ev_slfE, ev_st0n, ev_mod, ev_div, ev_mul, ev_pow, ev_line, ev_rng1, ev_rng2, ev_ar, ev_arI, rangeD_length, ev_if, web, wdw, near, lf, fa, w0, wd0, fa0]
    rw [tE_nil (enc := encW)]
    generalize hL : forL _ _ _ _ = o
    obtain ⟨s', rfl, k7, rfl⟩ := loop hL (fun pr s => ∃ k7 : Option T, s = [some (.im (.scr (ns.map .int))), j1, some (.im (.lst (row.map .int))), some (.im (.int N)), some (.im (.lst (LS.map dP))), some (.im (.lst (PX.map .int))), j6, k7, some (.im (webD N LS)), some (.im (rowsL (arnd N LS))), some (.im (lparD N LS)), some (tE encW ((pr.filter fun p => !isT N LS p).map fun p => f p ++ [p.1])), j12, j13, j14, j15, j16]) ⟨_, rfl⟩ (by
      rintro pr p po s q ⟨k7, rfl⟩
      have hp : p ∈ LS := by rw [q]; simp
      have o := hl.ok p hp
      have i1 := lpar_idx (ls := LS) (y := p.1) (by omega) (show p.1 < N by omega)
      have i2 := lpar_idx (ls := LS) (y := p.2) (by omega) (show p.2 < N by omega)
      have n1 := ne_O (parE N LS p.1) p.2
      have n2 := ne_O (parE N LS p.2) p.1
      have lb := lbasic_ok hl (by omega) hp (hf p hp).1
      have hlen : pr.length ≤ 42 := by
        have := congrArg List.length q
        simp at this
        omega
      have fl2 := List.length_filter_le (fun p => !isT N LS p) pr
      rw [List.filter_append, List.map_append]
      by_cases c : isT N LS p = false
      · obtain ⟨c1, c2⟩ := isT_not.mp c
        rw [decide_eq_false c1] at n1
        rw [decide_eq_false c2] at n2
        have e : ([p].filter fun p => !isT N LS p).map (fun p => f p ++ [p.1]) = [f p ++ [p.1]] := by simp [c]
        rw [e]
        have ll : ((pr.filter fun p => !isT N LS p).map fun p => f p ++ [p.1]).length < 16777216 := by rw [List.length_map]; omega
        generalize (pr.filter fun p => !isT N LS p).map (fun p => f p ++ [p.1]) = L at *
        generalize f p ++ [p.1] = W at *
        exact ⟨_, by simp -implicitDefEqProofs (disch := first | omega | (simp -implicitDefEqProofs; done) | (simp -implicitDefEqProofs; omega)) [-List.map_map, BT.sub, ev_denI, ev_stI, ev_slfS, ev_slfE, ev_st0n, ev_mod, ev_div, ev_mul, ev_pow, ev_line, ev_rng1, ev_rng2, ev_ar, ev_arI, rangeD_length, dP, ev_if, i1, i2, n1, n2, lb, ll], some (.im (dP p)), rfl⟩
      · have ct : isT N LS p = true := by simpa using c
        have e : ([p].filter fun p => !isT N LS p).map (fun p => f p ++ [p.1]) = [] := by simp [ct]
        rw [e, List.append_nil]
        generalize (pr.filter fun p => !isT N LS p).map (fun p => f p ++ [p.1]) = L at *
        have ct := of_decide_eq_true ct
        by_cases c1 : parE N LS p.1 = some p.2
        · rw [decide_eq_true c1] at n1
          exact ⟨_, by simp -implicitDefEqProofs (disch := first | omega | (simp -implicitDefEqProofs; done) | (simp -implicitDefEqProofs; omega)) [-List.map_map, BT.sub, ev_denI, ev_stI, ev_slfS, ev_slfE, ev_st0n, ev_mod, ev_div, ev_mul, ev_pow, ev_line, ev_rng1, ev_rng2, ev_ar, ev_arI, rangeD_length, dP, ev_if, i1, i2, n1, n2], some (.im (dP p)), rfl⟩
        · have c2 := ct.resolve_left c1
          rw [decide_eq_false c1] at n1
          rw [decide_eq_true c2] at n2
          exact ⟨_, by simp -implicitDefEqProofs (disch := first | omega | (simp -implicitDefEqProofs; done) | (simp -implicitDefEqProofs; omega)) [-List.map_map, BT.sub, ev_denI, ev_stI, ev_slfS, ev_slfE, ev_st0n, ev_mod, ev_div, ev_mul, ev_pow, ev_line, ev_rng1, ev_rng2, ev_ar, ev_arI, rangeD_length, dP, ev_if, i1, i2, n1, n2], some (.im (dP p)), rfl⟩)
    rw [← hR]
    clear hR
    simp -implicitDefEqProofs (disch := first | omega | (simp -implicitDefEqProofs; done) | (simp -implicitDefEqProofs; omega)) [-List.map_map, BT.sub, ev_denI, ev_stI, ev_slfS, ev_slfE, ev_st0n, ev_mod, ev_div, ev_mul, ev_pow, ev_line, ev_rng1, ev_rng2, ev_ar, ev_arI, rangeD_length, ev_if, hb, tup6, R16]
    generalize hL : forL _ _ _ _ = o
    obtain ⟨s', rfl, k13, rfl⟩ := loop (α := Nat) hL (fun pr s => ∃ k13 : Option T, s = [some (.im (.scr (ns.map .int))), j1, some (.im (.lst (row.map .int))), some (.im (.int N)), some (.im (.lst (LS.map dP))), some (.im (.lst (PX.map .int))), j6, k7, some (.im (webD N LS)), some (.im (rowsL (arnd N LS))), some (.im (lparD N LS)), some (.im (.lst (R.map encW))), some (.im (.tup (R.map encW))), k13, j14, j15, j16]) ⟨_, rfl⟩ (by
      rintro pr k po s q ⟨k13, rfl⟩
      obtain ⟨e1, e2, e3⟩ := range_split q
      have hk : R[k] ∈ R := List.getElem_mem e2
      have i1 : dIdx (.tup (R.map encW)) (.int (k : Int)) = some (encW R[k]) := ev_idxET (enc := encW) (by omega) (by rw [Int.toNat_natCast]; exact List.getElem?_eq_getElem e2)
      have i2 : dIdx (.lst (R.map encW)) (.int (k : Int)) = some (encW R[k]) := ev_idxE (enc := encW) (by omega) (by rw [Int.toNat_natCast]; exact List.getElem?_eq_getElem e2)
      obtain ⟨x, w, e, c, l1, l2⟩ := ring _ hk
      have rl : R[k].length ≤ 10000 := by rw [e]; simp; omega
      generalize R[k] = r at *
      have ro := row_ok r r.length rl
      rw [decide_eq_true rfl] at ro
      have ro : d__law_row [encW r, .int (r.length : Int)] = .ok (.bl true) := ro
      have ln : dLen [encW r] = some (.int (r.length : Int)) := by
        show dLen [.tup (r.map .int)] = _
        simp
      have ne : dNe (encW r) (encW r) = some (.bl false) := by
        rw [ev_neN 3 (nb_W r) (nb_W r) (by omega)]
        simp
      exact ⟨_, by simp -implicitDefEqProofs (disch := first | omega | (simp -implicitDefEqProofs; done) | (simp -implicitDefEqProofs; omega)) [-List.map_map, BT.sub, ev_denI, ev_stI, ev_slfS, ev_slfE, ev_st0n, ev_mod, ev_div, ev_mul, ev_pow, ev_line, ev_rng1, ev_rng2, ev_ar, ev_arI, rangeD_length, ev_if, i1, i2, ro, ln, ne], some (.im (.int (k : Int))), rfl⟩)
    have l14 : (R.map (rsm leadI PX)).length = R.length := List.length_map ..
    have ro := row_ok (R.map (rsm leadI PX)) (R.length : Int) (by rw [l14]; omega)
    rw [l14, decide_eq_true rfl] at ro
    simp -implicitDefEqProofs (disch := first | omega | (simp -implicitDefEqProofs; done) | (simp -implicitDefEqProofs; omega)) [-List.map_map, BT.sub, ev_denI, ev_stI, ev_slfS, ev_slfE, ev_st0n, ev_mod, ev_div, ev_mul, ev_pow, ev_line, ev_rng1, ev_rng2, ev_ar, ev_arI, rangeD_length, ev_if, sc, wds, rs, lr, ro, R16]
    generalize hC : compL _ _ _ _ _ = oc
    have qz := comp hC D.int (rsm leadI PX) fun r hr => ⟨_, rfl, rfl, by
      have := RingOk.lawS (xs := PX) (ring r hr) p1
      simp -implicitDefEqProofs (disch := first | omega | (simp -implicitDefEqProofs; done) | (simp -implicitDefEqProofs; omega)) [-List.map_map, BT.sub, ev_denI, ev_stI, ev_slfS, ev_slfE, ev_st0n, ev_mod, ev_div, ev_mul, ev_pow, ev_line, ev_rng1, ev_rng2, ev_ar, ev_arI, rangeD_length, this]⟩
    subst qz
    clear hC
    have ne2 : dNe (.lst ((R.map (rsm leadI PX)).map .int)) (.lst ((R.map (rsm leadI PX)).map .int)) = some (.bl false) := by
      rw [ev_neN 5 (by
        rw [nb_lst, List.all_eq_true]
        intro z hz
        obtain ⟨y, _, rfl⟩ := List.mem_map.mp hz
        exact nb_int) (by
        rw [nb_lst, List.all_eq_true]
        intro z hz
        obtain ⟨y, _, rfl⟩ := List.mem_map.mp hz
        exact nb_int) (by omega)]
      simp
    simp -implicitDefEqProofs (disch := first | omega | (simp -implicitDefEqProofs; done) | (simp -implicitDefEqProofs; omega)) [-List.map_map, BT.sub, ev_denI, ev_stI, ev_slfS, ev_slfE, ev_st0n, ev_mod, ev_div, ev_mul, ev_pow, ev_line, ev_rng1, ev_rng2, ev_ar, ev_arI, rangeD_length, ev_if, ne2, w0, wd0, b0, neT, sc0, wds0, s0, wN, wdN, bN, hb, eqR, fa]
  obtain ⟨na, la, pa, sa, a1, a7, _, hla, fewa, ha1, ha2⟩ := scene_ok ns 0 7 (by omega) (by omega) (by omega) (by omega)
  obtain ⟨nb', lb, pb, sb, b1, b7, hlb, fewb, hb1, hb2⟩ := any_scene_ok ns 0 (by omega) (by omega)
  obtain ⟨m, lc, pc, s3, m1, m7, m5, hlc, fewc, hc1, hc2⟩ := scene_ok ns 3 5 (by omega) (by omega) (by omega) (by omega)
  have fl := hlc.few (by omega)
  have tail : ∀ (N : Int) (LS : List (Int × Int)) (PX : List Int), 1 ≤ N → N ≤ 7 → Lines N LS → PX.length = N.toNat → Pic PX →
      (seqS (setS 3 (DI.bin dIdx (vi 1) (cc (.int 0))))
  (seqS (setS 4 (callE (fun ds => dL (dListF ds)) (consA (DI.bin dIdx (vi 1) (cc (.int 1))) (nilA))))
  (seqS (setS 5 (callE (fun ds => dL (dListF ds)) (consA (DI.bin dIdx (vi 1) (cc (.int 2))) (nilA))))
  (seqS (ifS (tb (DI.bin dEq (DI.bin dIdx (vi 2) (cc (.int 0))) (cc (.int 0))))
  (seqS (setS 6 (callU (DI.ar 3 d__law_scene) [] (consA (vi 0) (consA (cc (.int 3)) (consA (cc (.int 5)) (nilA))))))
  (seqS (setS 4 (DI.bin dAdd (vi 4) (compE (items (DI.bin dIdx (vi 6) (cc (.int 1)))) [7] (gN 7) (yesT) (tupE (consA (DI.bin dAdd (DI.bin dIdx (vi 7) (cc (.int 0))) (vi 3)) (consA (DI.bin dAdd (DI.bin dIdx (vi 7) (cc (.int 1))) (vi 3)) (nilA)))))))
  (seqS (setS 3 (DI.bin dAdd (vi 3) (DI.bin dIdx (vi 6) (cc (.int 0)))))
  (setS 5 (DI.bin dAdd (vi 5) (callE (fun ds => dL (dListF ds)) (consA (DI.bin dIdx (vi 6) (cc (.int 2))) (nilA))))))))
  (nilS)) G))) [some (.im (.scr (ns.map .int))), some (.im (.lst [.int N, .lst (LS.map dP), .tup (PX.map .int)])), some (.im (.lst (row.map .int))), none, none, none, none, none, none, none, none, none, none, none, none, none, none]).end = .ok (.bl true) := by
    intro N LS PX N1 N7 hl h1 h2
    have fl2 := hl.few N7
    have i0 : ∀ a b c : D, dIdx (.lst [a, b, c]) (.int 0) = some a := fun _ _ _ => rfl
    have i1 : ∀ a b c : D, dIdx (.lst [a, b, c]) (.int 1) = some b := fun _ _ _ => rfl
    have i2 : ∀ a b c : D, dIdx (.lst [a, b, c]) (.int 2) = some c := fun _ _ _ => rfl
    have l1 : LS.length ≤ 16777216 := by omega
    have l2 : PX.length ≤ 16777216 := by omega
    have l3 : lc.length ≤ 16777216 := by omega
    have l4 : pc.length ≤ 16777216 := by omega
    by_cases c : t0 = 0
    · simp -implicitDefEqProofs (disch := first | omega | (simp -implicitDefEqProofs; done) | (simp -implicitDefEqProofs; omega)) [-List.map_map, BT.sub, ev_denI, ev_stI, ev_slfS, ev_slfE, ev_st0n, ev_mod, ev_div, ev_mul, ev_pow, ev_line, ev_rng1, ev_rng2, ev_ar, ev_arI, rangeD_length, ev_if, i0, i1, i2, l1, l2, c0, c, s3, l3]
      generalize hC : compL _ _ _ _ _ = oc
      have qz := comp hC dP (fun p => (p.1 + N, p.2 + N)) fun p hp => ⟨_, rfl, rfl, by
        simp -implicitDefEqProofs (disch := first | omega | (simp -implicitDefEqProofs; done) | (simp -implicitDefEqProofs; omega)) [-List.map_map, BT.sub, ev_denI, ev_stI, ev_slfS, ev_slfE, ev_st0n, ev_mod, ev_div, ev_mul, ev_pow, ev_line, ev_rng1, ev_rng2, ev_ar, ev_arI, rangeD_length, dP]⟩
      subst qz
      clear hC
      have cat : dAdd (.lst (LS.map dP)) (.lst ((lc.map fun p => (p.1 + N, p.2 + N)).map dP)) = some (.lst ((LS ++ lc.map fun p => (p.1 + N, p.2 + N)).map dP)) := by
        rw [ev_catL (by simp; omega), ← List.map_append]
      have cat2 : dAdd (.lst (PX.map .int)) (.lst (pc.map .int)) = some (.lst ((PX ++ pc).map .int)) := by
        rw [ev_catL (by simp; omega), ← List.map_append]
      have bs := Lines.beside hl hlc (by omega) (by omega)
      have bl : (LS ++ lc.map fun p => (p.1 + N, p.2 + N)).length ≤ 42 := by
        rw [List.length_append, List.length_map]
        omega
      have bp : (PX ++ pc).length = (N + m).toNat := by
        rw [List.length_append]
        omega
      have bq : Pic (PX ++ pc) := fun x hx => (List.mem_append.mp hx).elim (h2 x) (hc2 x)
      generalize LS ++ lc.map (fun p => (p.1 + N, p.2 + N)) = L2 at *
      generalize PX ++ pc = P2 at *
      simp -implicitDefEqProofs (disch := first | omega | (simp -implicitDefEqProofs; done) | (simp -implicitDefEqProofs; omega)) [-List.map_map, BT.sub, ev_denI, ev_stI, ev_slfS, ev_slfE, ev_st0n, ev_mod, ev_div, ev_mul, ev_pow, ev_line, ev_rng1, ev_rng2, ev_ar, ev_arI, rangeD_length, cat, i0, i2, l4, cat2]
      exact key (N + m) L2 P2 _ _ _ _ _ _ _ _ _ _ _ _ (by omega) (by omega) bs bl bp bq
    · simp -implicitDefEqProofs (disch := first | omega | (simp -implicitDefEqProofs; done) | (simp -implicitDefEqProofs; omega)) [-List.map_map, BT.sub, ev_denI, ev_stI, ev_slfS, ev_slfE, ev_st0n, ev_mod, ev_div, ev_mul, ev_pow, ev_line, ev_rng1, ev_rng2, ev_ar, ev_arI, rangeD_length, ev_if, i0, i1, i2, l1, l2, c0, c]
      exact key N LS PX _ _ _ _ _ _ _ _ _ _ _ _ (by omega) (by omega) hl (by omega) h1 h2
  have k1 := tail na la pa a1 a7 hla ha1 ha2
  have k2 := tail nb' lb pb b1 b7 hlb hb1 hb2
  clear tail key
  generalize hG2 : seqS (setS 3 _) _ = G2 at *
  by_cases c : t1 = 1
  · simp -implicitDefEqProofs (disch := first | omega | (simp -implicitDefEqProofs; done) | (simp -implicitDefEqProofs; omega)) [-List.map_map, BT.sub, ev_denI, ev_stI, ev_slfS, ev_slfE, ev_st0n, ev_mod, ev_div, ev_mul, ev_pow, ev_line, ev_rng1, ev_rng2, ev_ar, ev_arI, rangeD_length, ev_if, hz2, hr, sa, c1, c, sb]
    exact k2
  · simp -implicitDefEqProofs (disch := first | omega | (simp -implicitDefEqProofs; done) | (simp -implicitDefEqProofs; omega)) [-List.map_map, BT.sub, ev_denI, ev_stI, ev_slfS, ev_slfE, ev_st0n, ev_mod, ev_div, ev_mul, ev_pow, ev_line, ev_rng1, ev_rng2, ev_ar, ev_arI, rangeD_length, ev_if, hz2, hr, sa, c1, c]
    exact k1
end FR
end
section
set_option Elab.async false
set_option linter.all false
set_option maxRecDepth 100000
set_option maxHeartbeats 2000000
namespace FR
open PySem PySem.Spec PyProof.Rows L2 DI
def top (i : Nat) : Stmt := PySem.Challenge.pw_firerest_k12_forest_and_basic_rings.main.body.getD i (.Pass ⟨0, 0, 0, 0⟩)
abbrev s__law_web : Stmt := top 28
abbrev s__law_digits : Stmt := top 27
abbrev s__law_cell : Stmt := top 26
abbrev s__law_picture : Stmt := top 29
abbrev s__law_scene : Stmt := top 30
abbrev s__law_any_scene : Stmt := top 31
abbrev s_checked_lines : Stmt := top 10
abbrev s_frozen : Stmt := top 7
abbrev s_neighbour_rows : Stmt := top 11
abbrev s_Web___init__ : Stmt := inClass (top 9) 0
abbrev s__law_near : Stmt := top 32
abbrev s__law_forest : Stmt := top 37
abbrev s_forest : Stmt := top 19
abbrev s__law_whole : Stmt := top 25
abbrev s__law_forest_asked : Stmt := top 40
abbrev s__law_up : Stmt := top 38
abbrev s__law_basic : Stmt := top 39
abbrev s_way_up : Stmt := top 20
abbrev s_tree_walk : Stmt := top 21
abbrev s_basic_rings : Stmt := top 22
abbrev s__law_row : Stmt := top 36
abbrev s_check_walk : Stmt := top 14
abbrev s_state_lead : Stmt := top 13
abbrev s_lead_sum : Stmt := top 15
abbrev s_ring_sums : Stmt := top 23
abbrev s_Scene___init__ : Stmt := inClass (top 17) 0
abbrev s__law_lead : Stmt := top 33
abbrev s__law_lead_rows : Stmt := top 34
abbrev s__law_sum : Stmt := top 35
abbrev s_law : Stmt := top 41
structure Txt (P : Program) (w : World) (K : PySem.W.Frag) (mg : Str → Option Value) (cm : CM) : Prop where
  hset : cm.setO = SetTO P w
  m_bool : mg "bool" = none
  m_enumerate : mg "enumerate" = none
  m_int : mg "int" = none
  m_isinstance : mg "isinstance" = none
  m_len : mg "len" = none
  m_list : mg "list" = none
  m_max : mg "max" = none
  m_min : mg "min" = none
  m_range : mg "range" = none
  m_sorted : mg "sorted" = none
  m_sum : mg "sum" = none
  m_tuple : mg "tuple" = none
  m_zip : mg "zip" = none
  cls : ∀ c ∈ cm.cls, ClsOk K (cm.addr c)
  kb_bool : KitOk K cm subC (.b .bool)
  kb_int : KitOk K cm subC (.b .int)
  kb_list : KitOk K cm subC (.b .list)
  kb_tuple : KitOk K cm subC (.b .tuple)
  f_around : ∀ p ∈ fl_around, p.1 ∈ cm.cls → FldOk K cm "around" p.1 p.2
  f_lines : ∀ p ∈ fl_lines, p.1 ∈ cm.cls → FldOk K cm "lines" p.1 p.2
  f_picture : ∀ p ∈ fl_picture, p.1 ∈ cm.cls → FldOk K cm "picture" p.1 p.2
  f_size : ∀ p ∈ fl_size, p.1 ∈ cm.cls → FldOk K cm "size" p.1 p.2
  f_web : ∀ p ∈ fl_web, p.1 ∈ cm.cls → FldOk K cm "web" p.1 p.2
  nm_Scene : cm.names 39 = (["web", "picture"] : List Str)
  in_Scene : 39 ∈ cm.cls
  nm_Web : cm.names 46 = (["size", "lines", "around"] : List Str)
  in_Web : 46 ∈ cm.cls
section
variable {P : Program} {w : World} {K : PySem.W.Frag} {mg : Str → Option Value} {base : Heap} {cm : CM}
theorem sc__law_web : FnScope ["_law_row_here", "_law_most", "_law_size", "_law_known", "_law_k", "_law_mate", "_law_a", "_law_b", "_law_lines"] ["_law_row_here", "_law_most"] (defScope s__law_web) := ⟨rfl, rfl, rfl, by decide +kernel, rfl, by decide +kernel, by decide +kernel⟩
theorem ok__law_web {f__law_web : Addr} {fd : FuncData} (FD : FunD K "_law_web" "_law_web" (defArgs s__law_web) (defBody s__law_web) (defScope s__law_web) [] [] f__law_web fd) (T : Txt P w K mg cm)   : DefP P w K mg base cm 1 2 f__law_web d__law_web [] := by
  refine ⟨fd, ["_law_row_here", "_law_most"], [], fn_ok FD sc__law_web (fun cdv A outer s H E S0 F0 hr tk => ?_), fun S => .nil, ?_⟩
  ·
    exact (s_cons (s_set sc__law_web.nd rfl (by first | exact Or.inl rfl | exact Or.inr rfl) (e_callB (call_min2 rfl) d_min2 T.m_min b_min (va_cons (pv_ (e_var 1)) (va_cons (pv_ (e_ix (pv_ (e_lst (a_cons (e_int) (a_cons (e_int) (a_cons (e_int) (a_cons (e_int) (a_cons (e_int) (a_cons (e_int) (a_cons (e_int) (a_cons (e_int) (a_cons (e_int) (a_cons (e_int) (a_cons (e_int) (a_cons (e_int) (a_nil))))))))))))))) (pv_ (e_ix (pv_ (e_var 0)) (pv_ (e_int)))))) (va_nil)))))
  (s_cons (s_setF sc__law_web.nd rfl (by first | exact Or.inl rfl | exact Or.inr rfl) (f_lst (a_nil)))
  (s_cons (s_for (i_range2 T.m_range (a_cons (e_int) (a_cons (e_var 2) (a_nil)))) (g_name sc__law_web.nd rfl (by first | exact Or.inl rfl | exact Or.inr rfl))
  (s_cons (s_set sc__law_web.nd rfl (by first | exact Or.inl rfl | exact Or.inr rfl) (e_ix (pv_ (e_lst (a_cons (e_op op_sub d_sub (pv_ (e_var 4)) (pv_ (e_int))) (a_cons (e_op op_sub d_sub (pv_ (e_var 4)) (pv_ (e_int))) (a_cons (e_op op_sub d_sub (pv_ (e_var 4)) (pv_ (e_int))) (a_cons (e_int) (a_cons (e_op op_fdivW d_div (pv_ (e_var 4)) (pv_ (e_int))) (a_cons (e_int) (a_nil))))))))) (pv_ (e_ix (pv_ (e_var 0)) (pv_ (e_op or_mul d_mul (pv_ (e_int)) (pv_ (e_var 4))))))))
  (s_cons (s_if (t_cmp op_lt d_lt (pv_ (e_ix (pv_ (e_var 0)) (pv_ (e_int)))) (pv_ (e_int)) (by rfl))
  (s_one (s_set sc__law_web.nd rfl (by first | exact Or.inl rfl | exact Or.inr rfl) (e_op op_sub d_sub (pv_ (e_var 4)) (pv_ (e_int)))))
  (s_nil))
  (s_one (s_if (t_cmp op_lt d_lt (pv_ (e_ix (pv_ (e_var 0)) (pv_ (e_op op_sub d_sub (pv_ (e_op or_mul d_mul (pv_ (e_int)) (pv_ (e_var 4)))) (pv_ (e_int)))))) (pv_ (e_int)) (by rfl))
  (s_one (s_app (pe_bm PySem.F.plainAttrs_list PySem.F.slot_list_append PySem.F.type_list_append mt_append (pe_var rfl (by first | exact Or.inl rfl | exact Or.inr (Or.inl rfl) | exact Or.inr (Or.inr rfl))) (pa_cons (f_e (e_tup (a_cons (e_var 5) (a_cons (e_var 4) (a_nil))))) pa_nil))))
  (s_nil))))))
  (s_cons (s_if (t_w (w_and (t_cmp op_gt d_gt (pv_ (e_var 2)) (pv_ (e_int)) (by rfl)) (w_and1 (t_cmp op_lt d_lt (pv_ (e_ix (pv_ (e_var 0)) (pv_ (e_int)))) (pv_ (e_int)) (by rfl)))))
  (s_one (s_app (pe_bm PySem.F.plainAttrs_list PySem.F.slot_list_append PySem.F.type_list_append mt_append (pe_var rfl (by first | exact Or.inl rfl | exact Or.inr (Or.inl rfl) | exact Or.inr (Or.inr rfl))) (pa_cons (f_e (e_tup (a_cons (e_int) (a_cons (e_op op_sub d_sub (pv_ (e_var 2)) (pv_ (e_int))) (a_nil))))) pa_nil))))
  (s_nil))
  (s_cons (s_for (i_range1 T.m_range (a_cons (e_int) (a_nil))) (g_name sc__law_web.nd rfl (by first | exact Or.inl rfl | exact Or.inr rfl))
  (s_cons (s_set sc__law_web.nd rfl (by first | exact Or.inl rfl | exact Or.inr rfl) (e_op op_mod d_mod (pv_ (e_ix (pv_ (e_var 0)) (pv_ (e_op or_add d_add (pv_ (e_int)) (pv_ (e_op or_mul d_mul (pv_ (e_int)) (pv_ (e_var 4)))))))) (pv_ (e_var 2))))
  (s_cons (s_set sc__law_web.nd rfl (by first | exact Or.inl rfl | exact Or.inr rfl) (e_op op_mod d_mod (pv_ (e_ix (pv_ (e_var 0)) (pv_ (e_op or_add d_add (pv_ (e_int)) (pv_ (e_op or_mul d_mul (pv_ (e_int)) (pv_ (e_var 4)))))))) (pv_ (e_var 2))))
  (s_one (s_if (t_w (w_and (t_cmp op_lt d_lt (pv_ (e_var 6)) (pv_ (e_var 7)) (by rfl)) (w_and1 (t_cmp op_gt d_gt (pv_ (e_ix (pv_ (e_var 0)) (pv_ (e_op or_add d_add (pv_ (e_int)) (pv_ (e_op or_mul d_mul (pv_ (e_int)) (pv_ (e_var 4)))))))) (pv_ (e_int)) (by rfl)))))
  (s_one (s_app (pe_bm PySem.F.plainAttrs_list PySem.F.slot_list_append PySem.F.type_list_append mt_append (pe_var rfl (by first | exact Or.inl rfl | exact Or.inr (Or.inl rfl) | exact Or.inr (Or.inr rfl))) (pa_cons (f_e (e_tup (a_cons (e_var 6) (a_cons (e_var 7) (a_nil))))) pa_nil))))
  (s_nil))))))
  (s_cons (s_setF sc__law_web.nd rfl (by first | exact Or.inl rfl | exact Or.inr rfl) (f_lst (a_nil)))
  (s_cons (s_for (i_range1 T.m_range (a_cons (e_var 2) (a_nil))) (g_name sc__law_web.nd rfl (by first | exact Or.inl rfl | exact Or.inr rfl))
  (s_one (s_for (i_range2 T.m_range (a_cons (e_op or_add d_add (pv_ (e_var 6)) (pv_ (e_int))) (a_cons (e_var 2) (a_nil)))) (g_name sc__law_web.nd rfl (by first | exact Or.inl rfl | exact Or.inr rfl))
  (s_one (s_frz 3 (s_if (t_cmp (or_in hr) d_in (pv_ (e_tup (a_cons (e_var 6) (a_cons (e_var 7) (a_nil))))) (pv_ (e_var 3)) (by rfl))
  (s_one (s_app (pe_bm PySem.F.plainAttrs_list PySem.F.slot_list_append PySem.F.type_list_append mt_append (pe_var rfl (by first | exact Or.inl rfl | exact Or.inr (Or.inl rfl) | exact Or.inr (Or.inr rfl))) (pa_cons (f_e (e_tup (a_cons (e_var 6) (a_cons (e_var 7) (a_nil))))) pa_nil))))
  (s_nil)))))))
  (s_one (s_frz 8 (s_ret (e_lst (a_cons (e_var 2) (a_cons (e_var 8) (a_nil))))))))))))))
  · exact fun j hj => ⟨[], by cases j <;> first | exact .nil | (exact absurd hj (by simp)), FD.bindsN fun _ _ _ _ _ _ us hl => match us, hl with | [_, _], _ => rfl⟩
theorem sc__law_digits : FnScope ["_law_cell_here", "_law_sizes", "_law_row_here", "_law_rest", "_law_size", "_law_seed", "_law_k", "_law_twice"] ["_law_cell_here", "_law_sizes"] (defScope s__law_digits) := ⟨rfl, rfl, rfl, by decide +kernel, rfl, by decide +kernel, by decide +kernel⟩
theorem ok__law_digits {f__law_digits : Addr} {fd : FuncData} (FD : FunD K "_law_digits" "_law_digits" (defArgs s__law_digits) (defBody s__law_digits) (defScope s__law_digits) [] [] f__law_digits fd) (T : Txt P w K mg cm)   : DefP P w K mg base cm 1 2 f__law_digits d__law_digits [] := by
  refine ⟨fd, ["_law_cell_here", "_law_sizes"], [], fn_ok FD sc__law_digits (fun cdv A outer s H E S0 F0 hr tk => ?_), fun S => .nil, ?_⟩
  ·
    exact (s_cons (s_setF sc__law_digits.nd rfl (by first | exact Or.inl rfl | exact Or.inr rfl) (f_lst (a_nil)))
  (s_cons (s_set sc__law_digits.nd rfl (by first | exact Or.inl rfl | exact Or.inr rfl) (e_callT call_int1 d_toInt T.m_int b_int (va_cons (pv_ (e_var 0)) (va_nil))))
  (s_cons (s_if (t_cmp op_ge d_ge (pv_ (e_var 3)) (pv_ (e_op op_pow d_pow (pv_ (e_int)) (pv_ (e_int)))) (by rfl))
  (s_cons (s_set sc__law_digits.nd rfl (by first | exact Or.inl rfl | exact Or.inr rfl) (e_op op_sub d_sub (pv_ (e_var 3)) (pv_ (e_op op_pow d_pow (pv_ (e_int)) (pv_ (e_int))))))
  (s_cons (s_for (i_e (e_var 1)) (g_name sc__law_digits.nd rfl (by first | exact Or.inl rfl | exact Or.inr rfl))
  (s_cons (s_app (pe_bm PySem.F.plainAttrs_list PySem.F.slot_list_append PySem.F.type_list_append mt_append (pe_var rfl (by first | exact Or.inl rfl | exact Or.inr (Or.inl rfl) | exact Or.inr (Or.inr rfl))) (pa_cons (f_e (e_op op_mod d_mod (pv_ (e_callT call_int1 d_toInt T.m_int b_int (va_cons (pv_ (e_var 3)) (va_nil)))) (pv_ (e_var 4)))) pa_nil)))
  (s_one (s_set sc__law_digits.nd rfl (by first | exact Or.inl rfl | exact Or.inr rfl) (e_op op_fdivW d_div (pv_ (e_callT call_int1 d_toInt T.m_int b_int (va_cons (pv_ (e_var 3)) (va_nil)))) (pv_ (e_var 4)))))))
  (s_one (s_frz 2 (s_ret (e_var 2))))))
  (s_nil))
  (s_cons (s_set sc__law_digits.nd rfl (by first | exact Or.inl rfl | exact Or.inr rfl) (e_op op_mod d_mod (pv_ (e_callT call_int1 d_toInt T.m_int b_int (va_cons (pv_ (e_var 3)) (va_nil)))) (pv_ (e_int))))
  (s_cons (s_for (i_range1 T.m_range (a_cons (e_callB c_len d_len T.m_len b_len (va_cons (pv_ (e_var 1)) (va_nil))) (a_nil))) (g_name sc__law_digits.nd rfl (by first | exact Or.inl rfl | exact Or.inr rfl))
  (s_cons (s_set sc__law_digits.nd rfl (by first | exact Or.inl rfl | exact Or.inr rfl) (e_op op_mod d_mod (pv_ (e_callT call_int1 d_toInt T.m_int b_int (va_cons (pv_ (e_op or_add d_add (pv_ (e_op or_add d_add (pv_ (e_op or_mul d_mul (pv_ (e_var 5)) (pv_ (e_int)))) (pv_ (e_op or_mul d_mul (pv_ (e_int)) (pv_ (e_var 6)))))) (pv_ (e_int)))) (va_nil)))) (pv_ (e_int))))
  (s_cons (s_set sc__law_digits.nd rfl (by first | exact Or.inl rfl | exact Or.inr rfl) (e_op op_mod d_mod (pv_ (e_callT call_int1 d_toInt T.m_int b_int (va_cons (pv_ (e_op or_mul d_mul (pv_ (e_var 5)) (pv_ (e_op or_add d_add (pv_ (e_op op_fdivW d_div (pv_ (e_var 5)) (pv_ (e_int)))) (pv_ (e_int)))))) (va_nil)))) (pv_ (e_int))))
  (s_one (s_app (pe_bm PySem.F.plainAttrs_list PySem.F.slot_list_append PySem.F.type_list_append mt_append (pe_var rfl (by first | exact Or.inl rfl | exact Or.inr (Or.inl rfl) | exact Or.inr (Or.inr rfl))) (pa_cons (f_e (e_op op_mod d_mod (pv_ (e_op op_fdivW d_div (pv_ (e_var 7)) (pv_ (e_int)))) (pv_ (e_ix (pv_ (e_var 1)) (pv_ (e_var 6)))))) pa_nil)))))))
  (s_one (s_frz 2 (s_ret (e_var 2)))))))))
  · exact fun j hj => ⟨[], by cases j <;> first | exact .nil | (exact absurd hj (by simp)), FD.bindsN fun _ _ _ _ _ _ us hl => match us, hl with | [_, _], _ => rfl⟩
theorem sc__law_cell : FnScope ["_law_script", "_law_k", "_law_seed", "_law_cell_here"] ["_law_script", "_law_k"] (defScope s__law_cell) := ⟨rfl, rfl, rfl, by decide +kernel, rfl, by decide +kernel, by decide +kernel⟩
theorem ok__law_cell {f__law_cell : Addr} {fd : FuncData} (FD : FunD K "_law_cell" "_law_cell" (defArgs s__law_cell) (defBody s__law_cell) (defScope s__law_cell) [] [] f__law_cell fd) (T : Txt P w K mg cm)   : DefP P w K mg base cm 1 2 f__law_cell d__law_cell [] := by
  refine ⟨fd, ["_law_script", "_law_k"], [], fn_ok FD sc__law_cell (fun cdv A outer s H E S0 F0 hr tk => ?_), fun S => .nil, ?_⟩
  ·
    exact (s_cons (s_if (t_cmp op_lt d_lt (pv_ (e_var 1)) (pv_ (e_callB c_len d_len T.m_len b_len (va_cons (pv_ (e_var 0)) (va_nil)))) (by rfl))
  (s_one (s_ret (e_ix (pv_ (e_var 0)) (pv_ (e_var 1)))))
  (s_nil))
  (s_cons (s_set sc__law_cell.nd rfl (by first | exact Or.inl rfl | exact Or.inr rfl) (e_int))
  (s_cons (s_for (i_e (e_var 0)) (g_name sc__law_cell.nd rfl (by first | exact Or.inl rfl | exact Or.inr rfl))
  (s_one (s_set sc__law_cell.nd rfl (by first | exact Or.inl rfl | exact Or.inr rfl) (e_op op_mod d_mod (pv_ (e_callT call_int1 d_toInt T.m_int b_int (va_cons (pv_ (e_op or_add d_add (pv_ (e_op or_mul d_mul (pv_ (e_var 2)) (pv_ (e_int)))) (pv_ (e_op op_mod d_mod (pv_ (e_callT call_int1 d_toInt T.m_int b_int (va_cons (pv_ (e_var 3)) (va_nil)))) (pv_ (e_int)))))) (va_nil)))) (pv_ (e_int))))))
  (s_one (s_ret (e_op op_mod d_mod (pv_ (e_callT call_int1 d_toInt T.m_int b_int (va_cons (pv_ (e_op or_mul d_mul (pv_ (e_op or_mul d_mul (pv_ (e_op or_add d_add (pv_ (e_var 2)) (pv_ (e_int)))) (pv_ (e_op or_add d_add (pv_ (e_var 1)) (pv_ (e_int)))))) (pv_ (e_int)))) (va_nil)))) (pv_ (e_int))))))))
  · exact fun j hj => ⟨[], by cases j <;> first | exact .nil | (exact absurd hj (by simp)), FD.bindsN fun _ _ _ _ _ _ us hl => match us, hl with | [_, _], _ => rfl⟩
theorem sc__law_picture : FnScope ["_law_row_here", "_law_size", "_law_k"] ["_law_row_here", "_law_size"] (defScope s__law_picture) := ⟨rfl, rfl, rfl, by decide +kernel, rfl, by decide +kernel, by decide +kernel⟩
theorem ok__law_picture {f__law_picture : Addr} {fd : FuncData} (FD : FunD K "_law_picture" "_law_picture" (defArgs s__law_picture) (defBody s__law_picture) (defScope s__law_picture) [] [] f__law_picture fd) (T : Txt P w K mg cm)   : DefP P w K mg base cm 1 2 f__law_picture d__law_picture [] := by
  refine ⟨fd, ["_law_row_here", "_law_size"], [], fn_ok FD sc__law_picture (fun cdv A outer s H E S0 F0 hr tk => ?_), fun S => .nil, ?_⟩
  ·
    exact (s_cons (s_if (t_w (w_and (t_cmp op_ge d_ge (pv_ (e_ix (pv_ (e_var 0)) (pv_ (e_int)))) (pv_ (e_int)) (by rfl)) (w_and1 (t_cmp op_le d_le (pv_ (e_ix (pv_ (e_var 0)) (pv_ (e_int)))) (pv_ (e_int)) (by rfl)))))
  (s_one (s_ret (e_callT call_tuple_of d_tuple T.m_tuple b_tuple (va_cons (pv_ (e_lc (own := [("_law_k", 2)]) (i_v (i_range1 T.m_range (a_cons (e_var 1) (a_nil)))) (blkOk_by (by kernel_rfl)) (fun _ _ _ _ _ => g_name sc__law_picture.nd rfl (by first | exact Or.inl rfl | exact Or.inr rfl)) (fun _ _ _ _ _ => ts_nil) (fun _ _ _ _ _ => e_op op_mod d_mod (pv_ (e_callT call_int1 d_toInt T.m_int b_int (va_cons (pv_ (e_op or_add d_add (pv_ (e_var 2)) (pv_ (e_ix (pv_ (e_var 0)) (pv_ (e_int)))))) (va_nil)))) (pv_ (e_int))) sc__law_picture.nd)) (va_nil)))))
  (s_nil))
  (s_cons (s_if (t_cmp (or_eq hr) d_eq (pv_ (e_ix (pv_ (e_var 0)) (pv_ (e_int)))) (pv_ (e_int)) (by rfl))
  (s_one (s_ret (e_callT call_tuple_of d_tuple T.m_tuple b_tuple (va_cons (pv_ (e_lc (own := [("_law_k", 2)]) (i_v (i_range1 T.m_range (a_cons (e_var 1) (a_nil)))) (blkOk_by (by kernel_rfl)) (fun _ _ _ _ _ => g_name sc__law_picture.nd rfl (by first | exact Or.inl rfl | exact Or.inr rfl)) (fun _ _ _ _ _ => ts_nil) (fun _ _ _ _ _ => e_op or_mul d_mul (pv_ (e_op op_mod d_mod (pv_ (e_callT call_int1 d_toInt T.m_int b_int (va_cons (pv_ (e_op or_add d_add (pv_ (e_var 2)) (pv_ (e_ix (pv_ (e_var 0)) (pv_ (e_int)))))) (va_nil)))) (pv_ (e_int)))) (pv_ (e_callT call_int1 d_toInt T.m_int b_int (va_cons (pv_ (e_cmp (or_ne hr) d_ne (pv_ (e_var 2)) (pv_ (e_op or_add d_add (pv_ (e_ix (pv_ (e_var 0)) (pv_ (e_int)))) (pv_ (e_int)))) (by rfl))) (va_nil))))) sc__law_picture.nd)) (va_nil)))))
  (s_nil))
  (s_cons (s_if (t_cmp (or_eq hr) d_eq (pv_ (e_ix (pv_ (e_var 0)) (pv_ (e_int)))) (pv_ (e_int)) (by rfl))
  (s_one (s_ret (e_callT call_tuple_of d_tuple T.m_tuple b_tuple (va_cons (pv_ (e_lc (own := [("_law_k", 2)]) (i_v (i_range1 T.m_range (a_cons (e_var 1) (a_nil)))) (blkOk_by (by kernel_rfl)) (fun _ _ _ _ _ => g_name sc__law_picture.nd rfl (by first | exact Or.inl rfl | exact Or.inr rfl)) (fun _ _ _ _ _ => ts_nil) (fun _ _ _ _ _ => e_callT call_int1 d_toInt T.m_int b_int (va_cons (pv_ (e_cmp (or_eq hr) d_eq (pv_ (e_var 2)) (pv_ (e_ix (pv_ (e_var 0)) (pv_ (e_int)))) (by rfl))) (va_nil))) sc__law_picture.nd)) (va_nil)))))
  (s_nil))
  (s_one (s_ret (e_callT call_tuple_of d_tuple T.m_tuple b_tuple (va_cons (pv_ (e_lc (own := [("_law_k", 2)]) (i_v (i_range1 T.m_range (a_cons (e_var 1) (a_nil)))) (blkOk_by (by kernel_rfl)) (fun _ _ _ _ _ => g_name sc__law_picture.nd rfl (by first | exact Or.inl rfl | exact Or.inr rfl)) (fun _ _ _ _ _ => ts_nil) (fun _ _ _ _ _ => e_ix (pv_ (e_var 0)) (pv_ (e_op or_add d_add (pv_ (e_int)) (pv_ (e_var 2))))) sc__law_picture.nd)) (va_nil))))))))
  · exact fun j hj => ⟨[], by cases j <;> first | exact .nil | (exact absurd hj (by simp)), FD.bindsN fun _ _ _ _ _ _ us hl => match us, hl with | [_, _], _ => rfl⟩
theorem sc__law_scene : FnScope ["_law_script", "_law_at", "_law_most", "_law_web_here", "_law_picture_here"] ["_law_script", "_law_at", "_law_most"] (defScope s__law_scene) := ⟨rfl, rfl, rfl, by decide +kernel, rfl, by decide +kernel, by decide +kernel⟩
theorem ok__law_scene {f__law_cell : Addr} {f__law_digits : Addr} {f__law_picture : Addr} {f__law_scene : Addr} {f__law_web : Addr} {fd : FuncData} (FD : FunD K "_law_scene" "_law_scene" (defArgs s__law_scene) (defBody s__law_scene) (defScope s__law_scene) [] [] f__law_scene fd) (T : Txt P w K mg cm)  (G__law_web : DefP P w K mg base cm 1 2 f__law_web d__law_web []) (A__law_web : At K mg "_law_web" f__law_web) (G__law_digits : DefP P w K mg base cm 1 2 f__law_digits d__law_digits []) (A__law_digits : At K mg "_law_digits" f__law_digits) (G__law_cell : DefP P w K mg base cm 1 2 f__law_cell d__law_cell []) (A__law_cell : At K mg "_law_cell" f__law_cell) (G__law_picture : DefP P w K mg base cm 1 2 f__law_picture d__law_picture []) (A__law_picture : At K mg "_law_picture" f__law_picture) : DefP P w K mg base cm 2 3 f__law_scene d__law_scene [] := by
  refine ⟨fd, ["_law_script", "_law_at", "_law_most"], [], fn_ok FD sc__law_scene (fun cdv A outer s H E S0 F0 hr tk => ?_), fun S => .nil, ?_⟩
  ·
    exact (s_cons (s_set sc__law_scene.nd rfl (by first | exact Or.inl rfl | exact Or.inr rfl) (e_callP 0 G__law_web A__law_web tk (hr.mono (by decide)) (by decide) (a_cons (e_callP 0 G__law_digits A__law_digits tk (hr.mono (by decide)) (by decide) (a_cons (e_callP 0 G__law_cell A__law_cell tk (hr.mono (by decide)) (by decide) (a_cons (e_var 0) (a_cons (e_var 1) (a_nil)))) (a_cons (e_op or_add d_add (pv_ (e_op or_add d_add (pv_ (e_op or_add d_add (pv_ (e_lst (a_cons (e_int) (a_nil)))) (pv_ (e_op or_mul d_mul (pv_ (e_lst (a_cons (e_int) (a_cons (e_int) (a_nil))))) (pv_ (e_int)))))) (pv_ (e_lst (a_cons (e_int) (a_nil)))))) (pv_ (e_op or_mul d_mul (pv_ (e_lst (a_cons (e_int) (a_cons (e_int) (a_nil))))) (pv_ (e_int))))) (a_nil)))) (a_cons (e_var 2) (a_nil)))))
  (s_cons (s_set sc__law_scene.nd rfl (by first | exact Or.inl rfl | exact Or.inr rfl) (e_callP 0 G__law_picture A__law_picture tk (hr.mono (by decide)) (by decide) (a_cons (e_callP 0 G__law_digits A__law_digits tk (hr.mono (by decide)) (by decide) (a_cons (e_callP 0 G__law_cell A__law_cell tk (hr.mono (by decide)) (by decide) (a_cons (e_var 0) (a_cons (e_op or_add d_add (pv_ (e_var 1)) (pv_ (e_int))) (a_nil)))) (a_cons (e_op or_add d_add (pv_ (e_lst (a_cons (e_int) (a_cons (e_int) (a_nil))))) (pv_ (e_op or_mul d_mul (pv_ (e_lst (a_cons (e_int) (a_nil)))) (pv_ (e_int))))) (a_nil)))) (a_cons (e_ix (pv_ (e_var 3)) (pv_ (e_int))) (a_nil)))))
  (s_one (s_ret (e_lst (a_cons (e_ix (pv_ (e_var 3)) (pv_ (e_int))) (a_cons (e_ix (pv_ (e_var 3)) (pv_ (e_int))) (a_cons (e_var 4) (a_nil)))))))))
  · exact fun j hj => ⟨[], by cases j <;> first | exact .nil | (exact absurd hj (by simp)), FD.bindsN fun _ _ _ _ _ _ us hl => match us, hl with | [_, _, _], _ => rfl⟩
theorem sc__law_any_scene : FnScope ["_law_script", "_law_at", "_law_row_here", "_law_size", "_law_lines", "_law_a", "_law_b", "_law_picture_here"] ["_law_script", "_law_at"] (defScope s__law_any_scene) := ⟨rfl, rfl, rfl, by decide +kernel, rfl, by decide +kernel, by decide +kernel⟩
theorem ok__law_any_scene {f__law_any_scene : Addr} {f__law_cell : Addr} {f__law_digits : Addr} {f__law_picture : Addr} {fd : FuncData} (FD : FunD K "_law_any_scene" "_law_any_scene" (defArgs s__law_any_scene) (defBody s__law_any_scene) (defScope s__law_any_scene) [] [] f__law_any_scene fd) (T : Txt P w K mg cm)  (G__law_digits : DefP P w K mg base cm 1 2 f__law_digits d__law_digits []) (A__law_digits : At K mg "_law_digits" f__law_digits) (G__law_cell : DefP P w K mg base cm 1 2 f__law_cell d__law_cell []) (A__law_cell : At K mg "_law_cell" f__law_cell) (G__law_picture : DefP P w K mg base cm 1 2 f__law_picture d__law_picture []) (A__law_picture : At K mg "_law_picture" f__law_picture) : DefP P w K mg base cm 2 2 f__law_any_scene d__law_any_scene [] := by
  refine ⟨fd, ["_law_script", "_law_at"], [], fn_ok FD sc__law_any_scene (fun cdv A outer s H E S0 F0 hr tk => ?_), fun S => .nil, ?_⟩
  ·
    exact (s_cons (s_set sc__law_any_scene.nd rfl (by first | exact Or.inl rfl | exact Or.inr rfl) (e_callP 0 G__law_digits A__law_digits tk (hr.mono (by decide)) (by decide) (a_cons (e_callP 0 G__law_cell A__law_cell tk (hr.mono (by decide)) (by decide) (a_cons (e_var 0) (a_cons (e_var 1) (a_nil)))) (a_cons (e_op or_add d_add (pv_ (e_lst (a_cons (e_int) (a_cons (e_int) (a_nil))))) (pv_ (e_op or_mul d_mul (pv_ (e_lst (a_cons (e_int) (a_nil)))) (pv_ (e_int))))) (a_nil)))))
  (s_cons (s_set sc__law_any_scene.nd rfl (by first | exact Or.inl rfl | exact Or.inr rfl) (e_ix (pv_ (e_lst (a_cons (e_int) (a_cons (e_int) (a_cons (e_int) (a_cons (e_int) (a_cons (e_int) (a_cons (e_int) (a_cons (e_int) (a_nil)))))))))) (pv_ (e_ix (pv_ (e_var 2)) (pv_ (e_int))))))
  (s_cons (s_setF sc__law_any_scene.nd rfl (by first | exact Or.inl rfl | exact Or.inr rfl) (f_lst (a_nil)))
  (s_cons (s_for (i_range1 T.m_range (a_cons (e_var 3) (a_nil))) (g_name sc__law_any_scene.nd rfl (by first | exact Or.inl rfl | exact Or.inr rfl))
  (s_one (s_for (i_range2 T.m_range (a_cons (e_op or_add d_add (pv_ (e_var 5)) (pv_ (e_int))) (a_cons (e_var 3) (a_nil)))) (g_name sc__law_any_scene.nd rfl (by first | exact Or.inl rfl | exact Or.inr rfl))
  (s_one (s_if (t_cmp op_le d_le (pv_ (e_ix (pv_ (e_var 2)) (pv_ (e_op or_add d_add (pv_ (e_op or_add d_add (pv_ (e_int)) (pv_ (e_op op_fdivW d_div (pv_ (e_op or_mul d_mul (pv_ (e_var 6)) (pv_ (e_op op_sub d_sub (pv_ (e_var 6)) (pv_ (e_int)))))) (pv_ (e_int)))))) (pv_ (e_var 5)))))) (pv_ (e_ix (pv_ (e_var 2)) (pv_ (e_int)))) (by rfl))
  (s_one (s_app (pe_bm PySem.F.plainAttrs_list PySem.F.slot_list_append PySem.F.type_list_append mt_append (pe_var rfl (by first | exact Or.inl rfl | exact Or.inr (Or.inl rfl) | exact Or.inr (Or.inr rfl))) (pa_cons (f_e (e_tup (a_cons (e_var 5) (a_cons (e_var 6) (a_nil))))) pa_nil))))
  (s_nil))))))
  (s_cons (s_set sc__law_any_scene.nd rfl (by first | exact Or.inl rfl | exact Or.inr rfl) (e_callP 0 G__law_picture A__law_picture tk (hr.mono (by decide)) (by decide) (a_cons (e_callP 0 G__law_digits A__law_digits tk (hr.mono (by decide)) (by decide) (a_cons (e_callP 0 G__law_cell A__law_cell tk (hr.mono (by decide)) (by decide) (a_cons (e_var 0) (a_cons (e_op or_add d_add (pv_ (e_var 1)) (pv_ (e_int))) (a_nil)))) (a_cons (e_op or_add d_add (pv_ (e_lst (a_cons (e_int) (a_cons (e_int) (a_nil))))) (pv_ (e_op or_mul d_mul (pv_ (e_lst (a_cons (e_int) (a_nil)))) (pv_ (e_int))))) (a_nil)))) (a_cons (e_var 3) (a_nil)))))
  (s_one (s_frz 4 (s_ret (e_lst (a_cons (e_var 3) (a_cons (e_var 4) (a_cons (e_var 7) (a_nil)))))))))))))
  · exact fun j hj => ⟨[], by cases j <;> first | exact .nil | (exact absurd hj (by simp)), FD.bindsN fun _ _ _ _ _ _ us hl => match us, hl with | [_, _], _ => rfl⟩
theorem sc_checked_lines : FnScope ["size", "pairs", "index", "a", "b"] ["size", "pairs"] (defScope s_checked_lines) := ⟨rfl, rfl, rfl, by decide +kernel, rfl, by decide +kernel, by decide +kernel⟩
theorem ok_checked_lines {f_checked_lines : Addr} {fd : FuncData} (FD : FunD K "checked_lines" "checked_lines" (defArgs s_checked_lines) (defBody s_checked_lines) (defScope s_checked_lines) [] [] f_checked_lines fd) (T : Txt P w K mg cm)   : DefP P w K mg base cm 1 2 f_checked_lines d_checked_lines [] := by
  refine ⟨fd, ["size", "pairs"], [], fn_ok FD sc_checked_lines (fun cdv A outer s H E S0 F0 hr tk => ?_), fun S => .nil, ?_⟩
  ·
    exact (s_cons (s_for (i_enum T.m_enumerate (a_cons (e_var 1) (a_nil))) (g_tup rfl (gs_cons (g_name sc_checked_lines.nd rfl (by first | exact Or.inl rfl | exact Or.inr rfl)) (gs_cons (g_tup rfl (gs_cons (g_name sc_checked_lines.nd rfl (by first | exact Or.inl rfl | exact Or.inr rfl)) (gs_cons (g_name sc_checked_lines.nd rfl (by first | exact Or.inl rfl | exact Or.inr rfl)) (gs_nil)))) (gs_nil))))
  (s_one (s_if (t_w (w_or (t_cmp (or_eq hr) d_eq (pv_ (e_var 3)) (pv_ (e_var 4)) (by rfl)) (w_or (t_not (t_chain op_le d_le op_lt d_lt (pv_ (e_int)) (pv_ (e_var 3)) (pv_ (e_var 0)))) (w_or1 (t_not (t_chain op_le d_le op_lt d_lt (pv_ (e_int)) (pv_ (e_var 4)) (pv_ (e_var 0))))))))
  (s_one (s_never))
  (s_nil))))
  (s_one (s_ret (e_callT call_tuple_of d_tuple T.m_tuple b_tuple (va_cons (pv_ (e_callB (cr_sortedT rfl) (opN_of (d_sortU T.hset)) T.m_sorted b_sorted (va_cons (pv_ (e_sc T.hset hr (own := [("a", 3), ("b", 4)]) (i_view (pv_ (e_var 1))) (blkOk_by (by kernel_rfl)) (fun _ _ _ _ _ => g_tup rfl (gs_cons (g_name sc_checked_lines.nd rfl (by first | exact Or.inl rfl | exact Or.inr rfl)) (gs_cons (g_name sc_checked_lines.nd rfl (by first | exact Or.inl rfl | exact Or.inr rfl)) (gs_nil)))) (fun _ _ _ _ _ => ts_nil) (fun _ _ _ _ _ => e_tup (a_cons (e_callB (call_min2 rfl) d_min2 T.m_min b_min (va_cons (pv_ (e_var 3)) (va_cons (pv_ (e_var 4)) (va_nil)))) (a_cons (e_callB (call_max2 rfl) d_max2 T.m_max b_max (va_cons (pv_ (e_var 3)) (va_cons (pv_ (e_var 4)) (va_nil)))) (a_nil)))) sc_checked_lines.nd)) (va_nil)))) (va_nil))))))
  · exact fun j hj => ⟨[], by cases j <;> first | exact .nil | (exact absurd hj (by simp)), FD.bindsN fun _ _ _ _ _ _ us hl => match us, hl with | [_, _], _ => rfl⟩
theorem sc_frozen : FnScope ["value", "item"] ["value"] (defScope s_frozen) := ⟨rfl, rfl, rfl, by decide +kernel, rfl, by decide +kernel, by decide +kernel⟩
theorem ok_frozen {f_frozen : Addr} {fd : FuncData} (FD : FunD K "frozen" "frozen" (defArgs s_frozen) (defBody s_frozen) (defScope s_frozen) [] [] f_frozen fd) (T : Txt P w K mg cm)   (A_self : At K mg "frozen" f_frozen) : ∀ k : Nat, DefP P w K mg base cm (1 + k) 1 f_frozen (d_frozen k) []
  | 0 => ⟨fd, ["value"], [], (fn_ok FD sc_frozen (F := neverS) fun cdv A outer s H E S0 F0 hr tk => ss_never), fun S => .nil, fun j hj => ⟨[], by cases j <;> first | exact .nil | (exact absurd hj (by simp)), FD.bindsN fun _ _ _ _ _ _ us hl => match us, hl with | [_], _ => rfl⟩⟩
  | k + 1 => by
    have G_self := ok_frozen FD T  A_self k
    refine ⟨fd, ["value"], [], fn_ok FD sc_frozen (fun cdv A outer s H E S0 F0 hr tk => ?_), fun S => .nil, fun j hj => ⟨[], by cases j <;> first | exact .nil | (exact absurd hj (by simp)), FD.bindsN fun _ _ _ _ _ _ us hl => match us, hl with | [_], _ => rfl⟩⟩
    exact (s_cons (s_if (t_val (e_isiT T.cls (List.forall_mem_cons.mpr ⟨T.kb_list, List.forall_mem_cons.mpr ⟨T.kb_tuple, List.forall_mem_nil _⟩⟩) (by decide) T.m_isinstance (pv_ (e_var 0)) (pa_cons (pe_bltn rfl T.m_list b_list rfl) (pa_cons (pe_bltn rfl T.m_tuple b_tuple rfl) (pa_nil)))))
  (s_one (s_ret (e_callT call_tuple_of d_tuple T.m_tuple b_tuple (va_cons (pv_ (e_lc (own := [("item", 1)]) (i_view (pv_ (e_var 0))) (blkOk_by (by kernel_rfl)) (fun _ _ _ _ _ => g_name sc_frozen.nd rfl (by first | exact Or.inl rfl | exact Or.inr rfl)) (fun _ _ _ _ _ => ts_nil) (fun _ _ _ _ _ => e_callP 0 G_self A_self takesF hr (Nat.zero_le _) (a_cons (e_var 1) (a_nil))) sc_frozen.nd)) (va_nil)))))
  (s_nil))
  (s_one (s_ret (e_var 0))))
theorem sc_neighbour_rows : FnScope ["size", "lines", "place", "rows", "a", "b", "row"] ["size", "lines"] (defScope s_neighbour_rows) := ⟨rfl, rfl, rfl, by decide +kernel, rfl, by decide +kernel, by decide +kernel⟩
theorem ok_neighbour_rows {f_neighbour_rows : Addr} {fd : FuncData} (FD : FunD K "neighbour_rows" "neighbour_rows" (defArgs s_neighbour_rows) (defBody s_neighbour_rows) (defScope s_neighbour_rows) [] [] f_neighbour_rows fd) (T : Txt P w K mg cm)   : DefP P w K mg base cm 1 2 f_neighbour_rows d_neighbour_rows [] := by
  refine ⟨fd, ["size", "lines"], [], fn_ok FD sc_neighbour_rows (fun cdv A outer s H E S0 F0 hr tk => ?_), fun S => .nil, ?_⟩
  ·
    exact (s_cons (s_setLcT sc_neighbour_rows.nd rfl rfl rfl (own := [("place", 2)]) (i_v (i_range1 T.m_range (a_cons (e_var 0) (a_nil)))) (blkOk_by (by kernel_rfl)) (fun _ _ _ _ _ => g_name sc_neighbour_rows.nd rfl (by first | exact Or.inl rfl | exact Or.inr rfl)) (fun _ _ _ _ _ => ts_nil) (fun _ _ _ _ _ => f_lst (a_nil)))
  (s_cons (s_for (i_e (e_var 1)) (g_tup rfl (gs_cons (g_name sc_neighbour_rows.nd rfl (by first | exact Or.inl rfl | exact Or.inr rfl)) (gs_cons (g_name sc_neighbour_rows.nd rfl (by first | exact Or.inl rfl | exact Or.inr rfl)) (gs_nil))))
  (s_cons (s_appP (pe_bm PySem.F.plainAttrs_list PySem.F.slot_list_append PySem.F.type_list_append mt_append (pe_ix ix_seq (pe_var rfl (by first | exact Or.inl rfl | exact Or.inr (Or.inl rfl) | exact Or.inr (Or.inr rfl))) (pv_ (e_var 4)) (fun _ _ => rfl)) (pa_cons (f_e (e_var 5)) pa_nil)))
  (s_one (s_appP (pe_bm PySem.F.plainAttrs_list PySem.F.slot_list_append PySem.F.type_list_append mt_append (pe_ix ix_seq (pe_var rfl (by first | exact Or.inl rfl | exact Or.inr (Or.inl rfl) | exact Or.inr (Or.inr rfl))) (pv_ (e_var 5)) (fun _ _ => rfl)) (pa_cons (f_e (e_var 4)) pa_nil))))))
  (s_one (s_frz 3 (s_ret (e_callT call_tuple_of d_tuple T.m_tuple b_tuple (va_cons (pv_ (e_lc (own := [("row", 6)]) (i_view (pv_ (e_var 3))) (blkOk_by (by kernel_rfl)) (fun _ _ _ _ _ => g_name sc_neighbour_rows.nd rfl (by first | exact Or.inl rfl | exact Or.inr rfl)) (fun _ _ _ _ _ => ts_nil) (fun _ _ _ _ _ => e_callT call_tuple_of d_tuple T.m_tuple b_tuple (va_cons (pv_ (e_callB cr_sortedI (opN_of d_sortF) T.m_sorted b_sorted (va_cons (pv_ (e_var 6)) (va_nil)))) (va_nil))) sc_neighbour_rows.nd)) (va_nil))))))))
  · exact fun j hj => ⟨[], by cases j <;> first | exact .nil | (exact absurd hj (by simp)), FD.bindsN fun _ _ _ _ _ _ us hl => match us, hl with | [_, _], _ => rfl⟩
theorem sc_Web___init__ : FnScope ["self", "size", "lines"] ["self", "size", "lines"] (defScope s_Web___init__) := ⟨rfl, rfl, rfl, by decide +kernel, rfl, by decide +kernel, by decide +kernel⟩
theorem ok_Web___init__ {f_Web___init__ : Addr} {f_checked_lines : Addr} {f_frozen : Addr} {f_neighbour_rows : Addr} {t0_Web___init__ : Addr} {fd : FuncData} (FD : FunD K "__init__" "Web.__init__" (defArgs s_Web___init__) (defBody s_Web___init__) (defScope s_Web___init__) [.ref t0_Web___init__] [] f_Web___init__ fd) (T : Txt P w K mg cm) (e0_Web___init__ : ∃ o m, K.lookup t0_Web___init__ = some o ∧ o.cls = .type "tuple" ∧ o.data = .seq #[] m) (G_checked_lines : DefP P w K mg base cm 1 2 f_checked_lines d_checked_lines []) (A_checked_lines : At K mg "checked_lines" f_checked_lines) (G_frozen : DefP P w K mg base cm 7 1 f_frozen (d_frozen 6) []) (A_frozen : At K mg "frozen" f_frozen) (G_neighbour_rows : DefP P w K mg base cm 1 2 f_neighbour_rows d_neighbour_rows []) (A_neighbour_rows : At K mg "neighbour_rows" f_neighbour_rows) : IniP P w K mg base cm 8 2 46 f_Web___init__ d_Web___init__ [.tup []] := by
  refine ⟨fd, ["self", "size", "lines"], [.ref t0_Web___init__], init_ok T.in_Web FD sc_Web___init__ rfl (fun cdv A outer s H E S0 F0 x hr tk => ?_), fun S => .cons (match e0_Web___init__ with | ⟨_, _, a, b, c⟩ => rep_t0 a b c S) .nil, ?_⟩
  ·
    exact (s_cons (s_slf (T.f_size (46, 0) (by decide) T.in_Web) (by rw [T.nm_Web]; decide) (pe_var rfl (Or.inl rfl)) (e_var 1))
  (s_cons (s_slf (T.f_lines (46, 1) (by decide) T.in_Web) (by rw [T.nm_Web]; decide) (pe_var rfl (Or.inl rfl)) (e_callP 0 G_checked_lines A_checked_lines tk (hr.mono (by decide)) (by decide) (a_cons (e_var 1) (a_cons (e_callP 0 G_frozen A_frozen tk (hr.mono (by decide)) (by decide) (a_cons (e_var 2) (a_nil))) (a_nil)))))
  (s_one (s_slf (T.f_around (46, 2) (by decide) T.in_Web) (by rw [T.nm_Web]; decide) (pe_var rfl (Or.inl rfl)) (e_callP 0 G_neighbour_rows A_neighbour_rows tk (hr.mono (by decide)) (by decide) (a_cons (e_var 1) (a_cons (e_slf (T.f_lines (46, 1) (by decide) T.in_Web) (pe_var rfl (Or.inl rfl))) (a_nil))))))))
  · exact fun j hj => match j, hj with
    | 0, _ => FD.binds1 2 0 (by simp) rfl fun _ _ _ _ _ _ _ us its hl hi => match us, its, hl, hi with | [_, _], [_], _, _ => ⟨_, rfl, rfl⟩
    | 1, _ => FD.binds1 3 1 (by simp) rfl fun _ _ _ _ _ _ _ us its hl hi => match us, its, hl, hi with | [_, _, _], [_], _, _ => ⟨_, rfl, rfl⟩
    | _ + 2, hj => absurd hj (by simp)
theorem sc__law_near : FnScope ["_law_size", "_law_lines", "_law_k", "_law_near_here", "_law_line", "_law_row_here"] ["_law_size", "_law_lines"] (defScope s__law_near) := ⟨rfl, rfl, rfl, by decide +kernel, rfl, by decide +kernel, by decide +kernel⟩
theorem ok__law_near {f__law_near : Addr} {fd : FuncData} (FD : FunD K "_law_near" "_law_near" (defArgs s__law_near) (defBody s__law_near) (defScope s__law_near) [] [] f__law_near fd) (T : Txt P w K mg cm)   : DefP P w K mg base cm 1 2 f__law_near d__law_near [] := by
  refine ⟨fd, ["_law_size", "_law_lines"], [], fn_ok FD sc__law_near (fun cdv A outer s H E S0 F0 hr tk => ?_), fun S => .nil, ?_⟩
  ·
    exact (s_cons (s_setLcT sc__law_near.nd rfl rfl rfl (own := [("_law_k", 2)]) (i_v (i_range1 T.m_range (a_cons (e_var 0) (a_nil)))) (blkOk_by (by kernel_rfl)) (fun _ _ _ _ _ => g_name sc__law_near.nd rfl (by first | exact Or.inl rfl | exact Or.inr rfl)) (fun _ _ _ _ _ => ts_nil) (fun _ _ _ _ _ => f_lst (a_nil)))
  (s_cons (s_for (i_e (e_var 1)) (g_name sc__law_near.nd rfl (by first | exact Or.inl rfl | exact Or.inr rfl))
  (s_cons (s_appP (pe_bm PySem.F.plainAttrs_list PySem.F.slot_list_append PySem.F.type_list_append mt_append (pe_ix ix_seq (pe_var rfl (by first | exact Or.inl rfl | exact Or.inr (Or.inl rfl) | exact Or.inr (Or.inr rfl))) (pv_ (e_ix (pv_ (e_var 4)) (pv_ (e_int)))) (fun _ _ => rfl)) (pa_cons (f_e (e_ix (pv_ (e_var 4)) (pv_ (e_int)))) pa_nil)))
  (s_one (s_appP (pe_bm PySem.F.plainAttrs_list PySem.F.slot_list_append PySem.F.type_list_append mt_append (pe_ix ix_seq (pe_var rfl (by first | exact Or.inl rfl | exact Or.inr (Or.inl rfl) | exact Or.inr (Or.inr rfl))) (pv_ (e_ix (pv_ (e_var 4)) (pv_ (e_int)))) (fun _ _ => rfl)) (pa_cons (f_e (e_ix (pv_ (e_var 4)) (pv_ (e_int)))) pa_nil))))))
  (s_one (s_frz 3 (s_ret (e_lc (own := [("_law_row_here", 5)]) (i_view (pv_ (e_var 3))) (blkOk_by (by kernel_rfl)) (fun _ _ _ _ _ => g_name sc__law_near.nd rfl (by first | exact Or.inl rfl | exact Or.inr rfl)) (fun _ _ _ _ _ => ts_nil) (fun _ _ _ _ _ => e_callB cr_sortedI (opN_of d_sortF) T.m_sorted b_sorted (va_cons (pv_ (e_var 5)) (va_nil))) sc__law_near.nd))))))
  · exact fun j hj => ⟨[], by cases j <;> first | exact .nil | (exact absurd hj (by simp)), FD.bindsN fun _ _ _ _ _ _ us hl => match us, hl with | [_, _], _ => rfl⟩
theorem sc__law_forest : FnScope ["_law_near_here", "_law_row_here", "_law_parents", "_law_found", "_law_root", "_law_mine", "_law_k", "_law_other", "_law_fresh"] ["_law_near_here"] (defScope s__law_forest) := ⟨rfl, rfl, rfl, by decide +kernel, rfl, by decide +kernel, by decide +kernel⟩
theorem ok__law_forest {f__law_forest : Addr} {fd : FuncData} (FD : FunD K "_law_forest" "_law_forest" (defArgs s__law_forest) (defBody s__law_forest) (defScope s__law_forest) [] [] f__law_forest fd) (T : Txt P w K mg cm)   : DefP P w K mg base cm 1 1 f__law_forest d__law_forest [] := by
  refine ⟨fd, ["_law_near_here"], [], fn_ok FD sc__law_forest (fun cdv A outer s H E S0 F0 hr tk => ?_), fun S => .nil, ?_⟩
  ·
    exact (s_cons (s_setLcF sc__law_forest.nd rfl rfl rfl (own := [("_law_row_here", 1)]) (i_view (pv_ (e_var 0))) (blkOk_by (by kernel_rfl)) (fun _ _ _ _ _ => g_name sc__law_forest.nd rfl (by first | exact Or.inl rfl | exact Or.inr rfl)) (fun _ _ _ _ _ => ts_nil) (fun _ _ _ _ _ => e_non))
  (s_cons (s_setF sc__law_forest.nd rfl (by first | exact Or.inl rfl | exact Or.inr rfl) (f_lst (a_nil)))
  (s_cons (s_for (i_range1 T.m_range (a_cons (e_callB c_len d_len T.m_len b_len (va_cons (pv_ (e_var 0)) (va_nil))) (a_nil))) (g_name sc__law_forest.nd rfl (by first | exact Or.inl rfl | exact Or.inr rfl))
  (s_one (s_if (t_cmp (or_notIn hr) d_notIn (pv_ (e_var 4)) (v_var 3) (by rfl))
  (s_cons (s_setF sc__law_forest.nd rfl (by first | exact Or.inl rfl | exact Or.inr rfl) (f_lst (a_cons (e_var 4) (a_nil))))
  (s_cons (s_for (i_range1 T.m_range (a_cons (e_callB c_len d_len T.m_len b_len (va_cons (pv_ (e_var 0)) (va_nil))) (a_nil))) (g_name sc__law_forest.nd rfl (by first | exact Or.inl rfl | exact Or.inr rfl))
  (s_one (s_if (t_cmp op_lt d_lt (pv_ (e_var 6)) (pv_ (e_callB c_len d_len T.m_len b_len (va_cons (v_var 5) (va_nil)))) (by rfl))
  (s_cons (s_setLc sc__law_forest.nd rfl rfl rfl (own := [("_law_other", 7)]) (i_view (pv_ (e_ix (pv_ (e_var 0)) (pv_ (e_ix (v_var 5) (pv_ (e_var 6))))))) (blkOk_by (by kernel_rfl)) (fun _ _ _ _ _ => g_name sc__law_forest.nd rfl (by first | exact Or.inl rfl | exact Or.inr rfl)) (fun _ _ _ _ _ => ts_one (t_cmp (or_notIn hr) d_notIn (pv_ (e_var 7)) (v_var 5) (by rfl))) (fun _ _ _ _ _ => e_var 7))
  (s_cons (s_for (i_e (e_var 8)) (g_name sc__law_forest.nd rfl (by first | exact Or.inl rfl | exact Or.inr rfl))
  (s_one (s_setI (f_e (e_ix (v_var 5) (pv_ (e_var 6)))) (pg_sub (pe_var rfl (by first | exact Or.inl rfl | exact Or.inr (Or.inl rfl) | exact Or.inr (Or.inr rfl))) (pv_ (e_var 7)) set_list))))
  (s_one (s_ext (pe_bm PySem.F.plainAttrs_list PySem.F.slot_list_extend PySem.F.type_list_extend mt_extend (pe_var rfl (by first | exact Or.inl rfl | exact Or.inr (Or.inl rfl) | exact Or.inr (Or.inr rfl))) (pa_cons (e_var 8) pa_nil))))))
  (s_nil))))
  (s_one (s_frz 5 (s_ext (pe_bm PySem.F.plainAttrs_list PySem.F.slot_list_extend PySem.F.type_list_extend mt_extend (pe_var rfl (by first | exact Or.inl rfl | exact Or.inr (Or.inl rfl) | exact Or.inr (Or.inr rfl))) (pa_cons (e_var 5) pa_nil)))))))
  (s_nil))))
  (s_one (s_frz 2 (s_ret (e_var 2)))))))
  · exact fun j hj => ⟨[], by cases j <;> first | exact .nil | (exact absurd hj (by simp)), FD.bindsN fun _ _ _ _ _ _ us hl => match us, hl with | [_], _ => rfl⟩
theorem sc_forest : FnScope ["web", "parents", "known", "root", "queue", "at", "other"] ["web"] (defScope s_forest) := ⟨rfl, rfl, rfl, by decide +kernel, rfl, by decide +kernel, by decide +kernel⟩
theorem ok_forest {f_forest : Addr} {fd : FuncData} (FD : FunD K "forest" "forest" (defArgs s_forest) (defBody s_forest) (defScope s_forest) [] [] f_forest fd) (T : Txt P w K mg cm)   : DefP P w K mg base cm 1 1 f_forest d_forest [] := by
  refine ⟨fd, ["web"], [], fn_ok FD sc_forest (fun cdv A outer s H E S0 F0 hr tk => ?_), fun S => .nil, ?_⟩
  ·
    exact (s_cons (s_setF sc_forest.nd rfl (by first | exact Or.inl rfl | exact Or.inr rfl) (f_op or_mul d_rep (pv_ (e_lst (a_cons (e_non) (a_nil)))) (pv_ (e_fld T.f_size (e_var 0)))))
  (s_cons (s_setF sc_forest.nd rfl (by first | exact Or.inl rfl | exact Or.inr rfl) (f_dnew))
  (s_cons (s_for (i_range1 T.m_range (a_cons (e_fld T.f_size (e_var 0)) (a_nil))) (g_name sc_forest.nd rfl (by first | exact Or.inl rfl | exact Or.inr rfl))
  (s_one (s_if (t_dnin hr (e_var 3) (pe_var rfl (by first | exact Or.inl rfl | exact Or.inr (Or.inl rfl) | exact Or.inr (Or.inr rfl))))
  (s_cons (s_dput hr (pe_var rfl (by first | exact Or.inl rfl | exact Or.inr (Or.inl rfl) | exact Or.inr (Or.inr rfl))) (e_var 3) (e_bl))
  (s_cons (s_setF sc_forest.nd rfl (by first | exact Or.inl rfl | exact Or.inr rfl) (f_lst (a_cons (e_var 3) (a_nil))))
  (s_cons (s_set sc_forest.nd rfl (by first | exact Or.inl rfl | exact Or.inr rfl) (e_int))
  (s_one (s_while fuel (t_cmp op_lt d_lt (pv_ (e_var 5)) (pv_ (e_callB c_len d_len T.m_len b_len (va_cons (v_var 4) (va_nil)))) (by rfl))
  (s_cons (s_for (i_e (e_ix (pv_ (e_fld T.f_around (e_var 0))) (pv_ (e_ix (v_var 4) (pv_ (e_var 5)))))) (g_name sc_forest.nd rfl (by first | exact Or.inl rfl | exact Or.inr rfl))
  (s_one (s_if (t_dnin hr (e_var 6) (pe_var rfl (by first | exact Or.inl rfl | exact Or.inr (Or.inl rfl) | exact Or.inr (Or.inr rfl))))
  (s_cons (s_dput hr (pe_var rfl (by first | exact Or.inl rfl | exact Or.inr (Or.inl rfl) | exact Or.inr (Or.inr rfl))) (e_var 6) (e_bl))
  (s_cons (s_setI (f_e (e_ix (v_var 4) (pv_ (e_var 5)))) (pg_sub (pe_var rfl (by first | exact Or.inl rfl | exact Or.inr (Or.inl rfl) | exact Or.inr (Or.inr rfl))) (pv_ (e_var 6)) set_list))
  (s_one (s_app (pe_bm PySem.F.plainAttrs_list PySem.F.slot_list_append PySem.F.type_list_append mt_append (pe_var rfl (by first | exact Or.inl rfl | exact Or.inr (Or.inl rfl) | exact Or.inr (Or.inr rfl))) (pa_cons (f_e (e_var 6)) pa_nil))))))
  (s_nil))))
  (s_one (s_aug ip_add d_ipAdd sc_forest.nd rfl (by first | exact Or.inl rfl | exact Or.inr rfl) (e_int)))))))))
  (s_nil))))
  (s_one (s_frz 1 (s_ret (e_callT call_tuple_of d_tuple T.m_tuple b_tuple (va_cons (pv_ (e_var 1)) (va_nil)))))))))
  · exact fun j hj => ⟨[], by cases j <;> first | exact .nil | (exact absurd hj (by simp)), FD.bindsN fun _ _ _ _ _ _ us hl => match us, hl with | [_], _ => rfl⟩
theorem sc__law_whole : FnScope ["_law_value"] ["_law_value"] (defScope s__law_whole) := ⟨rfl, rfl, rfl, by decide +kernel, rfl, by decide +kernel, by decide +kernel⟩
theorem ok__law_whole {f__law_whole : Addr} {fd : FuncData} (FD : FunD K "_law_whole" "_law_whole" (defArgs s__law_whole) (defBody s__law_whole) (defScope s__law_whole) [] [] f__law_whole fd) (T : Txt P w K mg cm)   : DefP P w K mg base cm 1 1 f__law_whole d__law_whole [] := by
  refine ⟨fd, ["_law_value"], [], fn_ok FD sc__law_whole (fun cdv A outer s H E S0 F0 hr tk => ?_), fun S => .nil, ?_⟩
  ·
    exact (s_one (s_ret (e_and (e_isi T.cls T.kb_int T.m_isinstance (pv_ (e_var 0)) (pe_bltn rfl T.m_int b_int rfl)) (e_one (e_not (e_isi T.cls T.kb_bool T.m_isinstance (pv_ (e_var 0)) (pe_bltn rfl T.m_bool b_bool rfl)))))))
  · exact fun j hj => ⟨[], by cases j <;> first | exact .nil | (exact absurd hj (by simp)), FD.bindsN fun _ _ _ _ _ _ us hl => match us, hl with | [_], _ => rfl⟩
theorem sc__law_forest_asked : FnScope ["_law_web_here", "_law_parents", "_law_told", "_law_x"] ["_law_web_here", "_law_parents"] (defScope s__law_forest_asked) := ⟨rfl, rfl, rfl, by decide +kernel, rfl, by decide +kernel, by decide +kernel⟩
theorem ok__law_forest_asked {f__law_forest_asked : Addr} {f__law_whole : Addr} {f_forest : Addr} {fd : FuncData} (FD : FunD K "_law_forest_asked" "_law_forest_asked" (defArgs s__law_forest_asked) (defBody s__law_forest_asked) (defScope s__law_forest_asked) [] [] f__law_forest_asked fd) (T : Txt P w K mg cm)  (G_forest : DefP P w K mg base cm 1 1 f_forest d_forest []) (A_forest : At K mg "forest" f_forest) (G__law_whole : DefP P w K mg base cm 1 1 f__law_whole d__law_whole []) (A__law_whole : At K mg "_law_whole" f__law_whole) : DefP P w K mg base cm 2 2 f__law_forest_asked d__law_forest_asked [] := by
  refine ⟨fd, ["_law_web_here", "_law_parents"], [], fn_ok FD sc__law_forest_asked (fun cdv A outer s H E S0 F0 hr tk => ?_), fun S => .nil, ?_⟩
  ·
    exact (s_cons (s_set sc__law_forest_asked.nd rfl (by first | exact Or.inl rfl | exact Or.inr rfl) (e_callP 0 G_forest A_forest tk (hr.mono (by decide)) (by decide) (a_cons (e_var 0) (a_nil))))
  (s_cons (s_if (t_w (w_or (t_not (t_val (e_isi T.cls T.kb_tuple T.m_isinstance (pv_ (e_var 2)) (pe_bltn rfl T.m_tuple b_tuple rfl)))) (w_or1 (t_cmp (or_ne hr) d_ne (pv_ (e_callT call_list_of (opN_of d_listF) T.m_list b_list (va_cons (pv_ (e_var 2)) (va_nil)))) (pv_ (e_var 1)) (by rfl)))))
  (s_one (s_ret (e_bl)))
  (s_nil))
  (s_one (s_ret (e_cmp (or_eq hr) d_eq (pv_ (e_callB c_len d_len T.m_len b_len (va_cons (pv_ (e_lc (own := [("_law_x", 3)]) (i_view (pv_ (e_var 2))) (blkOk_by (by kernel_rfl)) (fun _ _ _ _ _ => g_name sc__law_forest_asked.nd rfl (by first | exact Or.inl rfl | exact Or.inr rfl)) (fun _ _ _ _ _ => ts_one (t_w (w_and (t_cmp op_notN d_notN (pv_ (e_var 3)) (pv_ (e_non)) (by rfl)) (w_and1 (t_not (t_val (e_callP 0 G__law_whole A__law_whole takesF (hr.mono (by decide)) (by decide) (a_cons (e_var 3) (a_nil))))))))) (fun _ _ _ _ _ => e_var 3) sc__law_forest_asked.nd)) (va_nil)))) (pv_ (e_int)) (by rfl))))))
  · exact fun j hj => ⟨[], by cases j <;> first | exact .nil | (exact absurd hj (by simp)), FD.bindsN fun _ _ _ _ _ _ us hl => match us, hl with | [_, _], _ => rfl⟩
theorem sc__law_up : FnScope ["_law_parents", "_law_place", "_law_way", "_law_k"] ["_law_parents", "_law_place"] (defScope s__law_up) := ⟨rfl, rfl, rfl, by decide +kernel, rfl, by decide +kernel, by decide +kernel⟩
theorem ok__law_up {f__law_up : Addr} {fd : FuncData} (FD : FunD K "_law_up" "_law_up" (defArgs s__law_up) (defBody s__law_up) (defScope s__law_up) [] [] f__law_up fd) (T : Txt P w K mg cm)   : DefP P w K mg base cm 1 2 f__law_up d__law_up [] := by
  refine ⟨fd, ["_law_parents", "_law_place"], [], fn_ok FD sc__law_up (fun cdv A outer s H E S0 F0 hr tk => ?_), fun S => .nil, ?_⟩
  ·
    exact (s_cons (s_setF sc__law_up.nd rfl (by first | exact Or.inl rfl | exact Or.inr rfl) (f_lst (a_cons (e_var 1) (a_nil))))
  (s_cons (s_for (i_range1 T.m_range (a_cons (e_callB c_len d_len T.m_len b_len (va_cons (pv_ (e_var 0)) (va_nil))) (a_nil))) (g_name sc__law_up.nd rfl (by first | exact Or.inl rfl | exact Or.inr rfl))
  (s_one (s_if (t_cmp op_notN d_notN (pv_ (e_ix (pv_ (e_var 0)) (pv_ (e_ix (v_var 2) (pv_ (e_op op_sub d_sub (pv_ (e_callB c_len d_len T.m_len b_len (va_cons (v_var 2) (va_nil)))) (pv_ (e_int)))))))) (pv_ (e_non)) (by rfl))
  (s_one (s_app (pe_bm PySem.F.plainAttrs_list PySem.F.slot_list_append PySem.F.type_list_append mt_append (pe_var rfl (by first | exact Or.inl rfl | exact Or.inr (Or.inl rfl) | exact Or.inr (Or.inr rfl))) (pa_cons (f_e (e_ix (pv_ (e_var 0)) (pv_ (e_ix (v_var 2) (pv_ (e_op op_sub d_sub (pv_ (e_callB c_len d_len T.m_len b_len (va_cons (v_var 2) (va_nil)))) (pv_ (e_int)))))))) pa_nil))))
  (s_nil))))
  (s_one (s_frz 2 (s_ret (e_var 2))))))
  · exact fun j hj => ⟨[], by cases j <;> first | exact .nil | (exact absurd hj (by simp)), FD.bindsN fun _ _ _ _ _ _ us hl => match us, hl with | [_, _], _ => rfl⟩
theorem sc__law_basic : FnScope ["_law_parents", "_law_a", "_law_b", "_law_up_here", "_law_down", "_law_place", "_law_shared", "_law_top", "_law_k", "_law_back"] ["_law_parents", "_law_a", "_law_b"] (defScope s__law_basic) := ⟨rfl, rfl, rfl, by decide +kernel, rfl, by decide +kernel, by decide +kernel⟩
theorem ok__law_basic {f__law_basic : Addr} {f__law_up : Addr} {fd : FuncData} (FD : FunD K "_law_basic" "_law_basic" (defArgs s__law_basic) (defBody s__law_basic) (defScope s__law_basic) [] [] f__law_basic fd) (T : Txt P w K mg cm)  (G__law_up : DefP P w K mg base cm 1 2 f__law_up d__law_up []) (A__law_up : At K mg "_law_up" f__law_up) : DefP P w K mg base cm 2 3 f__law_basic d__law_basic [] := by
  refine ⟨fd, ["_law_parents", "_law_a", "_law_b"], [], fn_ok FD sc__law_basic (fun cdv A outer s H E S0 F0 hr tk => ?_), fun S => .nil, ?_⟩
  ·
    exact (s_cons (s_set sc__law_basic.nd rfl (by first | exact Or.inl rfl | exact Or.inr rfl) (e_callP 0 G__law_up A__law_up tk (hr.mono (by decide)) (by decide) (a_cons (e_var 0) (a_cons (e_var 1) (a_nil)))))
  (s_cons (s_set sc__law_basic.nd rfl (by first | exact Or.inl rfl | exact Or.inr rfl) (e_callP 0 G__law_up A__law_up tk (hr.mono (by decide)) (by decide) (a_cons (e_var 0) (a_cons (e_var 2) (a_nil)))))
  (s_cons (s_setLc sc__law_basic.nd rfl rfl rfl (own := [("_law_place", 5)]) (i_view (pv_ (e_var 3))) (blkOk_by (by kernel_rfl)) (fun _ _ _ _ _ => g_name sc__law_basic.nd rfl (by first | exact Or.inl rfl | exact Or.inr rfl)) (fun _ _ _ _ _ => ts_one (t_cmp (or_in hr) d_in (pv_ (e_var 5)) (pv_ (e_var 4)) (by rfl))) (fun _ _ _ _ _ => e_var 5))
  (s_cons (s_set sc__law_basic.nd rfl (by first | exact Or.inl rfl | exact Or.inr rfl) (e_ix (pv_ (e_var 6)) (pv_ (e_int))))
  (s_cons (s_setLc sc__law_basic.nd rfl rfl rfl (own := [("_law_k", 8)]) (i_v (i_range1 T.m_range (a_cons (e_index hr (pv_ (e_var 4)) (pv_ (e_var 7))) (a_nil)))) (blkOk_by (by kernel_rfl)) (fun _ _ _ _ _ => g_name sc__law_basic.nd rfl (by first | exact Or.inl rfl | exact Or.inr rfl)) (fun _ _ _ _ _ => ts_nil) (fun _ _ _ _ _ => e_ix (pv_ (e_var 4)) (pv_ (e_op op_sub d_sub (pv_ (e_op op_sub d_sub (pv_ (e_index hr (pv_ (e_var 4)) (pv_ (e_var 7)))) (pv_ (e_int)))) (pv_ (e_var 8))))))
  (s_one (s_ret (e_callT call_tuple_of d_tuple T.m_tuple b_tuple (va_cons (pv_ (e_op or_add d_add (pv_ (e_op or_add d_add (pv_ (e_sl (pv_ (e_var 3)) (o_none) (o_some (pv_ (e_op or_add d_add (pv_ (e_index hr (pv_ (e_var 3)) (pv_ (e_var 7)))) (pv_ (e_int))))))) (pv_ (e_var 9)))) (pv_ (e_lst (a_cons (e_var 1) (a_nil)))))) (va_nil))))))))))
  · exact fun j hj => ⟨[], by cases j <;> first | exact .nil | (exact absurd hj (by simp)), FD.bindsN fun _ _ _ _ _ _ us hl => match us, hl with | [_, _, _], _ => rfl⟩
theorem sc_way_up : FnScope ["parents", "place", "way"] ["parents", "place"] (defScope s_way_up) := ⟨rfl, rfl, rfl, by decide +kernel, rfl, by decide +kernel, by decide +kernel⟩
theorem fresh_way_up {f_way_up : Addr} {fd : FuncData} (FD : FunD K "way_up" "way_up" (defArgs s_way_up) (defBody s_way_up) (defScope s_way_up) [] [] f_way_up fd) (T : Txt P w K mg cm)   : FrsP P w K mg base cm 1 2 f_way_up dT_way_up := by
  refine ⟨fd, ["parents", "place"], (fn_okT FD sc_way_up (fun cdv A outer s H E S0 F0 hr tk => ?_)), FD.bindsN fun _ _ _ _ _ _ us hl => match us, hl with | [_, _], _ => rfl⟩
  exact (s_consT (s_setF sc_way_up.nd rfl (by first | exact Or.inl rfl | exact Or.inr rfl) (f_lst (a_cons (e_var 1) (a_nil))))
  (s_consT (s_while fuel (t_cmp op_notN d_notN (pv_ (e_ix (pv_ (e_var 0)) (pv_ (e_ix (v_var 2) (pv_ (e_un un_neg d_neg (pv_ (e_int)))))))) (pv_ (e_non)) (by rfl))
  (s_one (s_app (pe_bm PySem.F.plainAttrs_list PySem.F.slot_list_append PySem.F.type_list_append mt_append (pe_var rfl (by first | exact Or.inl rfl | exact Or.inr (Or.inl rfl) | exact Or.inr (Or.inr rfl))) (pa_cons (f_e (e_ix (pv_ (e_var 0)) (pv_ (e_ix (v_var 2) (pv_ (e_un un_neg d_neg (pv_ (e_int)))))))) pa_nil)))))
  (s_retT 2)))
theorem ok_way_up {f_way_up : Addr} {fd : FuncData} (FD : FunD K "way_up" "way_up" (defArgs s_way_up) (defBody s_way_up) (defScope s_way_up) [] [] f_way_up fd) (T : Txt P w K mg cm)   : DefP P w K mg base cm 1 2 f_way_up d_way_up [] := by
  refine ⟨fd, ["parents", "place"], [], fn_ok FD sc_way_up (fun cdv A outer s H E S0 F0 hr tk => ?_), fun S => .nil, ?_⟩
  ·
    exact (s_cons (s_setF sc_way_up.nd rfl (by first | exact Or.inl rfl | exact Or.inr rfl) (f_lst (a_cons (e_var 1) (a_nil))))
  (s_cons (s_while fuel (t_cmp op_notN d_notN (pv_ (e_ix (pv_ (e_var 0)) (pv_ (e_ix (v_var 2) (pv_ (e_un un_neg d_neg (pv_ (e_int)))))))) (pv_ (e_non)) (by rfl))
  (s_one (s_app (pe_bm PySem.F.plainAttrs_list PySem.F.slot_list_append PySem.F.type_list_append mt_append (pe_var rfl (by first | exact Or.inl rfl | exact Or.inr (Or.inl rfl) | exact Or.inr (Or.inr rfl))) (pa_cons (f_e (e_ix (pv_ (e_var 0)) (pv_ (e_ix (v_var 2) (pv_ (e_un un_neg d_neg (pv_ (e_int)))))))) pa_nil)))))
  (s_one (s_frz 2 (s_ret (e_var 2))))))
  · exact fun j hj => ⟨[], by cases j <;> first | exact .nil | (exact absurd hj (by simp)), FD.bindsN fun _ _ _ _ _ _ us hl => match us, hl with | [_, _], _ => rfl⟩
theorem sc_tree_walk : FnScope ["parents", "a", "b", "up", "down"] ["parents", "a", "b"] (defScope s_tree_walk) := ⟨rfl, rfl, rfl, by decide +kernel, rfl, by decide +kernel, by decide +kernel⟩
theorem ok_tree_walk {f_tree_walk : Addr} {f_way_up : Addr} {fd : FuncData} (FD : FunD K "tree_walk" "tree_walk" (defArgs s_tree_walk) (defBody s_tree_walk) (defScope s_tree_walk) [] [] f_tree_walk fd) (T : Txt P w K mg cm)  (G_way_up : DefP P w K mg base cm 1 2 f_way_up d_way_up []) (A_way_up : At K mg "way_up" f_way_up) (GT_way_up : FrsP P w K mg base cm 1 2 f_way_up dT_way_up) : DefP P w K mg base cm 2 3 f_tree_walk d_tree_walk [] := by
  refine ⟨fd, ["parents", "a", "b"], [], fn_ok FD sc_tree_walk (fun cdv A outer s H E S0 F0 hr tk => ?_), fun S => .nil, ?_⟩
  ·
    exact (s_cons (s_setF sc_tree_walk.nd rfl (by first | exact Or.inl rfl | exact Or.inr rfl) (f_callP GT_way_up A_way_up tk (hr.mono (by decide)) (a_cons (e_var 0) (a_cons (e_var 1) (a_nil)))))
  (s_cons (s_setF sc_tree_walk.nd rfl (by first | exact Or.inl rfl | exact Or.inr rfl) (f_callP GT_way_up A_way_up tk (hr.mono (by decide)) (a_cons (e_var 0) (a_cons (e_var 2) (a_nil)))))
  (s_cons (s_while fuel (t_w (w_and (t_cmp op_gt d_gt (pv_ (e_callB c_len d_len T.m_len b_len (va_cons (v_var 3) (va_nil)))) (pv_ (e_int)) (by rfl)) (w_and (t_cmp op_gt d_gt (pv_ (e_callB c_len d_len T.m_len b_len (va_cons (v_var 4) (va_nil)))) (pv_ (e_int)) (by rfl)) (w_and1 (t_cmp (or_eq hr) d_eq (pv_ (e_ix (v_var 3) (pv_ (e_un un_neg d_neg (pv_ (e_int)))))) (pv_ (e_ix (v_var 4) (pv_ (e_un un_neg d_neg (pv_ (e_int)))))) (by rfl))))))
  (s_cons (s_pop (pe_bm0 PySem.F.plainAttrs_list PySem.F.slot_list_pop PySem.F.type_list_pop mt_pop (pe_var rfl (by first | exact Or.inl rfl | exact Or.inr (Or.inl rfl) | exact Or.inr (Or.inr rfl)))))
  (s_one (s_pop (pe_bm0 PySem.F.plainAttrs_list PySem.F.slot_list_pop PySem.F.type_list_pop mt_pop (pe_var rfl (by first | exact Or.inl rfl | exact Or.inr (Or.inl rfl) | exact Or.inr (Or.inr rfl))))))))
  (s_one (s_frz 3 (s_frz 4 (s_ret (e_callT call_tuple_of d_tuple T.m_tuple b_tuple (va_cons (pv_ (e_op or_add d_add (pv_ (e_var 3)) (pv_ (e_revL (pv_ (e_sl (pv_ (e_var 4)) (o_none) (o_some (pv_ (e_un un_neg d_neg (pv_ (e_int))))))))))) (va_nil))))))))))
  · exact fun j hj => ⟨[], by cases j <;> first | exact .nil | (exact absurd hj (by simp)), FD.bindsN fun _ _ _ _ _ _ us hl => match us, hl with | [_, _, _], _ => rfl⟩
theorem sc_basic_rings : FnScope ["web", "parents", "rings", "a", "b"] ["web"] (defScope s_basic_rings) := ⟨rfl, rfl, rfl, by decide +kernel, rfl, by decide +kernel, by decide +kernel⟩
theorem ok_basic_rings {f_basic_rings : Addr} {f_forest : Addr} {f_tree_walk : Addr} {fd : FuncData} (FD : FunD K "basic_rings" "basic_rings" (defArgs s_basic_rings) (defBody s_basic_rings) (defScope s_basic_rings) [] [] f_basic_rings fd) (T : Txt P w K mg cm)  (G_forest : DefP P w K mg base cm 1 1 f_forest d_forest []) (A_forest : At K mg "forest" f_forest) (G_tree_walk : DefP P w K mg base cm 2 3 f_tree_walk d_tree_walk []) (A_tree_walk : At K mg "tree_walk" f_tree_walk) : DefP P w K mg base cm 3 1 f_basic_rings d_basic_rings [] := by
  refine ⟨fd, ["web"], [], fn_ok FD sc_basic_rings (fun cdv A outer s H E S0 F0 hr tk => ?_), fun S => .nil, ?_⟩
  ·
    exact (s_cons (s_set sc_basic_rings.nd rfl (by first | exact Or.inl rfl | exact Or.inr rfl) (e_callP 0 G_forest A_forest tk (hr.mono (by decide)) (by decide) (a_cons (e_var 0) (a_nil))))
  (s_cons (s_setF sc_basic_rings.nd rfl (by first | exact Or.inl rfl | exact Or.inr rfl) (f_lst (a_nil)))
  (s_cons (s_for (i_e (e_fld T.f_lines (e_var 0))) (g_tup rfl (gs_cons (g_name sc_basic_rings.nd rfl (by first | exact Or.inl rfl | exact Or.inr rfl)) (gs_cons (g_name sc_basic_rings.nd rfl (by first | exact Or.inl rfl | exact Or.inr rfl)) (gs_nil))))
  (s_one (s_if (t_w (w_and (t_cmp (or_ne hr) d_ne (pv_ (e_ix (pv_ (e_var 1)) (pv_ (e_var 3)))) (pv_ (e_var 4)) (by rfl)) (w_and1 (t_cmp (or_ne hr) d_ne (pv_ (e_ix (pv_ (e_var 1)) (pv_ (e_var 4)))) (pv_ (e_var 3)) (by rfl)))))
  (s_one (s_app (pe_bm PySem.F.plainAttrs_list PySem.F.slot_list_append PySem.F.type_list_append mt_append (pe_var rfl (by first | exact Or.inl rfl | exact Or.inr (Or.inl rfl) | exact Or.inr (Or.inr rfl))) (pa_cons (f_e (e_op or_add d_add (pv_ (e_callP 0 G_tree_walk A_tree_walk tk (hr.mono (by decide)) (by decide) (a_cons (e_var 1) (a_cons (e_var 3) (a_cons (e_var 4) (a_nil)))))) (pv_ (e_tup (a_cons (e_var 3) (a_nil)))))) pa_nil))))
  (s_nil))))
  (s_one (s_frz 2 (s_ret (e_callT call_tuple_of d_tuple T.m_tuple b_tuple (va_cons (pv_ (e_var 2)) (va_nil)))))))))
  · exact fun j hj => ⟨[], by cases j <;> first | exact .nil | (exact absurd hj (by simp)), FD.bindsN fun _ _ _ _ _ _ us hl => match us, hl with | [_], _ => rfl⟩
theorem sc__law_row : FnScope ["_law_value", "_law_many", "_law_x"] ["_law_value", "_law_many"] (defScope s__law_row) := ⟨rfl, rfl, rfl, by decide +kernel, rfl, by decide +kernel, by decide +kernel⟩
theorem ok__law_row {f__law_row : Addr} {f__law_whole : Addr} {fd : FuncData} (FD : FunD K "_law_row" "_law_row" (defArgs s__law_row) (defBody s__law_row) (defScope s__law_row) [] [] f__law_row fd) (T : Txt P w K mg cm)  (G__law_whole : DefP P w K mg base cm 1 1 f__law_whole d__law_whole []) (A__law_whole : At K mg "_law_whole" f__law_whole) : DefP P w K mg base cm 2 2 f__law_row d__law_row [] := by
  refine ⟨fd, ["_law_value", "_law_many"], [], fn_ok FD sc__law_row (fun cdv A outer s H E S0 F0 hr tk => ?_), fun S => .nil, ?_⟩
  ·
    exact (s_one (s_ret (e_and (e_isi T.cls T.kb_tuple T.m_isinstance (pv_ (e_var 0)) (pe_bltn rfl T.m_tuple b_tuple rfl)) (e_and (e_cmp (or_eq hr) d_eq (pv_ (e_callB c_len d_len T.m_len b_len (va_cons (pv_ (e_var 0)) (va_nil)))) (pv_ (e_var 1)) (by rfl)) (e_one (e_cmp (or_eq hr) d_eq (pv_ (e_callB c_len d_len T.m_len b_len (va_cons (pv_ (e_lc (own := [("_law_x", 2)]) (i_view (pv_ (e_var 0))) (blkOk_by (by kernel_rfl)) (fun _ _ _ _ _ => g_name sc__law_row.nd rfl (by first | exact Or.inl rfl | exact Or.inr rfl)) (fun _ _ _ _ _ => ts_one (t_not (t_val (e_callP 0 G__law_whole A__law_whole takesF (hr.mono (by decide)) (by decide) (a_cons (e_var 2) (a_nil)))))) (fun _ _ _ _ _ => e_var 2) sc__law_row.nd)) (va_nil)))) (pv_ (e_int)) (by rfl)))))))
  · exact fun j hj => ⟨[], by cases j <;> first | exact .nil | (exact absurd hj (by simp)), FD.bindsN fun _ _ _ _ _ _ us hl => match us, hl with | [_, _], _ => rfl⟩
theorem sc_check_walk : FnScope ["web", "walk", "index", "place"] ["web", "walk"] (defScope s_check_walk) := ⟨rfl, rfl, rfl, by decide +kernel, rfl, by decide +kernel, by decide +kernel⟩
theorem ok_check_walk {f_check_walk : Addr} {fd : FuncData} (FD : FunD K "check_walk" "check_walk" (defArgs s_check_walk) (defBody s_check_walk) (defScope s_check_walk) [] [] f_check_walk fd) (T : Txt P w K mg cm)   : DefP P w K mg base cm 1 2 f_check_walk d_check_walk [] := by
  refine ⟨fd, ["web", "walk"], [], fn_ok FD sc_check_walk (fun cdv A outer s H E S0 F0 hr tk => ?_), fun S => .nil, ?_⟩
  ·
    exact (s_cons (s_if (t_cmp (or_eq hr) d_eq (pv_ (e_callB c_len d_len T.m_len b_len (va_cons (pv_ (e_var 1)) (va_nil)))) (pv_ (e_int)) (by rfl))
  (s_one (s_never))
  (s_nil))
  (s_one (s_for (i_enum T.m_enumerate (a_cons (e_var 1) (a_nil))) (g_tup rfl (gs_cons (g_name sc_check_walk.nd rfl (by first | exact Or.inl rfl | exact Or.inr rfl)) (gs_cons (g_name sc_check_walk.nd rfl (by first | exact Or.inl rfl | exact Or.inr rfl)) (gs_nil))))
  (s_cons (s_if (t_not (t_chain op_le d_le op_lt d_lt (pv_ (e_int)) (pv_ (e_var 3)) (pv_ (e_fld T.f_size (e_var 0)))))
  (s_one (s_never))
  (s_nil))
  (s_one (s_if (t_w (w_and (t_cmp op_gt d_gt (pv_ (e_var 2)) (pv_ (e_int)) (by rfl)) (w_and1 (t_cmp (or_notIn hr) d_notIn (pv_ (e_var 3)) (pv_ (e_ix (pv_ (e_fld T.f_around (e_var 0))) (pv_ (e_ix (pv_ (e_var 1)) (pv_ (e_op op_sub d_sub (pv_ (e_var 2)) (pv_ (e_int)))))))) (by rfl)))))
  (s_one (s_never))
  (s_nil)))))))
  · exact fun j hj => ⟨[], by cases j <;> first | exact .nil | (exact absurd hj (by simp)), FD.bindsN fun _ _ _ _ _ _ us hl => match us, hl with | [_, _], _ => rfl⟩
theorem sc_state_lead : FnScope ["one", "other"] ["one", "other"] (defScope s_state_lead) := ⟨rfl, rfl, rfl, by decide +kernel, rfl, by decide +kernel, by decide +kernel⟩
theorem ok_state_lead {f_state_lead : Addr} {fd : FuncData} (FD : FunD K "state_lead" "state_lead" (defArgs s_state_lead) (defBody s_state_lead) (defScope s_state_lead) [] [] f_state_lead fd) (T : Txt P w K mg cm)   : DefP P w K mg base cm 1 2 f_state_lead d_state_lead [] := by
  refine ⟨fd, ["one", "other"], [], fn_ok FD sc_state_lead (fun cdv A outer s H E S0 F0 hr tk => ?_), fun S => .nil, ?_⟩
  ·
    exact (s_cons (s_if (t_w (w_and (t_cmp (or_eq hr) d_eq (pv_ (e_var 0)) (pv_ (e_int)) (by rfl)) (w_and1 (t_cmp (or_eq hr) d_eq (pv_ (e_var 1)) (pv_ (e_int)) (by rfl)))))
  (s_one (s_ret (e_int)))
  (s_nil))
  (s_cons (s_if (t_w (w_and (t_cmp (or_eq hr) d_eq (pv_ (e_var 0)) (pv_ (e_int)) (by rfl)) (w_and1 (t_cmp (or_eq hr) d_eq (pv_ (e_var 1)) (pv_ (e_int)) (by rfl)))))
  (s_one (s_ret (e_un un_neg d_neg (pv_ (e_int)))))
  (s_nil))
  (s_one (s_ret (e_int)))))
  · exact fun j hj => ⟨[], by cases j <;> first | exact .nil | (exact absurd hj (by simp)), FD.bindsN fun _ _ _ _ _ _ us hl => match us, hl with | [_, _], _ => rfl⟩
theorem sc_lead_sum : FnScope ["scene", "walk", "place", "states", "one", "other"] ["scene", "walk"] (defScope s_lead_sum) := ⟨rfl, rfl, rfl, by decide +kernel, rfl, by decide +kernel, by decide +kernel⟩
theorem ok_lead_sum {f_check_walk : Addr} {f_lead_sum : Addr} {f_state_lead : Addr} {fd : FuncData} (FD : FunD K "lead_sum" "lead_sum" (defArgs s_lead_sum) (defBody s_lead_sum) (defScope s_lead_sum) [] [] f_lead_sum fd) (T : Txt P w K mg cm)  (G_check_walk : DefP P w K mg base cm 1 2 f_check_walk d_check_walk []) (A_check_walk : At K mg "check_walk" f_check_walk) (G_state_lead : DefP P w K mg base cm 1 2 f_state_lead d_state_lead []) (A_state_lead : At K mg "state_lead" f_state_lead) : DefP P w K mg base cm 2 2 f_lead_sum d_lead_sum [] := by
  refine ⟨fd, ["scene", "walk"], [], fn_ok FD sc_lead_sum (fun cdv A outer s H E S0 F0 hr tk => ?_), fun S => .nil, ?_⟩
  ·
    exact (s_cons (s_expr (e_callP 0 G_check_walk A_check_walk tk (hr.mono (by decide)) (by decide) (a_cons (e_fld T.f_web (e_var 0)) (a_cons (e_var 1) (a_nil)))))
  (s_cons (s_setLc sc_lead_sum.nd rfl rfl rfl (own := [("place", 2)]) (i_view (pv_ (e_var 1))) (blkOk_by (by kernel_rfl)) (fun _ _ _ _ _ => g_name sc_lead_sum.nd rfl (by first | exact Or.inl rfl | exact Or.inr rfl)) (fun _ _ _ _ _ => ts_nil) (fun _ _ _ _ _ => e_ix (pv_ (e_fld T.f_picture (e_var 0))) (pv_ (e_var 2))))
  (s_one (s_ret (e_callB (cr_sum rfl) d_sum T.m_sum b_sum (va_cons (pv_ (e_lc (own := [("one", 4), ("other", 5)]) (i_v (i_zip T.m_zip (a_cons (e_var 3) (a_cons (e_sl (pv_ (e_var 3)) (o_some (pv_ (e_int))) (o_none)) (a_nil))))) (blkOk_by (by kernel_rfl)) (fun _ _ _ _ _ => g_tup rfl (gs_cons (g_name sc_lead_sum.nd rfl (by first | exact Or.inl rfl | exact Or.inr rfl)) (gs_cons (g_name sc_lead_sum.nd rfl (by first | exact Or.inl rfl | exact Or.inr rfl)) (gs_nil)))) (fun _ _ _ _ _ => ts_nil) (fun _ _ _ _ _ => e_callP 0 G_state_lead A_state_lead takesF (hr.mono (by decide)) (by decide) (a_cons (e_var 4) (a_cons (e_var 5) (a_nil)))) sc_lead_sum.nd)) (va_nil)))))))
  · exact fun j hj => ⟨[], by cases j <;> first | exact .nil | (exact absurd hj (by simp)), FD.bindsN fun _ _ _ _ _ _ us hl => match us, hl with | [_, _], _ => rfl⟩
theorem sc_ring_sums : FnScope ["scene", "ring"] ["scene"] (defScope s_ring_sums) := ⟨rfl, rfl, rfl, by decide +kernel, rfl, by decide +kernel, by decide +kernel⟩
theorem ok_ring_sums {f_basic_rings : Addr} {f_lead_sum : Addr} {f_ring_sums : Addr} {fd : FuncData} (FD : FunD K "ring_sums" "ring_sums" (defArgs s_ring_sums) (defBody s_ring_sums) (defScope s_ring_sums) [] [] f_ring_sums fd) (T : Txt P w K mg cm)  (G_basic_rings : DefP P w K mg base cm 3 1 f_basic_rings d_basic_rings []) (A_basic_rings : At K mg "basic_rings" f_basic_rings) (G_lead_sum : DefP P w K mg base cm 2 2 f_lead_sum d_lead_sum []) (A_lead_sum : At K mg "lead_sum" f_lead_sum) : DefP P w K mg base cm 4 1 f_ring_sums d_ring_sums [] := by
  refine ⟨fd, ["scene"], [], fn_ok FD sc_ring_sums (fun cdv A outer s H E S0 F0 hr tk => ?_), fun S => .nil, ?_⟩
  ·
    exact (s_one (s_ret (e_callT call_tuple_of d_tuple T.m_tuple b_tuple (va_cons (pv_ (e_lc (own := [("ring", 1)]) (i_view (pv_ (e_callP 0 G_basic_rings A_basic_rings tk (hr.mono (by decide)) (by decide) (a_cons (e_fld T.f_web (e_var 0)) (a_nil))))) (blkOk_by (by kernel_rfl)) (fun _ _ _ _ _ => g_name sc_ring_sums.nd rfl (by first | exact Or.inl rfl | exact Or.inr rfl)) (fun _ _ _ _ _ => ts_nil) (fun _ _ _ _ _ => e_callP 0 G_lead_sum A_lead_sum takesF (hr.mono (by decide)) (by decide) (a_cons (e_var 0) (a_cons (e_var 1) (a_nil)))) sc_ring_sums.nd)) (va_nil)))))
  · exact fun j hj => ⟨[], by cases j <;> first | exact .nil | (exact absurd hj (by simp)), FD.bindsN fun _ _ _ _ _ _ us hl => match us, hl with | [_], _ => rfl⟩
theorem sc_Scene___init__ : FnScope ["self", "web", "picture", "states", "index"] ["self", "web", "picture"] (defScope s_Scene___init__) := ⟨rfl, rfl, rfl, by decide +kernel, rfl, by decide +kernel, by decide +kernel⟩
theorem ok_Scene___init__ {f_Scene___init__ : Addr} {f_frozen : Addr} {fd : FuncData} (FD : FunD K "__init__" "Scene.__init__" (defArgs s_Scene___init__) (defBody s_Scene___init__) (defScope s_Scene___init__) [] [] f_Scene___init__ fd) (T : Txt P w K mg cm)  (G_frozen : DefP P w K mg base cm 7 1 f_frozen (d_frozen 6) []) (A_frozen : At K mg "frozen" f_frozen) : IniP P w K mg base cm 8 2 39 f_Scene___init__ d_Scene___init__ [] := by
  refine ⟨fd, ["self", "web", "picture"], [], init_ok T.in_Scene FD sc_Scene___init__ rfl (fun cdv A outer s H E S0 F0 x hr tk => ?_), fun S => .nil, ?_⟩
  ·
    exact (s_cons (s_set sc_Scene___init__.nd rfl (by first | exact Or.inl rfl | exact Or.inr rfl) (e_callP 0 G_frozen A_frozen tk (hr.mono (by decide)) (by decide) (a_cons (e_var 2) (a_nil))))
  (s_cons (s_for (i_range1 T.m_range (a_cons (e_callB (call_max2 rfl) d_max2 T.m_max b_max (va_cons (pv_ (e_fld T.f_size (e_var 1))) (va_cons (pv_ (e_callB c_len d_len T.m_len b_len (va_cons (pv_ (e_var 3)) (va_nil)))) (va_nil)))) (a_nil))) (g_name sc_Scene___init__.nd rfl (by first | exact Or.inl rfl | exact Or.inr rfl))
  (s_one (s_if (t_w (w_or (t_cmp op_ge d_ge (pv_ (e_var 4)) (pv_ (e_fld T.f_size (e_var 1))) (by rfl)) (w_or (t_cmp op_ge d_ge (pv_ (e_var 4)) (pv_ (e_callB c_len d_len T.m_len b_len (va_cons (pv_ (e_var 3)) (va_nil)))) (by rfl)) (w_or1 (t_cmp (or_notIn hr) d_notIn (pv_ (e_ix (pv_ (e_var 3)) (pv_ (e_var 4)))) (pv_ (e_tup (a_cons (e_int) (a_cons (e_int) (a_cons (e_int) (a_nil)))))) (by rfl))))))
  (s_one (s_never))
  (s_nil))))
  (s_cons (s_slf (T.f_web (39, 0) (by decide) T.in_Scene) (by rw [T.nm_Scene]; decide) (pe_var rfl (Or.inl rfl)) (e_var 1))
  (s_one (s_slf (T.f_picture (39, 1) (by decide) T.in_Scene) (by rw [T.nm_Scene]; decide) (pe_var rfl (Or.inl rfl)) (e_var 3))))))
  · exact fun j hj => ⟨[], by cases j <;> first | exact .nil | (exact absurd hj (by simp)), FD.bindsN fun _ _ _ _ _ _ us hl => match us, hl with | [_, _, _], _ => rfl⟩
theorem sc__law_lead : FnScope ["_law_one", "_law_other"] ["_law_one", "_law_other"] (defScope s__law_lead) := ⟨rfl, rfl, rfl, by decide +kernel, rfl, by decide +kernel, by decide +kernel⟩
theorem ok__law_lead {f__law_lead : Addr} {fd : FuncData} (FD : FunD K "_law_lead" "_law_lead" (defArgs s__law_lead) (defBody s__law_lead) (defScope s__law_lead) [] [] f__law_lead fd) (T : Txt P w K mg cm)   : DefP P w K mg base cm 1 2 f__law_lead d__law_lead [] := by
  refine ⟨fd, ["_law_one", "_law_other"], [], fn_ok FD sc__law_lead (fun cdv A outer s H E S0 F0 hr tk => ?_), fun S => .nil, ?_⟩
  ·
    exact (s_one (s_ret (e_op op_sub d_sub (pv_ (e_callT call_int1 d_toInt T.m_int b_int (va_cons (pv_ (e_and (e_cmp (or_eq hr) d_eq (pv_ (e_var 0)) (pv_ (e_int)) (by rfl)) (e_one (e_cmp (or_eq hr) d_eq (pv_ (e_var 1)) (pv_ (e_int)) (by rfl))))) (va_nil)))) (pv_ (e_callT call_int1 d_toInt T.m_int b_int (va_cons (pv_ (e_and (e_cmp (or_eq hr) d_eq (pv_ (e_var 0)) (pv_ (e_int)) (by rfl)) (e_one (e_cmp (or_eq hr) d_eq (pv_ (e_var 1)) (pv_ (e_int)) (by rfl))))) (va_nil)))))))
  · exact fun j hj => ⟨[], by cases j <;> first | exact .nil | (exact absurd hj (by simp)), FD.bindsN fun _ _ _ _ _ _ us hl => match us, hl with | [_, _], _ => rfl⟩
theorem sc__law_lead_rows : FnScope ["_law_picture_here", "_law_one", "_law_other"] ["_law_picture_here"] (defScope s__law_lead_rows) := ⟨rfl, rfl, rfl, by decide +kernel, rfl, by decide +kernel, by decide +kernel⟩
theorem ok__law_lead_rows {f__law_lead : Addr} {f__law_lead_rows : Addr} {fd : FuncData} (FD : FunD K "_law_lead_rows" "_law_lead_rows" (defArgs s__law_lead_rows) (defBody s__law_lead_rows) (defScope s__law_lead_rows) [] [] f__law_lead_rows fd) (T : Txt P w K mg cm)  (G__law_lead : DefP P w K mg base cm 1 2 f__law_lead d__law_lead []) (A__law_lead : At K mg "_law_lead" f__law_lead) : DefP P w K mg base cm 2 1 f__law_lead_rows d__law_lead_rows [] := by
  refine ⟨fd, ["_law_picture_here"], [], fn_ok FD sc__law_lead_rows (fun cdv A outer s H E S0 F0 hr tk => ?_), fun S => .nil, ?_⟩
  ·
    exact (s_one (s_ret (e_lc (own := [("_law_one", 1)]) (i_view (pv_ (e_var 0))) (blkOk_by (by kernel_rfl)) (fun _ _ _ _ _ => g_name sc__law_lead_rows.nd rfl (by first | exact Or.inl rfl | exact Or.inr rfl)) (fun _ _ _ _ _ => ts_nil) (fun _ _ _ _ _ => e_lc (own := [("_law_other", 2)]) (i_view (pv_ (e_var 0))) (blkOk_by (by kernel_rfl)) (fun _ _ _ _ _ => g_name sc__law_lead_rows.nd rfl (by first | exact Or.inl rfl | exact Or.inr rfl)) (fun _ _ _ _ _ => ts_nil) (fun _ _ _ _ _ => e_callP 0 G__law_lead A__law_lead takesF (hr.mono (by decide)) (by decide) (a_cons (e_var 1) (a_cons (e_var 2) (a_nil)))) sc__law_lead_rows.nd) sc__law_lead_rows.nd)))
  · exact fun j hj => ⟨[], by cases j <;> first | exact .nil | (exact absurd hj (by simp)), FD.bindsN fun _ _ _ _ _ _ us hl => match us, hl with | [_], _ => rfl⟩
theorem sc__law_sum : FnScope ["_law_rows", "_law_walk", "_law_k"] ["_law_rows", "_law_walk"] (defScope s__law_sum) := ⟨rfl, rfl, rfl, by decide +kernel, rfl, by decide +kernel, by decide +kernel⟩
theorem ok__law_sum {f__law_sum : Addr} {fd : FuncData} (FD : FunD K "_law_sum" "_law_sum" (defArgs s__law_sum) (defBody s__law_sum) (defScope s__law_sum) [] [] f__law_sum fd) (T : Txt P w K mg cm)   : DefP P w K mg base cm 1 2 f__law_sum d__law_sum [] := by
  refine ⟨fd, ["_law_rows", "_law_walk"], [], fn_ok FD sc__law_sum (fun cdv A outer s H E S0 F0 hr tk => ?_), fun S => .nil, ?_⟩
  ·
    exact (s_one (s_ret (e_callB (cr_sum rfl) d_sum T.m_sum b_sum (va_cons (pv_ (e_lc (own := [("_law_k", 2)]) (i_v (i_range1 T.m_range (a_cons (e_op op_sub d_sub (pv_ (e_callB c_len d_len T.m_len b_len (va_cons (pv_ (e_var 1)) (va_nil)))) (pv_ (e_int))) (a_nil)))) (blkOk_by (by kernel_rfl)) (fun _ _ _ _ _ => g_name sc__law_sum.nd rfl (by first | exact Or.inl rfl | exact Or.inr rfl)) (fun _ _ _ _ _ => ts_nil) (fun _ _ _ _ _ => e_ix (pv_ (e_ix (pv_ (e_var 0)) (pv_ (e_ix (pv_ (e_var 1)) (pv_ (e_var 2)))))) (pv_ (e_ix (pv_ (e_var 1)) (pv_ (e_op or_add d_add (pv_ (e_var 2)) (pv_ (e_int))))))) sc__law_sum.nd)) (va_nil)))))
  · exact fun j hj => ⟨[], by cases j <;> first | exact .nil | (exact absurd hj (by simp)), FD.bindsN fun _ _ _ _ _ _ us hl => match us, hl with | [_, _], _ => rfl⟩
theorem sc_law : FnScope ["_law_script", "_law_drawn", "_law_row_here", "_law_size", "_law_lines", "_law_picture_here", "_law_other", "_law_line", "_law_web_here", "_law_near_here", "_law_parents", "_law_due", "_law_rings", "_law_k", "_law_sums", "_law_rows", "_law_ring"] ["_law_script"] (defScope s_law) := ⟨rfl, rfl, rfl, by decide +kernel, rfl, by decide +kernel, by decide +kernel⟩
theorem ok_law {f_Scene___init__ : Addr} {f_Web___init__ : Addr} {f__law_any_scene : Addr} {f__law_basic : Addr} {f__law_cell : Addr} {f__law_digits : Addr} {f__law_forest : Addr} {f__law_forest_asked : Addr} {f__law_lead_rows : Addr} {f__law_near : Addr} {f__law_row : Addr} {f__law_scene : Addr} {f__law_sum : Addr} {f_basic_rings : Addr} {f_law : Addr} {f_ring_sums : Addr} {fd : FuncData} (FD : FunD K "law" "law" (defArgs s_law) (defBody s_law) (defScope s_law) [] [] f_law fd) (T : Txt P w K mg cm)  (G__law_scene : DefP P w K mg base cm 2 3 f__law_scene d__law_scene []) (A__law_scene : At K mg "_law_scene" f__law_scene) (G__law_digits : DefP P w K mg base cm 1 2 f__law_digits d__law_digits []) (A__law_digits : At K mg "_law_digits" f__law_digits) (G__law_cell : DefP P w K mg base cm 1 2 f__law_cell d__law_cell []) (A__law_cell : At K mg "_law_cell" f__law_cell) (G__law_any_scene : DefP P w K mg base cm 2 2 f__law_any_scene d__law_any_scene []) (A__law_any_scene : At K mg "_law_any_scene" f__law_any_scene) (G_Web___init__ : IniP P w K mg base cm 8 2 46 f_Web___init__ d_Web___init__ [.tup []]) (C_Web : ClsAt K mg cm "Web" 46 f_Web___init__) (G__law_near : DefP P w K mg base cm 1 2 f__law_near d__law_near []) (A__law_near : At K mg "_law_near" f__law_near) (G__law_forest : DefP P w K mg base cm 1 1 f__law_forest d__law_forest []) (A__law_forest : At K mg "_law_forest" f__law_forest) (G__law_forest_asked : DefP P w K mg base cm 2 2 f__law_forest_asked d__law_forest_asked []) (A__law_forest_asked : At K mg "_law_forest_asked" f__law_forest_asked) (G__law_basic : DefP P w K mg base cm 2 3 f__law_basic d__law_basic []) (A__law_basic : At K mg "_law_basic" f__law_basic) (G_basic_rings : DefP P w K mg base cm 3 1 f_basic_rings d_basic_rings []) (A_basic_rings : At K mg "basic_rings" f_basic_rings) (G__law_row : DefP P w K mg base cm 2 2 f__law_row d__law_row []) (A__law_row : At K mg "_law_row" f__law_row) (G_ring_sums : DefP P w K mg base cm 4 1 f_ring_sums d_ring_sums []) (A_ring_sums : At K mg "ring_sums" f_ring_sums) (G_Scene___init__ : IniP P w K mg base cm 8 2 39 f_Scene___init__ d_Scene___init__ []) (C_Scene : ClsAt K mg cm "Scene" 39 f_Scene___init__) (G__law_lead_rows : DefP P w K mg base cm 2 1 f__law_lead_rows d__law_lead_rows []) (A__law_lead_rows : At K mg "_law_lead_rows" f__law_lead_rows) (G__law_sum : DefP P w K mg base cm 1 2 f__law_sum d__law_sum []) (A__law_sum : At K mg "_law_sum" f__law_sum) : FnOk P w K mg base (L2.CX P w) 10 f_law fd ["_law_script"] (spD K cm 1 d_law) := by
  refine fn_ok FD sc_law (fun cdv A outer s H E S0 F0 hr tk => ?_)
  exact (s_cons (s_set sc_law.nd rfl (by first | exact Or.inl rfl | exact Or.inr rfl) (e_callP 0 G__law_scene A__law_scene tk (hr.mono (by decide)) (by decide) (a_cons (e_var 0) (a_cons (e_int) (a_cons (e_int) (a_nil))))))
  (s_cons (s_set sc_law.nd rfl (by first | exact Or.inl rfl | exact Or.inr rfl) (e_callP 0 G__law_digits A__law_digits tk (hr.mono (by decide)) (by decide) (a_cons (e_callP 0 G__law_cell A__law_cell tk (hr.mono (by decide)) (by decide) (a_cons (e_var 0) (a_cons (e_int) (a_nil)))) (a_cons (e_lst (a_cons (e_int) (a_cons (e_int) (a_nil)))) (a_nil)))))
  (s_cons (s_if (t_cmp (or_eq hr) d_eq (pv_ (e_ix (pv_ (e_var 2)) (pv_ (e_int)))) (pv_ (e_int)) (by rfl))
  (s_one (s_set sc_law.nd rfl (by first | exact Or.inl rfl | exact Or.inr rfl) (e_callP 0 G__law_any_scene A__law_any_scene tk (hr.mono (by decide)) (by decide) (a_cons (e_var 0) (a_cons (e_int) (a_nil))))))
  (s_nil))
  (s_cons (s_set sc_law.nd rfl (by first | exact Or.inl rfl | exact Or.inr rfl) (e_ix (pv_ (e_var 1)) (pv_ (e_int))))
  (s_cons (s_set sc_law.nd rfl (by first | exact Or.inl rfl | exact Or.inr rfl) (e_callT call_list_of (opN_of d_listF) T.m_list b_list (va_cons (pv_ (e_ix (pv_ (e_var 1)) (pv_ (e_int)))) (va_nil))))
  (s_cons (s_set sc_law.nd rfl (by first | exact Or.inl rfl | exact Or.inr rfl) (e_callT call_list_of (opN_of d_listF) T.m_list b_list (va_cons (pv_ (e_ix (pv_ (e_var 1)) (pv_ (e_int)))) (va_nil))))
  (s_cons (s_if (t_cmp (or_eq hr) d_eq (pv_ (e_ix (pv_ (e_var 2)) (pv_ (e_int)))) (pv_ (e_int)) (by rfl))
  (s_cons (s_set sc_law.nd rfl (by first | exact Or.inl rfl | exact Or.inr rfl) (e_callP 0 G__law_scene A__law_scene tk (hr.mono (by decide)) (by decide) (a_cons (e_var 0) (a_cons (e_int) (a_cons (e_int) (a_nil))))))
  (s_cons (s_set sc_law.nd rfl (by first | exact Or.inl rfl | exact Or.inr rfl) (e_op or_add d_add (pv_ (e_var 4)) (pv_ (e_lc (own := [("_law_line", 7)]) (i_view (pv_ (e_ix (pv_ (e_var 6)) (pv_ (e_int))))) (blkOk_by (by kernel_rfl)) (fun _ _ _ _ _ => g_name sc_law.nd rfl (by first | exact Or.inl rfl | exact Or.inr rfl)) (fun _ _ _ _ _ => ts_nil) (fun _ _ _ _ _ => e_tup (a_cons (e_op or_add d_add (pv_ (e_ix (pv_ (e_var 7)) (pv_ (e_int)))) (pv_ (e_var 3))) (a_cons (e_op or_add d_add (pv_ (e_ix (pv_ (e_var 7)) (pv_ (e_int)))) (pv_ (e_var 3))) (a_nil)))) sc_law.nd))))
  (s_cons (s_set sc_law.nd rfl (by first | exact Or.inl rfl | exact Or.inr rfl) (e_op or_add d_add (pv_ (e_var 3)) (pv_ (e_ix (pv_ (e_var 6)) (pv_ (e_int))))))
  (s_one (s_set sc_law.nd rfl (by first | exact Or.inl rfl | exact Or.inr rfl) (e_op or_add d_add (pv_ (e_var 5)) (pv_ (e_callT call_list_of (opN_of d_listF) T.m_list b_list (va_cons (pv_ (e_ix (pv_ (e_var 6)) (pv_ (e_int)))) (va_nil))))))))))
  (s_nil))
  (s_cons (s_set sc_law.nd rfl (by first | exact Or.inl rfl | exact Or.inr rfl) (e_makeF G_Web___init__ C_Web tk (hr.mono (by decide)) (a_cons (e_var 3) (a_cons (e_var 4) (a_nil)))))
  (s_cons (s_set sc_law.nd rfl (by first | exact Or.inl rfl | exact Or.inr rfl) (e_callP 0 G__law_near A__law_near tk (hr.mono (by decide)) (by decide) (a_cons (e_var 3) (a_cons (e_var 4) (a_nil)))))
  (s_cons (s_set sc_law.nd rfl (by first | exact Or.inl rfl | exact Or.inr rfl) (e_callP 0 G__law_forest A__law_forest tk (hr.mono (by decide)) (by decide) (a_cons (e_var 9) (a_nil))))
  (s_cons (s_if (t_w (w_or (t_not (t_val (e_callP 0 G__law_forest_asked A__law_forest_asked tk (hr.mono (by decide)) (by decide) (a_cons (e_var 8) (a_cons (e_var 10) (a_nil)))))) (w_or1 (t_not (t_val (e_callP 0 G__law_forest_asked A__law_forest_asked tk (hr.mono (by decide)) (by decide) (a_cons (e_makeP 0 G_Web___init__ C_Web tk (hr.mono (by decide)) (by decide) (a_cons (e_int) (a_nil))) (a_cons (e_lst (a_nil)) (a_nil)))))))))
  (s_one (s_ret (e_bl)))
  (s_nil))
  (s_cons (s_setF sc_law.nd rfl (by first | exact Or.inl rfl | exact Or.inr rfl) (f_lst (a_nil)))
  (s_cons (s_for (i_e (e_var 4)) (g_name sc_law.nd rfl (by first | exact Or.inl rfl | exact Or.inr rfl))
  (s_one (s_if (t_w (w_and (t_cmp (or_ne hr) d_ne (pv_ (e_ix (pv_ (e_var 10)) (pv_ (e_ix (pv_ (e_var 7)) (pv_ (e_int)))))) (pv_ (e_ix (pv_ (e_var 7)) (pv_ (e_int)))) (by rfl)) (w_and1 (t_cmp (or_ne hr) d_ne (pv_ (e_ix (pv_ (e_var 10)) (pv_ (e_ix (pv_ (e_var 7)) (pv_ (e_int)))))) (pv_ (e_ix (pv_ (e_var 7)) (pv_ (e_int)))) (by rfl)))))
  (s_one (s_app (pe_bm PySem.F.plainAttrs_list PySem.F.slot_list_append PySem.F.type_list_append mt_append (pe_var rfl (by first | exact Or.inl rfl | exact Or.inr (Or.inl rfl) | exact Or.inr (Or.inr rfl))) (pa_cons (f_e (e_callP 0 G__law_basic A__law_basic tk (hr.mono (by decide)) (by decide) (a_cons (e_var 10) (a_cons (e_ix (pv_ (e_var 7)) (pv_ (e_int))) (a_cons (e_ix (pv_ (e_var 7)) (pv_ (e_int))) (a_nil)))))) pa_nil))))
  (s_nil))))
  (s_cons (s_set sc_law.nd rfl (by first | exact Or.inl rfl | exact Or.inr rfl) (e_callP 0 G_basic_rings A_basic_rings tk (hr.mono (by decide)) (by decide) (a_cons (e_var 8) (a_nil))))
  (s_cons (s_frz 11 (s_if (t_w (w_or (t_not (t_val (e_isi T.cls T.kb_tuple T.m_isinstance (pv_ (e_var 12)) (pe_bltn rfl T.m_tuple b_tuple rfl)))) (w_or1 (t_cmp (or_ne hr) d_ne (pv_ (e_callB c_len d_len T.m_len b_len (va_cons (pv_ (e_var 12)) (va_nil)))) (pv_ (e_callB c_len d_len T.m_len b_len (va_cons (pv_ (e_var 11)) (va_nil)))) (by rfl)))))
  (s_one (s_ret (e_bl)))
  (s_nil)))
  (s_cons (s_for (i_range1 T.m_range (a_cons (e_callB c_len d_len T.m_len b_len (va_cons (pv_ (e_var 11)) (va_nil))) (a_nil))) (g_name sc_law.nd rfl (by first | exact Or.inl rfl | exact Or.inr rfl))
  (s_one (s_if (t_w (w_or (t_not (t_val (e_callP 0 G__law_row A__law_row tk (hr.mono (by decide)) (by decide) (a_cons (e_ix (pv_ (e_var 12)) (pv_ (e_var 13))) (a_cons (e_callB c_len d_len T.m_len b_len (va_cons (pv_ (e_ix (pv_ (e_var 11)) (pv_ (e_var 13)))) (va_nil))) (a_nil)))))) (w_or1 (t_cmp (or_ne hr) d_ne (pv_ (e_ix (pv_ (e_var 12)) (pv_ (e_var 13)))) (pv_ (e_ix (pv_ (e_var 11)) (pv_ (e_var 13)))) (by rfl)))))
  (s_one (s_ret (e_bl)))
  (s_nil))))
  (s_cons (s_set sc_law.nd rfl (by first | exact Or.inl rfl | exact Or.inr rfl) (e_callP 0 G_ring_sums A_ring_sums tk (hr.mono (by decide)) (by decide) (a_cons (e_makeP 0 G_Scene___init__ C_Scene tk (hr.mono (by decide)) (by decide) (a_cons (e_var 8) (a_cons (e_var 5) (a_nil)))) (a_nil))))
  (s_cons (s_set sc_law.nd rfl (by first | exact Or.inl rfl | exact Or.inr rfl) (e_callP 0 G__law_lead_rows A__law_lead_rows tk (hr.mono (by decide)) (by decide) (a_cons (e_var 5) (a_nil))))
  (s_cons (s_if (t_w (w_or (t_not (t_val (e_callP 0 G__law_row A__law_row tk (hr.mono (by decide)) (by decide) (a_cons (e_var 14) (a_cons (e_callB c_len d_len T.m_len b_len (va_cons (pv_ (e_var 11)) (va_nil))) (a_nil)))))) (w_or1 (t_cmp (or_ne hr) d_ne (pv_ (e_callT call_list_of (opN_of d_listF) T.m_list b_list (va_cons (pv_ (e_var 14)) (va_nil)))) (pv_ (e_lc (own := [("_law_ring", 16)]) (i_view (pv_ (e_var 11))) (blkOk_by (by kernel_rfl)) (fun _ _ _ _ _ => g_name sc_law.nd rfl (by first | exact Or.inl rfl | exact Or.inr rfl)) (fun _ _ _ _ _ => ts_nil) (fun _ _ _ _ _ => e_callP 0 G__law_sum A__law_sum takesF (hr.mono (by decide)) (by decide) (a_cons (e_var 15) (a_cons (e_var 16) (a_nil)))) sc_law.nd)) (by rfl)))))
  (s_one (s_ret (e_bl)))
  (s_nil))
  (s_cons (s_if (t_w (w_or (t_cmp (or_ne hr) d_ne (pv_ (e_callP 0 G_basic_rings A_basic_rings tk (hr.mono (by decide)) (by decide) (a_cons (e_makeP 0 G_Web___init__ C_Web tk (hr.mono (by decide)) (by decide) (a_cons (e_int) (a_nil))) (a_nil)))) (pv_ (e_tup (a_nil))) (by rfl)) (w_or (t_cmp (or_ne hr) d_ne (pv_ (e_callP 0 G_ring_sums A_ring_sums tk (hr.mono (by decide)) (by decide) (a_cons (e_makeP 0 G_Scene___init__ C_Scene tk (hr.mono (by decide)) (by decide) (a_cons (e_makeP 0 G_Web___init__ C_Web tk (hr.mono (by decide)) (by decide) (a_cons (e_int) (a_nil))) (a_cons (e_lst (a_nil)) (a_nil)))) (a_nil)))) (pv_ (e_tup (a_nil))) (by rfl)) (w_or1 (t_cmp (or_ne hr) d_ne (pv_ (e_callP 0 G_basic_rings A_basic_rings tk (hr.mono (by decide)) (by decide) (a_cons (e_makeP 0 G_Web___init__ C_Web tk (hr.mono (by decide)) (by decide) (a_cons (e_var 3) (a_nil))) (a_nil)))) (pv_ (e_tup (a_nil))) (by rfl))))))
  (s_one (s_ret (e_bl)))
  (s_nil))
  (s_one (s_ret (e_and (e_cmp (or_eq hr) d_eq (pv_ (e_callP 0 G_basic_rings A_basic_rings tk (hr.mono (by decide)) (by decide) (a_cons (e_var 8) (a_nil)))) (pv_ (e_var 12)) (by rfl)) (e_one (e_callP 0 G__law_forest_asked A__law_forest_asked tk (hr.mono (by decide)) (by decide) (a_cons (e_var 8) (a_cons (e_var 10) (a_nil))))))))))))))))))))))))))))
end
end FR
end
section
set_option Elab.async false
set_option linter.all false
set_option maxRecDepth 100000
set_option maxHeartbeats 2000000
namespace FR
open PySem PySem.Spec PyProof.Rows L2 DI
set_option maxHeartbeats 4000000 in
theorem all_mk {l : PySem.W.OpenLaw} {w : World} {K : PySem.W.Frag} {h : Heap} {mg : Str → Option Value} {fa C_Scene C_Web f__law_web f__law_digits f__law_cell f__law_picture f__law_scene f__law_any_scene f_checked_lines f_frozen f_neighbour_rows f_Web___init__ T_Web___init__ t0_Web___init__ f__law_near f__law_forest f_forest f__law_whole f__law_forest_asked f__law_up f__law_basic f_way_up f_tree_walk f_basic_rings f__law_row f_check_walk f_state_lead f_lead_sum f_ring_sums f_Scene___init__ f__law_lead f__law_lead_rows f__law_sum f_law : Addr} (X : K.In h) (G : h.Ns mainGlobals mg) (hfa : mg "law" = some (.ref fa))
    {od__law_web an__law_web od__law_digits an__law_digits od__law_cell an__law_cell od__law_picture an__law_picture od__law_scene an__law_scene od__law_any_scene an__law_any_scene od_checked_lines an_checked_lines od_frozen an_frozen od_neighbour_rows an_neighbour_rows od_Web___init__ an_Web___init__ oD_Web___init__ o0_Web___init__ od__law_near an__law_near od__law_forest an__law_forest od_forest an_forest od__law_whole an__law_whole od__law_forest_asked an__law_forest_asked od__law_up an__law_up od__law_basic an__law_basic od_way_up an_way_up od_tree_walk an_tree_walk od_basic_rings an_basic_rings od__law_row an__law_row od_check_walk an_check_walk od_state_lead an_state_lead od_lead_sum an_lead_sum od_ring_sums an_ring_sums od_Scene___init__ an_Scene___init__ od__law_lead an__law_lead od__law_lead_rows an__law_lead_rows od__law_sum an__law_sum od_law an_law : Option Addr} {sl__law_web sl__law_digits sl__law_cell sl__law_picture sl__law_scene sl__law_any_scene sl_checked_lines sl_frozen sl_neighbour_rows sl_Web___init__ sT_Web___init__ s0_Web___init__ sl__law_near sl__law_forest sl_forest sl__law_whole sl__law_forest_asked sl__law_up sl__law_basic sl_way_up sl_tree_walk sl_basic_rings sl__law_row sl_check_walk sl_state_lead sl_lead_sum sl_ring_sums sl_Scene___init__ sl__law_lead sl__law_lead_rows sl__law_sum sl_law : Array (Option Value)} {oc__law_web kV__law_web dc__law_web pm__law_web cd__law_web ct__law_web oc__law_digits kV__law_digits dc__law_digits pm__law_digits cd__law_digits ct__law_digits oc__law_cell kV__law_cell dc__law_cell pm__law_cell cd__law_cell ct__law_cell oc__law_picture kV__law_picture dc__law_picture pm__law_picture cd__law_picture ct__law_picture oc__law_scene kV__law_scene dc__law_scene pm__law_scene cd__law_scene ct__law_scene oc__law_any_scene kV__law_any_scene dc__law_any_scene pm__law_any_scene cd__law_any_scene ct__law_any_scene oc_checked_lines kV_checked_lines dc_checked_lines pm_checked_lines cd_checked_lines ct_checked_lines oc_frozen kV_frozen dc_frozen pm_frozen cd_frozen ct_frozen oc_neighbour_rows kV_neighbour_rows dc_neighbour_rows pm_neighbour_rows cd_neighbour_rows ct_neighbour_rows oc_Web___init__ kV_Web___init__ dc_Web___init__ pm_Web___init__ cd_Web___init__ ct_Web___init__ oT_Web___init__ oc__law_near kV__law_near dc__law_near pm__law_near cd__law_near ct__law_near oc__law_forest kV__law_forest dc__law_forest pm__law_forest cd__law_forest ct__law_forest oc_forest kV_forest dc_forest pm_forest cd_forest ct_forest oc__law_whole kV__law_whole dc__law_whole pm__law_whole cd__law_whole ct__law_whole oc__law_forest_asked kV__law_forest_asked dc__law_forest_asked pm__law_forest_asked cd__law_forest_asked ct__law_forest_asked oc__law_up kV__law_up dc__law_up pm__law_up cd__law_up ct__law_up oc__law_basic kV__law_basic dc__law_basic pm__law_basic cd__law_basic ct__law_basic oc_way_up kV_way_up dc_way_up pm_way_up cd_way_up ct_way_up oc_tree_walk kV_tree_walk dc_tree_walk pm_tree_walk cd_tree_walk ct_tree_walk oc_basic_rings kV_basic_rings dc_basic_rings pm_basic_rings cd_basic_rings ct_basic_rings oc__law_row kV__law_row dc__law_row pm__law_row cd__law_row ct__law_row oc_check_walk kV_check_walk dc_check_walk pm_check_walk cd_check_walk ct_check_walk oc_state_lead kV_state_lead dc_state_lead pm_state_lead cd_state_lead ct_state_lead oc_lead_sum kV_lead_sum dc_lead_sum pm_lead_sum cd_lead_sum ct_lead_sum oc_ring_sums kV_ring_sums dc_ring_sums pm_ring_sums cd_ring_sums ct_ring_sums oc_Scene___init__ kV_Scene___init__ dc_Scene___init__ pm_Scene___init__ cd_Scene___init__ ct_Scene___init__ oc__law_lead kV__law_lead dc__law_lead pm__law_lead cd__law_lead ct__law_lead oc__law_lead_rows kV__law_lead_rows dc__law_lead_rows pm__law_lead_rows cd__law_lead_rows ct__law_lead_rows oc__law_sum kV__law_sum dc__law_sum pm__law_sum cd__law_sum ct__law_sum oc_law kV_law dc_law pm_law cd_law ct_law : Value} {nT_Web___init__ n0_Web___init__ : Nat}
    (aC_Scene : PySem.W.nsIn K mainGlobals "Scene" = some (some (.ref C_Scene)))
    (aC_Web : PySem.W.nsIn K mainGlobals "Web" = some (some (.ref C_Web)))
    (a__law_web : PySem.W.nsIn K mainGlobals "_law_web" = some (some (.ref f__law_web)))
    (l__law_web : K.lookup f__law_web = some ⟨oc__law_web, od__law_web, .func (PySem.W.fnOf "_law_web" "_law_web" (defArgs s__law_web) (defBody s__law_web) (defScope s__law_web) .none kV__law_web dc__law_web pm__law_web an__law_web cd__law_web ct__law_web), sl__law_web⟩)
    (c__law_web : PySem.W.codeIn K cd__law_web "_law_web" = true)
    (k__law_web : PySem.W.keepIn K (.ref f__law_web) = true)
    (a__law_digits : PySem.W.nsIn K mainGlobals "_law_digits" = some (some (.ref f__law_digits)))
    (l__law_digits : K.lookup f__law_digits = some ⟨oc__law_digits, od__law_digits, .func (PySem.W.fnOf "_law_digits" "_law_digits" (defArgs s__law_digits) (defBody s__law_digits) (defScope s__law_digits) .none kV__law_digits dc__law_digits pm__law_digits an__law_digits cd__law_digits ct__law_digits), sl__law_digits⟩)
    (c__law_digits : PySem.W.codeIn K cd__law_digits "_law_digits" = true)
    (k__law_digits : PySem.W.keepIn K (.ref f__law_digits) = true)
    (a__law_cell : PySem.W.nsIn K mainGlobals "_law_cell" = some (some (.ref f__law_cell)))
    (l__law_cell : K.lookup f__law_cell = some ⟨oc__law_cell, od__law_cell, .func (PySem.W.fnOf "_law_cell" "_law_cell" (defArgs s__law_cell) (defBody s__law_cell) (defScope s__law_cell) .none kV__law_cell dc__law_cell pm__law_cell an__law_cell cd__law_cell ct__law_cell), sl__law_cell⟩)
    (c__law_cell : PySem.W.codeIn K cd__law_cell "_law_cell" = true)
    (k__law_cell : PySem.W.keepIn K (.ref f__law_cell) = true)
    (a__law_picture : PySem.W.nsIn K mainGlobals "_law_picture" = some (some (.ref f__law_picture)))
    (l__law_picture : K.lookup f__law_picture = some ⟨oc__law_picture, od__law_picture, .func (PySem.W.fnOf "_law_picture" "_law_picture" (defArgs s__law_picture) (defBody s__law_picture) (defScope s__law_picture) .none kV__law_picture dc__law_picture pm__law_picture an__law_picture cd__law_picture ct__law_picture), sl__law_picture⟩)
    (c__law_picture : PySem.W.codeIn K cd__law_picture "_law_picture" = true)
    (k__law_picture : PySem.W.keepIn K (.ref f__law_picture) = true)
    (a__law_scene : PySem.W.nsIn K mainGlobals "_law_scene" = some (some (.ref f__law_scene)))
    (l__law_scene : K.lookup f__law_scene = some ⟨oc__law_scene, od__law_scene, .func (PySem.W.fnOf "_law_scene" "_law_scene" (defArgs s__law_scene) (defBody s__law_scene) (defScope s__law_scene) .none kV__law_scene dc__law_scene pm__law_scene an__law_scene cd__law_scene ct__law_scene), sl__law_scene⟩)
    (c__law_scene : PySem.W.codeIn K cd__law_scene "_law_scene" = true)
    (k__law_scene : PySem.W.keepIn K (.ref f__law_scene) = true)
    (a__law_any_scene : PySem.W.nsIn K mainGlobals "_law_any_scene" = some (some (.ref f__law_any_scene)))
    (l__law_any_scene : K.lookup f__law_any_scene = some ⟨oc__law_any_scene, od__law_any_scene, .func (PySem.W.fnOf "_law_any_scene" "_law_any_scene" (defArgs s__law_any_scene) (defBody s__law_any_scene) (defScope s__law_any_scene) .none kV__law_any_scene dc__law_any_scene pm__law_any_scene an__law_any_scene cd__law_any_scene ct__law_any_scene), sl__law_any_scene⟩)
    (c__law_any_scene : PySem.W.codeIn K cd__law_any_scene "_law_any_scene" = true)
    (k__law_any_scene : PySem.W.keepIn K (.ref f__law_any_scene) = true)
    (a_checked_lines : PySem.W.nsIn K mainGlobals "checked_lines" = some (some (.ref f_checked_lines)))
    (l_checked_lines : K.lookup f_checked_lines = some ⟨oc_checked_lines, od_checked_lines, .func (PySem.W.fnOf "checked_lines" "checked_lines" (defArgs s_checked_lines) (defBody s_checked_lines) (defScope s_checked_lines) .none kV_checked_lines dc_checked_lines pm_checked_lines an_checked_lines cd_checked_lines ct_checked_lines), sl_checked_lines⟩)
    (c_checked_lines : PySem.W.codeIn K cd_checked_lines "checked_lines" = true)
    (k_checked_lines : PySem.W.keepIn K (.ref f_checked_lines) = true)
    (a_frozen : PySem.W.nsIn K mainGlobals "frozen" = some (some (.ref f_frozen)))
    (l_frozen : K.lookup f_frozen = some ⟨oc_frozen, od_frozen, .func (PySem.W.fnOf "frozen" "frozen" (defArgs s_frozen) (defBody s_frozen) (defScope s_frozen) .none kV_frozen dc_frozen pm_frozen an_frozen cd_frozen ct_frozen), sl_frozen⟩)
    (c_frozen : PySem.W.codeIn K cd_frozen "frozen" = true)
    (k_frozen : PySem.W.keepIn K (.ref f_frozen) = true)
    (a_neighbour_rows : PySem.W.nsIn K mainGlobals "neighbour_rows" = some (some (.ref f_neighbour_rows)))
    (l_neighbour_rows : K.lookup f_neighbour_rows = some ⟨oc_neighbour_rows, od_neighbour_rows, .func (PySem.W.fnOf "neighbour_rows" "neighbour_rows" (defArgs s_neighbour_rows) (defBody s_neighbour_rows) (defScope s_neighbour_rows) .none kV_neighbour_rows dc_neighbour_rows pm_neighbour_rows an_neighbour_rows cd_neighbour_rows ct_neighbour_rows), sl_neighbour_rows⟩)
    (c_neighbour_rows : PySem.W.codeIn K cd_neighbour_rows "neighbour_rows" = true)
    (k_neighbour_rows : PySem.W.keepIn K (.ref f_neighbour_rows) = true)
    (a_Web___init__ : PySem.W.findIn K (.ref C_Web) "__init__" = some (some (.ref f_Web___init__)))
    (i_Web___init__ : PySem.W.isFn K (.ref f_Web___init__) = true)
    (l_Web___init__ : K.lookup f_Web___init__ = some ⟨oc_Web___init__, od_Web___init__, .func (PySem.W.fnOf "__init__" "Web.__init__" (defArgs s_Web___init__) (defBody s_Web___init__) (defScope s_Web___init__) (.ref T_Web___init__) kV_Web___init__ dc_Web___init__ pm_Web___init__ an_Web___init__ cd_Web___init__ ct_Web___init__), sl_Web___init__⟩)
    (c_Web___init__ : PySem.W.codeIn K cd_Web___init__ "Web.__init__" = true)
    (k_Web___init__ : PySem.W.keepIn K (.ref f_Web___init__) = true)
    (lT_Web___init__ : K.lookup T_Web___init__ = some ⟨oT_Web___init__, oD_Web___init__, .seq #[.ref t0_Web___init__] nT_Web___init__, sT_Web___init__⟩)
    (e0_Web___init__ : K.lookup t0_Web___init__ = some ⟨.type "tuple", o0_Web___init__, .seq #[] n0_Web___init__, s0_Web___init__⟩)
    (a__law_near : PySem.W.nsIn K mainGlobals "_law_near" = some (some (.ref f__law_near)))
    (l__law_near : K.lookup f__law_near = some ⟨oc__law_near, od__law_near, .func (PySem.W.fnOf "_law_near" "_law_near" (defArgs s__law_near) (defBody s__law_near) (defScope s__law_near) .none kV__law_near dc__law_near pm__law_near an__law_near cd__law_near ct__law_near), sl__law_near⟩)
    (c__law_near : PySem.W.codeIn K cd__law_near "_law_near" = true)
    (k__law_near : PySem.W.keepIn K (.ref f__law_near) = true)
    (a__law_forest : PySem.W.nsIn K mainGlobals "_law_forest" = some (some (.ref f__law_forest)))
    (l__law_forest : K.lookup f__law_forest = some ⟨oc__law_forest, od__law_forest, .func (PySem.W.fnOf "_law_forest" "_law_forest" (defArgs s__law_forest) (defBody s__law_forest) (defScope s__law_forest) .none kV__law_forest dc__law_forest pm__law_forest an__law_forest cd__law_forest ct__law_forest), sl__law_forest⟩)
    (c__law_forest : PySem.W.codeIn K cd__law_forest "_law_forest" = true)
    (k__law_forest : PySem.W.keepIn K (.ref f__law_forest) = true)
    (a_forest : PySem.W.nsIn K mainGlobals "forest" = some (some (.ref f_forest)))
    (l_forest : K.lookup f_forest = some ⟨oc_forest, od_forest, .func (PySem.W.fnOf "forest" "forest" (defArgs s_forest) (defBody s_forest) (defScope s_forest) .none kV_forest dc_forest pm_forest an_forest cd_forest ct_forest), sl_forest⟩)
    (c_forest : PySem.W.codeIn K cd_forest "forest" = true)
    (k_forest : PySem.W.keepIn K (.ref f_forest) = true)
    (a__law_whole : PySem.W.nsIn K mainGlobals "_law_whole" = some (some (.ref f__law_whole)))
    (l__law_whole : K.lookup f__law_whole = some ⟨oc__law_whole, od__law_whole, .func (PySem.W.fnOf "_law_whole" "_law_whole" (defArgs s__law_whole) (defBody s__law_whole) (defScope s__law_whole) .none kV__law_whole dc__law_whole pm__law_whole an__law_whole cd__law_whole ct__law_whole), sl__law_whole⟩)
    (c__law_whole : PySem.W.codeIn K cd__law_whole "_law_whole" = true)
    (k__law_whole : PySem.W.keepIn K (.ref f__law_whole) = true)
    (a__law_forest_asked : PySem.W.nsIn K mainGlobals "_law_forest_asked" = some (some (.ref f__law_forest_asked)))
    (l__law_forest_asked : K.lookup f__law_forest_asked = some ⟨oc__law_forest_asked, od__law_forest_asked, .func (PySem.W.fnOf "_law_forest_asked" "_law_forest_asked" (defArgs s__law_forest_asked) (defBody s__law_forest_asked) (defScope s__law_forest_asked) .none kV__law_forest_asked dc__law_forest_asked pm__law_forest_asked an__law_forest_asked cd__law_forest_asked ct__law_forest_asked), sl__law_forest_asked⟩)
    (c__law_forest_asked : PySem.W.codeIn K cd__law_forest_asked "_law_forest_asked" = true)
    (k__law_forest_asked : PySem.W.keepIn K (.ref f__law_forest_asked) = true)
    (a__law_up : PySem.W.nsIn K mainGlobals "_law_up" = some (some (.ref f__law_up)))
    (l__law_up : K.lookup f__law_up = some ⟨oc__law_up, od__law_up, .func (PySem.W.fnOf "_law_up" "_law_up" (defArgs s__law_up) (defBody s__law_up) (defScope s__law_up) .none kV__law_up dc__law_up pm__law_up an__law_up cd__law_up ct__law_up), sl__law_up⟩)
    (c__law_up : PySem.W.codeIn K cd__law_up "_law_up" = true)
    (k__law_up : PySem.W.keepIn K (.ref f__law_up) = true)
    (a__law_basic : PySem.W.nsIn K mainGlobals "_law_basic" = some (some (.ref f__law_basic)))
    (l__law_basic : K.lookup f__law_basic = some ⟨oc__law_basic, od__law_basic, .func (PySem.W.fnOf "_law_basic" "_law_basic" (defArgs s__law_basic) (defBody s__law_basic) (defScope s__law_basic) .none kV__law_basic dc__law_basic pm__law_basic an__law_basic cd__law_basic ct__law_basic), sl__law_basic⟩)
    (c__law_basic : PySem.W.codeIn K cd__law_basic "_law_basic" = true)
    (k__law_basic : PySem.W.keepIn K (.ref f__law_basic) = true)
    (a_way_up : PySem.W.nsIn K mainGlobals "way_up" = some (some (.ref f_way_up)))
    (l_way_up : K.lookup f_way_up = some ⟨oc_way_up, od_way_up, .func (PySem.W.fnOf "way_up" "way_up" (defArgs s_way_up) (defBody s_way_up) (defScope s_way_up) .none kV_way_up dc_way_up pm_way_up an_way_up cd_way_up ct_way_up), sl_way_up⟩)
    (c_way_up : PySem.W.codeIn K cd_way_up "way_up" = true)
    (k_way_up : PySem.W.keepIn K (.ref f_way_up) = true)
    (a_tree_walk : PySem.W.nsIn K mainGlobals "tree_walk" = some (some (.ref f_tree_walk)))
    (l_tree_walk : K.lookup f_tree_walk = some ⟨oc_tree_walk, od_tree_walk, .func (PySem.W.fnOf "tree_walk" "tree_walk" (defArgs s_tree_walk) (defBody s_tree_walk) (defScope s_tree_walk) .none kV_tree_walk dc_tree_walk pm_tree_walk an_tree_walk cd_tree_walk ct_tree_walk), sl_tree_walk⟩)
    (c_tree_walk : PySem.W.codeIn K cd_tree_walk "tree_walk" = true)
    (k_tree_walk : PySem.W.keepIn K (.ref f_tree_walk) = true)
    (a_basic_rings : PySem.W.nsIn K mainGlobals "basic_rings" = some (some (.ref f_basic_rings)))
    (l_basic_rings : K.lookup f_basic_rings = some ⟨oc_basic_rings, od_basic_rings, .func (PySem.W.fnOf "basic_rings" "basic_rings" (defArgs s_basic_rings) (defBody s_basic_rings) (defScope s_basic_rings) .none kV_basic_rings dc_basic_rings pm_basic_rings an_basic_rings cd_basic_rings ct_basic_rings), sl_basic_rings⟩)
    (c_basic_rings : PySem.W.codeIn K cd_basic_rings "basic_rings" = true)
    (k_basic_rings : PySem.W.keepIn K (.ref f_basic_rings) = true)
    (a__law_row : PySem.W.nsIn K mainGlobals "_law_row" = some (some (.ref f__law_row)))
    (l__law_row : K.lookup f__law_row = some ⟨oc__law_row, od__law_row, .func (PySem.W.fnOf "_law_row" "_law_row" (defArgs s__law_row) (defBody s__law_row) (defScope s__law_row) .none kV__law_row dc__law_row pm__law_row an__law_row cd__law_row ct__law_row), sl__law_row⟩)
    (c__law_row : PySem.W.codeIn K cd__law_row "_law_row" = true)
    (k__law_row : PySem.W.keepIn K (.ref f__law_row) = true)
    (a_check_walk : PySem.W.nsIn K mainGlobals "check_walk" = some (some (.ref f_check_walk)))
    (l_check_walk : K.lookup f_check_walk = some ⟨oc_check_walk, od_check_walk, .func (PySem.W.fnOf "check_walk" "check_walk" (defArgs s_check_walk) (defBody s_check_walk) (defScope s_check_walk) .none kV_check_walk dc_check_walk pm_check_walk an_check_walk cd_check_walk ct_check_walk), sl_check_walk⟩)
    (c_check_walk : PySem.W.codeIn K cd_check_walk "check_walk" = true)
    (k_check_walk : PySem.W.keepIn K (.ref f_check_walk) = true)
    (a_state_lead : PySem.W.nsIn K mainGlobals "state_lead" = some (some (.ref f_state_lead)))
    (l_state_lead : K.lookup f_state_lead = some ⟨oc_state_lead, od_state_lead, .func (PySem.W.fnOf "state_lead" "state_lead" (defArgs s_state_lead) (defBody s_state_lead) (defScope s_state_lead) .none kV_state_lead dc_state_lead pm_state_lead an_state_lead cd_state_lead ct_state_lead), sl_state_lead⟩)
    (c_state_lead : PySem.W.codeIn K cd_state_lead "state_lead" = true)
    (k_state_lead : PySem.W.keepIn K (.ref f_state_lead) = true)
    (a_lead_sum : PySem.W.nsIn K mainGlobals "lead_sum" = some (some (.ref f_lead_sum)))
    (l_lead_sum : K.lookup f_lead_sum = some ⟨oc_lead_sum, od_lead_sum, .func (PySem.W.fnOf "lead_sum" "lead_sum" (defArgs s_lead_sum) (defBody s_lead_sum) (defScope s_lead_sum) .none kV_lead_sum dc_lead_sum pm_lead_sum an_lead_sum cd_lead_sum ct_lead_sum), sl_lead_sum⟩)
    (c_lead_sum : PySem.W.codeIn K cd_lead_sum "lead_sum" = true)
    (k_lead_sum : PySem.W.keepIn K (.ref f_lead_sum) = true)
    (a_ring_sums : PySem.W.nsIn K mainGlobals "ring_sums" = some (some (.ref f_ring_sums)))
    (l_ring_sums : K.lookup f_ring_sums = some ⟨oc_ring_sums, od_ring_sums, .func (PySem.W.fnOf "ring_sums" "ring_sums" (defArgs s_ring_sums) (defBody s_ring_sums) (defScope s_ring_sums) .none kV_ring_sums dc_ring_sums pm_ring_sums an_ring_sums cd_ring_sums ct_ring_sums), sl_ring_sums⟩)
    (c_ring_sums : PySem.W.codeIn K cd_ring_sums "ring_sums" = true)
    (k_ring_sums : PySem.W.keepIn K (.ref f_ring_sums) = true)
    (a_Scene___init__ : PySem.W.findIn K (.ref C_Scene) "__init__" = some (some (.ref f_Scene___init__)))
    (i_Scene___init__ : PySem.W.isFn K (.ref f_Scene___init__) = true)
    (l_Scene___init__ : K.lookup f_Scene___init__ = some ⟨oc_Scene___init__, od_Scene___init__, .func (PySem.W.fnOf "__init__" "Scene.__init__" (defArgs s_Scene___init__) (defBody s_Scene___init__) (defScope s_Scene___init__) .none kV_Scene___init__ dc_Scene___init__ pm_Scene___init__ an_Scene___init__ cd_Scene___init__ ct_Scene___init__), sl_Scene___init__⟩)
    (c_Scene___init__ : PySem.W.codeIn K cd_Scene___init__ "Scene.__init__" = true)
    (k_Scene___init__ : PySem.W.keepIn K (.ref f_Scene___init__) = true)
    (a__law_lead : PySem.W.nsIn K mainGlobals "_law_lead" = some (some (.ref f__law_lead)))
    (l__law_lead : K.lookup f__law_lead = some ⟨oc__law_lead, od__law_lead, .func (PySem.W.fnOf "_law_lead" "_law_lead" (defArgs s__law_lead) (defBody s__law_lead) (defScope s__law_lead) .none kV__law_lead dc__law_lead pm__law_lead an__law_lead cd__law_lead ct__law_lead), sl__law_lead⟩)
    (c__law_lead : PySem.W.codeIn K cd__law_lead "_law_lead" = true)
    (k__law_lead : PySem.W.keepIn K (.ref f__law_lead) = true)
    (a__law_lead_rows : PySem.W.nsIn K mainGlobals "_law_lead_rows" = some (some (.ref f__law_lead_rows)))
    (l__law_lead_rows : K.lookup f__law_lead_rows = some ⟨oc__law_lead_rows, od__law_lead_rows, .func (PySem.W.fnOf "_law_lead_rows" "_law_lead_rows" (defArgs s__law_lead_rows) (defBody s__law_lead_rows) (defScope s__law_lead_rows) .none kV__law_lead_rows dc__law_lead_rows pm__law_lead_rows an__law_lead_rows cd__law_lead_rows ct__law_lead_rows), sl__law_lead_rows⟩)
    (c__law_lead_rows : PySem.W.codeIn K cd__law_lead_rows "_law_lead_rows" = true)
    (k__law_lead_rows : PySem.W.keepIn K (.ref f__law_lead_rows) = true)
    (a__law_sum : PySem.W.nsIn K mainGlobals "_law_sum" = some (some (.ref f__law_sum)))
    (l__law_sum : K.lookup f__law_sum = some ⟨oc__law_sum, od__law_sum, .func (PySem.W.fnOf "_law_sum" "_law_sum" (defArgs s__law_sum) (defBody s__law_sum) (defScope s__law_sum) .none kV__law_sum dc__law_sum pm__law_sum an__law_sum cd__law_sum ct__law_sum), sl__law_sum⟩)
    (c__law_sum : PySem.W.codeIn K cd__law_sum "_law_sum" = true)
    (k__law_sum : PySem.W.keepIn K (.ref f__law_sum) = true)
    (a_law : PySem.W.nsIn K mainGlobals "law" = some (some (.ref f_law)))
    (l_law : K.lookup f_law = some ⟨oc_law, od_law, .func (PySem.W.fnOf "law" "law" (defArgs s_law) (defBody s_law) (defScope s_law) .none kV_law dc_law pm_law an_law cd_law ct_law), sl_law⟩)
    (c_law : PySem.W.codeIn K cd_law "law" = true)
    (k_law : PySem.W.keepIn K (.ref f_law) = true)
    (pg_Scene : PySem.W.plainGet K C_Scene Str.empty = true)
    (hd_Scene : PySem.W.hasDictIn K C_Scene = true)
    (po_Scene : PySem.W.plainOver K C_Scene = true)
    (sa_Scene : PySem.W.findIn K (.ref C_Scene) "__setattr__" = some (some (.builtin "object.__setattr__")))
    (ca_Scene : PySem.W.findIn K (.ref C_Scene) "__class__" = some (some (.builtin "object.__class__")))
    (cm_Scene : PySem.W.mroIn K C_Scene (.type "object") = some true)
    (mk_Scene : PySem.W.makesIn K C_Scene = true)
    (kc_Scene : PySem.W.keepIn K (.ref C_Scene) = true)
    (na_Scene_picture : PySem.W.findIn K (.ref C_Scene) "picture" = some none)
    (na_Scene_web : PySem.W.findIn K (.ref C_Scene) "web" = some none)
    (kb_Scene_bool : PySem.W.kitOne K (.ref C_Scene) (.type "bool") = some false)
    (kb_Scene_int : PySem.W.kitOne K (.ref C_Scene) (.type "int") = some false)
    (kb_Scene_list : PySem.W.kitOne K (.ref C_Scene) (.type "list") = some false)
    (kb_Scene_tuple : PySem.W.kitOne K (.ref C_Scene) (.type "tuple") = some false)
    (pg_Web : PySem.W.plainGet K C_Web Str.empty = true)
    (hd_Web : PySem.W.hasDictIn K C_Web = true)
    (po_Web : PySem.W.plainOver K C_Web = true)
    (sa_Web : PySem.W.findIn K (.ref C_Web) "__setattr__" = some (some (.builtin "object.__setattr__")))
    (ca_Web : PySem.W.findIn K (.ref C_Web) "__class__" = some (some (.builtin "object.__class__")))
    (cm_Web : PySem.W.mroIn K C_Web (.type "object") = some true)
    (mk_Web : PySem.W.makesIn K C_Web = true)
    (kc_Web : PySem.W.keepIn K (.ref C_Web) = true)
    (na_Web_around : PySem.W.findIn K (.ref C_Web) "around" = some none)
    (na_Web_lines : PySem.W.findIn K (.ref C_Web) "lines" = some none)
    (na_Web_size : PySem.W.findIn K (.ref C_Web) "size" = some none)
    (kb_Web_bool : PySem.W.kitOne K (.ref C_Web) (.type "bool") = some false)
    (kb_Web_int : PySem.W.kitOne K (.ref C_Web) (.type "int") = some false)
    (kb_Web_list : PySem.W.kitOne K (.ref C_Web) (.type "list") = some false)
    (kb_Web_tuple : PySem.W.kitOne K (.ref C_Web) (.type "tuple") = some false)
    (cn : PySem.W.specialIn K (.builtin "object.__class__") "__get__" = some (some (.builtin "getset_descriptor.__get__")))
    (ctk : PySem.W.takesIn K (.builtin "object.__class__") = some true)
    (z_bool : PySem.W.nsIn K mainGlobals "bool" = some none)
    (z_enumerate : PySem.W.nsIn K mainGlobals "enumerate" = some none)
    (z_int : PySem.W.nsIn K mainGlobals "int" = some none)
    (z_isinstance : PySem.W.nsIn K mainGlobals "isinstance" = some none)
    (z_len : PySem.W.nsIn K mainGlobals "len" = some none)
    (z_list : PySem.W.nsIn K mainGlobals "list" = some none)
    (z_max : PySem.W.nsIn K mainGlobals "max" = some none)
    (z_min : PySem.W.nsIn K mainGlobals "min" = some none)
    (z_range : PySem.W.nsIn K mainGlobals "range" = some none)
    (z_sorted : PySem.W.nsIn K mainGlobals "sorted" = some none)
    (z_sum : PySem.W.nsIn K mainGlobals "sum" = some none)
    (z_tuple : PySem.W.nsIn K mainGlobals "tuple" = some none)
    (z_zip : PySem.W.nsIn K mainGlobals "zip" = some none)
    (main : ∀ ns : List Int, ns.length ≤ 63 → (∀ z ∈ ns, Builtin.Int.intBits z ≤ 1048576) → d_law [.scr (ns.map D.int)] = .ok (.bl true)) :
    ∃ fd : FuncData, (∀ (s : Shared) (v : Value), BindsTo s fd ⟨[v], []⟩ [("_law_script", v)]) ∧ ∀ base : Heap, K.In base → base.Ns mainGlobals mg → FnOk l.prog w K mg base (L2.CX l.prog w) 10 fa fd ["_law_script"] (spLaw K) := by
  have e2 : f_law = fa := by
    have e := hfa.symm.trans (PySem.W.mg_of X G a_law)
    cases e
    rfl
  subst e2
  let cm : CM := mkCM l.prog w [(39, C_Scene, ["web", "picture"]), (46, C_Web, ["size", "lines", "around"])]
  have cl_Scene : Cls K C_Scene := ⟨pg_Scene, hd_Scene, po_Scene, sa_Scene⟩
  have co_Scene : ClsOk K C_Scene := ⟨cl_Scene, ca_Scene, cn, ctk, cm_Scene⟩
  have cl_Web : Cls K C_Web := ⟨pg_Web, hd_Web, po_Web, sa_Web⟩
  have co_Web : ClsOk K C_Web := ⟨cl_Web, ca_Web, cn, ctk, cm_Web⟩
  have T : Txt l.prog w K mg cm := ⟨rfl,
    PySem.W.mg_none_of X G z_bool,
    PySem.W.mg_none_of X G z_enumerate,
    PySem.W.mg_none_of X G z_int,
    PySem.W.mg_none_of X G z_isinstance,
    PySem.W.mg_none_of X G z_len,
    PySem.W.mg_none_of X G z_list,
    PySem.W.mg_none_of X G z_max,
    PySem.W.mg_none_of X G z_min,
    PySem.W.mg_none_of X G z_range,
    PySem.W.mg_none_of X G z_sorted,
    PySem.W.mg_none_of X G z_sum,
    PySem.W.mg_none_of X G z_tuple,
    PySem.W.mg_none_of X G z_zip,
    fa_cons (co_Scene) (fa_cons (co_Web) (fa_nil)),
    fa_cons (kb_Scene_bool) (fa_cons (kb_Web_bool) (fa_nil)),
    fa_cons (kb_Scene_int) (fa_cons (kb_Web_int) (fa_nil)),
    fa_cons (kb_Scene_list) (fa_cons (kb_Web_list) (fa_nil)),
    fa_cons (kb_Scene_tuple) (fa_cons (kb_Web_tuple) (fa_nil)),
    fp_cons (fun _ => ⟨cl_Web, na_Web_around, rfl, show (["size", "lines", "around"] : List Str).Nodup from by decide +kernel⟩) (fp_nil),
    fp_cons (fun m => absurd m (show ¬ (32 ∈ ([39, 46] : List Nat)) from by decide)) (fp_cons (fun m => absurd m (show ¬ (35 ∈ ([39, 46] : List Nat)) from by decide)) (fp_cons (fun m => absurd m (show ¬ (45 ∈ ([39, 46] : List Nat)) from by decide)) (fp_cons (fun _ => ⟨cl_Web, na_Web_lines, rfl, show (["size", "lines", "around"] : List Str).Nodup from by decide +kernel⟩) (fp_nil)))),
    fp_cons (fun _ => ⟨cl_Scene, na_Scene_picture, rfl, show (["web", "picture"] : List Str).Nodup from by decide +kernel⟩) (fp_nil),
    fp_cons (fun m => absurd m (show ¬ (42 ∈ ([39, 46] : List Nat)) from by decide)) (fp_cons (fun _ => ⟨cl_Web, na_Web_size, rfl, show (["size", "lines", "around"] : List Str).Nodup from by decide +kernel⟩) (fp_nil)),
    fp_cons (fun _ => ⟨cl_Scene, na_Scene_web, rfl, show (["web", "picture"] : List Str).Nodup from by decide +kernel⟩) (fp_nil),
    rfl,
    show 39 ∈ ([39, 46] : List Nat) from by decide,
    rfl,
    show 46 ∈ ([39, 46] : List Nat) from by decide⟩
  have FD__law_web : FunD K "_law_web" "_law_web" (defArgs s__law_web) (defBody s__law_web) (defScope s__law_web) [] [] f__law_web _ := ⟨⟨_, _, _, _, _, _, _, _, _, _, rfl, l__law_web, c__law_web, .inl ⟨rfl, rfl⟩, .inl rfl⟩, k__law_web⟩
  have FD__law_digits : FunD K "_law_digits" "_law_digits" (defArgs s__law_digits) (defBody s__law_digits) (defScope s__law_digits) [] [] f__law_digits _ := ⟨⟨_, _, _, _, _, _, _, _, _, _, rfl, l__law_digits, c__law_digits, .inl ⟨rfl, rfl⟩, .inl rfl⟩, k__law_digits⟩
  have FD__law_cell : FunD K "_law_cell" "_law_cell" (defArgs s__law_cell) (defBody s__law_cell) (defScope s__law_cell) [] [] f__law_cell _ := ⟨⟨_, _, _, _, _, _, _, _, _, _, rfl, l__law_cell, c__law_cell, .inl ⟨rfl, rfl⟩, .inl rfl⟩, k__law_cell⟩
  have FD__law_picture : FunD K "_law_picture" "_law_picture" (defArgs s__law_picture) (defBody s__law_picture) (defScope s__law_picture) [] [] f__law_picture _ := ⟨⟨_, _, _, _, _, _, _, _, _, _, rfl, l__law_picture, c__law_picture, .inl ⟨rfl, rfl⟩, .inl rfl⟩, k__law_picture⟩
  have FD__law_scene : FunD K "_law_scene" "_law_scene" (defArgs s__law_scene) (defBody s__law_scene) (defScope s__law_scene) [] [] f__law_scene _ := ⟨⟨_, _, _, _, _, _, _, _, _, _, rfl, l__law_scene, c__law_scene, .inl ⟨rfl, rfl⟩, .inl rfl⟩, k__law_scene⟩
  have FD__law_any_scene : FunD K "_law_any_scene" "_law_any_scene" (defArgs s__law_any_scene) (defBody s__law_any_scene) (defScope s__law_any_scene) [] [] f__law_any_scene _ := ⟨⟨_, _, _, _, _, _, _, _, _, _, rfl, l__law_any_scene, c__law_any_scene, .inl ⟨rfl, rfl⟩, .inl rfl⟩, k__law_any_scene⟩
  have FD_checked_lines : FunD K "checked_lines" "checked_lines" (defArgs s_checked_lines) (defBody s_checked_lines) (defScope s_checked_lines) [] [] f_checked_lines _ := ⟨⟨_, _, _, _, _, _, _, _, _, _, rfl, l_checked_lines, c_checked_lines, .inl ⟨rfl, rfl⟩, .inl rfl⟩, k_checked_lines⟩
  have FD_frozen : FunD K "frozen" "frozen" (defArgs s_frozen) (defBody s_frozen) (defScope s_frozen) [] [] f_frozen _ := ⟨⟨_, _, _, _, _, _, _, _, _, _, rfl, l_frozen, c_frozen, .inl ⟨rfl, rfl⟩, .inl rfl⟩, k_frozen⟩
  have FD_neighbour_rows : FunD K "neighbour_rows" "neighbour_rows" (defArgs s_neighbour_rows) (defBody s_neighbour_rows) (defScope s_neighbour_rows) [] [] f_neighbour_rows _ := ⟨⟨_, _, _, _, _, _, _, _, _, _, rfl, l_neighbour_rows, c_neighbour_rows, .inl ⟨rfl, rfl⟩, .inl rfl⟩, k_neighbour_rows⟩
  have FD_Web___init__ : FunD K "__init__" "Web.__init__" (defArgs s_Web___init__) (defBody s_Web___init__) (defScope s_Web___init__) [.ref t0_Web___init__] [] f_Web___init__ _ := ⟨⟨_, _, _, _, _, _, _, _, _, _, rfl, l_Web___init__, c_Web___init__, .inr ⟨by simp, T_Web___init__, _, [.ref t0_Web___init__], nT_Web___init__, rfl, lT_Web___init__, rfl, .cons rfl (.nil)⟩, .inl rfl⟩, k_Web___init__⟩
  have FD__law_near : FunD K "_law_near" "_law_near" (defArgs s__law_near) (defBody s__law_near) (defScope s__law_near) [] [] f__law_near _ := ⟨⟨_, _, _, _, _, _, _, _, _, _, rfl, l__law_near, c__law_near, .inl ⟨rfl, rfl⟩, .inl rfl⟩, k__law_near⟩
  have FD__law_forest : FunD K "_law_forest" "_law_forest" (defArgs s__law_forest) (defBody s__law_forest) (defScope s__law_forest) [] [] f__law_forest _ := ⟨⟨_, _, _, _, _, _, _, _, _, _, rfl, l__law_forest, c__law_forest, .inl ⟨rfl, rfl⟩, .inl rfl⟩, k__law_forest⟩
  have FD_forest : FunD K "forest" "forest" (defArgs s_forest) (defBody s_forest) (defScope s_forest) [] [] f_forest _ := ⟨⟨_, _, _, _, _, _, _, _, _, _, rfl, l_forest, c_forest, .inl ⟨rfl, rfl⟩, .inl rfl⟩, k_forest⟩
  have FD__law_whole : FunD K "_law_whole" "_law_whole" (defArgs s__law_whole) (defBody s__law_whole) (defScope s__law_whole) [] [] f__law_whole _ := ⟨⟨_, _, _, _, _, _, _, _, _, _, rfl, l__law_whole, c__law_whole, .inl ⟨rfl, rfl⟩, .inl rfl⟩, k__law_whole⟩
  have FD__law_forest_asked : FunD K "_law_forest_asked" "_law_forest_asked" (defArgs s__law_forest_asked) (defBody s__law_forest_asked) (defScope s__law_forest_asked) [] [] f__law_forest_asked _ := ⟨⟨_, _, _, _, _, _, _, _, _, _, rfl, l__law_forest_asked, c__law_forest_asked, .inl ⟨rfl, rfl⟩, .inl rfl⟩, k__law_forest_asked⟩
  have FD__law_up : FunD K "_law_up" "_law_up" (defArgs s__law_up) (defBody s__law_up) (defScope s__law_up) [] [] f__law_up _ := ⟨⟨_, _, _, _, _, _, _, _, _, _, rfl, l__law_up, c__law_up, .inl ⟨rfl, rfl⟩, .inl rfl⟩, k__law_up⟩
  have FD__law_basic : FunD K "_law_basic" "_law_basic" (defArgs s__law_basic) (defBody s__law_basic) (defScope s__law_basic) [] [] f__law_basic _ := ⟨⟨_, _, _, _, _, _, _, _, _, _, rfl, l__law_basic, c__law_basic, .inl ⟨rfl, rfl⟩, .inl rfl⟩, k__law_basic⟩
  have FD_way_up : FunD K "way_up" "way_up" (defArgs s_way_up) (defBody s_way_up) (defScope s_way_up) [] [] f_way_up _ := ⟨⟨_, _, _, _, _, _, _, _, _, _, rfl, l_way_up, c_way_up, .inl ⟨rfl, rfl⟩, .inl rfl⟩, k_way_up⟩
  have FD_tree_walk : FunD K "tree_walk" "tree_walk" (defArgs s_tree_walk) (defBody s_tree_walk) (defScope s_tree_walk) [] [] f_tree_walk _ := ⟨⟨_, _, _, _, _, _, _, _, _, _, rfl, l_tree_walk, c_tree_walk, .inl ⟨rfl, rfl⟩, .inl rfl⟩, k_tree_walk⟩
  have FD_basic_rings : FunD K "basic_rings" "basic_rings" (defArgs s_basic_rings) (defBody s_basic_rings) (defScope s_basic_rings) [] [] f_basic_rings _ := ⟨⟨_, _, _, _, _, _, _, _, _, _, rfl, l_basic_rings, c_basic_rings, .inl ⟨rfl, rfl⟩, .inl rfl⟩, k_basic_rings⟩
  have FD__law_row : FunD K "_law_row" "_law_row" (defArgs s__law_row) (defBody s__law_row) (defScope s__law_row) [] [] f__law_row _ := ⟨⟨_, _, _, _, _, _, _, _, _, _, rfl, l__law_row, c__law_row, .inl ⟨rfl, rfl⟩, .inl rfl⟩, k__law_row⟩
  have FD_check_walk : FunD K "check_walk" "check_walk" (defArgs s_check_walk) (defBody s_check_walk) (defScope s_check_walk) [] [] f_check_walk _ := ⟨⟨_, _, _, _, _, _, _, _, _, _, rfl, l_check_walk, c_check_walk, .inl ⟨rfl, rfl⟩, .inl rfl⟩, k_check_walk⟩
  have FD_state_lead : FunD K "state_lead" "state_lead" (defArgs s_state_lead) (defBody s_state_lead) (defScope s_state_lead) [] [] f_state_lead _ := ⟨⟨_, _, _, _, _, _, _, _, _, _, rfl, l_state_lead, c_state_lead, .inl ⟨rfl, rfl⟩, .inl rfl⟩, k_state_lead⟩
  have FD_lead_sum : FunD K "lead_sum" "lead_sum" (defArgs s_lead_sum) (defBody s_lead_sum) (defScope s_lead_sum) [] [] f_lead_sum _ := ⟨⟨_, _, _, _, _, _, _, _, _, _, rfl, l_lead_sum, c_lead_sum, .inl ⟨rfl, rfl⟩, .inl rfl⟩, k_lead_sum⟩
  have FD_ring_sums : FunD K "ring_sums" "ring_sums" (defArgs s_ring_sums) (defBody s_ring_sums) (defScope s_ring_sums) [] [] f_ring_sums _ := ⟨⟨_, _, _, _, _, _, _, _, _, _, rfl, l_ring_sums, c_ring_sums, .inl ⟨rfl, rfl⟩, .inl rfl⟩, k_ring_sums⟩
  have FD_Scene___init__ : FunD K "__init__" "Scene.__init__" (defArgs s_Scene___init__) (defBody s_Scene___init__) (defScope s_Scene___init__) [] [] f_Scene___init__ _ := ⟨⟨_, _, _, _, _, _, _, _, _, _, rfl, l_Scene___init__, c_Scene___init__, .inl ⟨rfl, rfl⟩, .inl rfl⟩, k_Scene___init__⟩
  have FD__law_lead : FunD K "_law_lead" "_law_lead" (defArgs s__law_lead) (defBody s__law_lead) (defScope s__law_lead) [] [] f__law_lead _ := ⟨⟨_, _, _, _, _, _, _, _, _, _, rfl, l__law_lead, c__law_lead, .inl ⟨rfl, rfl⟩, .inl rfl⟩, k__law_lead⟩
  have FD__law_lead_rows : FunD K "_law_lead_rows" "_law_lead_rows" (defArgs s__law_lead_rows) (defBody s__law_lead_rows) (defScope s__law_lead_rows) [] [] f__law_lead_rows _ := ⟨⟨_, _, _, _, _, _, _, _, _, _, rfl, l__law_lead_rows, c__law_lead_rows, .inl ⟨rfl, rfl⟩, .inl rfl⟩, k__law_lead_rows⟩
  have FD__law_sum : FunD K "_law_sum" "_law_sum" (defArgs s__law_sum) (defBody s__law_sum) (defScope s__law_sum) [] [] f__law_sum _ := ⟨⟨_, _, _, _, _, _, _, _, _, _, rfl, l__law_sum, c__law_sum, .inl ⟨rfl, rfl⟩, .inl rfl⟩, k__law_sum⟩
  have FD_law : FunD K "law" "law" (defArgs s_law) (defBody s_law) (defScope s_law) [] [] f_law _ := ⟨⟨_, _, _, _, _, _, _, _, _, _, rfl, l_law, c_law, .inl ⟨rfl, rfl⟩, .inl rfl⟩, k_law⟩
  refine ⟨_, fun s v => FD_law.bindsA (ps := ["_law_script"]) (fun _ _ _ _ _ _ us hl => match us, hl with | [_], _ => rfl) s [v] rfl, fun base _ _ => ?_⟩
  have A__law_web : At K mg "_law_web" f__law_web := ⟨PySem.W.mg_of X G a__law_web, k__law_web⟩
  have G__law_web := ok__law_web (base := base) FD__law_web T  
  have A__law_digits : At K mg "_law_digits" f__law_digits := ⟨PySem.W.mg_of X G a__law_digits, k__law_digits⟩
  have G__law_digits := ok__law_digits (base := base) FD__law_digits T  
  have A__law_cell : At K mg "_law_cell" f__law_cell := ⟨PySem.W.mg_of X G a__law_cell, k__law_cell⟩
  have G__law_cell := ok__law_cell (base := base) FD__law_cell T  
  have A__law_picture : At K mg "_law_picture" f__law_picture := ⟨PySem.W.mg_of X G a__law_picture, k__law_picture⟩
  have G__law_picture := ok__law_picture (base := base) FD__law_picture T  
  have A__law_scene : At K mg "_law_scene" f__law_scene := ⟨PySem.W.mg_of X G a__law_scene, k__law_scene⟩
  have G__law_scene := ok__law_scene (base := base) FD__law_scene T  G__law_web A__law_web G__law_digits A__law_digits G__law_cell A__law_cell G__law_picture A__law_picture
  have A__law_any_scene : At K mg "_law_any_scene" f__law_any_scene := ⟨PySem.W.mg_of X G a__law_any_scene, k__law_any_scene⟩
  have G__law_any_scene := ok__law_any_scene (base := base) FD__law_any_scene T  G__law_digits A__law_digits G__law_cell A__law_cell G__law_picture A__law_picture
  have A_checked_lines : At K mg "checked_lines" f_checked_lines := ⟨PySem.W.mg_of X G a_checked_lines, k_checked_lines⟩
  have G_checked_lines := ok_checked_lines (base := base) FD_checked_lines T  
  have A_frozen : At K mg "frozen" f_frozen := ⟨PySem.W.mg_of X G a_frozen, k_frozen⟩
  have G_frozen := ok_frozen (base := base) FD_frozen T   A_frozen 6
  have A_neighbour_rows : At K mg "neighbour_rows" f_neighbour_rows := ⟨PySem.W.mg_of X G a_neighbour_rows, k_neighbour_rows⟩
  have G_neighbour_rows := ok_neighbour_rows (base := base) FD_neighbour_rows T  
  have C_Web : ClsAt K mg cm "Web" 46 f_Web___init__ := ⟨PySem.W.mg_of X G aC_Web, ⟨mk_Web, a_Web___init__, i_Web___init__, kc_Web⟩, T.in_Web⟩
  have G_Web___init__ := ok_Web___init__ (base := base) FD_Web___init__ T ⟨_, _, e0_Web___init__, rfl, rfl⟩ G_checked_lines A_checked_lines G_frozen A_frozen G_neighbour_rows A_neighbour_rows
  have A__law_near : At K mg "_law_near" f__law_near := ⟨PySem.W.mg_of X G a__law_near, k__law_near⟩
  have G__law_near := ok__law_near (base := base) FD__law_near T  
  have A__law_forest : At K mg "_law_forest" f__law_forest := ⟨PySem.W.mg_of X G a__law_forest, k__law_forest⟩
  have G__law_forest := ok__law_forest (base := base) FD__law_forest T  
  have A_forest : At K mg "forest" f_forest := ⟨PySem.W.mg_of X G a_forest, k_forest⟩
  have G_forest := ok_forest (base := base) FD_forest T  
  have A__law_whole : At K mg "_law_whole" f__law_whole := ⟨PySem.W.mg_of X G a__law_whole, k__law_whole⟩
  have G__law_whole := ok__law_whole (base := base) FD__law_whole T  
  have A__law_forest_asked : At K mg "_law_forest_asked" f__law_forest_asked := ⟨PySem.W.mg_of X G a__law_forest_asked, k__law_forest_asked⟩
  have G__law_forest_asked := ok__law_forest_asked (base := base) FD__law_forest_asked T  G_forest A_forest G__law_whole A__law_whole
  have A__law_up : At K mg "_law_up" f__law_up := ⟨PySem.W.mg_of X G a__law_up, k__law_up⟩
  have G__law_up := ok__law_up (base := base) FD__law_up T  
  have A__law_basic : At K mg "_law_basic" f__law_basic := ⟨PySem.W.mg_of X G a__law_basic, k__law_basic⟩
  have G__law_basic := ok__law_basic (base := base) FD__law_basic T  G__law_up A__law_up
  have A_way_up : At K mg "way_up" f_way_up := ⟨PySem.W.mg_of X G a_way_up, k_way_up⟩
  have GT_way_up := fresh_way_up (base := base) FD_way_up T  
  have G_way_up := ok_way_up (base := base) FD_way_up T  
  have A_tree_walk : At K mg "tree_walk" f_tree_walk := ⟨PySem.W.mg_of X G a_tree_walk, k_tree_walk⟩
  have G_tree_walk := ok_tree_walk (base := base) FD_tree_walk T  G_way_up A_way_up GT_way_up
  have A_basic_rings : At K mg "basic_rings" f_basic_rings := ⟨PySem.W.mg_of X G a_basic_rings, k_basic_rings⟩
  have G_basic_rings := ok_basic_rings (base := base) FD_basic_rings T  G_forest A_forest G_tree_walk A_tree_walk
  have A__law_row : At K mg "_law_row" f__law_row := ⟨PySem.W.mg_of X G a__law_row, k__law_row⟩
  have G__law_row := ok__law_row (base := base) FD__law_row T  G__law_whole A__law_whole
  have A_check_walk : At K mg "check_walk" f_check_walk := ⟨PySem.W.mg_of X G a_check_walk, k_check_walk⟩
  have G_check_walk := ok_check_walk (base := base) FD_check_walk T  
  have A_state_lead : At K mg "state_lead" f_state_lead := ⟨PySem.W.mg_of X G a_state_lead, k_state_lead⟩
  have G_state_lead := ok_state_lead (base := base) FD_state_lead T  
  have A_lead_sum : At K mg "lead_sum" f_lead_sum := ⟨PySem.W.mg_of X G a_lead_sum, k_lead_sum⟩
  have G_lead_sum := ok_lead_sum (base := base) FD_lead_sum T  G_check_walk A_check_walk G_state_lead A_state_lead
  have A_ring_sums : At K mg "ring_sums" f_ring_sums := ⟨PySem.W.mg_of X G a_ring_sums, k_ring_sums⟩
  have G_ring_sums := ok_ring_sums (base := base) FD_ring_sums T  G_basic_rings A_basic_rings G_lead_sum A_lead_sum
  have C_Scene : ClsAt K mg cm "Scene" 39 f_Scene___init__ := ⟨PySem.W.mg_of X G aC_Scene, ⟨mk_Scene, a_Scene___init__, i_Scene___init__, kc_Scene⟩, T.in_Scene⟩
  have G_Scene___init__ := ok_Scene___init__ (base := base) FD_Scene___init__ T  G_frozen A_frozen
  have A__law_lead : At K mg "_law_lead" f__law_lead := ⟨PySem.W.mg_of X G a__law_lead, k__law_lead⟩
  have G__law_lead := ok__law_lead (base := base) FD__law_lead T  
  have A__law_lead_rows : At K mg "_law_lead_rows" f__law_lead_rows := ⟨PySem.W.mg_of X G a__law_lead_rows, k__law_lead_rows⟩
  have G__law_lead_rows := ok__law_lead_rows (base := base) FD__law_lead_rows T  G__law_lead A__law_lead
  have A__law_sum : At K mg "_law_sum" f__law_sum := ⟨PySem.W.mg_of X G a__law_sum, k__law_sum⟩
  have G__law_sum := ok__law_sum (base := base) FD__law_sum T  
  have A_law : At K mg "law" f_law := ⟨PySem.W.mg_of X G a_law, k_law⟩
  exact (ok_law (base := base) FD_law T G__law_scene A__law_scene G__law_digits A__law_digits G__law_cell A__law_cell G__law_any_scene A__law_any_scene G_Web___init__ C_Web G__law_near A__law_near G__law_forest A__law_forest G__law_forest_asked A__law_forest_asked G__law_basic A__law_basic G_basic_rings A_basic_rings G__law_row A__law_row G_ring_sums A_ring_sums G_Scene___init__ C_Scene G__law_lead_rows A__law_lead_rows G__law_sum A__law_sum).imp (law_sp main)
end FR
end
section
set_option Elab.async false
set_option linter.all false
set_option maxRecDepth 100000
set_option maxHeartbeats 2000000
open PySem PySem.W PyProof.Rows in
set_option maxRecDepth 100000 in
set_option maxHeartbeats 0 in
theorem PySem.Challenge.cw_firerest_k12_forest_and_basic_rings_holds : PySem.Challenge.rw_firerest_k12_forest_and_basic_rings.Holds := by
  w_on; o_law; k_head; (case hw => w_witness2)
  k_fill
  refine DI.walk (k := 10) (l := PySem.Challenge.rw_firerest_k12_forest_and_basic_rings) rfl rfl ⟨rfl, by decide, by decide⟩ (fun w h Y => PySem.W.kIn_of Y) ?F
  case F =>
    intro w mg fa h KX G hmg
    refine' FR.all_mk KX G hmg ?aC_Scene ?aC_Web ?a__law_web ?l__law_web ?c__law_web ?k__law_web ?a__law_digits ?l__law_digits ?c__law_digits ?k__law_digits ?a__law_cell ?l__law_cell ?c__law_cell ?k__law_cell ?a__law_picture ?l__law_picture ?c__law_picture ?k__law_picture ?a__law_scene ?l__law_scene ?c__law_scene ?k__law_scene ?a__law_any_scene ?l__law_any_scene ?c__law_any_scene ?k__law_any_scene ?a_checked_lines ?l_checked_lines ?c_checked_lines ?k_checked_lines ?a_frozen ?l_frozen ?c_frozen ?k_frozen ?a_neighbour_rows ?l_neighbour_rows ?c_neighbour_rows ?k_neighbour_rows ?a_Web___init__ ?i_Web___init__ ?l_Web___init__ ?c_Web___init__ ?k_Web___init__ ?lT_Web___init__ ?e0_Web___init__ ?a__law_near ?l__law_near ?c__law_near ?k__law_near ?a__law_forest ?l__law_forest ?c__law_forest ?k__law_forest ?a_forest ?l_forest ?c_forest ?k_forest ?a__law_whole ?l__law_whole ?c__law_whole ?k__law_whole ?a__law_forest_asked ?l__law_forest_asked ?c__law_forest_asked ?k__law_forest_asked ?a__law_up ?l__law_up ?c__law_up ?k__law_up ?a__law_basic ?l__law_basic ?c__law_basic ?k__law_basic ?a_way_up ?l_way_up ?c_way_up ?k_way_up ?a_tree_walk ?l_tree_walk ?c_tree_walk ?k_tree_walk ?a_basic_rings ?l_basic_rings ?c_basic_rings ?k_basic_rings ?a__law_row ?l__law_row ?c__law_row ?k__law_row ?a_check_walk ?l_check_walk ?c_check_walk ?k_check_walk ?a_state_lead ?l_state_lead ?c_state_lead ?k_state_lead ?a_lead_sum ?l_lead_sum ?c_lead_sum ?k_lead_sum ?a_ring_sums ?l_ring_sums ?c_ring_sums ?k_ring_sums ?a_Scene___init__ ?i_Scene___init__ ?l_Scene___init__ ?c_Scene___init__ ?k_Scene___init__ ?a__law_lead ?l__law_lead ?c__law_lead ?k__law_lead ?a__law_lead_rows ?l__law_lead_rows ?c__law_lead_rows ?k__law_lead_rows ?a__law_sum ?l__law_sum ?c__law_sum ?k__law_sum ?a_law ?l_law ?c_law ?k_law ?pg_Scene ?hd_Scene ?po_Scene ?sa_Scene ?ca_Scene ?cm_Scene ?mk_Scene ?kc_Scene ?na_Scene_picture ?na_Scene_web ?kb_Scene_bool ?kb_Scene_int ?kb_Scene_list ?kb_Scene_tuple ?pg_Web ?hd_Web ?po_Web ?sa_Web ?ca_Web ?cm_Web ?mk_Web ?kc_Web ?na_Web_around ?na_Web_lines ?na_Web_size ?kb_Web_bool ?kb_Web_int ?kb_Web_list ?kb_Web_tuple ?cn ?ctk ?z_bool ?z_enumerate ?z_int ?z_isinstance ?z_len ?z_list ?z_max ?z_min ?z_range ?z_sorted ?z_sum ?z_tuple ?z_zip FR.main
    (case aC_Scene => k_is)
    (case aC_Web => k_is)
    (case a__law_web => k_is)
    (case l__law_web => k_is)
    (case c__law_web => k_is)
    (case k__law_web => k_is)
    (case a__law_digits => k_is)
    (case l__law_digits => k_is)
    (case c__law_digits => k_is)
    (case k__law_digits => k_is)
    (case a__law_cell => k_is)
    (case l__law_cell => k_is)
    (case c__law_cell => k_is)
    (case k__law_cell => k_is)
    (case a__law_picture => k_is)
    (case l__law_picture => k_is)
    (case c__law_picture => k_is)
    (case k__law_picture => k_is)
    (case a__law_scene => k_is)
    (case l__law_scene => k_is)
    (case c__law_scene => k_is)
    (case k__law_scene => k_is)
    (case a__law_any_scene => k_is)
    (case l__law_any_scene => k_is)
    (case c__law_any_scene => k_is)
    (case k__law_any_scene => k_is)
    (case a_checked_lines => k_is)
    (case l_checked_lines => k_is)
    (case c_checked_lines => k_is)
    (case k_checked_lines => k_is)
    (case a_frozen => k_is)
    (case l_frozen => k_is)
    (case c_frozen => k_is)
    (case k_frozen => k_is)
    (case a_neighbour_rows => k_is)
    (case l_neighbour_rows => k_is)
    (case c_neighbour_rows => k_is)
    (case k_neighbour_rows => k_is)
    (case a_Web___init__ => k_is)
    (case i_Web___init__ => k_is)
    (case l_Web___init__ => k_is)
    (case c_Web___init__ => k_is)
    (case k_Web___init__ => k_is)
    (case lT_Web___init__ => k_is)
    (case e0_Web___init__ => k_is)
    (case a__law_near => k_is)
    (case l__law_near => k_is)
    (case c__law_near => k_is)
    (case k__law_near => k_is)
    (case a__law_forest => k_is)
    (case l__law_forest => k_is)
    (case c__law_forest => k_is)
    (case k__law_forest => k_is)
    (case a_forest => k_is)
    (case l_forest => k_is)
    (case c_forest => k_is)
    (case k_forest => k_is)
    (case a__law_whole => k_is)
    (case l__law_whole => k_is)
    (case c__law_whole => k_is)
    (case k__law_whole => k_is)
    (case a__law_forest_asked => k_is)
    (case l__law_forest_asked => k_is)
    (case c__law_forest_asked => k_is)
    (case k__law_forest_asked => k_is)
    (case a__law_up => k_is)
    (case l__law_up => k_is)
    (case c__law_up => k_is)
    (case k__law_up => k_is)
    (case a__law_basic => k_is)
    (case l__law_basic => k_is)
    (case c__law_basic => k_is)
    (case k__law_basic => k_is)
    (case a_way_up => k_is)
    (case l_way_up => k_is)
    (case c_way_up => k_is)
    (case k_way_up => k_is)
    (case a_tree_walk => k_is)
    (case l_tree_walk => k_is)
    (case c_tree_walk => k_is)
    (case k_tree_walk => k_is)
    (case a_basic_rings => k_is)
    (case l_basic_rings => k_is)
    (case c_basic_rings => k_is)
    (case k_basic_rings => k_is)
    (case a__law_row => k_is)
    (case l__law_row => k_is)
    (case c__law_row => k_is)
    (case k__law_row => k_is)
    (case a_check_walk => k_is)
    (case l_check_walk => k_is)
    (case c_check_walk => k_is)
    (case k_check_walk => k_is)
    (case a_state_lead => k_is)
    (case l_state_lead => k_is)
    (case c_state_lead => k_is)
    (case k_state_lead => k_is)
    (case a_lead_sum => k_is)
    (case l_lead_sum => k_is)
    (case c_lead_sum => k_is)
    (case k_lead_sum => k_is)
    (case a_ring_sums => k_is)
    (case l_ring_sums => k_is)
    (case c_ring_sums => k_is)
    (case k_ring_sums => k_is)
    (case a_Scene___init__ => k_is)
    (case i_Scene___init__ => k_is)
    (case l_Scene___init__ => k_is)
    (case c_Scene___init__ => k_is)
    (case k_Scene___init__ => k_is)
    (case a__law_lead => k_is)
    (case l__law_lead => k_is)
    (case c__law_lead => k_is)
    (case k__law_lead => k_is)
    (case a__law_lead_rows => k_is)
    (case l__law_lead_rows => k_is)
    (case c__law_lead_rows => k_is)
    (case k__law_lead_rows => k_is)
    (case a__law_sum => k_is)
    (case l__law_sum => k_is)
    (case c__law_sum => k_is)
    (case k__law_sum => k_is)
    (case a_law => k_is)
    (case l_law => k_is)
    (case c_law => k_is)
    (case k_law => k_is)
    (case pg_Scene => k_is)
    (case hd_Scene => k_is)
    (case po_Scene => k_is)
    (case sa_Scene => k_is)
    (case ca_Scene => k_is)
    (case cm_Scene => k_is)
    (case mk_Scene => k_is)
    (case kc_Scene => k_is)
    (case na_Scene_picture => k_is)
    (case na_Scene_web => k_is)
    (case kb_Scene_bool => kit_is)
    (case kb_Scene_int => kit_is)
    (case kb_Scene_list => kit_is)
    (case kb_Scene_tuple => kit_is)
    (case pg_Web => k_is)
    (case hd_Web => k_is)
    (case po_Web => k_is)
    (case sa_Web => k_is)
    (case ca_Web => k_is)
    (case cm_Web => k_is)
    (case mk_Web => k_is)
    (case kc_Web => k_is)
    (case na_Web_around => k_is)
    (case na_Web_lines => k_is)
    (case na_Web_size => k_is)
    (case kb_Web_bool => kit_is)
    (case kb_Web_int => kit_is)
    (case kb_Web_list => kit_is)
    (case kb_Web_tuple => kit_is)
    (case cn => k_is)
    (case ctk => k_is)
    (case z_bool => k_is)
    (case z_enumerate => k_is)
    (case z_int => k_is)
    (case z_isinstance => k_is)
    (case z_len => k_is)
    (case z_list => k_is)
    (case z_max => k_is)
    (case z_min => k_is)
    (case z_range => k_is)
    (case z_sorted => k_is)
    (case z_sum => k_is)
    (case z_tuple => k_is)
    (case z_zip => k_is)
end
