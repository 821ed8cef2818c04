import PyProof.Rows.All
import Wide.All
import OpenK.AllK
import Wide.FinOn
import HandS.ForMost
import HandS.Deep
import HandS.TupAny
import HandS.Style
import HandS.IsInst
import HandS.SortInts
import HandS.SortRule
import HandS.Replace
import HandS.Strs
import HandS.SetFor
import HandS.Zip
import HandS.Conv
import HandS.DictTup
import KE.GoesMore
import KE.GoesEnum
import HandS.ExcIs
import HandS.WordsExc
import HandS.TryOnly
import KE.KDictDisplayH
import PyProof.StrOps2
import PySem.Challenge.RW_chipgate_k66_resets_and_pairs_that_never
set_option Elab.async false
set_option linter.all false
set_option maxRecDepth 100000
set_option maxHeartbeats 4000000
/-! DL: a calculus over plain data (PyData) on top of the hand layer: what an expression, a statement does, told without addresses -/
namespace DL
open PySem L2
abbrev Fr := PySem.W.Frag

/-! ### heaps -/
def Ex (H H' : Hp) : Prop := ∀ b o, H b = some o → H' b = some o
theorem Ex.refl (H : Hp) : Ex H H := fun _ _ h => h
theorem Ex.trans {H H1 H2 : Hp} (a : Ex H H1) (b : Ex H1 H2) : Ex H H2 := fun c o h => b c o (a c o h)
theorem Ex.new {H : Hp} {p : Addr} {o : HO} (h : H p = none) : Ex H (upd H p o) := fun a u e => by
  rw [upd_ne (ne_of_none e h)]
  exact e
theorem Ex.free {H H' : Hp} (e : Ex H H') {l : Addr} (h : H' l = none) : H l = none := by
  cases q : H l with
  | none => rfl
  | some o =>
    rw [e l o q] at h
    cases h
/-- both grow by the same -/
theorem Ex.both {F H : Hp} (e : Ex F H) (p : Addr) (o : HO) : Ex (upd F p o) (upd H p o) := fun a u h => by
  by_cases ha : a = p
  · subst ha
    rw [upd_same] at h
    rw [upd_same, h]
  · rw [upd_ne ha] at h
    rw [upd_ne ha]
    exact e a u h
/-- what is not frozen changes -/
theorem Ex.mut {F H : Hp} (e : Ex F H) {p : Addr} (h : F p = none) (o : HO) : Ex F (upd H p o) := fun a u q => by
  rw [upd_ne (ne_of_none q h)]
  exact e a u q
/-- what stands is frozen -/
theorem Ex.frz {F H : Hp} (e : Ex F H) {p : Addr} {o : HO} (h : H p = some o) : Ex (upd F p o) H := fun a u q => by
  by_cases ha : a = p
  · subst ha
    rw [upd_same] at q
    rw [h, q]
  · rw [upd_ne ha] at q
    exact e a u q
theorem rd_mono {H H' : Hp} {a : Addr} {u : HO} (e : Ex H H') (h : Rd H a u) : Rd H' a u := by
  rcases h with h | ⟨o, h⟩
  · exact .inl (e a _ h)
  · exact .inr ⟨o, e a _ h⟩
theorem sl_mono {K : Fr} {H H' : Hp} {a : Addr} {xs : List V} (e : Ex H H') (h : SqL K H a xs) : SqL K H' a xs := by
  rcases h with h | h
  · exact .inl (rd_mono e h)
  · exact .inr h
theorem st_mono {K : Fr} {H H' : Hp} {a : Addr} {xs : List V} (e : Ex H H') (h : SqT K H a xs) : SqT K H' a xs := by
  rcases h with h | h
  · exact .inl (rd_mono e h)
  · exact .inr h
mutual
/-- v is the data d: its lists and tuples stand in H themselves -/
inductive Dq (K : Fr) (H : Hp) : V → PyData → Prop
  | non : Dq K H .non .none
  | bl (b : Bool) : Dq K H (.bl b) (.bool b)
  | int (i : Int) : Dq K H (.int i) (.int i)
  | str (x : Str) : Dq K H (.str x) (.str x)
  | lst {a : Addr} {xs : List V} {ds : List PyData} : H a = some (.lst xs) → DqAll K H xs ds → Dq K H (.ref a) (.list ds)
  | tup {a : Addr} {xs : List V} {ds : List PyData} : H a = some (.tup xs) → DqAll K H xs ds → Dq K H (.ref a) (.tuple ds)
inductive DqAll (K : Fr) (H : Hp) : List V → List PyData → Prop
  | nil : DqAll K H [] []
  | cons {v : V} {vs : List V} {d : PyData} {ds : List PyData} : Dq K H v d → DqAll K H vs ds → DqAll K H (v :: vs) (d :: ds)
end
mutual
theorem dq_dp {K : Fr} {H : Hp} : ∀ {v : V} {d : PyData}, Dq K H v d → L2.Dp K H v d
  | _, _, .non => .non
  | _, _, .bl b => .bl b
  | _, _, .int i => .int i
  | _, _, .str x => .str x
  | _, _, .lst h a => .lst (SqL.of h) (dqa_dp a)
  | _, _, .tup h a => .tup (SqT.of h) (dqa_dp a)
theorem dqa_dp {K : Fr} {H : Hp} : ∀ {vs : List V} {ds : List PyData}, DqAll K H vs ds → L2.DpAll K H vs ds
  | _, _, .nil => .nil
  | _, _, .cons h a => .cons (dq_dp h) (dqa_dp a)
end
mutual
theorem dp_mono {K : Fr} {H H' : Hp} (e : Ex H H') : ∀ {v : V} {d : PyData}, Dq K H v d → Dq K H' v d
  | _, _, .non => .non
  | _, _, .bl b => .bl b
  | _, _, .int i => .int i
  | _, _, .str x => .str x
  | _, _, .lst h a => .lst (e _ _ h) (da_mono e a)
  | _, _, .tup h a => .tup (e _ _ h) (da_mono e a)
theorem da_mono {K : Fr} {H H' : Hp} (e : Ex H H') : ∀ {vs : List V} {ds : List PyData}, DqAll K H vs ds → DqAll K H' vs ds
  | _, _, .nil => .nil
  | _, _, .cons h a => .cons (dp_mono e h) (da_mono e a)
end
section
variable {K : Fr} {H : Hp}
theorem da_len : ∀ {vs : List V} {ds : List PyData}, DqAll K H vs ds → vs.length = ds.length
  | _, _, .nil => rfl
  | _, _, .cons _ a => congrArg (· + 1) (da_len a)
theorem da_app : ∀ {vs ws : List V} {ds es : List PyData}, DqAll K H vs ds → DqAll K H ws es → DqAll K H (vs ++ ws) (ds ++ es)
  | _, _, _, _, .nil, b => b
  | _, _, _, _, .cons h a, b => .cons h (da_app a b)
theorem da_get : ∀ {vs : List V} {ds : List PyData} {i : Nat} {d : PyData}, DqAll K H vs ds → ds[i]? = some d → ∃ v, vs[i]? = some v ∧ Dq K H v d
  | _, _, _, _, .nil, e => by simp at e
  | _, _, 0, _, .cons h _, e => by
    simp at e
    subst e
    exact ⟨_, rfl, h⟩
  | _, _, i + 1, _, .cons _ a, e => by
    obtain ⟨v, h1, h2⟩ := da_get (i := i) a (by simpa using e)
    exact ⟨v, by simpa using h1, h2⟩
theorem da_get' : ∀ {vs : List V} {ds : List PyData} {i : Nat} {v : V}, DqAll K H vs ds → vs[i]? = some v → ∃ d, ds[i]? = some d ∧ Dq K H v d
  | _, _, _, _, .nil, e => by simp at e
  | _, _, 0, _, .cons h _, e => by
    simp at e
    subst e
    exact ⟨_, rfl, h⟩
  | _, _, i + 1, _, .cons _ a, e => by
    obtain ⟨v, h1, h2⟩ := da_get' (i := i) a (by simpa using e)
    exact ⟨v, by simpa using h1, h2⟩
theorem da_set : ∀ {vs : List V} {ds : List PyData} (i : Nat) {v : V} {d : PyData}, DqAll K H vs ds → Dq K H v d → DqAll K H (vs.set i v) (ds.set i d)
  | _, _, _, _, _, .nil, _ => .nil
  | _, _, 0, _, _, .cons _ a, h => .cons h a
  | _, _, i + 1, _, _, .cons h a, h' => .cons h (da_set i a h')
theorem da_take : ∀ {vs : List V} {ds : List PyData} (n : Nat), DqAll K H vs ds → DqAll K H (vs.take n) (ds.take n)
  | _, _, 0, _ => .nil
  | _, _, _ + 1, .nil => .nil
  | _, _, n + 1, .cons h a => .cons h (da_take n a)
theorem da_drop : ∀ {vs : List V} {ds : List PyData} (n : Nat), DqAll K H vs ds → DqAll K H (vs.drop n) (ds.drop n)
  | _, _, 0, a => a
  | _, _, _ + 1, .nil => .nil
  | _, _, n + 1, .cons _ a => da_drop n a
theorem da_erase : ∀ {vs : List V} {ds : List PyData} (i : Nat), DqAll K H vs ds → DqAll K H (vs.eraseIdx i) (ds.eraseIdx i)
  | _, _, _, .nil => .nil
  | _, _, 0, .cons _ a => a
  | _, _, i + 1, .cons h a => .cons h (da_erase i a)
theorem da_rev : ∀ {vs : List V} {ds : List PyData}, DqAll K H vs ds → DqAll K H vs.reverse ds.reverse
  | _, _, .nil => .nil
  | _, _, .cons h a => by
    rw [List.reverse_cons, List.reverse_cons]
    exact da_app (da_rev a) (.cons h .nil)
theorem da_ints : ∀ ns : List Int, DqAll K H (ns.map V.int) (ns.map PyData.int)
  | [] => .nil
  | n :: r => .cons (.int n) (da_ints r)
theorem da_strs : ∀ ns : List Str, DqAll K H (ns.map V.str) (ns.map PyData.str)
  | [] => .nil
  | n :: r => .cons (.str n) (da_strs r)
theorem da_bls : ∀ ns : List Bool, DqAll K H (ns.map V.bl) (ns.map PyData.bool)
  | [] => .nil
  | n :: r => .cons (.bl n) (da_bls r)
theorem da_ints_eq : ∀ {vs : List V} {ns : List Int}, DqAll K H vs (ns.map PyData.int) → vs = ns.map V.int
  | _, [], .nil => rfl
  | _, n :: r, .cons h a => by
    cases h
    rw [da_ints_eq a]
    rfl
theorem da_strs_eq : ∀ {vs : List V} {ns : List Str}, DqAll K H vs (ns.map PyData.str) → vs = ns.map V.str
  | _, [], .nil => rfl
  | _, n :: r, .cons h a => by
    cases h
    rw [da_strs_eq a]
    rfl
theorem da_bls_eq : ∀ {vs : List V} {ns : List Bool}, DqAll K H vs (ns.map PyData.bool) → vs = ns.map V.bl
  | _, [], .nil => rfl
  | _, n :: r, .cons h a => by
    cases h
    rw [da_bls_eq a]
    rfl
theorem dp_int {v : V} {i : Int} (h : Dq K H v (.int i)) : v = .int i := by cases h; rfl
theorem dp_str {v : V} {i : Str} (h : Dq K H v (.str i)) : v = .str i := by cases h; rfl
theorem dp_bl {v : V} {i : Bool} (h : Dq K H v (.bool i)) : v = .bl i := by cases h; rfl
theorem dp_non {v : V} (h : Dq K H v .none) : v = .non := by cases h; rfl
theorem dp_lst {v : V} {ds : List PyData} (h : Dq K H v (.list ds)) : ∃ a vs, v = .ref a ∧ H a = some (.lst vs) ∧ DqAll K H vs ds := by
  cases h with
  | lst s a => exact ⟨_, _, rfl, s, a⟩
theorem dp_tup {v : V} {ds : List PyData} (h : Dq K H v (.tuple ds)) : ∃ a vs, v = .ref a ∧ H a = some (.tup vs) ∧ DqAll K H vs ds := by
  cases h with
  | tup s a => exact ⟨_, _, rfl, s, a⟩
end

/-! ### what a slot holds -/
structure Orel where
  rel : Hp → Hp → V → (Addr → Prop) → Prop
  stab : ∀ {F H F' H' : Hp} {v : V} {A : Addr → Prop}, rel F H v A → Ex F F' → (∀ a, A a → H' a = H a) → rel F' H' v A
/-- d: frozen data; o: a list that this def alone has (q: its address, where it is told); t: a dict (keys are tuples) that it alone has; k: keys are ints, texts; ow: anything else that it alone has -/
inductive Sl where
  | un
  | d (d : PyData)
  | o (q : Option Addr) (ds : List PyData)
  | t (kvs : List (List Key × PyData))
  | k (kvs : List (Key × PyData))
  | ow (R : Orel)
abbrev En := List Sl
def SvR (K : Fr) (F H : Hp) (v : V) (A : Addr → Prop) : Sl → Prop
  | .un => True
  | .d d => Dq K F v d
  | .o q ds => ∃ p vs, v = .ref p ∧ H p = some (.lst vs) ∧ DqAll K F vs ds ∧ A p ∧ ∀ a, q = some a → p = a
  | .t kvs => ∃ p kws, v = .ref p ∧ H p = some (.dT kws) ∧ kws.map (·.1) = kvs.map (·.1) ∧ DqAll K F (kws.map (·.2)) (kvs.map (·.2)) ∧ A p
  | .k kvs => ∃ p kws, v = .ref p ∧ H p = some (.dK kws) ∧ kws.map (·.1) = kvs.map (·.1) ∧ DqAll K F (kws.map (·.2)) (kvs.map (·.2)) ∧ A p
  | .ow R => R.rel F H v A
theorem slr_stab {K : Fr} {F H F' H' : Hp} {v : V} {A : Addr → Prop} : ∀ {s : Sl}, SvR K F H v A s → Ex F F' → (∀ a, A a → H' a = H a) → SvR K F' H' v A s
  | .un, _, _, _ => trivial
  | .d _, h, e, _ => dp_mono e h
  | .o _ _, ⟨p, vs, h1, h2, h3, h4, h5⟩, e, k => ⟨p, vs, h1, by rw [k p h4]; exact h2, da_mono e h3, h4, h5⟩
  | .t _, ⟨p, vs, h1, h2, h3, h5, h4⟩, e, k => ⟨p, vs, h1, by rw [k p h4]; exact h2, h3, da_mono e h5, h4⟩
  | .k _, ⟨p, vs, h1, h2, h3, h5, h4⟩, e, k => ⟨p, vs, h1, by rw [k p h4]; exact h2, h3, da_mono e h5, h4⟩
  | .ow R, h, e, k => R.stab h e k

/-- F0, H0: what was frozen, what stood at the def's entry; mu: what it may change of it -/
structure Bs where
  F0 : Hp
  H0 : Hp
  mu : Addr → Prop
structure Iv (K : Fr) (B : Bs) (G : En) (S : St) (F H : Hp) : Prop where
  ex : Ex F H
  f0 : Ex B.F0 F
  fr : ∀ b o, B.H0 b = some o → ¬ B.mu b → H b = some o
  nw : ∀ b o, F b = some o → B.H0 b ≠ none → B.F0 b ≠ none ∨ B.mu b
  st : ∀ b, B.H0 b ≠ none → H b ≠ none
  len : S.length = G.length
  own : ∃ A : Nat → Addr → Prop, (∀ i s, G[i]? = some s → s = .un ∨ ∃ v, S[i]? = some (some v) ∧ SvR K F H v (A i) s) ∧ (∀ i j a, A i a → A j a → i = j) ∧
    (∀ i a, A i a → F a = none ∧ H a ≠ none ∧ (B.H0 a = none ∨ B.mu a))
section
variable {K : Fr} {B : Bs} {G : En} {S : St} {F H F' H' : Hp} {v : V} {d : PyData} {p : Addr}
theorem Iv.dat (I : Iv K B G S F H) {i : Nat} (h : G[i]? = some (.d d)) : ∃ v, S[i]? = some (some v) ∧ Dq K F v d := by
  obtain ⟨A, h1, _, _⟩ := I.own
  rcases h1 i _ h with e | h1
  · cases e
  · exact h1
theorem Iv.lst (I : Iv K B G S F H) {i : Nat} {q : Option Addr} {ds : List PyData} (h : G[i]? = some (.o q ds)) : ∃ p vs, S[i]? = some (some (.ref p)) ∧ H p = some (.lst vs) ∧ F p = none ∧ DqAll K F vs ds := by
  obtain ⟨A, h1, _, h3⟩ := I.own
  rcases h1 i _ h with e | ⟨v, h1, p, vs, rfl, h5, h6, h7, _⟩
  · cases e
  · exact ⟨p, vs, h1, h5, (h3 i p h7).1, h6⟩
theorem Iv.new0 (I : Iv K B G S F H) (hp : H p = none) : B.H0 p = none := by
  cases q : B.H0 p with
  | none => rfl
  | some o => exact absurd hp (I.st p (by rw [q]; intro z; cases z))
theorem Iv.fnone (I : Iv K B G S F H) (hp : H p = none) : F p = none := I.ex.free hp
theorem set_same {G : En} {s s' : Sl} {i : Nat} (hj : (G.set i s)[i]? = some s') : s' = s ∧ i < G.length := by
  have hl : i < G.length := by
    have := (List.getElem?_eq_some_iff.mp hj).1
    simpa using this
  rw [List.getElem?_set_self hl] at hj
  exact ⟨(Option.some.inj hj).symm, hl⟩
/-- a slot gets data -/
theorem Iv.set_d (I : Iv K B G S F H) (i : Nat) (h : Dq K F v d) : Iv K B (G.set i (.d d)) (S.set i (some v)) F H := by
  obtain ⟨A, h1, h2, h3⟩ := I.own
  refine ⟨I.ex, I.f0, I.fr, I.nw, I.st, by simpa using I.len, A, fun j s hj => ?_, h2, h3⟩
  by_cases e : i = j
  · subst e
    obtain ⟨rfl, hl⟩ := set_same hj
    exact .inr ⟨v, List.getElem?_set_self (by rw [I.len]; exact hl), h⟩
  · rw [List.getElem?_set_ne e] at hj
    rw [List.getElem?_set_ne e]
    exact h1 j s hj
/-- a slot is forgotten -/
theorem Iv.set_un (I : Iv K B G S F H) (i : Nat) (x : Option V) : Iv K B (G.set i .un) (S.set i x) F H := by
  obtain ⟨A, h1, h2, h3⟩ := I.own
  refine ⟨I.ex, I.f0, I.fr, I.nw, I.st, by simpa using I.len, A, fun j s hj => ?_, h2, h3⟩
  by_cases e : i = j
  · subst e
    exact .inl (set_same hj).1
  · rw [List.getElem?_set_ne e] at hj
    rw [List.getElem?_set_ne e]
    exact h1 j s hj
/-- F grows by objects that no slot has -/
theorem Iv.grow (I : Iv K B G S F H) (eF : Ex F F') (eH : Ex H H') (ex : Ex F' H') (nw : ∀ b o, F' b = some o → F b = none → H b = none) : Iv K B G S F' H' := by
  obtain ⟨A, h1, h2, h3⟩ := I.own
  have hs : ∀ i a, A i a → F' a = none ∧ H' a = H a := fun i a ha => by
    obtain ⟨x, y, _⟩ := h3 i a ha
    refine ⟨?_, ?_⟩
    · cases q : F' a with
      | none => rfl
      | some o => exact absurd (nw a o q x) y
    · cases q : H a with
      | none => exact absurd q y
      | some o => exact eH a o q
  refine ⟨ex, I.f0.trans eF, fun b o h m => eH b o (I.fr b o h m), fun b o h n => ?_, fun b h => ?_, I.len, A, fun i s hi => ?_, h2, fun i a ha => ?_⟩
  · cases q : F b with
    | some u => exact I.nw b u q n
    | none => exact absurd (I.new0 (nw b o h q)) n
  · intro z
    exact I.st b h (Ex.free eH z)
  · rcases h1 i s hi with z | ⟨u, z1, z2⟩
    · exact .inl z
    · exact .inr ⟨u, z1, slr_stab z2 eF fun a ha => (hs i a ha).2⟩
  · refine ⟨(hs i a ha).1, ?_, (h3 i a ha).2.2⟩
    rw [(hs i a ha).2]
    exact (h3 i a ha).2.1
/-- a new object, frozen -/
theorem Iv.newF (I : Iv K B G S F H) (hp : H p = none) (o : HO) : Iv K B G S (upd F p o) (upd H p o) := by
  refine I.grow (Ex.new (I.fnone hp)) (Ex.new hp) (I.ex.both p o) fun b u h n => ?_
  by_cases e : b = p
  · subst e
    exact hp
  · rw [upd_ne e] at h
    rw [h] at n
    cases n
/-- a new object that nobody has -/
theorem Iv.newH (I : Iv K B G S F H) (hp : H p = none) (o : HO) : Iv K B G S F (upd H p o) := by
  refine I.grow (Ex.refl F) (Ex.new hp) (I.ex.trans (Ex.new hp)) fun b u h n => ?_
  rw [h] at n
  cases n
theorem app_get {α : Type} {G : List α} {s s' : α} {i : Nat} (h : (G ++ [s])[i]? = some s') : (i < G.length ∧ G[i]? = some s') ∨ (i = G.length ∧ s' = s) := by
  by_cases hi : i < G.length
  · rw [List.getElem?_append_left hi] at h
    exact .inl ⟨hi, h⟩
  · rw [List.getElem?_append_right (by omega)] at h
    have h2 : i - G.length < 1 := by
      have := (List.getElem?_eq_some_iff.mp h).1
      simpa using this
    have e : i - G.length = 0 := by omega
    rw [e] at h
    exact .inr ⟨by omega, (Option.some.inj h).symm⟩
/-- the last slot is dropped -/
theorem Iv.drop {s : Sl} {x : Option V} (I : Iv K B (G ++ [s]) (S ++ [x]) F H) : Iv K B G S F H := by
  obtain ⟨A, h1, h2, h3⟩ := I.own
  have hl : S.length = G.length := by
    have := I.len
    simpa using this
  refine ⟨I.ex, I.f0, I.fr, I.nw, I.st, hl, A, fun i s hi => ?_, h2, h3⟩
  have hlt := (List.getElem?_eq_some_iff.mp hi).1
  rcases h1 i s (by rw [List.getElem?_append_left hlt]; exact hi) with z | ⟨u, z1, z2⟩
  · exact .inl z
  · exact .inr ⟨u, by rw [List.getElem?_append_left (by omega)] at z1; exact z1, z2⟩
/-- the last slot's thing goes to slot i -/
theorem Iv.move {s : Sl} {x : Option V} (I : Iv K B (G ++ [s]) (S ++ [x]) F H) (i : Nat) : Iv K B (G.set i s) (S.set i x) F H := by
  obtain ⟨A, h1, h2, h3⟩ := I.own
  have hl : S.length = G.length := by
    have := I.len
    simpa using this
  refine ⟨I.ex, I.f0, I.fr, I.nw, I.st, by simpa using hl, fun j a => (j = i ∧ A G.length a) ∨ (j ≠ i ∧ j < G.length ∧ A j a), fun j s' hj => ?_, fun j k a ha hb => ?_, fun j a ha => ?_⟩
  · by_cases e : i = j
    · subst e
      obtain ⟨rfl, hl2⟩ := set_same hj
      rcases h1 G.length s' (by simp) with z | ⟨u, z1, z2⟩
      · exact .inl z
      · refine .inr ⟨u, ?_, ?_⟩
        · rw [← hl] at z1
          have : (S ++ [x])[S.length]? = some x := by simp
          rw [this] at z1
          rw [List.getElem?_set_self (by omega)]
          exact z1
        · have ea : (fun a => (i = i ∧ A G.length a) ∨ (i ≠ i ∧ i < G.length ∧ A i a)) = A G.length := by
            funext a
            exact propext ⟨fun z => z.elim (fun z => z.2) fun z => absurd rfl z.1, fun z => .inl ⟨rfl, z⟩⟩
          show SvR K F H u (fun a => (i = i ∧ A G.length a) ∨ (i ≠ i ∧ i < G.length ∧ A i a)) s'
          rw [ea]
          exact z2
    · rw [List.getElem?_set_ne e] at hj
      have hlt := (List.getElem?_eq_some_iff.mp hj).1
      rcases h1 j s' (by rw [List.getElem?_append_left hlt]; exact hj) with z | ⟨u, z1, z2⟩
      · exact .inl z
      · refine .inr ⟨u, ?_, ?_⟩
        · rw [List.getElem?_append_left (by omega)] at z1
          rw [List.getElem?_set_ne e]
          exact z1
        · have ea : (fun a => (j = i ∧ A G.length a) ∨ (j ≠ i ∧ j < G.length ∧ A j a)) = A j := by
            funext a
            exact propext ⟨fun z => z.elim (fun z => absurd z.1 (Ne.symm e)) fun z => z.2.2, fun z => .inr ⟨Ne.symm e, hlt, z⟩⟩
          show SvR K F H u (fun a => (j = i ∧ A G.length a) ∨ (j ≠ i ∧ j < G.length ∧ A j a)) s'
          rw [ea]
          exact z2
  · rcases ha with ⟨e1, q1⟩ | ⟨e1, l1, q1⟩ <;> rcases hb with ⟨e2, q2⟩ | ⟨e2, l2, q2⟩
    · rw [e1, e2]
    · have := h2 _ _ _ q1 q2
      omega
    · have := h2 _ _ _ q1 q2
      omega
    · exact h2 _ _ _ q1 q2
  · rcases ha with ⟨e1, q1⟩ | ⟨e1, l1, q1⟩
    · exact h3 _ _ q1
    · exact h3 _ _ q1
/-- what stands grows; a new thing is the last slot's -/
theorem Iv.add {s : Sl} (I : Iv K B G S F H) (eF : Ex F F') (eH : Ex H H') (ex : Ex F' H') (nw : ∀ b o, F' b = some o → F b = none → H b = none) (x : Option V) (A0 : Addr → Prop) (hr : s = .un ∨ ∃ v, x = some v ∧ SvR K F' H' v A0 s)
    (hn : ∀ a, A0 a → H a = none ∧ F' a = none ∧ H' a ≠ none) : Iv K B (G ++ [s]) (S ++ [x]) F' H' := by
  obtain ⟨A, h1, h2, h3⟩ := I.own
  have hs : ∀ i a, A i a → F' a = none ∧ H' a = H a := fun i a ha => by
    obtain ⟨x, y, _⟩ := h3 i a ha
    refine ⟨?_, ?_⟩
    · cases q : F' a with
      | none => rfl
      | some o => exact absurd (nw a o q x) y
    · cases q : H a with
      | none => exact absurd q y
      | some o => exact eH a o q
  have Ig := I.grow eF eH ex nw
  refine ⟨ex, Ig.f0, Ig.fr, Ig.nw, Ig.st, by simp [I.len], fun j a => (j < G.length ∧ A j a) ∨ (j = G.length ∧ A0 a), fun i s' hi => ?_, fun j k a ha hb => ?_, fun i a ha => ?_⟩
  · rcases app_get hi with ⟨hl, h⟩ | ⟨hl, e⟩
    · rcases h1 i s' h with z | ⟨u, z1, z2⟩
      · exact .inl z
      · refine .inr ⟨u, by rw [List.getElem?_append_left (by rw [I.len]; exact hl)]; exact z1, ?_⟩
        have ea : (fun a => (i < G.length ∧ A i a) ∨ (i = G.length ∧ A0 a)) = A i := by
          funext a
          exact propext ⟨fun z => z.elim (fun z => z.2) fun z => by omega, fun z => .inl ⟨hl, z⟩⟩
        show SvR K F' H' u (fun a => (i < G.length ∧ A i a) ∨ (i = G.length ∧ A0 a)) s'
        rw [ea]
        exact slr_stab z2 eF fun a ha => (hs i a ha).2
    · subst e hl
      rcases hr with z | ⟨v, e, z⟩
      · exact .inl z
      · refine .inr ⟨v, ?_, ?_⟩
        · rw [← I.len, e]
          simp
        · have ea : (fun a => (G.length < G.length ∧ A G.length a) ∨ (G.length = G.length ∧ A0 a)) = A0 := by
            funext a
            exact propext ⟨fun z => z.elim (fun z => by omega) fun z => z.2, fun z => .inr ⟨rfl, z⟩⟩
          show SvR K F' H' v (fun a => (G.length < G.length ∧ A G.length a) ∨ (G.length = G.length ∧ A0 a)) s'
          rw [ea]
          exact z
  · rcases ha with ⟨l1, q1⟩ | ⟨e1, q1⟩ <;> rcases hb with ⟨l2, q2⟩ | ⟨e2, q2⟩
    · exact h2 _ _ _ q1 q2
    · exact absurd (hn a q2).1 (h3 _ _ q1).2.1
    · exact absurd (hn a q1).1 (h3 _ _ q2).2.1
    · rw [e1, e2]
  · rcases ha with ⟨l1, q1⟩ | ⟨e1, q1⟩
    · refine ⟨(hs i a q1).1, ?_, (h3 i a q1).2.2⟩
      rw [(hs i a q1).2]
      exact (h3 i a q1).2.1
    · exact ⟨(hn a q1).2.1, (hn a q1).2.2, .inl (I.new0 (hn a q1).1)⟩
/-- a new list, this def's own -/
theorem Iv.newL {vs : List V} {ds : List PyData} (I : Iv K B G S F H) (hp : H p = none) (h : DqAll K F vs ds) : Iv K B (G ++ [.o none ds]) (S ++ [some (.ref p)]) F (upd H p (.lst vs)) := by
  refine I.add (Ex.refl F) (Ex.new hp) (I.ex.trans (Ex.new hp)) (fun b o h n => ?_) _ (fun a => a = p) (.inr ⟨_, rfl, p, vs, rfl, upd_same, h, rfl, fun a z => by cases z⟩) fun a e => ?_
  · rw [h] at n
    cases n
  · have e : a = p := e
    subst e
    exact ⟨hp, I.fnone hp, by rw [upd_same]; exact fun z => (by cases z)⟩
/-- slot i's list (this def's own) is another one now -/
theorem Iv.mut {i : Nat} {q : Option Addr} {ds ds' : List PyData} {vs' : List V} (I : Iv K B G S F H) (hi : G[i]? = some (.o q ds)) (hS : S[i]? = some (some (.ref p))) (h : DqAll K F vs' ds') : Iv K B (G.set i (.o q ds')) S F (upd H p (.lst vs')) := by
  obtain ⟨A, h1, h2, h3⟩ := I.own
  obtain ⟨u, e1, p', vs, e2, e3, e4, e5, e6⟩ : ∃ v, S[i]? = some (some v) ∧ SvR K F H v (A i) (.o q ds) := (h1 i _ hi).elim (fun z => by cases z) id
  rw [hS] at e1
  cases e1
  cases e2
  obtain ⟨k1, k2, k3⟩ := h3 i p e5
  refine ⟨I.ex.mut k1 _, I.f0, fun b o hb hm => ?_, I.nw, fun b hb => ?_, by simpa using I.len, A, fun j s hj => ?_, h2, fun j a ha => ?_⟩
  · have nb : b ≠ p := fun z => by
      subst z
      rcases k3 with z | z
      · rw [hb] at z
        cases z
      · exact hm z
    rw [upd_ne nb]
    exact I.fr b o hb hm
  · by_cases nb : b = p
    · rw [nb, upd_same]
      exact fun z => by cases z
    · rw [upd_ne nb]
      exact I.st b hb
  · by_cases e : i = j
    · subst e
      obtain ⟨rfl, _⟩ := set_same hj
      exact .inr ⟨_, hS, p, vs', rfl, upd_same, h, e5, e6⟩
    · rw [List.getElem?_set_ne e] at hj
      rcases h1 j s hj with z | ⟨u, z1, z2⟩
      · exact .inl z
      · refine .inr ⟨u, z1, slr_stab z2 (Ex.refl F) fun a ha => ?_⟩
        rw [upd_ne]
        intro z
        subst z
        exact e (h2 _ _ _ e5 ha)
  · obtain ⟨x, y, z⟩ := h3 j a ha
    refine ⟨x, ?_, z⟩
    by_cases na : a = p
    · rw [na, upd_same]
      exact fun z => by cases z
    · rw [upd_ne na]
      exact y
/-- slot i's list is frozen from now on -/
theorem Iv.freeze {i : Nat} {q : Option Addr} {ds : List PyData} (I : Iv K B G S F H) (hi : G[i]? = some (.o q ds)) : ∃ p vs, S[i]? = some (some (.ref p)) ∧ H p = some (.lst vs) ∧ F p = none ∧ Iv K B (G.set i (.d (.list ds))) S (upd F p (.lst vs)) H ∧ Dq K (upd F p (.lst vs)) (.ref p) (.list ds) := by
  obtain ⟨A, h1, h2, h3⟩ := I.own
  obtain ⟨u, e1, p, vs, rfl, e3, e4, e5, _⟩ : ∃ v, S[i]? = some (some v) ∧ SvR K F H v (A i) (.o q ds) := (h1 i _ hi).elim (fun z => by cases z) id
  obtain ⟨k1, k2, k3⟩ := h3 i p e5
  have eF : Ex F (upd F p (.lst vs)) := Ex.new k1
  have hd : Dq K (upd F p (.lst vs)) (.ref p) (.list ds) := .lst upd_same (da_mono eF e4)
  refine ⟨p, vs, e1, e3, k1, ⟨I.ex.frz e3, I.f0.trans eF, I.fr, fun b o hb hn => ?_, I.st, by simpa using I.len, fun j a => j ≠ i ∧ A j a, fun j s hj => ?_, fun j k a ha hb => h2 j k a ha.2 hb.2, fun j a ha => ?_⟩, hd⟩
  · by_cases nb : b = p
    · subst nb
      rcases k3 with z | z
      · exact absurd z hn
      · exact .inr z
    · rw [upd_ne nb] at hb
      exact I.nw b o hb hn
  · by_cases e : i = j
    · subst e
      obtain ⟨rfl, _⟩ := set_same hj
      exact .inr ⟨_, e1, hd⟩
    · rw [List.getElem?_set_ne e] at hj
      rcases h1 j s hj with z | ⟨u, z1, z2⟩
      · exact .inl z
      · refine .inr ⟨u, z1, ?_⟩
        have ea : (fun a => j ≠ i ∧ A j a) = A j := by
          funext a
          exact propext ⟨fun z => z.2, fun z => ⟨Ne.symm e, z⟩⟩
        show SvR K _ H u (fun a => j ≠ i ∧ A j a) s
        rw [ea]
        exact slr_stab z2 eF fun _ _ => rfl
  · obtain ⟨x, y, z⟩ := h3 j a ha.2
    refine ⟨?_, y, z⟩
    rw [upd_ne]
    · exact x
    · intro q
      subst q
      exact ha.1 (h2 _ _ _ ha.2 e5)
/-- the last slot's list is frozen, and the slot is dropped -/
theorem Iv.freezeL {q : Option Addr} {ds : List PyData} (I : Iv K B (G ++ [.o q ds]) (S ++ [some v]) F H) : ∃ F', Ex F F' ∧ Iv K B G S F' H ∧ Dq K F' v (.list ds) := by
  obtain ⟨p, vs, h1, h2, h3, I2, h4⟩ := I.freeze (i := G.length) (q := q) (ds := ds) (by simp)
  have hl : S.length = G.length := by
    have := I.len
    simpa using this
  have hv : v = .ref p := by
    rw [← hl] at h1
    have : (S ++ [some v])[S.length]? = some (some v) := by simp
    rw [this] at h1
    exact Option.some.inj (Option.some.inj h1)
  subst hv
  refine ⟨_, Ex.new h3, ?_, h4⟩
  have e : (G ++ [Sl.o q ds]).set G.length (.d (.list ds)) = G ++ [.d (.list ds)] := by simp
  rw [e] at I2
  exact I2.drop
end

/-! ### what an expression gives: data, or slot i's own thing; or a new thing that nobody has yet -/
inductive W where
  | d (d : PyData)
  | sl (i : Nat)
  | ty (n : String)
inductive Rs where
  | p (w : W)
  | fr (s : Sl)
def Vw (K : Fr) (S : St) (F : Hp) (v : V) : W → Prop
  | .d d => Dq K F v d
  | .sl i => S[i]? = some (some v)
  | .ty n => v = .ty n
theorem Vw.mono {K : Fr} {S : St} {F F' : Hp} {v : V} : ∀ {w : W}, Vw K S F v w → Ex F F' → Vw K S F' v w
  | .d _, h, e => dp_mono e h
  | .sl _, h, _ => h
  | .ty _, h, _ => h
def Vr (K : Fr) (B : Bs) (G : En) (S : St) (F H : Hp) (v : V) : Rs → Prop
  | .p w => Iv K B G S F H ∧ Vw K S F v w
  | .fr s => Iv K B (G ++ [s]) (S ++ [some v]) F H
theorem Vr.iv {K : Fr} {B : Bs} {G : En} {S : St} {F H : Hp} {v : V} : ∀ {r : Rs}, Vr K B G S F H v r → Iv K B G S F H
  | .p _, h => h.1
  | .fr _, h => h.drop
/-- a result that is to last: a new list is frozen -/
def PW : Rs → (W → Prop) → Prop
  | .p w, k => k w
  | .fr (.o _ ds), k => k (.d (.list ds))
  | _, _ => False
theorem pw_ok {K : Fr} {B : Bs} {G : En} {S : St} {F H : Hp} {v : V} {k : W → Prop} : ∀ {r : Rs}, Vr K B G S F H v r → PW r k → ∃ F' w, Ex F F' ∧ Iv K B G S F' H ∧ Vw K S F' v w ∧ k w
  | .p w, h, q => ⟨F, w, Ex.refl F, h.1, h.2, q⟩
  | .fr (.o _ ds), h, q => by
    obtain ⟨F', e, I, r⟩ := Iv.freezeL h
    exact ⟨F', .d (.list ds), e, I, r, q⟩
  | .fr .un, _, q => q.elim
  | .fr (.d _), _, q => q.elim
  | .fr (.t _), _, q => q.elim
  | .fr (.k _), _, q => q.elim
  | .fr (.ow _), _, q => q.elim
abbrev Po := En → Rs → Prop
def Ct (K : Fr) (B : Bs) (S : St) (F : Hp) (P : Po) (Q : VK) : Prop := ∀ v F' H' G' r, Ex F F' → Vr K B G' S F' H' v r → P G' r → Q v H'
theorem Ct.mono {K : Fr} {B : Bs} {S : St} {F F' : Hp} {P : Po} {Q : VK} (k : Ct K B S F P Q) (e : Ex F F') : Ct K B S F' P Q := fun v F1 H1 G1 r e1 I q => k v F1 H1 G1 r (e.trans e1) I q
/-- an expression; a test; arguments -/
def DW (K : Fr) (B : Bs) (G : En) (te : TE) (P : Po) : Prop := ∀ S F H Q, Iv K B G S F H → Ct K B S F P Q → te S H Q
def DT (K : Fr) (B : Bs) (G : En) (tt : TT) (P : En → Bool → Prop) : Prop := ∀ S F H (Q : Bool → Hp → Prop), Iv K B G S F H → (∀ b F' H' G', Ex F F' → Iv K B G' S F' H' → P G' b → Q b H') → tt S H Q
def Vws (K : Fr) (S : St) (F : Hp) : List V → List W → Prop := Paired (Vw K S F)
theorem Vws.mono {K : Fr} {S : St} {F F' : Hp} (e : Ex F F') : ∀ {vs : List V} {ws : List W}, Vws K S F vs ws → Vws K S F' vs ws
  | _, _, .nil => .nil
  | _, _, .cons h t => .cons (h.mono e) (Vws.mono e t)
def DA (K : Fr) (B : Bs) (G : En) (ta : TA) (P : En → List W → Prop) : Prop := ∀ S F H (Q : List V → Hp → Prop), Iv K B G S F H → (∀ vs F' H' G' ws, Ex F F' → Iv K B G' S F' H' → Vws K S F' vs ws → P G' ws → Q vs H') → ta S H Q
/-- operations by values -/
def RW2 (K : Fr) (B : Bs) (G : En) (r : R2) (w1 w2 : W) (P : Po) : Prop := ∀ S F H Q v1 v2, Iv K B G S F H → Vw K S F v1 w1 → Vw K S F v2 w2 → Ct K B S F P Q → r v1 v2 H Q
def RW1 (K : Fr) (B : Bs) (G : En) (r : V → Hp → VK → Prop) (w1 : W) (P : Po) : Prop := ∀ S F H Q v1, Iv K B G S F H → Vw K S F v1 w1 → Ct K B S F P Q → r v1 H Q
def RWn (K : Fr) (B : Bs) (G : En) (r : List V → Hp → VK → Prop) (ws : List W) (P : Po) : Prop := ∀ S F H Q vs, Iv K B G S F H → Vws K S F vs ws → Ct K B S F P Q → r vs H Q
def RWm (K : Fr) (B : Bs) (G : En) (r : V → List V → Hp → VK → Prop) (w : W) (ws : List W) (P : Po) : Prop := ∀ S F H Q v vs, Iv K B G S F H → Vw K S F v w → Vws K S F vs ws → Ct K B S F P Q → r v vs H Q
section
variable {K : Fr} {B : Bs} {G : En} {ta tb te : TE} {P : Po} {r : R2}
/-- the end of a rule: a value that is data, no heap changed -/
theorem ct_d {S : St} {F H : Hp} {Q : VK} {v : V} {d : PyData} (k : Ct K B S F P Q) (I : Iv K B G S F H) (h : Dq K F v d) (p : P G (.p (.d d))) : Q v H := k v F H G (.p (.d d)) (Ex.refl F) ⟨I, h⟩ p
theorem ct_L {S : St} {F H : Hp} {Q : VK} {p : Addr} {vs : List V} {ds : List PyData} (k : Ct K B S F P Q) (I : Iv K B G S F H) (hp : H p = none) (h : DqAll K F vs ds) (q : P G (.fr (.o none ds))) : Q (.ref p) (upd H p (.lst vs)) :=
  k _ F _ G (.fr (.o none ds)) (Ex.refl F) (I.newL hp h) q
theorem ct_T {S : St} {F H : Hp} {Q : VK} {p : Addr} {vs : List V} {ds : List PyData} (k : Ct K B S F P Q) (I : Iv K B G S F H) (hp : H p = none) (h : DqAll K F vs ds) (q : P G (.p (.d (.tuple ds)))) : Q (.ref p) (upd H p (.tup vs)) :=
  k _ (upd F p (.tup vs)) _ G (.p (.d (.tuple ds))) (Ex.new (I.fnone hp)) ⟨I.newF hp _, .tup upd_same (da_mono (Ex.new (I.fnone hp)) h)⟩ q
theorem dw_var {i : Nat} {d : PyData} (h : G[i]? = some (.d d)) (q : P G (.p (.d d))) : DW K B G (tVar i) P := fun S F H Q I k => by
  obtain ⟨v, e, r⟩ := I.dat h
  exact ⟨v, e, ct_d k I r q⟩
/-- a name of an own thing -/
theorem dw_sl {i : Nat} {a : Option Addr} {ds : List PyData} (h : G[i]? = some (.o a ds)) (q : P G (.p (.sl i))) : DW K B G (tVar i) P := fun S F H Q I k => by
  obtain ⟨p, vs, e, _⟩ := I.lst h
  exact ⟨_, e, k _ F H G (.p (.sl i)) (Ex.refl F) ⟨I, e⟩ q⟩
theorem dw_int {i : Int} (q : P G (.p (.d (.int i)))) : DW K B G (tC (.int i)) P := fun S F H Q I k => ct_d k I (.int i) q
theorem dw_str {x : Str} (q : P G (.p (.d (.str x)))) : DW K B G (tC (.str x)) P := fun S F H Q I k => ct_d k I (.str x) q
theorem dw_bl {b : Bool} (q : P G (.p (.d (.bool b)))) : DW K B G (tC (.bl b)) P := fun S F H Q I k => ct_d k I (.bl b) q
theorem dw_ty {n : String} (q : P G (.p (.ty n))) : DW K B G (tC (.ty n)) P := fun S F H Q I k => k _ F H G (.p (.ty n)) (Ex.refl F) ⟨I, rfl⟩ q
theorem dw_non (q : P G (.p (.d .none))) : DW K B G (tC .non) P := fun S F H Q I k => ct_d k I .non q
/-- run a part, its result to last -/
theorem dw_run {k' : En → W → Prop} {S : St} {F H : Hp} {Q : VK} (h : DW K B G te fun G1 r1 => PW r1 (k' G1)) (I : Iv K B G S F H) (k : ∀ v F1 H1 G1 w, Ex F F1 → Iv K B G1 S F1 H1 → Vw K S F1 v w → k' G1 w → Q v H1) : te S H Q :=
  h S F H _ I fun v F1 H1 G1 r e1 hr q => by
    obtain ⟨F2, w, e2, I2, hv, q2⟩ := pw_ok hr q
    exact k v F2 H1 G1 w (e1.trans e2) I2 hv q2
theorem dw_op (h : DW K B G ta fun G1 r1 => PW r1 fun w1 => DW K B G1 tb fun G2 r2 => PW r2 fun w2 => RW2 K B G2 r w1 w2 P) : DW K B G (tOp r ta tb) P := fun S F H Q I k => by
  show ta S H fun x H1 => tb S H1 fun y H2 => r x y H2 Q
  refine dw_run (k' := fun G1 w1 => DW K B G1 tb fun G2 r2 => PW r2 fun w2 => RW2 K B G2 r w1 w2 P) h I fun v1 F1 H1 G1 w1 e1 I1 r1 q1 => ?_
  refine dw_run (k' := fun G2 w2 => RW2 K B G2 r w1 w2 P) q1 I1 fun v2 F2 H2 G2 w2 e2 I2 r2 q2 => ?_
  exact q2 S F2 H2 Q v1 v2 I2 (r1.mono e2) r2 (k.mono (e1.trans e2))
theorem dw_un {r : V → Hp → VK → Prop} (h : DW K B G ta fun G1 r1 => PW r1 fun w1 => RW1 K B G1 r w1 P) : DW K B G (tUn r ta) P := fun S F H Q I k => by
  show ta S H fun x H1 => r x H1 Q
  refine dw_run (k' := fun G1 w1 => RW1 K B G1 r w1 P) h I fun v1 F1 H1 G1 w1 e1 I1 r1 q1 => ?_
  exact q1 S F1 H1 Q v1 I1 r1 (k.mono e1)
theorem dw_if {tA : TT} (h : DT K B G tA fun G1 b => if b = true then DW K B G1 ta P else DW K B G1 tb P) : DW K B G (tIf tA ta tb) P := fun S F H Q I k =>
  h S F H _ I fun b F1 H1 G1 e1 I1 q => by
    cases b with
    | true =>
      show ta S H1 Q
      exact q S F1 H1 Q I1 (k.mono e1)
    | false =>
      show tb S H1 Q
      exact q S F1 H1 Q I1 (k.mono e1)
theorem da_nil' {P : En → List W → Prop} (q : P G []) : DA K B G tNil P := fun S F H Q I k => k [] F H G [] (Ex.refl F) I .nil q
theorem da_cons' {tr : TA} {P : En → List W → Prop} (h : DW K B G te fun G1 r1 => PW r1 fun w1 => DA K B G1 tr fun G2 ws => P G2 (w1 :: ws)) : DA K B G (tCons te tr) P := fun S F H Q I k => by
  show te S H fun x H1 => tr S H1 fun xs H2 => Q (x :: xs) H2
  refine dw_run (k' := fun G1 w1 => DA K B G1 tr fun G2 ws => P G2 (w1 :: ws)) h I fun v1 F1 H1 G1 w1 e1 I1 r1 q1 => ?_
  refine q1 S F1 H1 _ I1 fun vs F2 H2 G2 ws e2 I2 r2 q2 => ?_
  exact k _ F2 H2 G2 _ (e1.trans e2) I2 (.cons (r1.mono e2) r2) q2
theorem dw_CB {t : TA} {r : List V → Hp → VK → Prop} (h : DA K B G t fun G1 ws => RWn K B G1 r ws P) : DW K B G (tCB r t) P := fun S F H Q I k =>
  h S F H _ I fun vs F1 H1 G1 ws e1 I1 hv q => q S F1 H1 Q vs I1 hv (k.mono e1)
/-- all the arguments are data -/
def allD : List W → Option (List PyData)
  | [] => some []
  | .d d :: r => (allD r).map (d :: ·)
  | .sl _ :: _ => none
  | .ty _ :: _ => none
theorem allD_ok {S : St} {F : Hp} : ∀ {ws : List W} {ds : List PyData} {vs : List V}, allD ws = some ds → Vws K S F vs ws → DqAll K F vs ds
  | [], _, _, e, .nil => by
    cases e
    exact .nil
  | .d d :: r, _, _, e, .cons h t => by
    simp only [allD, Option.map_eq_some_iff] at e
    obtain ⟨es, e1, rfl⟩ := e
    exact .cons h (allD_ok e1 t)
theorem dw_tup {t : TA} (h : DA K B G t fun G1 ws => ∃ ds, allD ws = some ds ∧ ds.length ≤ sizeLine ∧ P G1 (.p (.d (.tuple ds)))) : DW K B G (tTup t) P := fun S F H Q I k =>
  h S F H _ I fun vs F1 H1 G1 ws e1 I1 hv ⟨ds, e, hl, q⟩ => ⟨by rw [da_len (allD_ok e hv)]; exact hl, fun p hp => ct_T (k.mono e1) I1 hp (allD_ok e hv) q⟩
theorem dw_lst {t : TA} (h : DA K B G t fun G1 ws => ∃ ds, allD ws = some ds ∧ ds.length ≤ sizeLine ∧ P G1 (.fr (.o none ds))) : DW K B G (tLst t) P := fun S F H Q I k =>
  h S F H _ I fun vs F1 H1 G1 ws e1 I1 hv ⟨ds, e, hl, q⟩ => ⟨by rw [da_len (allD_ok e hv)]; exact hl, fun p hp => ct_L (k.mono e1) I1 hp (allD_ok e hv) q⟩
end
end DL
namespace DL
open PySem L2
/-! ### statements -/
structure De where
  nx : En → Prop
  rt : En → Rs → Prop
  bk : En → Prop := fun _ => False
  ct : En → Prop := fun _ => False
structure Cov (K : Fr) (B : Bs) (F0 : Hp) (E : De) (D : Ends) : Prop where
  nx : ∀ S F H G, Ex F0 F → Iv K B G S F H → E.nx G → D.nx S H
  rt : ∀ S F H G v r, Ex F0 F → Vr K B G S F H v r → E.rt G r → D.rt v H
  bk : ∀ S F H G, Ex F0 F → Iv K B G S F H → E.bk G → D.bk S H
  ct : ∀ S F H G, Ex F0 F → Iv K B G S F H → E.ct G → D.ct S H
theorem Cov.mono {K : Fr} {B : Bs} {F0 F1 : Hp} {E : De} {D : Ends} (c : Cov K B F0 E D) (e : Ex F0 F1) : Cov K B F1 E D :=
  ⟨fun S F H G e1 => c.nx S F H G (e.trans e1), fun S F H G v r e1 => c.rt S F H G v r (e.trans e1), fun S F H G e1 => c.bk S F H G (e.trans e1), fun S F H G e1 => c.ct S F H G (e.trans e1)⟩
def DS (K : Fr) (B : Bs) (G : En) (t : TS) (E : De) : Prop := ∀ S F H D, Iv K B G S F H → Cov K B F E D → t D S H
/-- a target; ch: the slots that it may change -/
def DG (K : Fr) (B : Bs) (G : En) (g : TG) (ch : List Nat) (w : W) (P : En → Prop) : Prop := ∀ S F H v (Q : St → Hp → Prop), Iv K B G S F H → Vw K S F v w →
  (∀ S' F' H' G', Ex F F' → Iv K B G' S' F' H' → S'.length = S.length → (∀ k, k ∉ ch → S'[k]? = S[k]?) → P G' → Q S' H') → g v S H Q
def DGs (K : Fr) (B : Bs) (G : En) (g : TGs) (ch : List Nat) (ds : List PyData) (P : En → Prop) : Prop := ∀ S F H vs (Q : St → Hp → Prop), Iv K B G S F H → DqAll K F vs ds →
  (∀ S' F' H' G', Ex F F' → Iv K B G' S' F' H' → S'.length = S.length → (∀ k, k ∉ ch → S'[k]? = S[k]?) → P G' → Q S' H') → g vs S H Q
section
variable {K : Fr} {B : Bs} {G : En} {ta tb te : TE} {P : Po} {r : R2} {E : De} {t u : TS} {tt : TT}
theorem ds_seq (h : DS K B G t { E with nx := fun G1 => DS K B G1 u E }) : DS K B G (tSeq t u) E := fun S F H D I c => by
  show t { D with nx := u D } S H
  exact h S F H _ I ⟨fun S F H G1 e I1 q => q S F H D I1 (c.mono e), c.rt, c.bk, c.ct⟩
theorem ds_next (h : E.nx G) : DS K B G tNext E := fun S F H D I c => c.nx S F H G (Ex.refl F) I h
theorem ds_break (h : E.bk G) : DS K B G tBreak E := fun S F H D I c => c.bk S F H G (Ex.refl F) I h
theorem ds_cont (h : E.ct G) : DS K B G tCont E := fun S F H D I c => c.ct S F H G (Ex.refl F) I h
theorem ds_ret (h : DW K B G te fun G1 r1 => E.rt G1 r1) : DS K B G (tRet te) E := fun S F H D I c => h S F H _ I fun v F1 H1 G1 r1 e1 i1 q => c.rt S F1 H1 G1 v r1 e1 i1 q
theorem ds_retN (h : E.rt G (.p (.d .none))) : DS K B G tRetN E := fun S F H D I c => c.rt S F H G _ (.p (.d .none)) (Ex.refl F) ⟨I, .non⟩ h
theorem ds_drop (h : DW K B G te fun G1 _ => E.nx G1) : DS K B G (tDrop te) E := fun S F H D I c => by
  show te S H fun _ H1 => D.nx S H1
  exact h S F H _ I fun v F1 H1 G1 r1 e1 i1 q => c.nx S F1 H1 G1 e1 i1.iv q
theorem ds_if (h : DT K B G tt fun G1 b => if b = true then DS K B G1 t E else DS K B G1 u E) : DS K B G (tIfS tt t u) E := fun S F H D I c => by
  show tt S H fun b H1 => if b = true then t D S H1 else u D S H1
  refine h S F H _ I fun b F1 H1 G1 e1 I1 q => ?_
  cases b with
  | true =>
    show t D S H1
    exact q S F1 H1 D I1 (c.mono e1)
  | false =>
    show u D S H1
    exact q S F1 H1 D I1 (c.mono e1)
/-- x = e: data; e's own new thing goes to x -/
def AsN (E : De) (G1 : En) (i : Nat) : Rs → Prop
  | .p (.d d) => E.nx (G1.set i (.d d))
  | .p (.sl _) => False
  | .p (.ty _) => False
  | .fr s => E.nx (G1.set i s)
theorem ds_set {i : Nat} (h : DW K B G te fun G1 r1 => AsN E G1 i r1) : DS K B G (tAsg te (gName i)) E := fun S F H D I c => by
  show te S H fun x H1 => D.nx (S.set i (some x)) H1
  refine h S F H _ I fun v F1 H1 G1 r1 e1 i1 q => ?_
  match r1, i1, q with
  | .p (.d d), i1, q => exact c.nx _ F1 H1 _ e1 (i1.1.set_d i i1.2) q
  | .fr s, i1, q => exact c.nx _ F1 H1 _ e1 (i1.move i) q
/-- .. as data from now on -/
theorem ds_setF {i : Nat} (h : DW K B G te fun G1 r1 => PW r1 fun w => ∃ d, w = .d d ∧ E.nx (G1.set i (.d d))) : DS K B G (tAsg te (gName i)) E := fun S F H D I c => by
  show te S H fun x H1 => D.nx (S.set i (some x)) H1
  refine dw_run (k' := fun G1 w => ∃ d, w = .d d ∧ E.nx (G1.set i (.d d))) h I fun v F1 H1 G1 w e1 I1 hv q => ?_
  obtain ⟨d, rfl, q⟩ := q
  exact c.nx _ F1 H1 _ e1 (I1.set_d i hv) q
/-- slot i's own list is data from now on -/
theorem ds_freeze (i : Nat) {a : Option Addr} {ds : List PyData} (hi : G[i]? = some (.o a ds)) (h : DS K B (G.set i (.d (.list ds))) t E) : DS K B G t E := fun S F H D I c => by
  obtain ⟨p, vs, _, _, hp, I2, _⟩ := I.freeze hi
  exact h S _ H D I2 (c.mono (Ex.new hp))
theorem ds_forget (i : Nat) (h : DS K B (G.set i .un) t E) : DS K B G t E := fun S F H D I c => by
  have I2 := I.set_un i ((S[i]?).getD none)
  have e : S.set i ((S[i]?).getD none) = S := by
    apply List.ext_getElem?
    intro k
    by_cases hk : i = k
    · subst hk
      by_cases hl : i < S.length
      · rw [List.getElem?_set_self hl, List.getElem?_eq_getElem hl]
        rfl
      · rw [List.getElem?_eq_none (by simpa using hl), List.getElem?_eq_none (by simpa using hl)]
    · rw [List.getElem?_set_ne hk]
  rw [e] at I2
  exact h S F H D I2 c
/-! ### tests -/
variable {PT : En → Bool → Prop}
theorem dt_test (h : DW K B G te fun G1 r1 => PW r1 fun w => ∃ b, w = .d (.bool b) ∧ PT G1 b) : DT K B G (tTest te) PT := fun S F H Q I k => by
  show te S H fun x H' => ∃ b, x = .bl b ∧ Q b H'
  refine dw_run (k' := fun G1 w => ∃ b, w = .d (.bool b) ∧ PT G1 b) h I fun v F1 H1 G1 w e1 I1 hv q => ?_
  obtain ⟨b, rfl, q⟩ := q
  exact ⟨b, dp_bl hv, k b F1 H1 G1 e1 I1 q⟩
theorem dt_B (h : DW K B G te fun G1 r1 => PW r1 fun w => ∃ b, w = .d (.bool b) ∧ PT G1 b) : DT K B G (tB te) PT := dt_test h
theorem dt_and {tu : TT} (h : DT K B G tt fun G1 b => if b = true then DT K B G1 tu PT else PT G1 false) : DT K B G (tAnd tt tu) PT := fun S F H Q I k => by
  show tt S H fun c H1 => if c = true then tu S H1 Q else Q false H1
  refine h S F H _ I fun b F1 H1 G1 e1 I1 q => ?_
  cases b with
  | true =>
    show tu S H1 Q
    exact q S F1 H1 Q I1 fun b F2 H2 G2 e2 I2 p => k b F2 H2 G2 (e1.trans e2) I2 p
  | false =>
    show Q false H1
    exact k false F1 H1 G1 e1 I1 q
theorem dt_or {tu : TT} (h : DT K B G tt fun G1 b => if b = true then PT G1 true else DT K B G1 tu PT) : DT K B G (tOr tt tu) PT := fun S F H Q I k => by
  show tt S H fun c H1 => if c = true then Q true H1 else tu S H1 Q
  refine h S F H _ I fun b F1 H1 G1 e1 I1 q => ?_
  cases b with
  | true =>
    show Q true H1
    exact k true F1 H1 G1 e1 I1 q
  | false =>
    show tu S H1 Q
    exact q S F1 H1 Q I1 fun b F2 H2 G2 e2 I2 p => k b F2 H2 G2 (e1.trans e2) I2 p
theorem dt_not (h : DT K B G tt fun G1 b => PT G1 (!b)) : DT K B G (tNot tt) PT := fun S F H Q I k => by
  show tt S H fun c H1 => Q (!c) H1
  exact h S F H _ I fun b F1 H1 G1 e1 I1 q => k (!b) F1 H1 G1 e1 I1 q
theorem dt_yes (h : PT G true) : DT K B G tYes PT := fun S F H Q I k => k true F H G (Ex.refl F) I h
/-- what a value is as a test -/
def truD : PyData → Option Bool
  | .none => some false
  | .bool b => some b
  | .int i => some (i != 0)
  | .list ds => some (!ds.isEmpty)
  | .tuple ds => some (!ds.isEmpty)
  | _ => none
theorem emp_eq {α β : Type} {xs : List α} {ys : List β} (h : xs.length = ys.length) : xs.isEmpty = ys.isEmpty := by
  cases xs <;> cases ys <;> simp_all
theorem tru_dp {F H : Hp} {v : V} {d : PyData} {b : Bool} (e : Ex F H) (h : Dq K F v d) (ht : truD d = some b) : TruV K v H b := by
  cases h with
  | non => exact (Option.some.inj ht).symm
  | bl _ => exact (Option.some.inj ht).symm
  | int _ => exact (Option.some.inj ht).symm
  | str _ => cases ht
  | lst s a => exact .inl ⟨_, SqL.of (e _ _ s), by rw [← Option.some.inj ht, emp_eq (da_len a)]⟩
  | tup s a => exact .inr (.inl ⟨_, SqT.of (e _ _ s), by rw [← Option.some.inj ht, emp_eq (da_len a)]⟩)
def TrW (G : En) (PT : En → Bool → Prop) : W → Prop
  | .d (.str x) => x.length ≤ sizeLine ∧ PT G ((x.length : Int) != 0)
  | .d d => ∃ b, truD d = some b ∧ PT G b
  | .sl i => ∃ a ds, G[i]? = some (.o a ds) ∧ PT G (!ds.isEmpty)
  | .ty _ => False
theorem dt_truth (h : DW K B G te fun G1 r1 => PW r1 fun w => TrW G1 PT w) : DT K B G (fun S H Q => te S H fun x H' => ∃ k, TruV K x H' k ∧ Q k H') PT := fun S F H Q I k => by
  refine dw_run (k' := fun G1 w => TrW G1 PT w) h I fun v F1 H1 G1 w e1 I1 hv q => ?_
  match w, hv, q with
  | .sl i, hv, ⟨_, ds, hi, q⟩ =>
    obtain ⟨p, vs, e, h1, h2, h3⟩ := I1.lst hi
    have hv : S[i]? = some (some v) := hv
    rw [e] at hv
    cases hv
    exact ⟨_, .inl ⟨_, SqL.of h1, rfl⟩, k _ F1 H1 G1 e1 I1 (by rw [emp_eq (da_len h3)]; exact q)⟩
  | .d (.str x), hv, ⟨hl, q⟩ =>
    obtain rfl := dp_str hv
    exact ⟨_, ⟨hl, rfl⟩, k _ F1 H1 G1 e1 I1 q⟩
  | .d .none, hv, ⟨b, ht, q⟩ => exact ⟨b, tru_dp I1.ex hv ht, k b F1 H1 G1 e1 I1 q⟩
  | .d (.bool _), hv, ⟨b, ht, q⟩ => exact ⟨b, tru_dp I1.ex hv ht, k b F1 H1 G1 e1 I1 q⟩
  | .d (.int _), hv, ⟨b, ht, q⟩ => exact ⟨b, tru_dp I1.ex hv ht, k b F1 H1 G1 e1 I1 q⟩
  | .d (.list _), hv, ⟨b, ht, q⟩ => exact ⟨b, tru_dp I1.ex hv ht, k b F1 H1 G1 e1 I1 q⟩
  | .d (.tuple _), hv, ⟨b, ht, q⟩ => exact ⟨b, tru_dp I1.ex hv ht, k b F1 H1 G1 e1 I1 q⟩
  | .d (.dict _), hv, _ => exact nomatch hv
/-! ### and, or, not as values (of bools) -/
theorem dw_and (h : DW K B G ta fun G1 r1 => PW r1 fun w => ∃ b, w = .d (.bool b) ∧ if b = true then DW K B G1 tb P else P G1 (.p (.d (.bool false)))) : DW K B G (tAndV ta tb) P := fun S F H Q I k => by
  show ta S H fun x H1 => ∃ c, x = .bl c ∧ if c = true then tb S H1 Q else Q (.bl false) H1
  refine dw_run (k' := fun G1 w => ∃ b, w = .d (.bool b) ∧ if b = true then DW K B G1 tb P else P G1 (.p (.d (.bool false)))) h I fun v F1 H1 G1 w e1 I1 hv q => ?_
  obtain ⟨b, rfl, q⟩ := q
  refine ⟨b, dp_bl hv, ?_⟩
  cases b with
  | true =>
    show tb S H1 Q
    exact q S F1 H1 Q I1 (k.mono e1)
  | false =>
    show Q (.bl false) H1
    exact ct_d (k.mono e1) I1 (.bl false) q
theorem dw_or (h : DW K B G ta fun G1 r1 => PW r1 fun w => ∃ b, w = .d (.bool b) ∧ if b = true then P G1 (.p (.d (.bool true))) else DW K B G1 tb P) : DW K B G (tOrV ta tb) P := fun S F H Q I k => by
  show ta S H fun x H1 => ∃ c, x = .bl c ∧ if c = true then Q (.bl true) H1 else tb S H1 Q
  refine dw_run (k' := fun G1 w => ∃ b, w = .d (.bool b) ∧ if b = true then P G1 (.p (.d (.bool true))) else DW K B G1 tb P) h I fun v F1 H1 G1 w e1 I1 hv q => ?_
  obtain ⟨b, rfl, q⟩ := q
  refine ⟨b, dp_bl hv, ?_⟩
  cases b with
  | true =>
    show Q (.bl true) H1
    exact ct_d (k.mono e1) I1 (.bl true) q
  | false =>
    show tb S H1 Q
    exact q S F1 H1 Q I1 (k.mono e1)
theorem dw_notV (h : DW K B G ta fun G1 r1 => PW r1 fun w => ∃ b, w = .d (.bool b) ∧ P G1 (.p (.d (.bool (!b))))) : DW K B G (tNotV ta) P := fun S F H Q I k => by
  show ta S H fun x H1 => ∃ c, x = .bl c ∧ Q (.bl (!c)) H1
  refine dw_run (k' := fun G1 w => ∃ b, w = .d (.bool b) ∧ P G1 (.p (.d (.bool (!b))))) h I fun v F1 H1 G1 w e1 I1 hv q => ?_
  obtain ⟨b, rfl, q⟩ := q
  exact ⟨b, dp_bl hv, ct_d (k.mono e1) I1 (.bl (!b)) q⟩
/-! ### targets -/
theorem dg_name {i : Nat} {d : PyData} {Pe : En → Prop} (h : Pe (G.set i (.d d))) : DG K B G (gName i) [i] (.d d) Pe := fun S F H v Q I hv k =>
  k _ F H _ (Ex.refl F) (I.set_d i hv) (by simp) (fun j hj => by rw [List.getElem?_set_ne]; simpa [eq_comm] using hj) h
theorem dgs_nil {Pe : En → Prop} (h : Pe G) : DGs K B G gNil [] [] Pe := fun S F H vs Q I hv k => by
  cases hv
  exact ⟨rfl, k S F H G (Ex.refl F) I rfl (fun _ _ => rfl) h⟩
theorem dgs_cons {g : TG} {gs : TGs} {c cs : List Nat} {d : PyData} {ds : List PyData} {Pe : En → Prop} (h : DG K B G g c (.d d) fun G1 => DGs K B G1 gs cs ds Pe) : DGs K B G (gCons g gs) (c ++ cs) (d :: ds) Pe := fun S F H vs Q I hv k => by
  cases hv with
  | cons h1 h2 =>
    refine ⟨_, _, rfl, h S F H _ _ I h1 fun S1 F1 H1 G1 e1 I1 l1 u1 q => ?_⟩
    refine q S1 F1 H1 _ Q I1 (da_mono e1 h2) fun S2 F2 H2 G2 e2 I2 l2 u2 q2 => ?_
    exact k S2 F2 H2 G2 (e1.trans e2) I2 (l2.trans l1) (fun j hj => (u2 j fun z => hj (List.mem_append_right _ z)).trans (u1 j fun z => hj (List.mem_append_left _ z))) q2
theorem dg_tup {n : Nat} {gs : TGs} {cs : List Nat} {ds : List PyData} {Pe : En → Prop} (hn : ds.length = n) (h : DGs K B G gs cs ds Pe) : DG K B G (gTup K n gs) cs (.d (.tuple ds)) Pe := fun S F H v Q I hv k => by
  obtain ⟨a, vs, rfl, hs, ha⟩ := dp_tup hv
  exact ⟨a, vs, rfl, SqT.of (I.ex _ _ hs), by rw [da_len ha]; exact hn, h S F H vs Q I ha k⟩
theorem ds_asg {g : TG} {cs : List Nat} (h : DW K B G te fun G1 r1 => PW r1 fun w => DG K B G1 g cs w E.nx) : DS K B G (tAsg te g) E := fun S F H D I c => by
  show te S H fun x H1 => g x S H1 D.nx
  refine dw_run (k' := fun G1 w => DG K B G1 g cs w E.nx) h I fun v F1 H1 G1 w e1 I1 hv q => ?_
  exact q S F1 H1 v D.nx I1 hv fun S2 F2 H2 G2 e2 I2 _ _ p => c.nx S2 F2 H2 G2 (e1.trans e2) I2 p
/-- x op= e of ints -/
theorem ds_augI {i : Nat} {f : Int → Int → Int} {a : Int} (hi : G[i]? = some (.d (.int a))) (h : DW K B G te fun G1 r1 => PW r1 fun w => ∃ b, w = .d (.int b) ∧ E.nx (G1.set i (.d (.int (f a b))))) : DS K B G (tAug i te (ipI f)) E := fun S F H D I c => by
  obtain ⟨v, e, hv⟩ := I.dat hi
  obtain rfl := dp_int hv
  refine ⟨_, e, ?_⟩
  refine dw_run (k' := fun G1 w => ∃ b, w = .d (.int b) ∧ E.nx (G1.set i (.d (.int (f a b))))) h I fun v F1 H1 G1 w e1 I1 hv q => ?_
  obtain ⟨b, rfl, q⟩ := q
  exact ⟨a, b, rfl, dp_int hv, c.nx _ F1 H1 _ e1 (I1.set_d i (.int _)) q⟩
/-! ### loops -/
/-- an iterator's items, as data -/
def Yields (K : Fr) (F : Hp) (J : It) (ds : List PyData) : Prop := ∀ i H F2, Ex F F2 → Ex F2 H → (∀ d, ds[i]? = some d → J.go i H ∧ ∀ x H', J.yld i H x H' → ∃ F', Ex F2 F' ∧ Ex H H' ∧ Ex F' H' ∧ (∀ b o, F' b = some o → F2 b = none → H b = none) ∧ Dq K F' x d) ∧ (i = ds.length → J.stop i H)
def DI (K : Fr) (B : Bs) (G : En) (wi : TI) (PI : En → List PyData → Prop) : Prop := ∀ S F H (R : It → Hp → Prop), Iv K B G S F H → (∀ J F1 H1 G1 ds, Ex F F1 → Iv K B G1 S F1 H1 → Yields K F1 J ds → PI G1 ds → R J H1) → wi S H R
theorem di_list {tl : TE} {PI : En → List PyData → Prop} (h : DW K B G tl fun G1 r1 => PW r1 fun w => ∃ ds, w = .d (.list ds) ∧ PI G1 ds) : DI K B G (iList K tl) PI := fun S F H R I k => by
  show tl S H fun x H1 => ∃ a, x = .ref a ∧ (∃ xs, SqL K H1 a xs) ∧ R (Itl K a) H1
  refine dw_run (k' := fun G1 w => ∃ ds, w = .d (.list ds) ∧ PI G1 ds) h I fun v F1 H1 G1 w e1 I1 hv q => ?_
  obtain ⟨ds, rfl, q⟩ := q
  obtain ⟨a, vs, rfl, hs, ha⟩ := dp_lst hv
  refine ⟨a, rfl, ⟨vs, SqL.of (I1.ex _ _ hs)⟩, k _ F1 H1 G1 ds e1 I1 (fun i H2 F2 eF eH => ⟨fun d hd => ?_, fun e => ?_⟩) q⟩
  · obtain ⟨v, h1, h2⟩ := da_get ha hd
    refine ⟨⟨vs, v, SqL.of ((eF.trans eH) _ _ hs), h1⟩, fun x H' y => ?_⟩
    obtain ⟨e, y⟩ := y
    subst e
    have hx := y vs (SqL.of ((eF.trans eH) _ _ hs))
    rw [h1] at hx
    cases hx
    exact ⟨F2, Ex.refl _, Ex.refl _, eH, (fun b o z n => by rw [z] at n; cases n), dp_mono eF h2⟩
  · refine ⟨vs, SqL.of ((eF.trans eH) _ _ hs), ?_⟩
    rw [e, da_len ha]
    exact Nat.le_refl _
theorem di_tup {tl : TE} {PI : En → List PyData → Prop} (h : DW K B G tl fun G1 r1 => PW r1 fun w => ∃ ds, w = .d (.tuple ds) ∧ PI G1 ds) : DI K B G (iTup K tl) PI := fun S F H R I k => by
  show tl S H fun x H1 => ∃ a, x = .ref a ∧ (∃ xs, SqT K H1 a xs) ∧ R (Itt K a) H1
  refine dw_run (k' := fun G1 w => ∃ ds, w = .d (.tuple ds) ∧ PI G1 ds) h I fun v F1 H1 G1 w e1 I1 hv q => ?_
  obtain ⟨ds, rfl, q⟩ := q
  obtain ⟨a, vs, rfl, hs, ha⟩ := dp_tup hv
  refine ⟨a, rfl, ⟨vs, SqT.of (I1.ex _ _ hs)⟩, k _ F1 H1 G1 ds e1 I1 (fun i H2 F2 eF eH => ⟨fun d hd => ?_, fun e => ?_⟩) q⟩
  · obtain ⟨v, h1, h2⟩ := da_get ha hd
    refine ⟨⟨vs, v, SqT.of ((eF.trans eH) _ _ hs), h1⟩, fun x H' y => ?_⟩
    obtain ⟨e, y⟩ := y
    subst e
    have hx := y vs (SqT.of ((eF.trans eH) _ _ hs))
    rw [h1] at hx
    cases hx
    exact ⟨F2, Ex.refl _, Ex.refl _, eH, (fun b o z n => by rw [z] at n; cases n), dp_mono eF h2⟩
  · refine ⟨vs, SqT.of ((eF.trans eH) _ _ hs), ?_⟩
    rw [e, da_len ha]
    exact Nat.le_refl _
theorem di_or {w1 w2 : TI} {PI : En → List PyData → Prop} (h : DI K B G w1 PI ∨ DI K B G w2 PI) : DI K B G (fun S H R => w1 S H R ∨ w2 S H R) PI := fun S F H R I k =>
  h.elim (fun h => .inl (h S F H R I k)) fun h => .inr (h S F H R I k)
/-- 0, 1, .. -/
def rngD (lo : Int) (n : Nat) : List PyData := (List.range n).map fun (i : Nat) => PyData.int (lo + (i : Int))
theorem rngD_get {lo : Int} {n i : Nat} {d : PyData} (h : (rngD lo n)[i]? = some d) : i < n ∧ d = .int (lo + (i : Int)) := by
  unfold rngD at h
  rw [List.getElem?_map] at h
  by_cases hi : i < n
  · rw [List.getElem?_range hi] at h
    exact ⟨hi, (Option.some.inj h).symm⟩
  · rw [List.getElem?_eq_none (by simpa using hi)] at h
    cases h
theorem rngD_len (lo : Int) (n : Nat) : (rngD lo n).length = n := by simp [rngD]
theorem yields_rng {F : Hp} {lo : Int} {n : Nat} : Yields K F (Itr lo n) (rngD lo n) := fun i H F2 eF eH => ⟨fun d hd => by
  obtain ⟨hi, rfl⟩ := rngD_get hd
  refine ⟨hi, fun x H' y => ?_⟩
  obtain ⟨e, y⟩ := y
  subst e y
  exact ⟨F2, Ex.refl _, Ex.refl _, eH, (fun b o z n => by rw [z] at n; cases n), .int _⟩, fun e => by
  rw [rngD_len] at e
  exact Nat.le_of_eq e.symm⟩
theorem di_rng1 {ta : TA} {PI : En → List PyData → Prop} (h : DA K B G ta fun G1 ws => ∃ j : Int, ws = [.d (.int j)] ∧ -(2 ^ 62) ≤ j ∧ j < 2 ^ 62 ∧ PI G1 (rngD 0 j.toNat)) : DI K B G (iRng1 ta) PI := fun S F H R I k => by
  show ta S H fun vs H1 => ∃ j : Int, vs = [.int j] ∧ -(2 ^ 62) ≤ j ∧ j < 2 ^ 62 ∧ R (Itr 0 j.toNat) H1
  refine h S F H _ I fun vs F1 H1 G1 ws e1 I1 hv q => ?_
  obtain ⟨j, rfl, h1, h2, q⟩ := q
  cases hv with
  | cons a t =>
    cases t
    obtain rfl := dp_int a
    exact ⟨j, rfl, h1, h2, k _ F1 H1 G1 _ e1 I1 yields_rng q⟩
theorem di_rng2 {ta : TA} {PI : En → List PyData → Prop} (h : DA K B G ta fun G1 ws => ∃ i j : Int, ws = [.d (.int i), .d (.int j)] ∧ (-(2 ^ 62) ≤ i ∧ i < 2 ^ 62 ∧ -(2 ^ 62) ≤ j ∧ j < 2 ^ 62) ∧ PI G1 (rngD i (j - i).toNat)) : DI K B G (iRng2 ta) PI := fun S F H R I k => by
  show ta S H fun vs H1 => ∃ i j : Int, vs = [.int i, .int j] ∧ (-(2 ^ 62) ≤ i ∧ i < 2 ^ 62 ∧ -(2 ^ 62) ≤ j ∧ j < 2 ^ 62) ∧ R (Itr i (j - i).toNat) H1
  refine h S F H _ I fun vs F1 H1 G1 ws e1 I1 hv q => ?_
  obtain ⟨i, j, rfl, h1, q⟩ := q
  cases hv with
  | cons a t =>
    cases t with
    | cons b t =>
      cases t
      obtain rfl := dp_int a
      obtain rfl := dp_int b
      exact ⟨i, j, rfl, h1, k _ F1 H1 G1 _ e1 I1 yields_rng q⟩
/-- what a turn's yield leaves -/
theorem Yields.turn {F1 F2 H H' : Hp} {J : It} {ds : List PyData} {i : Nat} {d : PyData} {x : V} {S : St} (Y : Yields K F1 J ds) (e : Ex F1 F2) (I : Iv K B G S F2 H) (hd : ds[i]? = some d) (y : J.yld i H x H') : ∃ F', Ex F2 F' ∧ Iv K B G S F' H' ∧ Dq K F' x d := by
  obtain ⟨F', k1, k2, k3, k4, k5⟩ := ((Y i H F2 e I.ex).1 d hd).2 x H' y
  exact ⟨F', k1, I.grow k1 k2 k3 k4, k5⟩
theorem ds_for {wi : TI} {g : TG} {ch : List Nat} (J : List PyData → Nat → En → Prop) (h : DI K B G wi fun G1 ds => J ds 0 G1 ∧ (∀ i G2 d, ds[i]? = some d → J ds i G2 → DG K B G2 g ch (.d d) fun G3 => DS K B G3 t { E with nx := J ds (i + 1), ct := J ds (i + 1), bk := E.nx }) ∧ ∀ G2, J ds ds.length G2 → E.nx G2) :
    DS K B G (tFor wi g t) E := fun S F H D I c => by
  refine h S F H _ I fun It F1 H1 G1 ds e1 I1 Y ⟨j0, hs, hd⟩ => ?_
  refine ⟨fun i m S H => m = ds.length - i ∧ i ≤ ds.length ∧ ∃ F2 G2, Ex F1 F2 ∧ Iv K B G2 S F2 H ∧ J ds i G2, ⟨_, rfl, Nat.zero_le _, F1, G1, Ex.refl _, I1, j0⟩, ?_⟩
  rintro i m S2 H2 ⟨rfl, hi, F2, G2, e2, I2, j2⟩
  by_cases hlt : i < ds.length
  · obtain ⟨d, hd'⟩ : ∃ d, ds[i]? = some d := ⟨_, List.getElem?_eq_getElem hlt⟩
    refine .inr ⟨((Y i H2 F2 e2 I2.ex).1 d hd').1, fun S H => ∃ F2 G2, Ex F1 F2 ∧ Iv K B G2 S F2 H ∧ J ds (i + 1) G2, fun S' H' p => ⟨ds.length - (i + 1), by omega, rfl, hlt, p⟩, fun x H3 y => ?_⟩
    obtain ⟨F3, e3, I3, hx⟩ := Y.turn e2 I2 hd' y
    refine hs i G2 d hd' j2 S2 F3 H3 x _ I3 hx fun S4 F4 H4 G4 e4 I4 _ _ q => ?_
    have e5 := (e2.trans e3).trans e4
    exact q S4 F4 H4 _ I4 ⟨fun S F H G e I j => ⟨F, G, e5.trans e, I, j⟩, fun S F H G v r e => c.rt S F H G v r ((e1.trans e5).trans e), fun S F H G e I p => c.nx S F H G ((e1.trans e5).trans e) I p, fun S F H G e I j => ⟨F, G, e5.trans e, I, j⟩⟩
  · have e : i = ds.length := by omega
    subst e
    exact .inl ⟨(Y _ H2 F2 e2 I2.ex).2 rfl, c.nx S2 F2 H2 G2 (e1.trans e2) I2 (hd G2 j2)⟩
theorem ds_while (J : Nat → En → Prop) (m : Nat) (h0 : J m G) (hs : ∀ m G1, J m G1 → DT K B G1 tt fun G2 b => if b = true then DS K B G2 t { E with nx := fun G3 => ∃ m', m' < m ∧ J m' G3, ct := fun G3 => ∃ m', m' < m ∧ J m' G3, bk := E.nx } else E.nx G2) : DS K B G (tWhile tt t) E := fun S F H D I c => by
  refine ⟨fun m S H => ∃ F1 G1, Ex F F1 ∧ Iv K B G1 S F1 H ∧ J m G1, ⟨m, F, G, Ex.refl _, I, h0⟩, ?_⟩
  rintro m S1 H1 ⟨F1, G1, e1, I1, j1⟩
  refine hs m G1 j1 S1 F1 H1 _ I1 fun b F2 H2 G2 e2 I2 q => ?_
  have e3 := e1.trans e2
  cases b with
  | true =>
    show ∃ N : St → Hp → Prop, (∀ S' H', N S' H' → ∃ m', m' < m ∧ ∃ F1 G1, Ex F F1 ∧ Iv K B G1 S' F1 H' ∧ J m' G1) ∧ t { D with nx := N, ct := N, bk := D.nx } S1 H2
    refine ⟨fun S' H' => ∃ m', m' < m ∧ ∃ F1 G1, Ex F F1 ∧ Iv K B G1 S' F1 H' ∧ J m' G1, fun S' H' p => p, ?_⟩
    exact q S1 F2 H2 _ I2 ⟨fun S F H G e I ⟨m', hm, j⟩ => ⟨m', hm, F, G, e3.trans e, I, j⟩, fun S F H G v r e => c.rt S F H G v r (e3.trans e), fun S F H G e I p => c.nx S F H G (e3.trans e) I p, fun S F H G e I ⟨m', hm, j⟩ => ⟨m', hm, F, G, e3.trans e, I, j⟩⟩
  | false =>
    show D.nx S1 H2
    exact c.nx S1 F2 H2 G2 e3 I2 q
end
end DL
namespace DL
open PySem L2
theorem nn {H : Hp} {b : Addr} {o : HO} (h : H b = some o) : H b ≠ none := fun z => by
  rw [h] at z
  cases z
/-! ### another base -/
section
variable {K : Fr} {B : Bs} {G G1 : En} {S S1 : St} {F H F1 H1 : Hp}
/-- the state as a base of its own: the slots' own things may change, nothing else -/
theorem Iv.rebase (I : Iv K B G S F H) : ∃ mu : Addr → Prop, Iv K B G S F H ∧ Iv K ⟨F, H, mu⟩ G S F H ∧ (∀ G1 S1 F1 H1, Iv K ⟨F, H, mu⟩ G1 S1 F1 H1 → Iv K B G1 S1 F1 H1) ∧ (∀ a, mu a → F a = none ∧ H a ≠ none ∧ (B.H0 a = none ∨ B.mu a)) := by
  obtain ⟨A, h1, h2, h3⟩ := I.own
  have hm : ∀ a, (∃ i, A i a) → F a = none ∧ H a ≠ none ∧ (B.H0 a = none ∨ B.mu a) := fun a ⟨i, h⟩ => h3 i a h
  refine ⟨fun a => ∃ i, A i a, I, ⟨I.ex, Ex.refl _, fun b o h _ => h, fun b o h _ => .inl (nn h), fun b h => h, I.len, A, h1, h2, fun i a h => ⟨(h3 i a h).1, (h3 i a h).2.1, .inr ⟨i, h⟩⟩⟩, fun G1 S1 F1 H1 J => ?_, hm⟩
  have back : ∀ a, (H a = none ∨ ∃ i, A i a) → B.H0 a = none ∨ B.mu a := fun a h => h.elim (fun h => .inl (I.new0 h)) fun h => (hm a h).2.2
  refine ⟨J.ex, I.f0.trans J.f0, fun b o h m => ?_, fun b o h n => ?_, fun b h => J.st b (I.st b h), J.len, ?_⟩
  · refine J.fr b o (I.fr b o h m) fun ⟨i, z⟩ => ?_
    rcases (h3 i b z).2.2 with q | q
    · rw [h] at q
      cases q
    · exact m q
  · rcases J.nw b o h (I.st b n) with z | z
    · obtain ⟨u, hu⟩ : ∃ u, F b = some u := by
        cases q : F b with
        | none => exact absurd q z
        | some u => exact ⟨u, rfl⟩
      exact I.nw b u hu n
    · rcases (hm b z).2.2 with q | q
      · exact absurd q n
      · exact .inr q
  · obtain ⟨A', k1, k2, k3⟩ := J.own
    exact ⟨A', k1, k2, fun i a h => ⟨(k3 i a h).1, (k3 i a h).2.1, back a (k3 i a h).2.2⟩⟩
/-- a list that nobody touches meanwhile: the last slot's, aside while the rest runs -/
theorem Iv.aside {o : Option Addr} {ds : List PyData} {x : V} (I : Iv K B (G ++ [.o o ds]) (S ++ [some x]) F H) : ∃ D vs mu, x = .ref D ∧ H D = some (.lst vs) ∧ DqAll K F vs ds ∧ Iv K ⟨F, H, mu⟩ G S F H ∧
    ∀ G1 S1 F1 H1, Iv K ⟨F, H, mu⟩ G1 S1 F1 H1 → H1 D = some (.lst vs) ∧ Iv K B (G1 ++ [.o o ds]) (S1 ++ [some x]) F1 H1 := by
  obtain ⟨A, h1, h2, h3⟩ := I.own
  have hl : S.length = G.length := by
    have := I.len
    simpa using this
  obtain ⟨u, e1, D, vs, rfl, e3, e4, e5, e6⟩ : ∃ v, (S ++ [some x])[G.length]? = some (some v) ∧ SvR K F H v (A G.length) (.o o ds) := (h1 G.length (.o o ds) (by simp)).elim (fun z => by cases z) id
  have ex : x = .ref D := by
    rw [← hl] at e1
    have : (S ++ [some x])[S.length]? = some (some x) := by simp
    rw [this] at e1
    exact Option.some.inj (Option.some.inj e1)
  subst ex
  obtain ⟨d1, d2, d3⟩ := h3 _ _ e5
  have I0 := I.drop
  have hm : ∀ a, (∃ i, i < G.length ∧ A i a) → F a = none ∧ H a ≠ none ∧ (B.H0 a = none ∨ B.mu a) := fun a ⟨i, _, h⟩ => h3 i a h
  have nD : ¬ ∃ i, i < G.length ∧ A i D := fun ⟨i, hi, h⟩ => by
    have := h2 _ _ _ h e5
    omega
  refine ⟨D, vs, fun a => ∃ i, i < G.length ∧ A i a, rfl, e3, e4, ⟨I.ex, Ex.refl _, fun b o h _ => h, fun b o h _ => .inl (nn h), fun b h => h, hl, fun i a => i < G.length ∧ A i a, fun i s hi => ?_, fun i j a p q => h2 i j a p.2 q.2, fun i a h => ⟨(h3 i a h.2).1, (h3 i a h.2).2.1, .inr ⟨i, h⟩⟩⟩, fun G1 S1 F1 H1 J => ?_⟩
  · have hlt := (List.getElem?_eq_some_iff.mp hi).1
    rcases h1 i s (by rw [List.getElem?_append_left hlt]; exact hi) with z | ⟨u, z1, z2⟩
    · exact .inl z
    · refine .inr ⟨u, by rw [List.getElem?_append_left (by omega)] at z1; exact z1, ?_⟩
      have ea : (fun a => i < G.length ∧ A i a) = A i := by
        funext a
        exact propext ⟨fun z => z.2, fun z => ⟨hlt, z⟩⟩
      show SvR K F H u (fun a => i < G.length ∧ A i a) s
      rw [ea]
      exact z2
  · have hD : H1 D = some (.lst vs) := J.fr D _ e3 nD
    have fD : F1 D = none := by
      cases q : F1 D with
      | none => rfl
      | some o =>
        rcases J.nw D o q d2 with z | z
        · exact absurd d1 z
        · exact absurd z nD
    obtain ⟨A', k1, k2, k3⟩ := J.own
    have nA : ∀ i, ¬ A' i D := fun i z => by
      rcases (k3 i D z).2.2 with q | q
      · exact d2 q
      · exact nD q
    refine ⟨hD, J.ex, I.f0.trans J.f0, fun b o h m => ?_, fun b o h n => ?_, fun b h => J.st b (I.st b h), by simp [J.len], fun i a => (i < G1.length ∧ A' i a) ∨ (i = G1.length ∧ a = D), fun i s hi => ?_, fun i j a p q => ?_, fun i a h => ?_⟩
    · refine J.fr b o (I.fr b o h m) fun ⟨i, _, z⟩ => ?_
      rcases (h3 i b z).2.2 with q | q
      · rw [h] at q
        cases q
      · exact m q
    · rcases J.nw b o h (I.st b n) with z | z
      · obtain ⟨u, hu⟩ : ∃ u, F b = some u := by
          cases q : F b with
          | none => exact absurd q z
          | some u => exact ⟨u, rfl⟩
        exact I.nw b u hu n
      · rcases (hm b z).2.2 with q | q
        · exact absurd q n
        · exact .inr q
    · rcases app_get hi with ⟨hlt, h⟩ | ⟨hlt, e⟩
      · rcases k1 i s h with z | ⟨u, z1, z2⟩
        · exact .inl z
        · refine .inr ⟨u, by rw [List.getElem?_append_left (by rw [J.len]; exact hlt)]; exact z1, ?_⟩
          have ea : (fun a => (i < G1.length ∧ A' i a) ∨ (i = G1.length ∧ a = D)) = A' i := by
            funext a
            exact propext ⟨fun z => z.elim (fun z => z.2) fun z => by omega, fun z => .inl ⟨hlt, z⟩⟩
          show SvR K F1 H1 u (fun a => (i < G1.length ∧ A' i a) ∨ (i = G1.length ∧ a = D)) s
          rw [ea]
          exact z2
      · subst e hlt
        refine .inr ⟨.ref D, by rw [← J.len]; simp, D, vs, rfl, hD, da_mono J.f0 e4, .inr ⟨rfl, rfl⟩, e6⟩
    · rcases p with ⟨p1, p2⟩ | ⟨p1, p2⟩ <;> rcases q with ⟨q1, q2⟩ | ⟨q1, q2⟩
      · exact k2 _ _ _ p2 q2
      · subst q2
        exact absurd p2 (nA i)
      · subst p2
        exact absurd q2 (nA j)
      · omega
    · rcases h with ⟨_, h⟩ | ⟨_, h⟩
      · refine ⟨(k3 i a h).1, (k3 i a h).2.1, ?_⟩
        rcases (k3 i a h).2.2 with q | q
        · exact .inl (I.new0 q)
        · exact (hm a q).2.2
      · subst h
        exact ⟨fD, (by rw [hD]; exact fun z => by cases z), d3⟩
end

/-! ### list comprehensions -/
def wipeG (G : En) : List Nat → En
  | [] => G
  | v :: vs => (wipeG G vs).set v .un
theorem wipeG_len (G : En) : ∀ vs : List Nat, (wipeG G vs).length = G.length
  | [] => rfl
  | v :: vs => by
    unfold wipeG
    rw [List.length_set, wipeG_len G vs]
theorem Iv.wipe {K : Fr} {B : Bs} {G : En} {S : St} {F H : Hp} (I : Iv K B G S F H) : ∀ vs : List Nat, Iv K B (wipeG G vs) (L2.wipe S vs) F H
  | [] => I
  | v :: vs => (I.wipe vs).set_un v none
theorem wipeG_app (G : En) (s : Sl) : ∀ vs : List Nat, (∀ v ∈ vs, v < G.length) → wipeG (G ++ [s]) vs = wipeG G vs ++ [s]
  | [], _ => rfl
  | v :: vs, h => by
    unfold wipeG
    rw [wipeG_app G s vs (fun v hv => h v (List.mem_cons_of_mem _ hv)), List.set_append, if_pos]
    rw [wipeG_len]
    exact h v (List.mem_cons_self)
/-- names of the block are forgotten: whatever they hold -/
theorem Iv.wiped {K : Fr} {B : Bs} {G : En} {S S' : St} {F H : Hp} {vs : List Nat} (I : Iv K B (wipeG G vs) S' F H) (hl : S.length = S'.length) (he : ∀ k, k ∉ vs → S[k]? = S'[k]?) : Iv K B (wipeG G vs) S F H := by
  obtain ⟨A, h1, h2, h3⟩ := I.own
  have un : ∀ (vs : List Nat) i s, i ∈ vs → (wipeG G vs)[i]? = some s → s = .un := by
    intro vs
    induction vs with
    | nil => intro i s h _; cases h
    | cons v vs ih =>
      intro i s h e
      unfold wipeG at e
      by_cases hi : v = i
      · subst hi
        exact (set_same e).1
      · rw [List.getElem?_set_ne hi] at e
        rcases List.mem_cons.mp h with z | z
        · exact absurd z.symm hi
        · exact ih i s z e
  refine ⟨I.ex, I.f0, I.fr, I.nw, I.st, hl.trans I.len, A, fun i s hi => ?_, h2, h3⟩
  by_cases hv : i ∈ vs
  · exact .inl (un vs i s hv hi)
  · rw [he i hv]
    exact h1 i s hi
theorem wipe_ne {S : St} {k : Nat} : ∀ {vs : List Nat}, k ∉ vs → (L2.wipe S vs)[k]? = S[k]?
  | [], _ => rfl
  | v :: vs, h => by
    unfold L2.wipe
    rw [List.getElem?_set_ne (fun z => h (by rw [z]; exact List.mem_cons_self)), wipe_ne fun z => h (List.mem_cons_of_mem _ z)]
theorem wipe_in {S : St} {k : Nat} : ∀ {vs : List Nat}, k ∈ vs → k < S.length → (L2.wipe S vs)[k]? = some none
  | v :: vs, h, hk => by
    unfold L2.wipe
    by_cases e : v = k
    · subst e
      rw [List.getElem?_set_self (by rw [wipe_length]; exact hk)]
    · rw [List.getElem?_set_ne e]
      rcases List.mem_cons.mp h with z | z
      · exact absurd z.symm e
      · exact wipe_in z hk
theorem wipe_ext {S S' : St} {vs : List Nat} (hl : S'.length = S.length) (he : ∀ k, k ∉ vs → S'[k]? = S[k]?) : L2.wipe S' vs = L2.wipe S vs := by
  apply List.ext_getElem?
  intro k
  by_cases hk : k ∈ vs
  · by_cases h2 : k < S.length
    · rw [wipe_in hk h2, wipe_in hk (by omega)]
    · rw [List.getElem?_eq_none (by rw [wipe_length]; omega), List.getElem?_eq_none (by rw [wipe_length]; omega)]
  · rw [wipe_ne hk, wipe_ne hk, he k hk]
section
variable {K : Fr} {B : Bs} {G : En} {te : TE} {P : Po} {tt : TT}
/-- [e for g in ..]: J by the items, the turn, what is made so far, the slots -/
theorem dw_lc {wi : TI} {g : TG} {ch : List Nat} {vs : List Nat} (J : List PyData → Nat → List PyData → En → Prop) (hsub : ∀ k ∈ ch, k ∈ vs)
    (h : DI K B G wi fun G1 ds => J ds 0 [] (wipeG G1 vs) ∧ (∀ (B' : Bs) i acc G2 d, ds[i]? = some d → J ds i acc G2 → DG K B' G2 g ch (.d d) fun G3 => DT K B' G3 tt fun G4 b => if b = true then DW K B' G4 te fun G5 r => PW r fun w => ∃ y, w = .d y ∧ acc.length < sizeLine ∧ J ds (i + 1) (acc ++ [y]) (wipeG G5 vs) else J ds (i + 1) acc (wipeG G4 vs)) ∧ ∀ acc G2, J ds ds.length acc G2 → P (wipeG G2 vs) (.fr (.o none acc))) :
    DW K B G (tLc wi g tt te vs) P := fun S F H Q I k => by
  refine h S F H _ I fun It F1 H1 G1 ds e1 I1 Y ⟨j0, hs, hd⟩ => ?_
  intro D hD
  refine ⟨fun i m H => m = ds.length - i ∧ i ≤ ds.length ∧ ∃ F2 G2 acc, Ex F1 F2 ∧ Iv K B (G2 ++ [.o none acc]) (L2.wipe S vs ++ [some (.ref D)]) F2 H ∧ J ds i acc G2, ⟨_, rfl, Nat.zero_le _, F1, _, [], Ex.refl _, (I1.wipe vs).newL hD .nil, j0⟩, ?_⟩
  rintro i m H2 ⟨rfl, hi, F2, G2, acc, e2, I2, j2⟩
  by_cases hlt : i < ds.length
  · obtain ⟨d, hd'⟩ : ∃ d, ds[i]? = some d := ⟨_, List.getElem?_eq_getElem hlt⟩
    refine .inr ⟨((Y i H2 F2 e2 I2.ex).1 d hd').1, fun H => ∃ F2 G2 acc, Ex F1 F2 ∧ Iv K B (G2 ++ [.o none acc]) (L2.wipe S vs ++ [some (.ref D)]) F2 H ∧ J ds (i + 1) acc G2, fun H' p => ⟨ds.length - (i + 1), by omega, rfl, hlt, p⟩, fun x H3 y => ?_⟩
    obtain ⟨F3, e3, I3, hx⟩ := Y.turn e2 I2 hd' y
    obtain ⟨D', accv, mu, eD, hD3, ha3, Ia, back⟩ := I3.aside
    cases eD
    refine hs _ i acc G2 d hd' j2 _ F3 H3 x _ Ia hx fun S4 F4 H4 G4 e4 I4 l4 u4 q => ?_
    have ew : L2.wipe S4 vs = L2.wipe S vs := by
      rw [wipe_ext l4 fun k hk => u4 k fun z => hk (hsub k z)]
      exact wipe_ext (wipe_length S vs) fun k hk => wipe_ne hk
    refine ⟨ew, q S4 F4 H4 _ I4 fun b F5 H5 G5 e5 I5 q5 => ?_⟩
    cases b with
    | false =>
      show ∃ F2 G2 acc, Ex F1 F2 ∧ Iv K B (G2 ++ [.o none acc]) (L2.wipe S vs ++ [some (.ref D)]) F2 H5 ∧ J ds (i + 1) acc G2
      obtain ⟨_, I6⟩ := back _ _ _ _ (I5.wipe vs)
      rw [ew] at I6
      exact ⟨F5, _, acc, ((e2.trans e3).trans e4).trans e5, I6, q5⟩
    | true =>
      show te S4 H5 fun y H4 => ∃ acc, H4 D = some (.lst acc) ∧ acc.length < sizeLine ∧ (∃ F2 G2 acc', Ex F1 F2 ∧ Iv K B (G2 ++ [.o none acc']) (L2.wipe S vs ++ [some (.ref D)]) F2 (upd H4 D (.lst (acc ++ [y]))) ∧ J ds (i + 1) acc' G2)
      refine dw_run (k' := fun G5 w => ∃ y, w = .d y ∧ acc.length < sizeLine ∧ J ds (i + 1) (acc ++ [y]) (wipeG G5 vs)) q5 I5 fun v F6 H6 G6 w e6 I6 hv q6 => ?_
      obtain ⟨y, rfl, hz, j6⟩ := q6
      obtain ⟨hD6, I7⟩ := back _ _ _ _ (I6.wipe vs)
      rw [ew] at I7
      refine ⟨accv, hD6, by rw [da_len ha3]; exact hz, F6, _, acc ++ [y], (((e2.trans e3).trans e4).trans e5).trans e6, ?_, j6⟩
      have hl : (L2.wipe S vs).length = (wipeG G6 vs).length := by
        have := I7.len
        simpa using this
      have I8 := I7.mut (i := (wipeG G6 vs).length) (p := D) (q := none) (ds := acc) (ds' := acc ++ [y]) (vs' := accv ++ [v]) (by simp) (by rw [← hl]; simp) (da_app (da_mono ((e4.trans e5).trans e6) ha3) (.cons hv .nil))
      have eg : (wipeG G6 vs ++ [Sl.o none acc]).set (wipeG G6 vs).length (.o none (acc ++ [y])) = wipeG G6 vs ++ [.o none (acc ++ [y])] := by simp
      rw [eg] at I8
      exact I8
  · have e : i = ds.length := by omega
    subst e
    refine .inl ⟨(Y _ H2 F2 e2 I2.ex).2 rfl, ?_⟩
    have I3 : Iv K B (wipeG G2 vs ++ [.o none acc]) (S ++ [some (.ref D)]) F2 H2 := by
      obtain ⟨D', accv, mu, eD, hD3, ha3, Ia, back⟩ := I2.aside
      exact (back _ _ _ _ ((Ia.wipe vs).wiped (S := S) (by rw [wipe_length, wipe_length]) fun k hk => by rw [wipe_ne hk, wipe_ne hk])).2
    exact k (.ref D) F2 H2 (wipeG G2 vs) (.fr (.o none acc)) (e1.trans e2) I3 (hd acc G2 j2)
end
end DL
namespace DL
open PySem L2
/-! ### calls -/
def Rr (K : Fr) (ok : Addr → Prop) (F' H' : Hp) (v : V) : Rs → Prop
  | .p (.d d) => Dq K F' v d
  | .p (.sl _) => False
  | .p (.ty _) => False
  | .fr s => ∃ A, SvR K F' H' v A s ∧ ∀ a, A a → F' a = none ∧ H' a ≠ none ∧ ok a
/-- a def whose arguments are data -/
def sp0 (K : Fr) (pre : List PyData → Prop) (post : List PyData → Rs → Prop) : Sp := fun vs H Q _ => ∃ F ds, Ex F H ∧ DqAll K F vs ds ∧ pre ds ∧
  ∀ v F' H' r, Ex F F' → Ex F' H' → Ex H H' → (∀ b o, F' b = some o → F b = none → H b = none) → Rr K (fun a => H a = none) F' H' v r → post ds r → Q v H'
/-- .. whose first argument is an own list of the caller's, which it may change; the others are data; it gives data -/
def sp1 (K : Fr) (pre : List PyData → List PyData → Prop) (post : List PyData → List PyData → List PyData → PyData → Prop) : Sp := fun vs H Q _ => ∃ F p vs0 vr ls ds, vs = .ref p :: vr ∧ Ex F H ∧ F p = none ∧ H p = some (.lst vs0) ∧ DqAll K F vs0 ls ∧ DqAll K F vr ds ∧ pre ls ds ∧
  ∀ v F' H' vs' ls' d, Ex F F' → Ex F' H' → (∀ b o, H b = some o → b ≠ p → H' b = some o) → (∀ b o, F' b = some o → F b = none → H b = none) → F' p = none → H' p = some (.lst vs') → DqAll K F' vs' ls' → Dq K F' v d → post ls ds ls' d → Q v H'
section
variable {K : Fr} {B : Bs} {G : En} {P : Po} {t : TA} {E : XK}
theorem dw_call0 {pre : List PyData → Prop} {post : List PyData → Rs → Prop} (h : DA K B G t fun G1 ws => ∃ ds, allD ws = some ds ∧ pre ds ∧ ∀ r, post ds r → P G1 r) : DW K B G (tCall (sp0 K pre post) [] E t) P := fun S F H Q I k => by
  show t S H fun vs H1 => sp0 K pre post (vs ++ []) H1 Q E
  refine h S F H _ I fun vs F1 H1 G1 ws e1 I1 hv ⟨ds, hd, hp, q⟩ => ?_
  rw [List.append_nil]
  refine ⟨F1, ds, I1.ex, allD_ok hd hv, hp, fun v F2 H2 r a1 a2 a3 a4 a5 a6 => ?_⟩
  match r, a5, a6 with
  | .p (.d d), a5, a6 => exact k v F2 H2 G1 (.p (.d d)) (e1.trans a1) ⟨I1.grow a1 a3 a2 a4, a5⟩ (q _ a6)
  | .fr s, ⟨A, b1, b2⟩, a6 =>
    refine k v F2 H2 G1 (.fr s) (e1.trans a1) ?_ (q _ a6)
    exact I1.add a1 a3 a2 a4 (some v) A (.inr ⟨v, rfl, b1⟩) fun a ha => ⟨(b2 a ha).2.2, (b2 a ha).1, (b2 a ha).2.1⟩
theorem dw_call1 {pre : List PyData → List PyData → Prop} {post : List PyData → List PyData → List PyData → PyData → Prop} (h : DA K B G t fun G1 ws => ∃ i a ls wr ds, ws = .sl i :: wr ∧ allD wr = some ds ∧ G1[i]? = some (.o a ls) ∧ pre ls ds ∧ ∀ ls' d, post ls ds ls' d → P (G1.set i (.o a ls')) (.p (.d d))) :
    DW K B G (tCall (sp1 K pre post) [] E t) P := fun S F H Q I k => by
  show t S H fun vs H1 => sp1 K pre post (vs ++ []) H1 Q E
  refine h S F H _ I fun vs F1 H1 G1 ws e1 I1 hv ⟨i, a, ls, wr, ds, hw, hd, hi, hp, q⟩ => ?_
  subst hw
  rw [List.append_nil]
  cases hv with
  | @cons v0 _ vr _ hv0 hvr =>
  obtain ⟨A, h1, h2, h3⟩ := I1.own
  obtain ⟨u, z1, p, vs0, rfl, z2, z3, z4, z5⟩ : ∃ v, S[i]? = some (some v) ∧ SvR K F1 H1 v (A i) (.o a ls) := (h1 i _ hi).elim (fun z => by cases z) id
  have hv0 : S[i]? = some (some v0) := hv0
  rw [hv0] at z1
  cases z1
  obtain ⟨y1, y2, y3⟩ := h3 i p z4
  refine ⟨F1, p, vs0, vr, ls, ds, rfl, I1.ex, y1, z2, z3, allD_ok hd hvr, hp, fun v F2 H2 vs' ls' d a1 a2 a3 a4 a5 a6 a7 a8 a9 => ?_⟩
  refine k v F2 H2 (G1.set i (.o a ls')) (.p (.d d)) (e1.trans a1) ⟨?_, a8⟩ (q ls' d a9)
  have own : ∀ j b, A j b → F2 b = none ∧ H2 b ≠ none ∧ (j ≠ i → H2 b = H1 b) := fun j b hb => by
    obtain ⟨x, y, z⟩ := h3 j b hb
    refine ⟨?_, ?_, fun hj => ?_⟩
    · cases q : F2 b with
      | none => rfl
      | some o => exact absurd (a4 b o q x) y
    · by_cases hbp : b = p
      · rw [hbp, a6]
        exact fun z => by cases z
      · cases q : H1 b with
        | none => exact absurd q y
        | some o =>
          rw [a3 b o q hbp]
          exact fun z => by cases z
    · cases q : H1 b with
      | none => exact absurd q y
      | some o =>
        refine a3 b o q fun e => ?_
        subst e
        exact hj (h2 _ _ _ hb z4)
  refine ⟨a2, I1.f0.trans a1, fun b o hb hm => ?_, fun b o hb hn => ?_, fun b hb => ?_, by simpa using I1.len, A, fun j s2 hj => ?_, h2, fun j b hb => ⟨(own j b hb).1, (own j b hb).2.1, (h3 j b hb).2.2⟩⟩
  · refine a3 b o (I1.fr b o hb hm) fun e => ?_
    subst e
    rcases y3 with z | z
    · rw [hb] at z
      cases z
    · exact hm z
  · cases q : F1 b with
    | some u => exact I1.nw b u q hn
    | none => exact absurd (I1.new0 (a4 b o hb q)) hn
  · have := I1.st b hb
    by_cases hbp : b = p
    · rw [hbp, a6]
      exact fun z => by cases z
    · cases q : H1 b with
      | none => exact absurd q this
      | some o =>
        rw [a3 b o q hbp]
        exact fun z => by cases z
  · by_cases e : i = j
    · subst e
      obtain ⟨rfl, _⟩ := set_same hj
      exact .inr ⟨_, hv0, p, vs', rfl, a6, a7, z4, z5⟩
    · rw [List.getElem?_set_ne e] at hj
      rcases h1 j s2 hj with z | ⟨u, x1, x2⟩
      · exact .inl z
      · exact .inr ⟨u, x1, slr_stab x2 a1 fun b hb => (own j b hb).2.2 (Ne.symm e)⟩
end

/-! ### a def's body -/
def G0 (N : List Str) (ds : List PyData) : En := ds.map Sl.d ++ List.replicate (N.length - ds.length) .un
def G1 (N : List Str) (p : Addr) (ls ds : List PyData) : En := .o (some p) ls :: (ds.map Sl.d ++ List.replicate (N.length - (ds.length + 1)) .un)
def Ret0 (p : Rs → Prop) (G : En) : Rs → Prop
  | .p (.d d) => p (.p (.d d))
  | .p (.sl i) => ∃ a ds, G[i]? = some (.o a ds) ∧ p (.fr (.o none ds))
  | .p (.ty _) => False
  | .fr s => s ≠ .un ∧ p (.fr s)
def E0 (p : Rs → Prop) : De := { nx := fun _ => p (.p (.d .none)), rt := fun G r => Ret0 p G r }
def E1 (a : Addr) (p : List PyData → PyData → Prop) : De := { nx := fun G => ∃ ls, G[0]? = some (.o (some a) ls) ∧ p ls .none, rt := fun G r => PW r fun w => ∃ d ls, w = .d d ∧ G[0]? = some (.o (some a) ls) ∧ p ls d }
theorem start_iv {K : Fr} {F H : Hp} {N : List Str} {vs : List V} {ds : List PyData} (ex : Ex F H) (h : DqAll K F vs ds) (hl : ds.length ≤ N.length) : Iv K ⟨F, H, fun _ => False⟩ (G0 N ds) (L2.start N vs) F H := by
  refine ⟨ex, Ex.refl _, fun b o h _ => h, fun b o h _ => .inl (nn h), fun b h => h, by simp [L2.start, G0, da_len h], fun _ _ => False, fun i s hi => ?_, fun _ _ _ x => x.elim, fun _ _ x => x.elim⟩
  have hd := da_len h
  by_cases hlt : i < ds.length
  · have e : s = .d ds[i] := by
      unfold G0 at hi
      rw [List.getElem?_append_left (by simpa using hlt), List.getElem?_map, List.getElem?_eq_getElem hlt] at hi
      exact (Option.some.inj hi).symm
    obtain ⟨v, h1, h2⟩ := da_get h (List.getElem?_eq_getElem hlt)
    subst e
    refine .inr ⟨v, ?_, h2⟩
    unfold L2.start
    rw [List.getElem?_append_left (by rw [List.length_map, hd]; exact hlt), List.getElem?_map, h1]
    rfl
  · refine .inl ?_
    unfold G0 at hi
    rw [List.getElem?_append_right (by simpa using Nat.le_of_not_lt hlt)] at hi
    simp only [List.getElem?_replicate] at hi
    split at hi
    · exact (Option.some.inj hi).symm
    · cases hi
section
variable {P : Program} {w : World} {K : Fr} {mg : Str → Option Value} {base : Heap} {x qual : Str} {st : Stmt} {f : Addr} {fd : FuncData} {N ps : List Str} {k : Nat}
theorem fn0 {pre : List PyData → Prop} {post : List PyData → Rs → Prop} (F : Fun K x qual st f fd) (S : FnScope N ps (defScope st)) (hl : ∀ ds, pre ds → ds.length = ps.length ∧ ds.length ≤ N.length)
    (hb : ∀ (cdv : Value) (A : Around) (outer : List Env) (s : Shared) (H : Hp) (E : XK), Room k (A.deeper (PyProof.Rows.envOfC qual (defScope st) s.heap.objs.size f cdv)) → ∃ t, PSs (cxOf CX0 P w K mg base N qual (defScope st) f cdv A outer s H E).nox (defBody st) t ∧
      ∀ ds, pre ds → ∀ B, DS K B (G0 N ds) t (E0 (post ds))) : FnOk P w K mg base CX0 (k + 1) f fd ps (sp0 K pre post) := by
  refine F.ok S (fun vs H Q E h => ?_) (fun cdv A outer s H vs Q E hr h => ?_)
  · obtain ⟨F, ds, _, h1, h2, _⟩ := h
    rw [da_len h1]
    exact (hl ds h2).1
  · obtain ⟨F0, ds, ex, h1, h2, q⟩ := h
    obtain ⟨t, ht, hs⟩ := hb cdv A outer s H E hr
    refine ⟨t, ht, ?_⟩
    have I0 := start_iv (N := N) ex h1 (hl ds h2).2
    have out : ∀ {G' : En} {S' : St} {F' H' : Hp}, Iv K ⟨F0, H, fun _ => False⟩ G' S' F' H' → Ex H H' ∧ ∀ b o, F' b = some o → F0 b = none → H b = none := fun {G' S' F' H'} J => ⟨fun b o h => J.fr b o h id, fun b o h n => by
      cases z : H b with
      | none => rfl
      | some u =>
        rcases J.nw b o h (nn z) with y | y
        · exact absurd n y
        · exact y.elim⟩
    refine hs ds h2 _ _ F0 H _ I0 ⟨fun S F H' G e J p => ?_, fun S F H' G v r e J p => ?_, fun _ _ _ _ _ _ z => z.elim, fun _ _ _ _ _ _ z => z.elim⟩
    · exact q .non F H' (.p (.d .none)) e J.ex (out J).1 (out J).2 .non p
    · match r, J, p with
      | .p (.d d), J, p => exact q v F H' (.p (.d d)) e J.1.ex (out J.1).1 (out J.1).2 J.2 p
      | .p (.sl i), J, ⟨a, ds', hi, p⟩ =>
        obtain ⟨A, a1, a2, a3⟩ := J.1.own
        obtain ⟨u, z1, c, vs', z2, z3, z4, z5, _⟩ : ∃ v, S[i]? = some (some v) ∧ SvR K F H' v (A i) (.o a ds') := (a1 i _ hi).elim (fun z => by cases z) id
        have hv : S[i]? = some (some v) := J.2
        rw [hv] at z1
        cases z1
        exact q v F H' (.fr (.o none ds')) e J.1.ex (out J.1).1 (out J.1).2 ⟨A i, ⟨c, vs', z2, z3, z4, z5, fun _ z => by cases z⟩, fun a ha => ⟨(a3 i a ha).1, (a3 i a ha).2.1, (a3 i a ha).2.2.elim id False.elim⟩⟩ p
      | .fr s, J, ⟨hu, p⟩ =>
        obtain ⟨A, a1, a2, a3⟩ := J.own
        have J' := Iv.drop J
        obtain ⟨u, z1, z2⟩ : ∃ v', (S ++ [some v])[G.length]? = some (some v') ∧ SvR K F H' v' (A G.length) s := (a1 G.length s (by simp)).elim (fun z => absurd z hu) id
        have hv : (S ++ [some v])[G.length]? = some (some v) := by
          rw [← J'.len]
          simp
        rw [hv] at z1
        cases z1
        exact q v F H' (.fr s) e J'.ex (out J').1 (out J').2 ⟨_, z2, fun a ha => ⟨(a3 _ a ha).1, (a3 _ a ha).2.1, (a3 _ a ha).2.2.elim id False.elim⟩⟩ p
theorem fn1 {pre : List PyData → List PyData → Prop} {post : List PyData → List PyData → List PyData → PyData → Prop} (F : Fun K x qual st f fd) (S : FnScope N ps (defScope st)) (hl : ∀ ls ds, pre ls ds → ds.length + 1 = ps.length ∧ ds.length + 1 ≤ N.length)
    (hb : ∀ (cdv : Value) (A : Around) (outer : List Env) (s : Shared) (H : Hp) (E : XK), Room k (A.deeper (PyProof.Rows.envOfC qual (defScope st) s.heap.objs.size f cdv)) → ∃ t, PSs (cxOf CX0 P w K mg base N qual (defScope st) f cdv A outer s H E).nox (defBody st) t ∧
      ∀ p ls ds, pre ls ds → ∀ B, DS K B (G1 N p ls ds) t (E1 p (post ls ds))) : FnOk P w K mg base CX0 (k + 1) f fd ps (sp1 K pre post) := by
  refine F.ok S (fun vs H Q E h => ?_) (fun cdv A outer s H vs Q E hr h => ?_)
  · obtain ⟨F, p, vs0, vr, ls, ds, rfl, _, _, _, _, h1, h2, _⟩ := h
    rw [List.length_cons, da_len h1]
    exact (hl ls ds h2).1
  · obtain ⟨F0, p, vs0, vr, ls, ds, rfl, ex, hF, hH, h0, h1, h2, q⟩ := h
    obtain ⟨t, ht, hs⟩ := hb cdv A outer s H E hr
    refine ⟨t, ht, ?_⟩
    obtain ⟨_, hN⟩ := hl ls ds h2
    have I0 : Iv K ⟨F0, H, fun a => a = p⟩ (G1 N p ls ds) (L2.start N (.ref p :: vr)) F0 H := by
      have J := start_iv (N := N.drop 1) ex h1 (by rw [List.length_drop]; omega)
      have eG : G1 N p ls ds = .o (some p) ls :: G0 (N.drop 1) ds := by
        unfold G1 G0
        rw [List.length_drop, show N.length - 1 - ds.length = N.length - (ds.length + 1) by omega]
      have eS : L2.start N (.ref p :: vr) = some (.ref p) :: L2.start (N.drop 1) vr := by
        unfold L2.start
        rw [List.length_drop, List.length_cons, show N.length - 1 - vr.length = N.length - (vr.length + 1) by omega]
        rfl
      rw [eG, eS]
      obtain ⟨A, a1, a2, a3⟩ := J.own
      refine ⟨ex, Ex.refl _, fun b o h _ => h, fun b o h _ => .inl (nn h), fun b h => h, congrArg (· + 1) J.len, fun j a => j = 0 ∧ a = p, fun i s hi => ?_, fun i j a x y => by rw [x.1, y.1], fun i a x => ?_⟩
      · cases i with
        | zero =>
          simp at hi
          subst hi
          exact .inr ⟨.ref p, rfl, p, vs0, rfl, hH, h0, ⟨rfl, rfl⟩, fun a z => Option.some.inj z⟩
        | succ i =>
          have hi' : (G0 (N.drop 1) ds)[i]? = some s := by simpa using hi
          by_cases hlt : i < ds.length
          · have e : s = .d ds[i] := by
              unfold G0 at hi'
              rw [List.getElem?_append_left (by simpa using hlt), List.getElem?_map, List.getElem?_eq_getElem hlt] at hi'
              exact (Option.some.inj hi').symm
            subst e
            rcases a1 i _ hi' with z | ⟨u, z1, z2⟩
            · cases z
            · exact .inr ⟨u, by simpa using z1, z2⟩
          · refine .inl ?_
            unfold G0 at hi'
            rw [List.getElem?_append_right (by simpa using Nat.le_of_not_lt hlt)] at hi'
            simp only [List.getElem?_replicate] at hi'
            split at hi'
            · exact (Option.some.inj hi').symm
            · cases hi'
      · obtain ⟨_, rfl⟩ := x
        exact ⟨hF, (by rw [hH]; exact fun z => by cases z), .inr rfl⟩
    have fin : ∀ {G' : En} {S' : St} {F' H' : Hp} {v : V} {d : PyData} {ls' : List PyData}, Iv K ⟨F0, H, fun a => a = p⟩ G' S' F' H' → Ex F0 F' → Dq K F' v d → G'[0]? = some (.o (some p) ls') → post ls ds ls' d → Q v H' := fun {G' S' F' H' v d ls'} J e hd hi p1 => by
      obtain ⟨A, a1, a2, a3⟩ := J.own
      obtain ⟨u, z1, c, vs', z2, z3, z4, z5, z6⟩ : ∃ v, S'[0]? = some (some v) ∧ SvR K F' H' v (A 0) (.o (some p) ls') := (a1 0 _ hi).elim (fun z => by cases z) id
      have ec : c = p := z6 p rfl
      subst ec
      refine q v F' H' vs' ls' d e J.ex (fun b o hb hn => J.fr b o hb hn) (fun b o hb hn => ?_) (a3 0 c z5).1 z3 z4 hd p1
      cases z : H b with
      | none => rfl
      | some u =>
        rcases J.nw b o hb (nn z) with y | y
        · exact absurd hn y
        · have y : b = c := y
          subst y
          rw [(a3 0 b z5).1] at hb
          cases hb
    refine hs p ls ds h2 _ _ F0 H _ I0 ⟨fun S F H' G e J p => ?_, fun S F H' G v r e J p => ?_, fun _ _ _ _ _ _ z => z.elim, fun _ _ _ _ _ _ z => z.elim⟩
    · obtain ⟨ls', hi, p1⟩ := p
      exact fin J e .non hi p1
    · obtain ⟨F', w, e', I', hv, d, ls', rfl, hi, p1⟩ := pw_ok J p
      exact fin I' (e.trans e') hv hi p1
end
end DL
namespace DL
open PySem L2
/-! ### what a view tells, read only -/
def slD : Option Sl → Option PyData
  | some (.o _ ds) => some (.list ds)
  | _ => none
theorem slD_of : ∀ {s : Option Sl} {d : PyData}, slD s = some d → ∃ a ds, s = some (.o a ds) ∧ d = .list ds
  | some (.o a ds), _, h => ⟨a, ds, rfl, (Option.some.inj h).symm⟩
def wd (G : En) : W → Option PyData
  | .d d => some d
  | .sl i => slD G[i]?
  | .ty _ => none
section
variable {K : Fr} {B : Bs} {G : En} {S : St} {F H : Hp} {v : V} {w : W} {d : PyData}
theorem wd_sl {i : Nat} {a : Option Addr} {ds : List PyData} (h : G[i]? = some (.o a ds)) : wd G (.sl i) = some (.list ds) := by
  show slD G[i]? = _
  rw [h]
  rfl
/-- a list (own, or data): where it stands, its items frozen -/
theorem wd_list {ds : List PyData} (I : Iv K B G S F H) (hv : Vw K S F v w) (h : wd G w = some (.list ds)) : ∃ p vs, v = .ref p ∧ H p = some (.lst vs) ∧ DqAll K F vs ds := by
  match w, hv, h with
  | .d e, hv, h =>
    cases h
    obtain ⟨p, vs, e, h1, h2⟩ := dp_lst hv
    exact ⟨p, vs, e, I.ex _ _ h1, h2⟩
  | .sl i, hv, h =>
    obtain ⟨a, ds', hi, e⟩ := slD_of h
    cases e
    obtain ⟨p, vs, e, h1, h2, h3⟩ := I.lst hi
    have hv : S[i]? = some (some v) := hv
    rw [e] at hv
    cases hv
    exact ⟨p, vs, rfl, h1, h3⟩
theorem wd_dq (I : Iv K B G S F H) (hv : Vw K S F v w) (h : wd G w = some d) : Dq K H v d := by
  match w, hv, h with
  | .d e, hv, h =>
    cases h
    exact dp_mono I.ex hv
  | .sl i, hv, h =>
    obtain ⟨a, ds', hi, e⟩ := slD_of h
    subst e
    obtain ⟨p, vs, rfl, h1, h3⟩ := wd_list I hv h
    exact .lst h1 (da_mono I.ex h3)
end
/-! ### operators -/
section
variable {X : Cx}
abbrev rEQ (K : Fr) : R2 := fun x y H Q => rEqD K x y H Q ∨ rEq x y H Q
abbrev rNE (K : Fr) : R2 := fun x y H Q => rNeD K x y H Q ∨ rNe x y H Q
theorem opEQ (hu : X.A.units + 64 < cLine) : OpR X (compareOp .Eq) (rEQ X.K) := (op_eqD hu).or op_eq
theorem opNE (hu : X.A.units + 64 < cLine) : OpR X (compareOp .NotEq) (rNE X.K) := (op_neD hu).or op_ne
abbrev rStrCat : R2 := fun x y H Q => ∃ i j, x = .str i ∧ y = .str j ∧ i.length + j.length ≤ sizeLine ∧ Q (.str (i ++ j)) H
abbrev rADD (K : Fr) : R2 := fun x y H Q => rI0 (fun i j => .int (i + j)) x y H Q ∨ rStrCat x y H Q ∨ rCat x y H Q ∨ rCatA K x y H Q
theorem opADD : OpR X (binaryOp .Add) (rADD X.K) := op_add.or (op_add_str.or (op_cat.or op_catA))
/-- x in t: a tuple of data -/
def rInT (K : Fr) : R2 := fun x y H Q => ∃ d ds, L2.Dp K H x d ∧ L2.Dp K H y (.tuple ds) ∧ SeqAt.shaped d = true ∧ SeqAt.shaped (.tuple ds) = true ∧ Q (.bl (ds.any fun z => PyData.eqv z d)) H
def rNotInT (K : Fr) : R2 := fun x y H Q => ∃ d ds, L2.Dp K H x d ∧ L2.Dp K H y (.tuple ds) ∧ SeqAt.shaped d = true ∧ SeqAt.shaped (.tuple ds) = true ∧ Q (.bl (!ds.any fun z => PyData.eqv z d)) H
theorem op_inT (hu : X.A.units + 65 < cLine) : OpR X (compareOp .In) (rInT X.K) := by
  intro pins s σ H x y v u Q I rx ry h
  obtain ⟨d, ds, hd, he, sd, se, q⟩ := h
  obtain ⟨as, r1⟩ := L2.Dp.reads I d x v hd rx
  obtain ⟨bs, r2⟩ := L2.Dp.reads I (.tuple ds) y u he ry
  exact SeqAt.in_tuple_reads r2 r1 (SeqAt.canLay_of_shaped se) (SeqAt.canLay_of_shaped sd) (PyProof.Rows.room_in_shaped sd hu) ⟨.bl _, H, I, rfl, q⟩
theorem op_notInT (hu : X.A.units + 65 < cLine) : OpR X (compareOp .NotIn) (rNotInT X.K) := by
  intro pins s σ H x y v u Q I rx ry h
  obtain ⟨d, ds, hd, he, sd, se, q⟩ := h
  obtain ⟨as, r1⟩ := L2.Dp.reads I d x v hd rx
  obtain ⟨bs, r2⟩ := L2.Dp.reads I (.tuple ds) y u he ry
  exact SeqAt.notIn_tuple_reads r2 r1 (SeqAt.canLay_of_shaped se) (SeqAt.canLay_of_shaped sd) (PyProof.Rows.room_in_shaped sd hu) ⟨.bl _, H, I, rfl, q⟩
abbrev rInS : R2 := fun x y H Q => ∃ (c : Nat) (z : Str), x = .str ⟨#[c]⟩ ∧ y = .str z ∧ Q (.bl (decide (c ∈ z.cps.toList))) H
abbrev rNotInS : R2 := fun x y H Q => ∃ (c : Nat) (z : Str), x = .str ⟨#[c]⟩ ∧ y = .str z ∧ Q (.bl (!decide (c ∈ z.cps.toList))) H
abbrev rIN (K : Fr) : R2 := fun x y H Q => rInD K x y H Q ∨ rInT K x y H Q ∨ rInS x y H Q
abbrev rNI (K : Fr) : R2 := fun x y H Q => rNotInD K x y H Q ∨ rNotInT K x y H Q ∨ rNotInS x y H Q
theorem opIN (hu : X.A.units + 65 < cLine) : OpR X (compareOp .In) (rIN X.K) := (op_inD hu).or ((op_inT hu).or op_in_sign)
theorem opNI (hu : X.A.units + 65 < cLine) : OpR X (compareOp .NotIn) (rNI X.K) := (op_notInD hu).or ((op_notInT hu).or op_notIn_sign)
abbrev rSLC (K : Fr) : V → Option Int → Option Int → Hp → VK → Prop := fun x lo hi H Q => rSlL K x lo hi H Q ∨ rSlA K x lo hi H Q ∨ rSlS x lo hi H Q
theorem slANY : L2.SlR X (rSLC X.K) := sl_list.or (sl_tupA.or sl_str)
end
def mkS (l : List Nat) : Str := ⟨l.toArray⟩
theorem mkS_cat (a b : List Nat) : mkS a ++ mkS b = mkS (a ++ b) := by
  show (⟨a.toArray ++ b.toArray⟩ : Str) = ⟨(a ++ b).toArray⟩
  simp
theorem mkS_len (a : List Nat) : (mkS a).length = a.length := by simp [mkS, Str.length]
theorem mkS_inj {a b : List Nat} : mkS a = mkS b ↔ a = b := by
  refine ⟨fun h => ?_, fun h => by rw [h]⟩
  have : a.toArray = b.toArray := congrArg Str.cps h
  simpa using congrArg Array.toList this
theorem mkS_of (x : Str) : mkS x.cps.toList = x := by
  cases x
  simp [mkS]
section
variable {K : Fr} {B : Bs} {G : En} {P : Po} {w1 w2 : W}
theorem rw_addI {i j : Int} (q : P G (.p (.d (.int (i + j))))) : RW2 K B G (rADD K) (.d (.int i)) (.d (.int j)) P := fun S F H Q v1 v2 I h1 h2 k => .inl ⟨i, j, dp_int h1, dp_int h2, ct_d k I (.int _) q⟩
theorem rw_addS {a b : List Nat} (hz : a.length + b.length ≤ sizeLine) (q : P G (.p (.d (.str (mkS (a ++ b)))))) : RW2 K B G (rADD K) (.d (.str (mkS a))) (.d (.str (mkS b))) P := fun S F H Q v1 v2 I h1 h2 k => .inr (.inl ⟨mkS a, mkS b, dp_str h1, dp_str h2, by rw [mkS_len, mkS_len]; exact hz, by rw [mkS_cat]; exact ct_d k I (.str _) q⟩)
theorem rw_addL {ds es : List PyData} (e1 : wd G w1 = some (.list ds)) (e2 : wd G w2 = some (.list es)) (hz : ds.length + es.length ≤ sizeLine) (q : P G (.fr (.o none (ds ++ es)))) : RW2 K B G (rADD K) w1 w2 P := fun S F H Q v1 v2 I h1 h2 k => by
  obtain ⟨p, vs, rfl, hp, ha⟩ := wd_list I h1 e1
  obtain ⟨p', vs', rfl, hp', ha'⟩ := wd_list I h2 e2
  exact .inr (.inr (.inl ⟨p, p', vs, vs', rfl, rfl, hp, hp', by rw [da_len ha, da_len ha']; exact hz, fun c hc => ct_L k I hc (da_app ha ha') q⟩))
theorem rw_addT {ds es : List PyData} (hz : ds.length + es.length ≤ sizeLine) (q : P G (.p (.d (.tuple (ds ++ es))))) : RW2 K B G (rADD K) (.d (.tuple ds)) (.d (.tuple es)) P := fun S F H Q v1 v2 I h1 h2 k => by
  obtain ⟨p, vs, rfl, hp, ha⟩ := dp_tup h1
  obtain ⟨p', vs', rfl, hp', ha'⟩ := dp_tup h2
  refine .inr (.inr (.inr ⟨p, p', vs, vs', rfl, rfl, SqT.of (I.ex _ _ hp), SqT.of (I.ex _ _ hp'), by rw [da_len ha, da_len ha']; exact hz, fun e => ?_, fun e1 e2 => ?_, fun e1 e2 c hc => ct_T k I hc (da_app ha ha') q⟩))
  · subst e
    cases ha
    exact ct_d k I (.tup hp' ha') q
  · subst e2
    cases ha'
    rw [List.append_nil] at q
    exact ct_d k I (.tup hp ha) q
theorem rw_sub {i j : Int} (q : P G (.p (.d (.int (i - j))))) : RW2 K B G (rI0 fun i j => .int (i - j)) (.d (.int i)) (.d (.int j)) P := fun S F H Q v1 v2 I h1 h2 k => ⟨i, j, dp_int h1, dp_int h2, ct_d k I (.int _) q⟩
theorem rw_mul {i j : Int} (hc : CMul i j) (q : P G (.p (.d (.int (i * j))))) : RW2 K B G (rI CMul fun i j => .int (i * j)) (.d (.int i)) (.d (.int j)) P := fun S F H Q v1 v2 I h1 h2 k => ⟨i, j, dp_int h1, dp_int h2, hc, ct_d k I (.int _) q⟩
theorem rw_fdiv {i j : Int} (hc : CDiv i j) (q : P G (.p (.d (.int (i / j))))) : RW2 K B G (rI CDiv fun i j => .int (i / j)) (.d (.int i)) (.d (.int j)) P := fun S F H Q v1 v2 I h1 h2 k => ⟨i, j, dp_int h1, dp_int h2, hc, ct_d k I (.int _) q⟩
theorem rw_mod {i j : Int} (hc : 0 < j) (q : P G (.p (.d (.int (i % j))))) : RW2 K B G (rI (fun _ j => 0 < j) fun i j => .int (i % j)) (.d (.int i)) (.d (.int j)) P := fun S F H Q v1 v2 I h1 h2 k => ⟨i, j, dp_int h1, dp_int h2, hc, ct_d k I (.int _) q⟩
theorem rw_pow {i j : Int} (hc : CPow i j) (q : P G (.p (.d (.int (i ^ j.toNat))))) : RW2 K B G (rI CPow fun i j => .int (i ^ j.toNat)) (.d (.int i)) (.d (.int j)) P := fun S F H Q v1 v2 I h1 h2 k => ⟨i, j, dp_int h1, dp_int h2, hc, ct_d k I (.int _) q⟩
theorem rw_cmp {i j : Int} {g : Int → Int → Bool} (q : P G (.p (.d (.bool (g i j))))) : RW2 K B G (rI0 fun i j => .bl (g i j)) (.d (.int i)) (.d (.int j)) P := fun S F H Q v1 v2 I h1 h2 k => ⟨i, j, dp_int h1, dp_int h2, ct_d k I (.bl _) q⟩
theorem rw_eqI {i j : Int} (q : P G (.p (.d (.bool (decide (i = j)))))) : RW2 K B G (rEQ K) (.d (.int i)) (.d (.int j)) P := fun S F H Q v1 v2 I h1 h2 k => by
  obtain rfl := dp_int h1
  obtain rfl := dp_int h2
  refine .inr ⟨rfl, ct_d k I (.bl _) ?_⟩
  rw [show decide (V.int i = V.int j) = decide (i = j) from decide_eq_decide.mpr ⟨fun z => V.int.inj z, fun z => by rw [z]⟩]
  exact q
theorem rw_neI {i j : Int} (q : P G (.p (.d (.bool (!decide (i = j)))))) : RW2 K B G (rNE K) (.d (.int i)) (.d (.int j)) P := fun S F H Q v1 v2 I h1 h2 k => by
  obtain rfl := dp_int h1
  obtain rfl := dp_int h2
  refine .inr ⟨rfl, ct_d k I (.bl _) ?_⟩
  rw [show decide (V.int i = V.int j) = decide (i = j) from decide_eq_decide.mpr ⟨fun z => V.int.inj z, fun z => by rw [z]⟩]
  exact q
theorem rw_eqS {i j : Str} (q : P G (.p (.d (.bool (decide (i = j)))))) : RW2 K B G (rEQ K) (.d (.str i)) (.d (.str j)) P := fun S F H Q v1 v2 I h1 h2 k => by
  obtain rfl := dp_str h1
  obtain rfl := dp_str h2
  refine .inr ⟨rfl, ct_d k I (.bl _) ?_⟩
  rw [show decide (V.str i = V.str j) = decide (i = j) from decide_eq_decide.mpr ⟨fun z => V.str.inj z, fun z => by rw [z]⟩]
  exact q
theorem rw_neS {i j : Str} (q : P G (.p (.d (.bool (!decide (i = j)))))) : RW2 K B G (rNE K) (.d (.str i)) (.d (.str j)) P := fun S F H Q v1 v2 I h1 h2 k => by
  obtain rfl := dp_str h1
  obtain rfl := dp_str h2
  refine .inr ⟨rfl, ct_d k I (.bl _) ?_⟩
  rw [show decide (V.str i = V.str j) = decide (i = j) from decide_eq_decide.mpr ⟨fun z => V.str.inj z, fun z => by rw [z]⟩]
  exact q
theorem rw_eqB {i j : Bool} (q : P G (.p (.d (.bool (decide (i = j)))))) : RW2 K B G (rEQ K) (.d (.bool i)) (.d (.bool j)) P := fun S F H Q v1 v2 I h1 h2 k => by
  obtain rfl := dp_bl h1
  obtain rfl := dp_bl h2
  refine .inr ⟨rfl, ct_d k I (.bl _) ?_⟩
  rw [show decide (V.bl i = V.bl j) = decide (i = j) from decide_eq_decide.mpr ⟨fun z => V.bl.inj z, fun z => by rw [z]⟩]
  exact q
theorem rw_neB {i j : Bool} (q : P G (.p (.d (.bool (!decide (i = j)))))) : RW2 K B G (rNE K) (.d (.bool i)) (.d (.bool j)) P := fun S F H Q v1 v2 I h1 h2 k => by
  obtain rfl := dp_bl h1
  obtain rfl := dp_bl h2
  refine .inr ⟨rfl, ct_d k I (.bl _) ?_⟩
  rw [show decide (V.bl i = V.bl j) = decide (i = j) from decide_eq_decide.mpr ⟨fun z => V.bl.inj z, fun z => by rw [z]⟩]
  exact q
theorem rw_eqD {d e : PyData} (e1 : wd G w1 = some d) (e2 : wd G w2 = some e) (s1 : SeqAt.shaped d = true) (s2 : SeqAt.shaped e = true) (q : P G (.p (.d (.bool (PyData.eqv d e))))) : RW2 K B G (rEQ K) w1 w2 P := fun S F H Q v1 v2 I h1 h2 k =>
  .inl ⟨d, e, dq_dp (wd_dq I h1 e1), dq_dp (wd_dq I h2 e2), s1, s2, ct_d k I (.bl _) q⟩
theorem rw_neD {d e : PyData} (e1 : wd G w1 = some d) (e2 : wd G w2 = some e) (s1 : SeqAt.shaped d = true) (s2 : SeqAt.shaped e = true) (q : P G (.p (.d (.bool (!PyData.eqv d e))))) : RW2 K B G (rNE K) w1 w2 P := fun S F H Q v1 v2 I h1 h2 k =>
  .inl ⟨d, e, dq_dp (wd_dq I h1 e1), dq_dp (wd_dq I h2 e2), s1, s2, ct_d k I (.bl _) q⟩
theorem rw_inL {d : PyData} {ds : List PyData} (e1 : wd G w1 = some d) (e2 : wd G w2 = some (.list ds)) (s1 : SeqAt.shaped d = true) (s2 : SeqAt.shaped (.list ds) = true) (q : P G (.p (.d (.bool (ds.any fun z => PyData.eqv z d))))) : RW2 K B G (rIN K) w1 w2 P := fun S F H Q v1 v2 I h1 h2 k =>
  .inl ⟨d, ds, dq_dp (wd_dq I h1 e1), dq_dp (wd_dq I h2 e2), s1, s2, ct_d k I (.bl _) q⟩
theorem rw_niL {d : PyData} {ds : List PyData} (e1 : wd G w1 = some d) (e2 : wd G w2 = some (.list ds)) (s1 : SeqAt.shaped d = true) (s2 : SeqAt.shaped (.list ds) = true) (q : P G (.p (.d (.bool (!ds.any fun z => PyData.eqv z d))))) : RW2 K B G (rNI K) w1 w2 P := fun S F H Q v1 v2 I h1 h2 k =>
  .inl ⟨d, ds, dq_dp (wd_dq I h1 e1), dq_dp (wd_dq I h2 e2), s1, s2, ct_d k I (.bl _) q⟩
theorem rw_inT {d : PyData} {ds : List PyData} (e1 : wd G w1 = some d) (s1 : SeqAt.shaped d = true) (s2 : SeqAt.shaped (.tuple ds) = true) (q : P G (.p (.d (.bool (ds.any fun z => PyData.eqv z d))))) : RW2 K B G (rIN K) w1 (.d (.tuple ds)) P := fun S F H Q v1 v2 I h1 h2 k =>
  .inr (.inl ⟨d, ds, dq_dp (wd_dq I h1 e1), dq_dp (dp_mono I.ex h2), s1, s2, ct_d k I (.bl _) q⟩)
theorem rw_niT {d : PyData} {ds : List PyData} (e1 : wd G w1 = some d) (s1 : SeqAt.shaped d = true) (s2 : SeqAt.shaped (.tuple ds) = true) (q : P G (.p (.d (.bool (!ds.any fun z => PyData.eqv z d))))) : RW2 K B G (rNI K) w1 (.d (.tuple ds)) P := fun S F H Q v1 v2 I h1 h2 k =>
  .inr (.inl ⟨d, ds, dq_dp (wd_dq I h1 e1), dq_dp (dp_mono I.ex h2), s1, s2, ct_d k I (.bl _) q⟩)
theorem rw_inS {c : Nat} {z : List Nat} (q : P G (.p (.d (.bool (decide (c ∈ z)))))) : RW2 K B G (rIN K) (.d (.str (mkS [c]))) (.d (.str (mkS z))) P := fun S F H Q v1 v2 I h1 h2 k =>
  .inr (.inr ⟨c, mkS z, dp_str h1, dp_str h2, ct_d k I (.bl _) q⟩)
theorem rw_niS {c : Nat} {z : List Nat} (q : P G (.p (.d (.bool (!decide (c ∈ z)))))) : RW2 K B G (rNI K) (.d (.str (mkS [c]))) (.d (.str (mkS z))) P := fun S F H Q v1 v2 I h1 h2 k =>
  .inr (.inr ⟨c, mkS z, dp_str h1, dp_str h2, ct_d k I (.bl _) q⟩)
/-! is -/
def isNone : PyData → Bool
  | .none => true
  | _ => false
theorem dq_isN {H : Hp} {v : V} {d : PyData} (h : Dq K H v d) : decide (v = .non) = isNone d := by
  cases h <;> rfl
theorem rw_isN {d : PyData} (e1 : wd G w1 = some d) (q : P G (.p (.d (.bool (isNone d))))) : RW2 K B G (fun x y H Q => y = .non ∧ Q (.bl (decide (x = .non))) H) w1 (.d .none) P := fun S F H Q v1 v2 I h1 h2 k =>
  ⟨dp_non h2, by rw [dq_isN (wd_dq I h1 e1)]; exact ct_d k I (.bl _) q⟩
theorem rw_notN {d : PyData} (e1 : wd G w1 = some d) (q : P G (.p (.d (.bool (!isNone d))))) : RW2 K B G (fun x y H Q => y = .non ∧ Q (.bl (!decide (x = .non))) H) w1 (.d .none) P := fun S F H Q v1 v2 I h1 h2 k =>
  ⟨dp_non h2, by rw [dq_isN (wd_dq I h1 e1)]; exact ct_d k I (.bl _) q⟩
theorem rw_isB {a b : Bool} (q : P G (.p (.d (.bool (decide (a = b)))))) : RW2 K B G rIsB (.d (.bool a)) (.d (.bool b)) P := fun S F H Q v1 v2 I h1 h2 k => ⟨a, b, dp_bl h1, dp_bl h2, ct_d k I (.bl _) q⟩
theorem rw_notB {a b : Bool} (q : P G (.p (.d (.bool (!decide (a = b)))))) : RW2 K B G rNotB (.d (.bool a)) (.d (.bool b)) P := fun S F H Q v1 v2 I h1 h2 k => ⟨a, b, dp_bl h1, dp_bl h2, ct_d k I (.bl _) q⟩
/-! items -/
theorem ixN_map {n m : Nat} (e : n = m) (i : Int) : ixN n i = ixN m i := by rw [e]
theorem atI_da {F : Hp} {vs : List V} {ds : List PyData} {i : Int} {d : PyData} (h : DqAll K F vs ds) (e : atI ds i = some d) : ∃ v, atI vs i = some v ∧ Dq K F v d := by
  unfold atI at e ⊢
  rw [da_len h]
  cases q : ixN ds.length i with
  | none =>
    rw [q] at e
    cases e
  | some j =>
    rw [q] at e
    exact da_get h e
theorem rw_ixL {ds : List PyData} {i : Int} {d : PyData} (e1 : wd G w1 = some (.list ds)) (e : atI ds i = some d) (q : P G (.p (.d d))) : RW2 K B G (rIx K) w1 (.d (.int i)) P := fun S F H Q v1 v2 I h1 h2 k => by
  obtain ⟨p, vs, rfl, hp, ha⟩ := wd_list I h1 e1
  obtain ⟨v, hv, hd⟩ := atI_da ha e
  exact .inl ⟨p, vs, i, v, rfl, dp_int h2, SqL.of hp, hv, ct_d k I hd q⟩
theorem rw_ixT {ds : List PyData} {i : Int} {d : PyData} (e : atI ds i = some d) (q : P G (.p (.d d))) : RW2 K B G (rIx K) (.d (.tuple ds)) (.d (.int i)) P := fun S F H Q v1 v2 I h1 h2 k => by
  obtain ⟨p, vs, rfl, hp, ha⟩ := dp_tup h1
  obtain ⟨v, hv, hd⟩ := atI_da ha e
  exact .inr (.inl ⟨p, vs, i, v, rfl, dp_int h2, SqT.of (I.ex _ _ hp), hv, ct_d k I hd q⟩)
theorem rw_ixS {z : List Nat} {i : Int} {c : Nat} (hz : z.length ≤ sizeLine) (e : atI z i = some c) (q : P G (.p (.d (.str (mkS [c]))))) : RW2 K B G (rIx K) (.d (.str (mkS z))) (.d (.int i)) P := fun S F H Q v1 v2 I h1 h2 k =>
  .inr (.inr ⟨mkS z, i, c, dp_str h1, dp_int h2, by rw [mkS_len]; exact hz, e, ct_d k I (.str _) q⟩)
/-! slices -/
def DO (K : Fr) (B : Bs) (G : En) (to : TO) (PO : En → Option Int → Prop) : Prop := ∀ S F H (Q : Option Int → Hp → Prop), Iv K B G S F H → (∀ o F' H' G', Ex F F' → Iv K B G' S F' H' → PO G' o → Q o H') → to S H Q
theorem do_none {PO : En → Option Int → Prop} (h : PO G none) : DO K B G tNoPart PO := fun S F H Q I k => k none F H G (Ex.refl F) I h
theorem do_some {te : TE} {PO : En → Option Int → Prop} (h : DW K B G te fun G1 r => PW r fun w => ∃ i, w = .d (.int i) ∧ PO G1 (some i)) : DO K B G (tPart te) PO := fun S F H Q I k => by
  show te S H fun x H1 => ∃ i, x = .int i ∧ Q (some i) H1
  refine dw_run (k' := fun G1 w => ∃ i, w = .d (.int i) ∧ PO G1 (some i)) h I fun v F1 H1 G1 w e1 I1 hv q => ?_
  obtain ⟨i, rfl, q⟩ := q
  exact ⟨i, dp_int hv, k _ F1 H1 G1 e1 I1 q⟩
def cutD {α : Type} (xs : List α) (lo hi : Option Int) : List α := (xs.drop (HT.sIx xs.length 0 lo)).take (HT.sIx xs.length xs.length hi - HT.sIx xs.length 0 lo)
theorem da_cut {F : Hp} {vs : List V} {ds : List PyData} (h : DqAll K F vs ds) (lo hi : Option Int) : DqAll K F (cutV vs lo hi) (cutD ds lo hi) := by
  unfold cutV cutD
  rw [da_len h]
  exact da_take _ (da_drop _ h)
theorem cutD_len {α : Type} (xs : List α) (lo hi : Option Int) : (cutD xs lo hi).length ≤ xs.length := by
  unfold cutD
  rw [List.length_take, List.length_drop]
  omega
def RWs (K : Fr) (B : Bs) (G : En) (r : V → Option Int → Option Int → Hp → VK → Prop) (w1 : W) (lo hi : Option Int) (P : Po) : Prop := ∀ S F H Q v1, Iv K B G S F H → Vw K S F v1 w1 → Ct K B S F P Q → r v1 lo hi H Q
theorem dw_sl3 {te : TE} {tl th : TO} {r : V → Option Int → Option Int → Hp → VK → Prop} (h : DW K B G te fun G1 r1 => PW r1 fun w1 => DO K B G1 tl fun G2 lo => DO K B G2 th fun G3 hi => RWs K B G3 r w1 lo hi P) : DW K B G (tSl r te tl th) P := fun S F H Q I k => by
  show te S H fun x H1 => tl S H1 fun l H2 => th S H2 fun u H3 => r x l u H3 Q
  refine dw_run (k' := fun G1 w1 => DO K B G1 tl fun G2 lo => DO K B G2 th fun G3 hi => RWs K B G3 r w1 lo hi P) h I fun v1 F1 H1 G1 w1 e1 I1 r1 q1 => ?_
  refine q1 S F1 H1 _ I1 fun lo F2 H2 G2 e2 I2 q2 => ?_
  refine q2 S F2 H2 _ I2 fun hi F3 H3 G3 e3 I3 q3 => ?_
  exact q3 S F3 H3 Q v1 I3 (r1.mono (e2.trans e3)) (k.mono ((e1.trans e2).trans e3))
theorem rs_L {ds : List PyData} {lo hi : Option Int} (e1 : wd G w1 = some (.list ds)) (q : P G (.fr (.o none (cutD ds lo hi)))) : RWs K B G (rSLC K) w1 lo hi P := fun S F H Q v1 I h1 k => by
  obtain ⟨p, vs, rfl, hp, ha⟩ := wd_list I h1 e1
  exact .inl ⟨p, vs, rfl, SqL.of hp, fun c hc => ct_L k I hc (da_cut ha lo hi) q⟩
theorem rs_T {ds : List PyData} {lo hi : Option Int} (q : P G (.p (.d (.tuple (cutD ds lo hi))))) : RWs K B G (rSLC K) (.d (.tuple ds)) lo hi P := fun S F H Q v1 I h1 k => by
  obtain ⟨p, vs, rfl, hp, ha⟩ := dp_tup h1
  refine .inr (.inl ⟨p, vs, rfl, SqT.of (I.ex _ _ hp), fun ⟨z1, z2⟩ => ?_, fun _ c hc => ct_T k I hc (da_cut ha lo hi) q⟩)
  have e : cutD ds lo hi = ds := by
    unfold cutD
    rw [← da_len ha, z1, z2]
    simp [da_len ha]
  rw [e] at q
  exact ct_d k I h1 q
theorem rs_S {z : List Nat} {lo hi : Option Int} (hz : z.length ≤ sizeLine) (q : P G (.p (.d (.str (mkS (cutD z lo hi)))))) : RWs K B G (rSLC K) (.d (.str (mkS z))) lo hi P := fun S F H Q v1 I h1 k => by
  refine .inr (.inr ⟨mkS z, dp_str h1, by rw [mkS_len]; exact hz, ?_⟩)
  have e : cutS (mkS z) lo hi = mkS (cutD z lo hi) := by
    unfold cutS cutD
    rw [mkS_len]
    rfl
  rw [e]
  exact ct_d k I (.str _) q
end
end DL
namespace DL
open PySem L2
section
variable {K : Fr} {B : Bs} {G : En} {P : Po} {w1 w2 : W}
theorem vws1 {S : St} {F : Hp} {vs : List V} {w : W} (h : Vws K S F vs [w]) : ∃ v, vs = [v] ∧ Vw K S F v w := by
  cases h with
  | cons a t =>
    cases t
    exact ⟨_, rfl, a⟩
theorem vws2 {S : St} {F : Hp} {vs : List V} {w w' : W} (h : Vws K S F vs [w, w']) : ∃ v v', vs = [v, v'] ∧ Vw K S F v w ∧ Vw K S F v' w' := by
  cases h with
  | cons a t =>
    cases t with
    | cons b t =>
      cases t
      exact ⟨_, _, rfl, a, b⟩
/-! ### calls of built-ins -/
abbrev rLEN (K : Fr) : List V → Hp → VK → Prop := fun xs H Q => ∃ x n, xs = [x] ∧ LenV K x H n ∧ Q (.int (n : Nat)) H
def lenD : PyData → Option Nat
  | .list ds => some ds.length
  | .tuple ds => some ds.length
  | _ => none
theorem len_dq {H : Hp} {v : V} {d : PyData} {n : Nat} (h : Dq K H v d) (e : lenD d = some n) : LenV K v H n := by
  cases h with
  | lst h a =>
    cases e
    exact .inl ⟨_, SqL.of h, (da_len a).symm⟩
  | tup h a =>
    cases e
    exact .inr ⟨_, SqT.of h, (da_len a).symm⟩
  | str x => cases e
  | non => cases e
  | bl _ => cases e
  | int _ => cases e
theorem rn_len {d : PyData} {n : Nat} (e1 : wd G w1 = some d) (e : lenD d = some n) (q : P G (.p (.d (.int (n : Int))))) : RWn K B G (rLEN K) [w1] P := fun S F H Q vs I hv k => by
  obtain ⟨v, rfl, h1⟩ := vws1 hv
  exact ⟨v, n, rfl, len_dq (wd_dq I h1 e1) e, ct_d k I (.int _) q⟩
theorem rn_lenL {ds : List PyData} (e1 : wd G w1 = some (.list ds)) (q : P G (.p (.d (.int (ds.length : Int))))) : RWn K B G (rLEN K) [w1] P := rn_len e1 rfl q
theorem rn_lenT {ds : List PyData} (q : P G (.p (.d (.int (ds.length : Int))))) : RWn K B G (rLEN K) [.d (.tuple ds)] P := rn_len (w1 := .d (.tuple ds)) rfl rfl q
theorem rn_lenS {z : List Nat} (hz : z.length ≤ sizeLine) (q : P G (.p (.d (.int (z.length : Int))))) : RWn K B G (rLEN K) [.d (.str (mkS z))] P := fun S F H Q vs I hv k => by
  obtain ⟨v, rfl, h1⟩ := vws1 hv
  obtain rfl := dp_str h1
  refine ⟨_, z.length, rfl, ⟨by rw [mkS_len]; exact hz, (mkS_len z).symm⟩, ct_d k I (.int _) q⟩
abbrev rINT : List V → Hp → VK → Prop := fun xs H Q => (∃ i, xs = [.int i] ∧ Q (.int i) H) ∨ ∃ k, xs = [.bl k] ∧ Q (.int (if k then 1 else 0)) H
theorem rn_intI {i : Int} (q : P G (.p (.d (.int i)))) : RWn K B G rINT [.d (.int i)] P := fun S F H Q vs I hv k => by
  obtain ⟨v, rfl, h1⟩ := vws1 hv
  exact .inl ⟨i, by rw [dp_int h1], ct_d k I (.int _) q⟩
theorem rn_intB {b : Bool} (q : P G (.p (.d (.int (if b then 1 else 0))))) : RWn K B G rINT [.d (.bool b)] P := fun S F H Q vs I hv k => by
  obtain ⟨v, rfl, h1⟩ := vws1 hv
  exact .inr ⟨b, by rw [dp_bl h1], ct_d k I (.int _) q⟩
theorem rn_max {i j : Int} (q : P G (.p (.d (.int (if j > i then j else i))))) : RWn K B G (fun xs H Q => ∃ i j, xs = [.int i, .int j] ∧ Q (.int (if j > i then j else i)) H) [.d (.int i), .d (.int j)] P := fun S F H Q vs I hv k => by
  obtain ⟨v, v', rfl, h1, h2⟩ := vws2 hv
  exact ⟨i, j, by rw [dp_int h1, dp_int h2], ct_d k I (.int _) q⟩
theorem rn_min {i j : Int} (q : P G (.p (.d (.int (if j < i then j else i))))) : RWn K B G (fun xs H Q => ∃ i j, xs = [.int i, .int j] ∧ Q (.int (if j < i then j else i)) H) [.d (.int i), .d (.int j)] P := fun S F H Q vs I hv k => by
  obtain ⟨v, v', rfl, h1, h2⟩ := vws2 hv
  exact ⟨i, j, by rw [dp_int h1, dp_int h2], ct_d k I (.int _) q⟩
abbrev rLIST (K : Fr) : List V → Hp → VK → Prop := fun xs H Q => ∃ p ys, xs = [.ref p] ∧ (SqL K H p ys ∨ SqT K H p ys) ∧ ∀ l, H l = none → Q (.ref l) (upd H l (.lst ys))
theorem rn_listL {ds : List PyData} (e1 : wd G w1 = some (.list ds)) (q : P G (.fr (.o none ds))) : RWn K B G (rLIST K) [w1] P := fun S F H Q vs I hv k => by
  obtain ⟨v, rfl, h1⟩ := vws1 hv
  obtain ⟨p, us, rfl, hp, ha⟩ := wd_list I h1 e1
  exact ⟨p, us, rfl, .inl (SqL.of hp), fun c hc => ct_L k I hc ha q⟩
theorem rn_listT {ds : List PyData} (q : P G (.fr (.o none ds))) : RWn K B G (rLIST K) [.d (.tuple ds)] P := fun S F H Q vs I hv k => by
  obtain ⟨v, rfl, h1⟩ := vws1 hv
  obtain ⟨p, us, rfl, hp, ha⟩ := dp_tup h1
  exact ⟨p, us, rfl, .inr (SqT.of (I.ex _ _ hp)), fun c hc => ct_L k I hc ha q⟩
abbrev rTUP (K : Fr) : List V → Hp → VK → Prop := fun xs H Q => ∃ p ys, xs = [.ref p] ∧ ((SqL K H p ys ∧ ∀ l, H l = none → Q (.ref l) (upd H l (.tup ys))) ∨ (SqT K H p ys ∧ Q (.ref p) H))
theorem rn_tupL {ds : List PyData} (e1 : wd G w1 = some (.list ds)) (q : P G (.p (.d (.tuple ds)))) : RWn K B G (rTUP K) [w1] P := fun S F H Q vs I hv k => by
  obtain ⟨v, rfl, h1⟩ := vws1 hv
  obtain ⟨p, us, rfl, hp, ha⟩ := wd_list I h1 e1
  exact ⟨p, us, rfl, .inl ⟨SqL.of hp, fun c hc => ct_T k I hc ha q⟩⟩
theorem rn_tupT {ds : List PyData} (q : P G (.p (.d (.tuple ds)))) : RWn K B G (rTUP K) [.d (.tuple ds)] P := fun S F H Q vs I hv k => by
  obtain ⟨v, rfl, h1⟩ := vws1 hv
  obtain ⟨p, us, rfl, hp, ha⟩ := dp_tup h1
  exact ⟨p, us, rfl, .inr ⟨SqT.of (I.ex _ _ hp), ct_d k I h1 q⟩⟩
theorem rn_str {i : Int} (hi : i.natAbs.log2 < 1920) (q : P G (.p (.d (.str (toString i))))) : RWn K B G (fun xs H Q => ∃ i, xs = [.int i] ∧ i.natAbs.log2 < 1920 ∧ Q (.str (toString i)) H) [.d (.int i)] P := fun S F H Q vs I hv k => by
  obtain ⟨v, rfl, h1⟩ := vws1 hv
  exact ⟨i, by rw [dp_int h1], hi, ct_d k I (.str _) q⟩
end
/-! sorted of ints -/
def srtI (ns : List Int) : List Int := ns.mergeSort (fun a b => decide (a ≤ b))
theorem srtI_perm (ns : List Int) : (srtI ns).Perm ns := List.mergeSort_perm _ _
theorem srtI_len (ns : List Int) : (srtI ns).length = ns.length := (srtI_perm ns).length_eq
theorem srtI_mem {ns : List Int} {x : Int} : x ∈ srtI ns ↔ x ∈ ns := (srtI_perm ns).mem_iff
theorem srtI_pw (ns : List Int) : (srtI ns).Pairwise (· ≤ ·) := by
  have h := List.pairwise_mergeSort (le := fun a b : Int => decide (a ≤ b)) (fun a b c h1 h2 => by simp at *; omega) (fun a b => by simp; omega) ns
  exact h.imp fun h => by simpa using h
theorem pw_perm_eq : ∀ {l m : List Int}, l.Pairwise (· ≤ ·) → m.Pairwise (· ≤ ·) → l.Perm m → l = m
  | [], m, _, _, h => (List.nil_perm.mp h).symm ▸ rfl
  | x :: l, [], _, _, h => by simpa using h.length_eq
  | x :: l, y :: m, h1, h2, h => by
    have hx : x ∈ y :: m := h.mem_iff.mp List.mem_cons_self
    have hy : y ∈ x :: l := h.mem_iff.mpr List.mem_cons_self
    have a1 := List.pairwise_cons.mp h1
    have a2 := List.pairwise_cons.mp h2
    have e : x = y := by
      rcases List.mem_cons.mp hx with z | z
      · exact z
      · rcases List.mem_cons.mp hy with z' | z'
        · exact z'.symm
        · have b1 : x ≤ y := a1.1 y z'
          have b2 : y ≤ x := a2.1 x z
          omega
    subst e
    rw [pw_perm_eq a1.2 a2.2 h.cons_inv]
theorem srtI_eq {ns ms : List Int} (h1 : ms.Perm ns) (h2 : ms.Pairwise (· ≤ ·)) : ms = srtI ns := pw_perm_eq h2 (srtI_pw ns) (h1.trans (srtI_perm ns).symm)
section
variable {K : Fr} {B : Bs} {G : En} {P : Po} {w1 w2 : W}
theorem rn_sortI {ns : List Int} (e1 : wd G w1 = some (.list (ns.map .int))) (q : P G (.fr (.o none ((srtI ns).map .int)))) : RWn K B G (rSortedI K) [w1] P := fun S F H Q vs I hv k => by
  obtain ⟨v, rfl, h1⟩ := vws1 hv
  obtain ⟨p, us, rfl, hp, ha⟩ := wd_list I h1 e1
  obtain rfl := da_ints_eq ha
  refine ⟨p, ns, rfl, SqL.of hp, fun ns' c hp hw hc => ?_⟩
  rw [srtI_eq hp hw]
  exact ct_L k I hc (da_ints _) q
/-! ### methods -/
/-- the receiver's type, by its view -/
def tyW (G : En) (T : String) : W → Prop
  | .d (.str _) => T = "str"
  | .d (.list _) => T = "list"
  | .sl i => T = "list" ∧ ∃ a ds, G[i]? = some (.o a ds)
  | _ => False
theorem tyW_ok {S : St} {F H : Hp} {v : V} {T : String} {w : W} (I : Iv K B G S F H) (hv : Vw K S F v w) (h : tyW G T w) : tyV K T v H := by
  match w, hv, h with
  | .d (.str _), hv, h =>
    obtain rfl := dp_str hv
    exact h
  | .d (.list _), hv, h =>
    obtain ⟨p, vs, rfl, h1, h2⟩ := dp_lst hv
    exact .inl ⟨h, vs, SqL.of (I.ex _ _ h1)⟩
  | .sl i, hv, ⟨h, a, ds, hi⟩ =>
    obtain ⟨p, vs, rfl, h1, h2⟩ := wd_list I hv (wd_sl hi)
    exact .inl ⟨h, vs, SqL.of h1⟩
theorem dw_BM {T : String} {r : V → List V → Hp → VK → Prop} {to : TE} {t : TA} (h : DW K B G to fun G1 r1 => PW r1 fun w1 => tyW G1 T w1 ∧ DA K B G1 t fun G2 ws => RWm K B G2 r w1 ws P) : DW K B G (tBM K T r to t) P := fun S F H Q I k => by
  show to S H fun x H1 => tyV K T x H1 ∧ t S H1 fun xs H2 => r x xs H2 Q
  refine dw_run (k' := fun G1 w1 => tyW G1 T w1 ∧ DA K B G1 t fun G2 ws => RWm K B G2 r w1 ws P) h I fun v1 F1 H1 G1 w1 e1 I1 r1 q1 => ⟨tyW_ok I1 r1 q1.1, ?_⟩
  exact q1.2 S F1 H1 _ I1 fun vs F2 H2 G2 ws e2 I2 r2 q2 => q2 S F2 H2 Q v1 vs I2 (r1.mono e2) r2 (k.mono (e1.trans e2))
theorem dw_BM0 {T : String} {r : V → List V → Hp → VK → Prop} {to : TE} (h : DW K B G to fun G1 r1 => PW r1 fun w1 => tyW G1 T w1 ∧ RWm K B G1 r w1 [] P) : DW K B G (tBM0 K T r to) P := fun S F H Q I k => by
  show to S H fun x H1 => tyV K T x H1 ∧ r x [] H1 Q
  refine dw_run (k' := fun G1 w1 => tyW G1 T w1 ∧ RWm K B G1 r w1 [] P) h I fun v1 F1 H1 G1 w1 e1 I1 r1 q1 => ⟨tyW_ok I1 r1 q1.1, ?_⟩
  exact q1.2 S F1 H1 Q v1 [] I1 r1 .nil (k.mono e1)
/-- xs.append(e) -/
theorem rm_app {i : Nat} {a : Option Addr} {ds : List PyData} {d : PyData} (hi : G[i]? = some (.o a ds)) (hz : ds.length < sizeLine) (q : P (G.set i (.o a (ds ++ [d]))) (.p (.d .none))) : RWm K B G rAppend (.sl i) [.d d] P := fun S F H Q v vs I hv hs k => by
  obtain ⟨y, rfl, hy⟩ := vws1 hs
  obtain ⟨p, us, e, hp, hF, ha⟩ := I.lst hi
  have hv : S[i]? = some (some v) := hv
  rw [e] at hv
  cases hv
  refine ⟨p, us, y, rfl, rfl, hp, by rw [da_len ha]; exact hz, ?_⟩
  exact k .non F _ _ (.p (.d .none)) (Ex.refl F) ⟨I.mut hi e (da_app ha (.cons hy .nil)), .non⟩ q
/-- xs.extend(ys) -/
theorem rm_ext {i : Nat} {a : Option Addr} {ds es : List PyData} (hi : G[i]? = some (.o a ds)) (e2 : wd G w2 = some (.list es)) (hz : ds.length + es.length ≤ sizeLine) (q : P (G.set i (.o a (ds ++ es))) (.p (.d .none))) : RWm K B G rExtend (.sl i) [w2] P := fun S F H Q v vs I hv hs k => by
  obtain ⟨y, rfl, hy⟩ := vws1 hs
  obtain ⟨p, us, e, hp, hF, ha⟩ := I.lst hi
  have hv : S[i]? = some (some v) := hv
  rw [e] at hv
  cases hv
  obtain ⟨p', us', rfl, hp', ha'⟩ := wd_list I hy e2
  refine ⟨p, p', us, us', rfl, rfl, hp, hp', by rw [da_len ha, da_len ha']; exact hz, ?_⟩
  exact k .non F _ _ (.p (.d .none)) (Ex.refl F) ⟨I.mut hi e (da_app ha ha'), .non⟩ q
/-- xs.pop(0) -/
theorem rm_pop0 {i : Nat} {a : Option Addr} {d : PyData} {ds : List PyData} (hi : G[i]? = some (.o a (d :: ds))) (q : P (G.set i (.o a ds)) (.p (.d d))) : RWm K B G rPopAt (.sl i) [.d (.int 0)] P := fun S F H Q v vs I hv hs k => by
  obtain ⟨y, rfl, hy⟩ := vws1 hs
  obtain rfl := dp_int hy
  obtain ⟨p, us, e, hp, hF, ha⟩ := I.lst hi
  have hv : S[i]? = some (some v) := hv
  rw [e] at hv
  cases hv
  cases ha with
  | @cons u ur _ _ hu hr =>
    refine ⟨p, u :: ur, 0, 0, u, rfl, rfl, hp, by decide, by decide, ?_, rfl, ?_⟩
    · exact PySem.seqIndex_of (by decide) (by simp)
    · exact k u F _ _ (.p (.d d)) (Ex.refl F) ⟨I.mut hi e hr, hu⟩ q
/-- xs.pop() -/
theorem rm_pop {i : Nat} {a : Option Addr} {d : PyData} {ds : List PyData} (hi : G[i]? = some (.o a (ds ++ [d]))) (q : P (G.set i (.o a ds)) (.p (.d d))) : RWm K B G rPop (.sl i) [] P := fun S F H Q v vs I hv hs k => by
  cases hs
  obtain ⟨p, us, e, hp, hF, ha⟩ := I.lst hi
  have hv : S[i]? = some (some v) := hv
  rw [e] at hv
  cases hv
  have hl := da_len ha
  simp only [List.length_append, List.length_singleton] at hl
  obtain ⟨y, hy, hd⟩ := da_get ha (i := ds.length) (d := d) (by simp)
  refine ⟨p, us, y, rfl, rfl, hp, by rw [hl]; exact hy, ?_⟩
  have e2 : DqAll K F us.dropLast ds := by
    have := da_take ds.length ha
    rw [List.take_left' rfl] at this
    rw [List.dropLast_eq_take, hl]
    exact this
  exact k y F _ _ (.p (.d d)) (Ex.refl F) ⟨I.mut hi e e2, hd⟩ q
theorem idx_le : ∀ {z : List Nat} {c i : Nat}, z[i]? = some c → z.idxOf c ≤ i
  | [], _, _, h => by simp at h
  | x :: z, c, 0, h => by
    simp at h
    subst h
    simp
  | x :: z, c, i + 1, h => by
    have := idx_le (z := z) (c := c) (i := i) (by simpa using h)
    rw [List.idxOf_cons]
    cases (x == c)
    · show z.idxOf c + 1 ≤ i + 1
      omega
    · exact Nat.zero_le _
/-- t.index(sign) -/
theorem occ_ix (z : List Nat) (c : Nat) (h : c ∈ z) : ∃ rest, Builtin.Str.occurrences (mkS z) (mkS [c]) 0 (mkS z).length 1 = (z.idxOf c) :: rest := by
  have at_ : ∀ i, PySem.StrLaws.At (mkS z) (mkS [c]) (mkS z).length i ↔ z[i]? = some c := fun i => PySem.StrLaws.subAt_one (mkS z) c i
  have hi : z[z.idxOf c]? = some c := by
    have hl := List.idxOf_lt_length_of_mem h
    rw [List.getElem?_eq_getElem hl, List.getElem_idxOf hl]
  rcases PySem.StrLaws.occ_head (mkS z) (mkS [c]) 1 (Nat.le_refl 1) with ⟨_, hn⟩ | ⟨i, r, e, ha, hn⟩
  · exact absurd ((at_ _).mpr hi) (hn _)
  · refine ⟨r, ?_⟩
    have h1 := (at_ i).mp ha
    have e2 : i = z.idxOf c := by
      rcases Nat.lt_trichotomy i (z.idxOf c) with q | q | q
      · exact absurd (idx_le h1) (by omega)
      · exact q
      · exact absurd ((at_ _).mpr hi) (hn _ q)
    rw [e, e2]
theorem rm_sindex {z : List Nat} {c : Nat} (h : c ∈ z) (q : P G (.p (.d (.int ((z.idxOf c : Nat) : Int))))) : RWm K B G (fun x xs H Q => ∃ a b i rest, x = .str a ∧ xs = [.str b] ∧ Builtin.Str.occurrences a b 0 a.length 1 = i :: rest ∧ Q (.int (i : Nat)) H) (.d (.str (mkS z))) [.d (.str (mkS [c]))] P := fun S F H Q v vs I hv hs k => by
  obtain ⟨y, rfl, hy⟩ := vws1 hs
  obtain rfl := dp_str hv
  obtain rfl := dp_str hy
  obtain ⟨rest, e⟩ := occ_ix z c h
  exact ⟨_, _, _, rest, rfl, rfl, e, ct_d k I (.int _) q⟩
end
end DL
namespace L2
open PySem PySem.Spec PyProof.Rows
section
variable {P : Program} {w : World} {A : Around} {E : Value → Shared → Prop} {s : Shared}
theorem call_set_lstI {l : Addr} {items : Array Value} (ns : List Int) {Q : Value → Shared → Prop} (hh : A.handled = none) (hl : s.heap.IsList l items) (hit : IntsAre items.toList ns) (hb : ns.length + 1 < scanBound)
    (h : ∀ (h' : Heap) (tk c : Nat), SetR w h' s.heap.objs.size (fun j => decide (j ∈ ns)) c → c ≤ ns.length → (∀ b o, s.heap.get? b = some o → h'.get? b = some o) → Q (.ref s.heap.objs.size) { s with heap := h', toks := tk }) :
    wpAny (model P w) A (call (.type "set") [.ref l]) Q E s := by
  have hisz : items.size = ns.length := by
    have q := IntsAre.length hit
    rw [Array.length_toList] at q
    exact q
  obtain ⟨c, tl, hmro⟩ := F.called_set.mro
  have hmade := F.called_set.made
  have hsub := F.called_set.sub
  refine wpAny_call (codeAny_of_tree ?_)
  show wpAny _ _ (callAny (.type "set") _) _ _ _
  refine wpAny_pure ⟨Code.quiet_builtin _ (by decide +kernel), codeAny_builtin F.entry_type_call ?_⟩
  rw [Around.under_plain (weight_type_call_type "set" [.ref l] []) rfl]
  have h1 := F.called_set.notType
  have h2 := F.called_set.canCreate
  have hct := F.typeCall_set_1 (.ref l)
  repeat (any_goals (first | assumption | wp_step))

  refine codeAny_mono (code_set_led1 (.ref l) (E := E) (Q₁ := fun obj s₁ => obj = .ref s.heap.objs.size ∧ s₁ = { s with heap := s.heap.push { cls := .type "set", dict := none, data := .set #[] 0 (.fresh 0 0 (!w.params.followText "set-order")) } }) ⟨rfl, rfl⟩) fun r s₁ hr => ?_
  cases r with
  | error e => exact hr
  | ok fl =>
    cases fl with
    | ret obj =>
      obtain ⟨rfl, rfl⟩ := hr
      have hS : (s.heap.push { cls := .type "set", dict := none, data := .set #[] 0 (.fresh 0 0 (!w.params.followText "set-order")) }).get? s.heap.objs.size = some { cls := .type "set", dict := none, data := .set #[] 0 (.fresh 0 0 (!w.params.followText "set-order")) } := Heap.get?_push_size _ rfl
      have hT : Shared.TypeIs { s with heap := s.heap.push { cls := .type "set", dict := none, data := .set #[] 0 (.fresh 0 0 (!w.params.followText "set-order")) } } (.ref s.heap.objs.size) "set" := ⟨_, hS, rfl⟩
      have hli := F.called_set.init.lookup
      have hbi := F.called_set.init.bind (.ref s.heap.objs.size)
      repeat (any_goals (first | assumption | wp_step))

      refine codeAny_mono (codeAny_call_builtin (R := wants (fun r s₂ => r = .none ∧ ∃ h' tk c, s₂ = { s with heap := h', toks := tk } ∧ SetR w h' s.heap.objs.size (fun j => decide (j ∈ ns)) c ∧ c ≤ ns.length ∧
          (∀ b o, s.heap.get? b = some o → h'.get? b = some o)) E) F.called_set.init.plain F.entry_set_init (check_set_init_1 hT ?_)) fun r₂ s₂ hr₂ => ?_
      · obtain ⟨ol, hol, hcl, nl, hdl⟩ := hl
        obtain ⟨ocls, odict, odata, oslots⟩ := ol
        simp only at hcl hdl
        subst hcl; subst hdl
        have hol' : (s.heap.push { cls := .type "set", dict := none, data := .set #[] 0 (.fresh 0 0 (!w.params.followText "set-order")) }).get? l = some { cls := .type "list", dict := odict, data := .seq items nl, slots := oslots } := Heap.get?_push_of_some _ hol
        have hsls := F.sub_list_set
        have hslf := F.sub_list_frozenset
        have hne : (Value.type "list" == Value.type "dict") = false := by decide
        have hl1 : (s.heap.push { cls := .type "set", dict := none, data := .set #[] 0 (.fresh 0 0 (!w.params.followText "set-order")) }).IsList l items := ⟨_, hol', rfl, nl, rfl⟩
        unfold Builtin.«set.__init__» noKeywords Builtin.Frozenset.updateFrom
        generalize hPI : pyIter = PI
        wp_walk
        subst hPI

        refine wpAny_pyIter_list hl1 ?_
        refine wpAny_bind (wpAny_runValue ?_)
        have hlS : l < s.heap.objs.size := Heap.lt_size hol
        have hh3 : A.in1.in1.in1.handled = none := by simp [hh]
        have hz1 : (s.heap.push { cls := .type "set", dict := none, data := .set #[] 0 (.fresh 0 0 (!w.params.followText "set-order")) }).objs.size = s.heap.objs.size + 1 := Heap.size_push ..
        have hneI : l ≠ (s.heap.push { cls := .type "set", dict := none, data := .set #[] 0 (.fresh 0 0 (!w.params.followText "set-order")) }).objs.size := by
          rw [Heap.size_push]; exact Nat.ne_of_lt (Nat.lt_succ_of_lt hlS)
        have hSf : s.heap.objs.size ∉ [(s.heap.push { cls := .type "set", dict := none, data := .set #[] 0 (.fresh 0 0 (!w.params.followText "set-order")) }).objs.size, l] := by
          rw [Heap.size_push]; simp only [List.mem_cons, List.mem_singleton, List.not_mem_nil, or_false, not_or]
          exact ⟨Nat.ne_of_lt (Nat.lt_succ_self _), Nat.ne_of_gt hlS⟩
        have hval : ∀ (i : Nat) (v : Value), items[i]? = some v → ∃ k t, ns[i]? = some k ∧ v = .int k t := fun i v hv => by
          have hi : i < ns.length := by rw [← hisz]; exact (Array.getElem?_eq_some_iff.mp hv).1
          obtain ⟨t, e⟩ := PyProof.Rows.IntsAre.int_at hit i v (by rw [Array.getElem?_toList]; exact hv)
          refine ⟨ns[i], t, List.getElem?_eq_getElem hi, ?_⟩
          rw [e, List.getD_eq_getElem?_getD, List.getElem?_eq_getElem hi] <;> rfl
        refine set_update_ints ((Walks.list hh3 _ l hneI items).toS) s.heap.objs.size
          hSf ns hisz hb hval (items.size - 0) 0 _ (by omega) (Nat.zero_le _)
          ⟨⟨_, Heap.get?_push_size _ rfl, rfl, rfl⟩, (hl1.push _)⟩ ?hS0 ?hR
        case hS0 =>
          have hget : ((s.heap.push { cls := .type "set", dict := none, data := .set #[] 0 (.fresh 0 0 (!w.params.followText "set-order")) }).push { cls := .type "list_iterator", data := .fields #[.ref l, .int 0 0] }).get? s.heap.objs.size
              = some { cls := .type "set", dict := none, data := .set #[] 0 (.fresh 0 0 (!w.params.followText "set-order")) } := Heap.get?_push_of_some _ hS
          exact ⟨0, Nat.le_refl 0, setR_new_at hget⟩
        case hR =>
          intro s' c' hm hc' hS'
          obtain ⟨h', g2, d', tk', os'⟩ := s'
          have eg : g2 = s.gens := hm.gens
          have ed : d' = s.drawn := hm.drawn
          have eo : os' = s.os := hm.os
          subst eg; subst ed; subst eo
          show wpAny _ _ _ _ _ _
          refine wpAny_pure ?_
          show wpAny _ _ (ret Value.none) _ _ _
          rw [hisz] at hc'
          refine wpAny_pure ⟨rfl, h', tk', c', rfl, hS', hc', fun b o e => ?_⟩
          have hb0 : b < s.heap.objs.size := Heap.lt_size e
          have hb1 : b ≠ s.heap.objs.size := Nat.ne_of_lt hb0
          have hb2 : b ≠ (s.heap.push { cls := .type "set", dict := none, data := .set #[] 0 (.fresh 0 0 (!w.params.followText "set-order")) }).objs.size := by
            rw [Heap.size_push]; exact Nat.ne_of_lt (Nat.lt_succ_of_lt hb0)
          exact hm.heap b o (by simp only [List.mem_cons, List.mem_singleton, List.not_mem_nil, or_false, not_or]; exact ⟨hb1, hb2⟩) (Heap.get?_push_of_some _ (Heap.get?_push_of_some _ e))

      · cases r₂ with
        | error e => exact hr₂
        | ok fl₂ =>
          cases fl₂ with
          | ret r =>
            obtain ⟨rfl, h', tk, c', rfl, hS', hc', hk'⟩ := hr₂
            repeat (any_goals (first | assumption | wp_step))
            exact h _ _ _ hS' hc' hk'
          | _ => exact hr₂.elim
    | _ => exact hr.elim

end
end L2
namespace DL
open PySem L2
/-! ### the increasing list of a list's ints -/
def insU (x : Int) : List Int → List Int
  | [] => [x]
  | y :: r => if x < y then x :: y :: r else if x = y then y :: r else y :: insU x r
def usrt : List Int → List Int
  | [] => []
  | x :: r => insU x (usrt r)
theorem insU_mem {x z : Int} : ∀ {l : List Int}, z ∈ insU x l ↔ z = x ∨ z ∈ l
  | [] => by simp [insU]
  | y :: r => by
    unfold insU
    split
    · simp
    · split
      · rename_i e
        subst e
        simp
      · rw [List.mem_cons, insU_mem (l := r), List.mem_cons]
        constructor
        · rintro (h | h | h)
          · exact .inr (.inl h)
          · exact .inl h
          · exact .inr (.inr h)
        · rintro (h | h | h)
          · exact .inr (.inl h)
          · exact .inl h
          · exact .inr (.inr h)
theorem insU_pw {x : Int} : ∀ {l : List Int}, l.Pairwise (· < ·) → (insU x l).Pairwise (· < ·)
  | [], _ => by simp [insU]
  | y :: r, h => by
    have h1 := List.pairwise_cons.mp h
    unfold insU
    split
    · rename_i c
      refine List.pairwise_cons.mpr ⟨fun z hz => ?_, h⟩
      rcases List.mem_cons.mp hz with e | hz
      · omega
      · have := h1.1 z hz
        omega
    · split
      · exact h
      · refine List.pairwise_cons.mpr ⟨fun z hz => ?_, insU_pw h1.2⟩
        rcases insU_mem.mp hz with e | hz
        · omega
        · exact h1.1 z hz
theorem usrt_mem {z : Int} : ∀ {l : List Int}, z ∈ usrt l ↔ z ∈ l
  | [] => by simp [usrt]
  | y :: r => by
    unfold usrt
    rw [insU_mem, usrt_mem (l := r), List.mem_cons]
theorem usrt_pw : ∀ l : List Int, (usrt l).Pairwise (· < ·)
  | [] => List.Pairwise.nil
  | y :: r => insU_pw (usrt_pw r)
theorem insU_len (x : Int) : ∀ l : List Int, (insU x l).length ≤ l.length + 1
  | [] => by simp [insU]
  | y :: r => by
    have := insU_len x r
    unfold insU
    split
    · simp
    · split
      · simp
      · simp only [List.length_cons]
        omega
theorem usrt_len : ∀ l : List Int, (usrt l).length ≤ l.length
  | [] => Nat.le_refl _
  | y :: r => by
    have h1 := usrt_len r
    have h2 := insU_len y (usrt r)
    show (insU y (usrt r)).length ≤ r.length + 1
    omega
theorem pwlt_eq : ∀ {l m : List Int}, l.Pairwise (· < ·) → m.Pairwise (· < ·) → (∀ z, z ∈ l ↔ z ∈ m) → l = m
  | [], [], _, _, _ => rfl
  | [], y :: m, _, _, h => by simpa using (h y).mpr List.mem_cons_self
  | x :: l, [], _, _, h => by simpa using (h x).mp List.mem_cons_self
  | x :: l, y :: m, h1, h2, h => by
    have a1 := List.pairwise_cons.mp h1
    have a2 := List.pairwise_cons.mp h2
    have e : x = y := by
      rcases List.mem_cons.mp ((h x).mp List.mem_cons_self) with z | z
      · exact z
      · rcases List.mem_cons.mp ((h y).mpr List.mem_cons_self) with z' | z'
        · exact z'.symm
        · have b1 := a1.1 y z'
          have b2 := a2.1 x z
          omega
    subst e
    congr 1
    refine pwlt_eq a1.2 a2.2 fun z => ⟨fun hz => ?_, fun hz => ?_⟩
    · rcases List.mem_cons.mp ((h z).mp (List.mem_cons_of_mem _ hz)) with e | k
      · have := a1.1 z hz
        omega
      · exact k
    · rcases List.mem_cons.mp ((h z).mpr (List.mem_cons_of_mem _ hz)) with e | k
      · have := a2.1 z hz
        omega
      · exact k
theorem nodup_len {l m : List Int} (h1 : l.Nodup) (h2 : m.Nodup) (h : ∀ z, z ∈ l ↔ z ∈ m) : l.length = m.length := by
  have a := (List.perm_ext_iff_of_nodup h1 h2).mpr h
  exact a.length_eq
theorem usrt_nodup (l : List Int) : (usrt l).Nodup := (usrt_pw l).imp fun h => by omega
/-! ### sets of ints, made and used at once -/
def rMkSet (w : World) (K : Fr) : List V → Hp → VK → Prop := fun xs H Q => ∃ (l : Addr) (ns : List Int), xs = [.ref l] ∧ SqL K H l (ns.map V.int) ∧ ns.length ≤ 1000 ∧ ∀ p, H p = none → Q (.ref p) (upd H p (SetO w p (fun j => decide (j ∈ ns)) (usrt ns).length))
section
variable {X : Cx}
theorem setR_count {w : World} {h : Heap} {a : Addr} {ns : List Int} {c : Nat} (R : SetR w h a (fun j => decide (j ∈ ns)) c) : c = (usrt ns).length := by
  obtain ⟨o, es, ep, t, h1, h2, h3, h4, h5, h6, h7, h8, h9, h10⟩ := R
  rw [← h9, ← Array.length_toList, ← List.length_map (f := keyOf)]
  refine nodup_len h5 (usrt_nodup ns) fun z => ?_
  rw [usrt_mem, ← h6 z]
  simp
theorem cr_setL (hc : X.calm = true) : CallR X (.type "set") (rMkSet X.w X.K) := by
  intro pins s σ H xs us Q I r h
  obtain ⟨l, ns, rfl, hs, hl, q⟩ := h
  rw [Vals.ref1 r]
  obtain ⟨its, rv, pl, hz⟩ := I.list hs
  refine call_set_lstI ns (I.ok.hd hc) pl.isList (by simpa using rv.ints) (by unfold scanBound; omega) fun h' tk c R hcl hk => ?_
  have ec := setR_count R
  subst ec
  exact ⟨.ref _, upd H s.heap.objs.size (SetO X.w s.heap.objs.size (fun j => decide (j ∈ ns)) (usrt ns).length), I.laid (t' := tk) hk (Nat.le_refl _) (setO_new R), rfl, q _ (I.hok.fresh (Nat.le_refl _))⟩
def rLenSet (w : World) : List V → Hp → VK → Prop := fun xs H Q => ∃ (a : Addr) (S : Int → Bool) (n : Nat), xs = [.ref a] ∧ H a = some (SetO w a S n) ∧ n ≤ 100000 ∧ Q (.int (n : Nat)) H
theorem call_lenSet : CallR X (.builtin "len") (rLenSet X.w) := by
  intro pins s σ H xs us Q I r h
  obtain ⟨a, S, n, rfl, ha, hn, q⟩ := h
  rw [Vals.ref1 r]
  obtain ⟨o, es, ep, t, h1, h2, h3, h4, h5, h6, h7, h8, h9, h10⟩ := setO_get I ha
  exact call_len_set h1 h2 h3 h8 (by rw [h9]; omega) ⟨.int n, H, I.tok _, ⟨_, by rw [h9]⟩, q⟩
end
section
variable {K : Fr} {B : Bs} {G : En} {P : Po} {te : TE} {w : World}
theorem dw_sortSet (h : DW K B G te fun G1 r1 => PW r1 fun w1 => ∃ ns : List Int, wd G1 w1 = some (.list (ns.map .int)) ∧ ns.length < 64 ∧ P G1 (.fr (.o none ((usrt ns).map .int)))) : DW K B G (tCB (rSortedSet w) (tCons (tCB (rMkSet w K) (tCons te tNil)) tNil)) P := fun S F H Q I k => by
  show te S H fun x H1 => rMkSet w K [x] H1 fun y H2 => rSortedSet w [y] H2 Q
  refine dw_run (k' := fun G1 w1 => ∃ ns : List Int, wd G1 w1 = some (.list (ns.map .int)) ∧ ns.length < 64 ∧ P G1 (.fr (.o none ((usrt ns).map .int)))) h I fun v1 F1 H1 G1 w1 e1 I1 r1 ⟨ns, hd, hl, q⟩ => ?_
  obtain ⟨l, us, rfl, hp, ha⟩ := wd_list I1 r1 hd
  obtain rfl := da_ints_eq ha
  refine ⟨l, ns, rfl, SqL.of hp, by omega, fun p hp => ⟨p, _, _, rfl, upd_same, Nat.lt_of_le_of_lt (usrt_len ns) hl, fun ms c hw hm _ hc => ?_⟩⟩
  have e : ms = usrt ns := pwlt_eq hw (usrt_pw ns) fun z => by
    rw [hm z, usrt_mem]
    simp
  subst e
  exact ct_L (k.mono e1) (I1.newH hp _) hc (da_ints _) q
theorem dw_lenSet (h : DW K B G te fun G1 r1 => PW r1 fun w1 => ∃ ns : List Int, wd G1 w1 = some (.list (ns.map .int)) ∧ ns.length ≤ 1000 ∧ P G1 (.p (.d (.int ((usrt ns).length : Int))))) : DW K B G (tCB (rLenSet w) (tCons (tCB (rMkSet w K) (tCons te tNil)) tNil)) P := fun S F H Q I k => by
  show te S H fun x H1 => rMkSet w K [x] H1 fun y H2 => rLenSet w [y] H2 Q
  refine dw_run (k' := fun G1 w1 => ∃ ns : List Int, wd G1 w1 = some (.list (ns.map .int)) ∧ ns.length ≤ 1000 ∧ P G1 (.p (.d (.int ((usrt ns).length : Int))))) h I fun v1 F1 H1 G1 w1 e1 I1 r1 ⟨ns, hd, hl, q⟩ => ?_
  obtain ⟨l, us, rfl, hp, ha⟩ := wd_list I1 r1 hd
  obtain rfl := da_ints_eq ha
  refine ⟨l, ns, rfl, SqL.of hp, hl, fun p hp => ⟨p, _, _, rfl, upd_same, Nat.le_trans (usrt_len ns) (by omega), ?_⟩⟩
  exact ct_d (k.mono e1) (I1.newH hp _) (.int _) q
end
/-! ### in short -/
section
variable {X : Cx} {pos : Pos}
theorem hu65 {k : Nat} {A : Around} (hr : Room k A) : A.units + 65 < cLine := by
  have := hr.un
  omega
theorem pe_strM {x : Str} {j pos} (l : List Nat) (h : x = mkS l) : PE X (.Constant (.str x) j pos) (tC (.str (mkS l))) := by
  subst h
  exact pe_str
/-- what stands in a for's head, whatever its kind -/
def iANY (K : Fr) (te : TE) : TI := fun S H R => iList K te S H R ∨ iTup K te S H R ∨ iStr te S H R
theorem PI.or {tg e : Expr} {w1 w2 : TI} (h1 : PI X tg e w1) (h2 : PI X tg e w2) : PI X tg e (fun S H R => w1 S H R ∨ w2 S H R) :=
  ⟨fun pins s σ H R I h => h.elim (h1.run pins s σ H R I) (h2.run pins s σ H R I)⟩
theorem pi_any {tg e : Expr} {te : TE} (h : PE X e te) : PI X tg e (iANY X.K te) := PI.or (pi_list h) (PI.or (pi_tup h) (pi_str h))
end
section
variable {K : Fr} {B : Bs} {G : En} {P : Po} {te : TE} {PI : En → List PyData → Prop}
theorem di_str (h : DW K B G te fun G1 r1 => PW r1 fun w => ∃ z : List Nat, w = .d (.str (mkS z)) ∧ PI G1 (z.map fun c => .str (mkS [c]))) : DI K B G (iStr te) PI := fun S F H R I k => by
  show te S H fun v H1 => ∃ x, v = .str x ∧ R (Its x) H1
  refine dw_run (k' := fun G1 w => ∃ z : List Nat, w = .d (.str (mkS z)) ∧ PI G1 (z.map fun c => .str (mkS [c]))) h I fun v F1 H1 G1 w e1 I1 hv q => ?_
  obtain ⟨z, rfl, q⟩ := q
  refine ⟨mkS z, dp_str hv, k _ F1 H1 G1 _ e1 I1 (fun i H2 F2 eF eH => ⟨fun d hd => ?_, fun e => ?_⟩) q⟩
  · rw [List.getElem?_map] at hd
    obtain ⟨c, hc, rfl⟩ := Option.map_eq_some_iff.mp hd
    have hl := (List.getElem?_eq_some_iff.mp hc).1
    refine ⟨(show i < (mkS z).cps.size by simpa [mkS] using hl), fun x H' y => ?_⟩
    obtain ⟨e, c', hc', rfl⟩ := y
    subst e
    have : c' = c := by
      have : z[i]? = some c' := by simpa [mkS] using hc'
      rw [hc] at this
      exact (Option.some.inj this).symm
    subst this
    exact ⟨F2, Ex.refl _, Ex.refl _, eH, (fun b o z n => by rw [z] at n; cases n), .str _⟩
  · show (mkS z).cps.size ≤ i
    rw [List.length_map] at e
    simp [mkS, e]
theorem di_anyL (h : DI K B G (iList K te) PI) : DI K B G (iANY K te) PI := fun S F H R I k => .inl (h S F H R I k)
theorem di_anyT (h : DI K B G (iTup K te) PI) : DI K B G (iANY K te) PI := fun S F H R I k => .inr (.inl (h S F H R I k))
theorem di_anyS (h : DI K B G (iStr te) PI) : DI K B G (iANY K te) PI := fun S F H R I k => .inr (.inr (h S F H R I k))
end
end DL
namespace DL
open PySem L2
/-! ### the rules with the written part named (so that a comprehension's block can bear them) -/
section
variable {X : Cx} {k : Nat} {A : Around} {pos : Pos}
theorem kEQ (K : Fr) (h : X.K = K) (hu : X.A.units + 64 < cLine) : OpR X (compareOp .Eq) (rEQ K) := h ▸ opEQ hu
theorem kNE (K : Fr) (h : X.K = K) (hu : X.A.units + 64 < cLine) : OpR X (compareOp .NotEq) (rNE K) := h ▸ opNE hu
theorem kIN (K : Fr) (h : X.K = K) (hu : X.A.units + 65 < cLine) : OpR X (compareOp .In) (rIN K) := h ▸ opIN hu
theorem kNI (K : Fr) (h : X.K = K) (hu : X.A.units + 65 < cLine) : OpR X (compareOp .NotIn) (rNI K) := h ▸ opNI hu
theorem kADD (K : Fr) (h : X.K = K) : OpR X (binaryOp .Add) (rADD K) := h ▸ opADD
theorem kIX (K : Fr) (h : X.K = K) : IxR X (rIx K) := h ▸ ix_seq
theorem kSLC (K : Fr) (h : X.K = K) : L2.SlR X (rSLC K) := h ▸ slANY
theorem kLEN (K : Fr) (h : X.K = K) : CallR X (.builtin "len") (rLEN K) := h ▸ call_len
theorem kLIST (K : Fr) (h : X.K = K) : CallR X (.type "list") (rLIST K) := h ▸ call_list_of
theorem kTUP (K : Fr) (h : X.K = K) : CallR X (.type "tuple") (rTUP K) := h ▸ call_tuple_of
theorem kSORT (K : Fr) (h : X.K = K) : CallR X (.builtin "sorted") (rSortedI K) := h ▸ cr_sortedI
theorem kSORTP (K : Fr) (h : X.K = K) : CallR X (.builtin "sorted") (rSortedPO K) := h ▸ cr_sortedPO
theorem kISI (K : Fr) (h : X.K = K) : CallR X (.builtin "isinstance") (rIsi K) := h ▸ call_isi
theorem kSET (w : World) (K : Fr) (hw : X.w = w) (h : X.K = K) (hc : X.calm = true) : CallR X (.type "set") (rMkSet w K) := h ▸ hw ▸ cr_setL hc
theorem kSORTSET (w : World) (hw : X.w = w) (hc : X.calm = true) : CallR X (.builtin "sorted") (rSortedSet w) := hw ▸ cr_sortedSet hc
theorem kLENSET (w : World) (hw : X.w = w) : CallR X (.builtin "len") (rLenSet w) := hw ▸ call_lenSet
theorem kANY (K : Fr) (h : X.K = K) {tg e : Expr} {te : TE} (he : PE X e te) : PI X tg e (iANY K te) := h ▸ pi_any he
theorem kTG (K : Fr) (h : X.K = K) {es : List Expr} {j : Nat} {t : TGs} {n : Nat} (hc : X.calm = true) (ht : PGs X es t)
    (hn : (assignEach es X.env).length = n := by rfl) (hst : (assignEach es X.env).findIdx? (·.1) = none := by rfl) : PG X (.Tuple es j pos) (gTup K n t) := h ▸ pg_tup hc ht hn hst
theorem kTRUTH (K : Fr) (h : X.K = K) {a : Expr} {ta : TE} (ha : PE X a ta) (he : ∀ whole, isTrue a X.env whole = (do let v ← whole; standAt a.pos; holding [v] (truthy v))) :
    PT X a (fun S H Q => ta S H fun x H' => ∃ k, TruV K x H' k ∧ Q k H') := h ▸ pt_truth ha he
theorem kBM (K : Fr) (h : X.K = K) {T : String} {r : V → List V → Hp → VK → Prop} {e : Expr} {to : TE} {t : TA} (he : PE X e (tBM X.K T r to t)) : PE X e (tBM K T r to t) := h ▸ he
theorem kBM0 (K : Fr) (h : X.K = K) {T : String} {r : V → List V → Hp → VK → Prop} {e : Expr} {to : TE} (he : PE X e (tBM0 X.K T r to)) : PE X e (tBM0 K T r to) := h ▸ he
abbrev rJOIN (K : Fr) : V → List V → Hp → VK → Prop := fun x xs H Q => ∃ a p, ∃ ys : List Str, x = .str a ∧ xs = [.ref p] ∧ (SqL K H p (ys.map V.str) ∨ SqT K H p (ys.map V.str)) ∧ (ys.map (·.length)).sum + ys.length * a.length ≤ 16777216 ∧ Q (.str (Txt.join a ys)) H
theorem kJOIN (K : Fr) (h : X.K = K) : MtR X "str.join" (rJOIN K) := h ▸ mt_join
end
/-! ### xs[i] op= e of a list of ints -/
section
variable {X : Cx}
def rGetL (K : Fr) : V → V → Hp → VK → Prop := fun x y H Q => ∃ p xs i v, x = .ref p ∧ y = .int i ∧ 0 ≤ i ∧ SqL K H p xs ∧ atI xs i = some v ∧ Q v H
theorem get_list : PGet X (rGetL X.K) := by
  intro pins s S H o i ov iv Q I ro ri h
  obtain ⟨p, xs, j, v, rfl, rfl, h0, hq, ha, q⟩ := h
  cases ro
  obtain ⟨t, rfl⟩ := ri
  obtain ⟨its, r, pl, hz⟩ := I.list hq
  obtain ⟨m, h1, h2, h3, h4, h5⟩ := atI_get ha
  obtain ⟨u, hu, ru⟩ := r.get h2
  have hn := line63
  have hj : j.toNat = m := by
    rw [PySem.seqIndex_of h0 h5] at h1
    exact Option.some.inj h1
  exact wpAny_getItem_list pl.isList h0 (by omega) (by rw [hj]; simpa using hu) ⟨v, H, I, ru, q⟩
theorem kGET (K : Fr) (h : X.K = K) : PGet X (rGetL K) := h ▸ get_list
end
section
variable {K : Fr} {B : Bs} {G : En} {to ti te : TE} {E : De}
/-- xs[j] op= e, xs this def's own -/
theorem ds_augL {i : Nat} {a : Option Addr} {ds : List PyData} {j : Nat} {x : Int} {f : Int → Int → Int} (h : DW K B G to fun G1 r1 => PW r1 fun w => w = .sl i ∧ DW K B G1 ti fun G2 r2 => PW r2 fun w2 => w2 = .d (.int (j : Int)) ∧ G2[i]? = some (.o a ds) ∧ ds[j]? = some (.int x) ∧
    DW K B G2 te fun G3 r3 => PW r3 fun w3 => ∃ y, w3 = .d (.int y) ∧ G3[i]? = some (.o a ds) ∧ E.nx (G3.set i (.o a (ds.set j (.int (f x y)))))) : DS K B G (tAugS to ti te (rGetL K) (ipI f) rSetL) E := fun S F H D I c => by
  show to S H fun o H1 => ti S H1 fun i H2 => rGetL K o i H2 fun x H3 => te S H3 fun y H4 => ipI f x y H4 fun z H5 => rSetL o i z H5 fun H6 => D.nx S H6
  refine dw_run (k' := fun G1 w => w = .sl i ∧ DW K B G1 ti fun G2 r2 => PW r2 fun w2 => w2 = .d (.int (j : Int)) ∧ G2[i]? = some (.o a ds) ∧ ds[j]? = some (.int x) ∧
    DW K B G2 te fun G3 r3 => PW r3 fun w3 => ∃ y, w3 = .d (.int y) ∧ G3[i]? = some (.o a ds) ∧ E.nx (G3.set i (.o a (ds.set j (.int (f x y)))))) h I fun v1 F1 H1 G1 w1 e1 I1 hv1 ⟨hw1, q1⟩ => ?_
  subst hw1
  refine dw_run (k' := fun G2 w2 => w2 = .d (.int (j : Int)) ∧ G2[i]? = some (.o a ds) ∧ ds[j]? = some (.int x) ∧
    DW K B G2 te fun G3 r3 => PW r3 fun w3 => ∃ y, w3 = .d (.int y) ∧ G3[i]? = some (.o a ds) ∧ E.nx (G3.set i (.o a (ds.set j (.int (f x y)))))) q1 I1 fun v2 F2 H2 G2 w2 e2 I2 hv2 ⟨hw2, hi, hj, q2⟩ => ?_
  subst hw2
  obtain rfl := dp_int hv2
  obtain ⟨p, vs, e, hp, hF, ha⟩ := I2.lst hi
  have hv1 : S[i]? = some (some v1) := hv1
  rw [e] at hv1
  cases hv1
  obtain ⟨u, hu, hd⟩ := da_get ha hj
  obtain rfl := dp_int hd
  refine ⟨p, vs, j, _, rfl, rfl, Int.natCast_nonneg j, SqL.of hp, atI_nat hu, ?_⟩
  refine dw_run (k' := fun G3 w3 => ∃ y, w3 = .d (.int y) ∧ G3[i]? = some (.o a ds) ∧ E.nx (G3.set i (.o a (ds.set j (.int (f x y)))))) q2 I2 fun v3 F3 H3 G3 w3 e3 I3 hv3 ⟨y, hw3, hi3, q3⟩ => ?_
  subst hw3
  obtain rfl := dp_int hv3
  obtain ⟨p', vs', e', hp', hF', ha'⟩ := I3.lst hi3
  rw [e] at e'
  cases e'
  have hl := (List.getElem?_eq_some_iff.mp hj).1
  refine ⟨x, y, rfl, rfl, p, vs', (j : Int), j, rfl, rfl, hp', ?_, ?_⟩
  · unfold ixN
    rw [if_pos (by omega), if_pos (by rw [da_len ha']; omega)]
    simp
  · exact c.nx S F3 _ _ ((e1.trans e2).trans e3) (I3.mut hi3 e (da_set j ha' (.int _))) q3
/-- xs[j] = e, xs this def's own -/
theorem ds_setL {i : Nat} {a : Option Addr} {ds : List PyData} {j : Nat} {d : PyData} (h : DW K B G te fun G1 r1 => PW r1 fun w => w = .d d ∧ DW K B G1 to fun G2 r2 => PW r2 fun w2 => w2 = .sl i ∧ DW K B G2 ti fun G3 r3 => PW r3 fun w3 => w3 = .d (.int (j : Int)) ∧ G3[i]? = some (.o a ds) ∧ j < ds.length ∧ E.nx (G3.set i (.o a (ds.set j d)))) :
    DS K B G (tAsg te (gSub to ti rSetL)) E := fun S F H D I c => by
  show te S H fun v H0 => to S H0 fun o H1 => ti S H1 fun i H2 => rSetL o i v H2 fun H3 => D.nx S H3
  refine dw_run (k' := fun G1 w => w = .d d ∧ DW K B G1 to fun G2 r2 => PW r2 fun w2 => w2 = .sl i ∧ DW K B G2 ti fun G3 r3 => PW r3 fun w3 => w3 = .d (.int (j : Int)) ∧ G3[i]? = some (.o a ds) ∧ j < ds.length ∧ E.nx (G3.set i (.o a (ds.set j d)))) h I fun v1 F1 H1 G1 w1 e1 I1 hv1 ⟨hw1, q1⟩ => ?_
  subst hw1
  refine dw_run (k' := fun G2 w2 => w2 = .sl i ∧ DW K B G2 ti fun G3 r3 => PW r3 fun w3 => w3 = .d (.int (j : Int)) ∧ G3[i]? = some (.o a ds) ∧ j < ds.length ∧ E.nx (G3.set i (.o a (ds.set j d)))) q1 I1 fun v2 F2 H2 G2 w2 e2 I2 hv2 ⟨hw2, q2⟩ => ?_
  subst hw2
  refine dw_run (k' := fun G3 w3 => w3 = .d (.int (j : Int)) ∧ G3[i]? = some (.o a ds) ∧ j < ds.length ∧ E.nx (G3.set i (.o a (ds.set j d)))) q2 I2 fun v3 F3 H3 G3 w3 e3 I3 hv3 ⟨hw3, hi, hl, q3⟩ => ?_
  subst hw3
  obtain rfl := dp_int hv3
  obtain ⟨p, vs, e, hp, hF, ha⟩ := I3.lst hi
  have hv2 : S[i]? = some (some v2) := hv2
  rw [e] at hv2
  cases hv2
  refine ⟨p, vs, (j : Int), j, rfl, rfl, hp, ?_, ?_⟩
  · unfold ixN
    rw [if_pos (by omega), if_pos (by rw [da_len ha]; omega)]
    simp
  · exact c.nx S F3 _ _ ((e1.trans e2).trans e3) (I3.mut hi e (da_set j ha (dp_mono (e2.trans e3) hv1))) q3
end
end DL
namespace DL
open PySem L2
/-! ### enumerate of a text -/
def IteS (z : Str) : It := ⟨fun i _ => i < z.cps.size, fun i H v H' => ∃ (T : Addr) (c : Nat), v = .ref T ∧ H T = none ∧ H' = upd H T (.tup [.int (i : Nat), .str ⟨#[c]⟩]) ∧ z.cps[i]? = some c, fun i _ => z.cps.size ≤ i⟩
theorem turn_enumS {P : Program} {w : World} {K : Fr} {elts : List Expr} {kk : Nat} {tpos : Pos} (z : Str) (t : Tok) (e it : Addr) :
    Turn P w K (.Tuple elts kk tpos) (IteS z) [e, it] e (fun i h => (∃ old, IsEnum h e it ((i : Nat) : Int) old) ∧ h.IsStrIter it (strIterType z) z t i ∧ e ≠ it ∧ i ≤ z.cps.size) where
  mem := by simp
  obj := fun i h st b hb => by
    obtain ⟨⟨old, he⟩, ⟨o, ho, hc, hd⟩, _⟩ := st
    have hb2 : b = e ∨ b = it := by simpa using hb
    rcases hb2 with q | q
    · rw [q]
      exact ⟨_, he, fun v z => nomatch z⟩
    · rw [q]
      exact ⟨o, ho, fun v z => by rw [hd] at z; cases z⟩
  keep := fun i h h' st k => by
    obtain ⟨⟨old, he⟩, ⟨o, ho, hr⟩, hne, hz⟩ := st
    exact ⟨⟨old, k e (by simp) _ he⟩, ⟨o, k it (by simp) _ ho, hr⟩, hne, hz⟩
  item := by
    intro X hP hw hK hc i pins s S H E I hf st hg
    subst hP hw hK
    obtain ⟨⟨old, he⟩, hit, hne, hz⟩ := st
    have hel : e < s.heap.objs.size := Heap.lt_size he
    have hil : it < s.heap.objs.size := by
      obtain ⟨_, q, _⟩ := hit
      exact Heap.lt_size q
    have D := PySem.Draws.text (prog := X.prog) (w := X.w) (A := X.A.in1) (I.ok.hd hc) it z t
    refine wpAny_pyNext_enum_itemC D he hit hg hne (by simpa using hne) fun x h' tk hx ho hit' hT hsz hk => ?_
    obtain ⟨c, u, hcx, rfl⟩ := hx
    refine ⟨_, rfl, wpAny_letOwnedTupleGo_enum (s := { s with heap := h', toks := tk + 1 }) ho fun h2 he' sb => ?_⟩
    have hT2 : h2.get? s.heap.objs.size = some { cls := .type "tuple", data := .seq #[.int i tk, .str ⟨#[c]⟩ u] } := (sb.2 _ (Nat.ne_of_gt hel)).trans hT
    have new : ObjOk X.prog X.w (upd H s.heap.objs.size (.tup [.int (i : Nat), .str ⟨#[c]⟩])) h2 s.heap.objs.size (.tup [.int (i : Nat), .str ⟨#[c]⟩]) :=
      ⟨by show 2 ≤ sizeLine; decide, [.int i tk, .str ⟨#[c]⟩ u], .cons ⟨_, rfl⟩ (.cons ⟨_, rfl⟩ .nil), ⟨_, hT2, rfl, _, rfl⟩⟩
    have I1 : Inv X pins S (upd H s.heap.objs.size (.tup [.int (i : Nat), .str ⟨#[c]⟩])) { s with heap := h2, toks := tk + 1 } :=
      I.turnedNew (ch := [e, it]) (fun b ob hb q => (sb.2 b (fun z => hb (by simp [z]))).trans (hk b ob (fun z => hb (by simp [z])) (fun z => hb (by simp [z])) q)) hf (Nat.le_refl _) new
    refine ⟨.ref s.heap.objs.size, _, I1, rfl, ⟨_, c, rfl, I.hok.fresh (Nat.le_refl _), rfl, hcx⟩, ⟨⟨.str ⟨#[c]⟩ u, ?_⟩, ?_, hne, hg⟩, fun b hb => ?_⟩
    · have e1 : ((i + 1 : Nat) : Int) = (i : Int) + 1 := by omega
      rw [e1]
      exact he'
    · obtain ⟨o, h1, hr⟩ := hit'
      exact ⟨o, (sb.2 it (Ne.symm hne)).trans h1, hr⟩
    · have hb' : b < s.heap.objs.size := by
        have e' : b = e ∨ b = it := by simpa using hb
        rcases e' with q | q
        · rw [q]
          exact hel
        · rw [q]
          exact hil
      rw [upd_ne (Nat.ne_of_lt hb')]
      exact (hf b hb).1
  done := by
    intro X hP hw hK hc i pins s S H E I hf st hg
    subst hP hw hK
    obtain ⟨⟨old, he⟩, hit, hne, hil⟩ := st
    have ei : i = z.cps.size := Nat.le_antisymm hil hg
    subst ei
    obtain ⟨f0, f1, f2, f3, f4, f5⟩ := hf it (by simp)
    have D := PySem.Draws.text (prog := X.prog) (w := X.w) (A := X.A.in1) (I.ok.hd hc) it z t
    exact wpAny_pyNext_enum_endD D he hit fun h' eb => ⟨rfl, I.turned (t' := s.toks) (fun b o hb q => eb b o hb q) f0 f1 f3 f4 f5⟩
  self := fun A i s Q E st h => by
    obtain ⟨⟨_, he⟩, _⟩ := st
    exact wpAny_pyIter_enum he h
def iEnumS (ta : TA) : TI := fun S H R => ta S H fun vs H1 => ∃ z, vs = [.str z] ∧ R (IteS z) H1
theorem pi_enumS {X : Cx} {e : Expr} {ta : TA} {p pos tpos : Pos} {elts : List Expr} {kk : Nat} (hg : Gl X "enumerate") (hm : X.mg "enumerate" = none) (ha : PA X [e] ta) (hs : starEach [e] X.env = [(false, eval e X.env)] := by rfl) :
    PI X (.Tuple elts kk tpos) (.Call (.Name "enumerate" p) [e] [] pos) (iEnumS ta) := by
  refine ⟨fun pins s S H R I h => ?_⟩
  refine PyProof.Rows.Call_ (ld_blt I hg hm PyProof.Rows.boot_enumerate (PyProof.Rows.callWith_type1 (thn (ha.run pos pins s S H _ I h) fun us s1 ⟨vs, H1, I1, r1, q1⟩ => ?_) hs rfl))
  obtain ⟨z, ex, q⟩ := q1
  subst ex
  cases r1 with
  | cons r rr =>
    cases rr
    obtain ⟨t, rfl⟩ := r
    refine call_enumerate_str fun h' he hit hsz hk => wpAny_pyIter_enum he ?_
    have I2 : Inv X pins S H1 { s1 with heap := h' } := I1.kept (t' := s1.toks) hk
    refine ⟨s1.heap.objs.size + 1, [s1.heap.objs.size + 1, s1.heap.objs.size], _, _, H1, rfl, I2, turn_enumS z t (s1.heap.objs.size + 1) s1.heap.objs.size, ⟨⟨.none, he⟩, hit, Nat.succ_ne_self _, Nat.zero_le _⟩, fun b hb => ?_, q⟩
    have e' : b = s1.heap.objs.size + 1 ∨ b = s1.heap.objs.size := by simpa using hb
    have hle : s1.heap.objs.size ≤ b := by
      rcases e' with e' | e'
      · rw [e']
        exact Nat.le_succ _
      · rw [e']
        exact Nat.le_refl _
    have hn : H1 b = none := I1.hok.fresh hle
    have f := I1.fpOk hle hn
    exact ⟨f.1, f.2.1, f.2.2.1, f.2.2.2.1, f.2.2.2.2.1, f.2.2.2.2.2⟩
abbrev iENUM (K : Fr) (ta : TA) : TI := fun S H R => iEnum K ta S H R ∨ iEnumS ta S H R
theorem kENUM {X : Cx} (K : Fr) (h : X.K = K) {e : Expr} {ta : TA} {p pos tpos : Pos} {elts : List Expr} {kk : Nat} (hg : Gl X "enumerate") (hm : X.mg "enumerate" = none) (ha : PA X [e] ta) (hs : starEach [e] X.env = [(false, eval e X.env)] := by rfl) :
    PI X (.Tuple elts kk tpos) (.Call (.Name "enumerate" p) [e] [] pos) (iENUM K ta) := h ▸ PI.or (pi_enum hg hm ha hs) (pi_enumS hg hm ha hs)
section
variable {K : Fr} {B : Bs} {G : En} {P : Po} {te : TE} {ta : TA} {PI : En → List PyData → Prop}
def enD (ds : List PyData) : List PyData := (List.range ds.length).zipWith (fun (i : Nat) d => PyData.tuple [.int (i : Int), d]) ds
theorem enD_get {ds : List PyData} {i : Nat} {d : PyData} (h : (enD ds)[i]? = some d) : ∃ x, ds[i]? = some x ∧ d = .tuple [.int (i : Int), x] := by
  unfold enD at h
  rw [List.getElem?_zipWith] at h
  cases q : ds[i]? with
  | none =>
    rw [q] at h
    cases hr : (List.range ds.length)[i]? <;> rw [hr] at h <;> cases h
  | some x =>
    have hl := (List.getElem?_eq_some_iff.mp q).1
    rw [q, List.getElem?_range hl] at h
    exact ⟨x, rfl, (Option.some.inj h).symm⟩
theorem enD_len (ds : List PyData) : (enD ds).length = ds.length := by simp [enD]
theorem di_enumS (h : DA K B G ta fun G1 ws => ∃ z : List Nat, ws = [.d (.str (mkS z))] ∧ PI G1 (enD (z.map fun c => .str (mkS [c])))) : DI K B G (iENUM K ta) PI := fun S F H R I k => by
  refine .inr ?_
  show ta S H fun vs H1 => ∃ z, vs = [.str z] ∧ R (IteS z) H1
  refine h S F H _ I fun vs F1 H1 G1 ws e1 I1 hv ⟨z, hw, q⟩ => ?_
  subst hw
  obtain ⟨v, rfl, hv1⟩ := vws1 hv
  refine ⟨mkS z, by rw [dp_str hv1], k _ F1 H1 G1 _ e1 I1 (fun i H2 F2 eF eH => ⟨fun d hd => ?_, fun e => ?_⟩) q⟩
  · obtain ⟨x, hx, rfl⟩ := enD_get hd
    rw [List.getElem?_map] at hx
    obtain ⟨c, hc, rfl⟩ := Option.map_eq_some_iff.mp hx
    have hl := (List.getElem?_eq_some_iff.mp hc).1
    refine ⟨(show i < (mkS z).cps.size by simpa [mkS] using hl), fun x H' y => ?_⟩
    obtain ⟨T, c', rfl, hT, rfl, hc'⟩ := y
    have : c' = c := by
      have : z[i]? = some c' := by simpa [mkS] using hc'
      rw [hc] at this
      exact (Option.some.inj this).symm
    subst this
    refine ⟨upd F2 T (.tup [.int (i : Nat), .str ⟨#[c']⟩]), Ex.new (eH.free hT), Ex.new hT, eH.both _ _, fun b o h1 h2 => ?_, .tup upd_same (.cons (.int _) (.cons (.str _) .nil))⟩
    by_cases hb : b = T
    · rw [hb]
      exact hT
    · rw [upd_ne hb] at h1
      rw [h1] at h2
      cases h2
  · show (mkS z).cps.size ≤ i
    rw [enD_len, List.length_map] at e
    simp [mkS, e]
end
/-! ### t[::-1] -/
section
open PyProof.Rows
variable {prog : Program} {w : World} {A : Around} {E : Value → Shared → Prop} {s : Shared}
theorem rev_adj (n : Nat) : Builtin.Slice.sliceAdjust none none (-1) (n : Int) = ((n : Int) - 1, -1) := by
  unfold Builtin.Slice.sliceAdjust
  simp
theorem rev_places (n : Nat) : Builtin.Slice.slicePlaces ((n : Int) - 1) (-1) (-1) = n := by
  unfold Builtin.Slice.slicePlaces
  simp
  omega
theorem get_all {α : Type} : ∀ l : List α, (List.range l.length).filterMap (fun i => l[i]?) = l
  | [] => rfl
  | x :: l => by
    rw [List.length_cons, List.range_succ_eq_map, List.filterMap_cons, List.filterMap_map]
    show x :: (List.range l.length).filterMap (fun i => l[i]?) = x :: l
    rw [get_all l]
theorem fm_congr {α β : Type} {f g : α → Option β} : ∀ {l : List α}, (∀ m ∈ l, f m = g m) → l.filterMap f = l.filterMap g
  | [], _ => rfl
  | x :: l, h => by
    rw [List.filterMap_cons, List.filterMap_cons, h x List.mem_cons_self, fm_congr fun m hm => h m (List.mem_cons_of_mem _ hm)]
theorem rev_pick (xs : List Value) : ((List.range xs.toArray.size).filterMap fun (m : Nat) => xs.toArray[(((xs.toArray.size : Int) - 1) + (m : Int) * (-1)).toNat]?).toArray = xs.reverse.toArray := by
  congr 1
  have hs : xs.toArray.size = xs.length := rfl
  rw [hs]
  have e : ∀ m ∈ List.range xs.length, xs.toArray[(((xs.length : Nat) : Int) - 1 + (m : Int) * (-1)).toNat]? = xs.reverse[m]? := fun m hm => by
    have hl : m < xs.length := List.mem_range.mp hm
    rw [List.getElem?_reverse hl, show (((xs.length : Nat) : Int) - 1 + (m : Int) * (-1)).toNat = xs.length - 1 - m by omega]
    simp
  rw [fm_congr e]
  have g := get_all xs.reverse
  rw [List.length_reverse] at g
  exact g
theorem getItem_tuple_rev {t sl : Addr} {items : List Value} {u : Tok} {Q : Value → Shared → Prop} (ht : IsTup s.heap t items.toArray) (hs : s.heap.IsSliceOf sl .none .none (.int (-1) u))
    (h : Q (.ref s.heap.objs.size) { s with heap := s.heap.push { cls := .type "tuple", data := .seq items.reverse.toArray } }) (hsz : items.length ≤ sizeLine) : wpAny (model prog w) A (getItem (.ref t) (.ref sl)) Q E s := by
  have htake : sizeOk (.seq items.reverse.toArray) := by
    show items.reverse.toArray.size ≤ sizeLine
    rw [List.size_toArray, List.length_reverse]
    exact hsz
  obtain ⟨os, hos, hcs, hds⟩ := id hs
  have hTs : s.TypeIs (.ref sl) "slice" := ⟨os, hos, hcs⟩
  unfold getItem
  try with_reducible refine wpAny_holding ?_
  first | refine wpAny_bind (wpAny_pure ?_) | skip
  refine wpAny_bind (wpAny_sequenceKey ht.typeIs (by decide) ?_)
  refine wpAny_bind (wpAny_callSpecial?_slot (name := Str.ofString "__getitem__") ht.typeIs PyProof.Rows.slot_tuple_getitem
    (wpAny_call_entry PyProof.Rows.slot_tuple_getitem ht.typeIs entry_tuple_getitem ?_ (args_tuple_getitem _ _)))
  show wpAny _ _ (Builtin.Tuple.tupleItemsOf (.ref t) >>= _) _ _ s
  refine wpAny_bind (tupleItemsOf_ ht ?_)
  refine wpAny_bind (wpAny_typeOf hTs ?_)
  rw [if_pos (by decide)]
  have ap : ∀ {A : Around} {E : Value → Shared → Prop} {Q : Int × Int × Nat → Shared → Prop}, Q ((items.length : Int) - 1, -1, items.length) s → wpAny (model prog w) A (Builtin.Slice.sliceApplied (.ref sl) (pure (items.toArray.size : Int))) Q E s := fun {A E Q} q => by
    unfold Builtin.Slice.sliceApplied Builtin.Slice.sliceFields
    refine wpAny_bind (wpAny_bind (wpAny_field hos hds (x := .none) rfl (wpAny_bind (wpAny_field hos hds (x := .none) rfl (wpAny_bind (wpAny_field hos hds (x := .int (-1) u) rfl (wpAny_pure ?_)))))))
    refine wpAny_bind (slicePart_int ?_)
    show wpAny _ _ (if ((-1 : Int) == 0) = true then _ else _) _ _ s
    rw [if_neg (by decide)]
    refine wpAny_bind (slicePart_none (wpAny_bind (slicePart_none (wpAny_bind (wpAny_pure ?_)))))
    show wpAny _ _ (match Builtin.Slice.sliceAdjust none none (-1) (items.toArray.size : Int) with | (lo, hi) => pure (lo, (-1 : Int), Builtin.Slice.slicePlaces lo hi (-1))) _ _ s
    rw [rev_adj]
    show wpAny _ _ (pure (((items.toArray.size : Nat) : Int) - 1, (-1 : Int), Builtin.Slice.slicePlaces (((items.toArray.size : Nat) : Int) - 1) (-1) (-1))) _ _ s
    rw [rev_places]
    exact wpAny_pure q
  refine wpAny_bind (ap ?_)
  show wpAny _ _ (if (((items.length : Int) - 1) == 0 && (-1 : Int) == 1 && items.length == items.toArray.size) = true then _ else _) _ _ s
  rw [if_neg (by rw [show ((-1 : Int) == 1) = false from rfl]; simp)]
  have hp := rev_pick items
  rw [List.size_toArray] at hp
  rw [hp]
  first
    | exact wpAny_bind (m := Builtin.Tuple.tupleExact _) (wpAny_newObj_type (wpAny_pure ⟨_, rfl, wpAny_pure h⟩) htake)
    | exact wpAny_bind (m := Builtin.Tuple.tupleExact _) (wpAny_newObj_type (wpAny_bind (wpAny_pure (wpAny_pure ⟨_, rfl, wpAny_pure h⟩))) htake)
    | exact wpAny_bind (wpAny_bind (m := Builtin.Tuple.tupleExact _) (wpAny_newObj_type (wpAny_pure (wpAny_pure ⟨_, rfl, wpAny_pure h⟩)) htake))
    | exact wpAny_bind (wpAny_bind (m := Builtin.Tuple.tupleExact _) (wpAny_newObj_type (wpAny_pure ⟨_, rfl, wpAny_pure h⟩) htake))
end
def tRevT (K : Fr) (te : TE) : TE := fun S H Q => te S H fun x H1 => ∃ a xs, x = .ref a ∧ SqT K H1 a xs ∧ ∀ p, H1 p = none → Q (.ref p) (upd H1 p (.tup xs.reverse))
section
open PySem.Spec PyProof.Rows
variable {X : Cx}
theorem pe_revT {e : Expr} {te : TE} {k : Nat} {p1 p2 p3 pos : Pos} (he : PE X e te) : PE X (.Subscript e (.Slice none none (some (.UnaryOp .USub (.Constant (.int 1) k p1) p2)) p3) pos) (tRevT X.K te) := by
  refine ⟨fun pins s S H Q I h => ?_⟩
  refine PyProof.Rows.Subscript_ (thn (he.run pins s S H _ I h) fun v s1 ⟨x, H1, I1, r1, q1⟩ => ?_)
  obtain ⟨a, xs, ex, hx, q⟩ := q1
  subst ex
  cases r1
  have hst : PO X (some (.UnaryOp .USub (.Constant (.int 1) k p1) p2)) (tPart (tUn (rU fun i => .int (-i)) (tC (.int 1)))) := po_some (pe_un un_neg pe_int)
  refine wpAny_Slice (thn (po_none.run pins s1 S H1 (fun o H2 => o = none ∧ H2 = H1) I1 ⟨rfl, rfl⟩) fun vl s2 ⟨l, H2, I2, pl, el, e2⟩ => ?_)
  subst el e2
  refine thn (po_none.run pins s2 S H2 (fun o H3 => o = none ∧ H3 = H2) I2 ⟨rfl, rfl⟩) fun vu s3 ⟨u, H3, I3, pu, eu, e3⟩ => ?_
  subst eu e3
  refine thn (hst.run pins s3 S H3 (fun o H4 => o = some (-1) ∧ H4 = H3) I3 ⟨1, rfl, -1, rfl, rfl, rfl⟩) fun vs s4 ⟨o, H4, I4, ps, eo, e4⟩ => ?_
  subst eo e4
  cases pl
  cases pu
  cases ps with
  | int i t =>
  have I5 : Inv X pins S H4 { s4 with heap := s4.heap.push { cls := .type "slice", data := .fields #[.none, .none, .int (-1) t] } } := I4.kept (t' := s4.toks) fun b ob q => Heap.get?_push_of_some _ q
  obtain ⟨its, r, ht, hz⟩ := I5.tuple hx
  have hlen := r.length
  show wpAny (model X.prog X.w) X.A (subscriptTail e (.Slice none none (some (.UnaryOp .USub (.Constant (.int 1) k p1) p2)) p3) (.ref a) (.ref s4.heap.objs.size)) (EP X pins S Q) X.xe { s4 with heap := s4.heap.push { cls := .type "slice", data := .fields #[.none, .none, .int (-1) t] } }
  refine PyProof.Rows.tail_any (ops := [.ref a, .ref s4.heap.objs.size]) ht.typeIs (PyProof.Rows.slot_tuple_getitem.lookup) ?_ (by with_unfolding_all rfl)
  refine getItem_tuple_rev ht (Heap.IsSliceOf.new _ .none .none (.int (-1) t)) ?_ (by omega)
  refine ⟨.ref _, _, I5.laid (t' := s4.toks) (o := .tup xs.reverse) (fun b ob q => Heap.get?_push_of_some _ q) (Nat.le_refl _) ?_, rfl, q _ (I5.hok.fresh (Nat.le_refl _))⟩
  exact ⟨by rw [List.length_reverse]; exact hz, _, r.reverse, ⟨_, Heap.get?_push_size _ rfl, rfl, 0, rfl⟩⟩
end
theorem kREVT {X : Cx} (K : Fr) (h : X.K = K) {e : Expr} {te : TE} (he : PE X e (tRevT X.K te)) : PE X e (tRevT K te) := h ▸ he
section
variable {K : Fr} {B : Bs} {G : En} {P : Po} {te : TE}
theorem dw_revT (h : DW K B G te fun G1 r1 => PW r1 fun w => ∃ ds, w = .d (.tuple ds) ∧ P G1 (.p (.d (.tuple ds.reverse)))) : DW K B G (tRevT K te) P := fun S F H Q I k => by
  show te S H fun x H1 => ∃ a xs, x = .ref a ∧ SqT K H1 a xs ∧ ∀ p, H1 p = none → Q (.ref p) (upd H1 p (.tup xs.reverse))
  refine dw_run (k' := fun G1 w => ∃ ds, w = .d (.tuple ds) ∧ P G1 (.p (.d (.tuple ds.reverse)))) h I fun v F1 H1 G1 w e1 I1 hv ⟨ds, hw, q⟩ => ?_
  subst hw
  obtain ⟨p, us, rfl, hp, ha⟩ := dp_tup hv
  exact ⟨p, us, rfl, SqT.of (I1.ex _ _ hp), fun c hc => ct_T (k.mono e1) I1 hc (da_rev ha) q⟩
/-! ### tuple(range(n)), list(range(n)) -/
theorem rgV_da {F : Hp} (a b : Int) : DqAll K F (rgV a b) ((rngD a (b - a).toNat)) := by
  have e1 : rgV a b = ((List.range (b - a).toNat).map fun (i : Nat) => a + (i : Int)).map V.int := by
    unfold rgV
    rw [List.map_map]
    rfl
  have e2 : rngD a (b - a).toNat = ((List.range (b - a).toNat).map fun (i : Nat) => a + (i : Int)).map PyData.int := by
    unfold rngD
    rw [List.map_map]
    rfl
  rw [e1, e2]
  exact da_ints _
theorem dw_tupRg1 (h : DW K B G te fun G1 r1 => PW r1 fun w => ∃ n : Nat, w = .d (.int (n : Int)) ∧ n ≤ 1000000 ∧ P G1 (.p (.d (.tuple (rngD 0 n))))) : DW K B G (tTupRg (tRg1 te)) P := fun S F H Q I k => by
  show te S H fun x H1 => ∃ n, x = .int n ∧ (RgOk 0 n ∧ ∀ q, H1 q = none → Q (.ref q) (upd H1 q (.tup (rgV 0 n))))
  refine dw_run (k' := fun G1 w => ∃ n : Nat, w = .d (.int (n : Int)) ∧ n ≤ 1000000 ∧ P G1 (.p (.d (.tuple (rngD 0 n))))) h I fun v F1 H1 G1 w e1 I1 hv ⟨n, hw, hn, q⟩ => ?_
  subst hw
  have e : ((n : Int) - 0).toNat = n := by omega
  refine ⟨n, dp_int hv, RgOk.of_le (by omega) (by omega) (by omega) (by omega), fun c hc => ?_⟩
  have hd := rgV_da (K := K) (F := F1) 0 (n : Int)
  rw [e] at hd
  exact ct_T (k.mono e1) I1 hc hd q
theorem dw_lstRg1 (h : DW K B G te fun G1 r1 => PW r1 fun w => ∃ n : Nat, w = .d (.int (n : Int)) ∧ n ≤ 1000000 ∧ P G1 (.fr (.o none (rngD 0 n)))) : DW K B G (tLstRg (tRg1 te)) P := fun S F H Q I k => by
  show te S H fun x H1 => ∃ n, x = .int n ∧ (RgOk 0 n ∧ ∀ q, H1 q = none → Q (.ref q) (upd H1 q (.lst (rgV 0 n))))
  refine dw_run (k' := fun G1 w => ∃ n : Nat, w = .d (.int (n : Int)) ∧ n ≤ 1000000 ∧ P G1 (.fr (.o none (rngD 0 n)))) h I fun v F1 H1 G1 w e1 I1 hv ⟨n, hw, hn, q⟩ => ?_
  subst hw
  have e : ((n : Int) - 0).toNat = n := by omega
  refine ⟨n, dp_int hv, RgOk.of_le (by omega) (by omega) (by omega) (by omega), fun c hc => ?_⟩
  have hd := rgV_da (K := K) (F := F1) 0 (n : Int)
  rw [e] at hd
  exact ct_L (k.mono e1) I1 hc hd q
/-! ### isinstance of data -/
def tyN : PyData → String
  | .none => "NoneType"
  | .bool _ => "bool"
  | .int _ => "int"
  | .str _ => "str"
  | .list _ => "list"
  | .tuple _ => "tuple"
  | .dict _ => "dict"
theorem ty_dq {H : Hp} {v : V} {d : PyData} (h : Dq K H v d) : TyX K H v (.type (tyN d)) := by
  cases h with
  | non => exact .base .non
  | bl b => exact .base (.bl b)
  | int i => exact .base (.int i)
  | str x => exact .base (.str x)
  | lst e _ => exact .base (.lst e)
  | tup e _ => exact .base (.tup e)
def isiD (d : PyData) (T : String) : Bool := tyN d == T || (tyN d == "bool" && T == "int")
theorem kit_tuple (d : PyData) : kitB (tyN d) "tuple" = some (isiD d "tuple") := by
  have h : ∀ n ∈ ["NoneType", "bool", "int", "str", "list", "tuple", "dict"], kitB n "tuple" = some (n == "tuple" || (n == "bool" && "tuple" == "int")) := by decide +kernel
  exact h _ (by cases d <;> simp [tyN])
theorem kit_list (d : PyData) : kitB (tyN d) "list" = some (isiD d "list") := by
  have h : ∀ n ∈ ["NoneType", "bool", "int", "str", "list", "tuple", "dict"], kitB n "list" = some (n == "list" || (n == "bool" && "list" == "int")) := by decide +kernel
  exact h _ (by cases d <;> simp [tyN])
theorem kit_str (d : PyData) : kitB (tyN d) "str" = some (isiD d "str") := by
  have h : ∀ n ∈ ["NoneType", "bool", "int", "str", "list", "tuple", "dict"], kitB n "str" = some (n == "str" || (n == "bool" && "str" == "int")) := by decide +kernel
  exact h _ (by cases d <;> simp [tyN])
theorem kit_int (d : PyData) : kitB (tyN d) "int" = some (isiD d "int") := by
  have h : ∀ n ∈ ["NoneType", "bool", "int", "str", "list", "tuple", "dict"], kitB n "int" = some (n == "int" || (n == "bool" && "int" == "int")) := by decide +kernel
  exact h _ (by cases d <;> simp [tyN])
theorem kit_bool (d : PyData) : kitB (tyN d) "bool" = some (isiD d "bool") := by
  have h : ∀ n ∈ ["NoneType", "bool", "int", "str", "list", "tuple", "dict"], kitB n "bool" = some (n == "bool" || (n == "bool" && "bool" == "int")) := by decide +kernel
  exact h _ (by cases d <;> simp [tyN])
theorem rn_isi {w1 : W} {d : PyData} {T : String} {b : Bool} (e1 : wd G w1 = some d) (e : kitB (tyN d) T = some b) (q : P G (.p (.d (.bool b)))) : RWn K B G (rIsi K) [w1, .ty T] P := fun S F H Q vs I hv k => by
  obtain ⟨v, v', rfl, h1, h2⟩ := vws2 hv
  have h2 : v' = .ty T := h2
  subst h2
  exact ⟨v, .ty T, _, _, b, rfl, .ty T, ty_dq (wd_dq I h1 e1), kit_ty e, ct_d k I (.bl _) q⟩
end
end DL
namespace DL
open PySem L2
section
variable {K : Fr} {B : Bs} {G : En} {P : Po} {ta tb tc te : TE} {r r' : R2}
/-! ### a op b op c -/
theorem dw_chain (h : DW K B G ta fun G1 r1 => PW r1 fun w1 => DW K B G1 tb fun G2 r2 => PW r2 fun w2 => RW2 K B G2 r w1 w2 fun G3 r3 => PW r3 fun w3 => ∃ b, w3 = .d (.bool b) ∧ if b = true then DW K B G3 tc fun G4 r4 => PW r4 fun w4 => RW2 K B G4 r' w2 w4 P else P G3 (.p (.d (.bool false)))) :
    DW K B G (tChain r r' ta tb tc) P := fun S F H Q I k => by
  show ta S H fun x H1 => tb S H1 fun y H2 => r x y H2 fun z H3 => ∃ k, z = .bl k ∧ (if k = true then tc S H3 fun w' H4 => r' y w' H4 Q else Q (.bl false) H3)
  refine dw_run (k' := fun G1 w1 => DW K B G1 tb fun G2 r2 => PW r2 fun w2 => RW2 K B G2 r w1 w2 fun G3 r3 => PW r3 fun w3 => ∃ b, w3 = .d (.bool b) ∧ if b = true then DW K B G3 tc fun G4 r4 => PW r4 fun w4 => RW2 K B G4 r' w2 w4 P else P G3 (.p (.d (.bool false)))) h I fun v1 F1 H1 G1 w1 e1 I1 a1 q1 => ?_
  refine dw_run (k' := fun G2 w2 => RW2 K B G2 r w1 w2 fun G3 r3 => PW r3 fun w3 => ∃ b, w3 = .d (.bool b) ∧ if b = true then DW K B G3 tc fun G4 r4 => PW r4 fun w4 => RW2 K B G4 r' w2 w4 P else P G3 (.p (.d (.bool false)))) q1 I1 fun v2 F2 H2 G2 w2 e2 I2 a2 q2 => ?_
  refine q2 S F2 H2 _ v1 v2 I2 (a1.mono e2) a2 fun v3 F3 H3 G3 r3 e3 V3 q3 => ?_
  obtain ⟨F4, w4, e4, I4, a4, b, rfl, q4⟩ := pw_ok V3 q3
  refine ⟨b, dp_bl a4, ?_⟩
  cases b with
  | false =>
    show Q (.bl false) H3
    exact ct_d (k.mono (((e1.trans e2).trans e3).trans e4)) I4 (.bl false) q4
  | true =>
    show tc S H3 fun w' H4 => r' v2 w' H4 Q
    refine dw_run (k' := fun G4 w4 => RW2 K B G4 r' w2 w4 P) q4 I4 fun v5 F5 H5 G5 w5 e5 I5 a5 q5 => ?_
    exact q5 S F5 H5 Q v2 v5 I5 (a2.mono ((e3.trans e4).trans e5)) a5 (k.mono ((((e1.trans e2).trans e3).trans e4).trans e5))
/-! ### sorted pairs -/
def leP (p q : Int × Int) : Bool := !SrtO.lexB q p
def srtP (ps : List (Int × Int)) : List (Int × Int) := ps.mergeSort leP
def pD (p : Int × Int) : PyData := .tuple [.int p.1, .int p.2]
theorem leP_tr (a b c : Int × Int) : leP a b = true → leP b c = true → leP a c = true := by
  unfold leP SrtO.lexB
  intro h1 h2
  simp only [Bool.not_eq_true'] at *
  split at h1 <;> split at h2 <;> split <;> simp at * <;> omega
theorem leP_tot (a b : Int × Int) : (leP a b || leP b a) = true := by
  unfold leP SrtO.lexB
  split <;> split <;> simp <;> omega
theorem srtP_perm (ps : List (Int × Int)) : (srtP ps).Perm ps := List.mergeSort_perm _ _
theorem srtP_pw (ps : List (Int × Int)) : (srtP ps).Pairwise fun a b => leP a b = true := List.pairwise_mergeSort (le := leP) leP_tr leP_tot ps
theorem leP_anti {a b : Int × Int} (h1 : leP a b = true) (h2 : leP b a = true) : a = b := by
  unfold leP SrtO.lexB at *
  simp only [Bool.not_eq_true'] at *
  apply Prod.ext
  · split at h1 <;> split at h2 <;> simp at * <;> omega
  · split at h1 <;> split at h2 <;> simp at * <;> omega
theorem pwP_eq : ∀ {l m : List (Int × Int)}, l.Pairwise (fun a b => leP a b = true) → m.Pairwise (fun a b => leP a b = true) → l.Perm m → l = m
  | [], m, _, _, h => (List.nil_perm.mp h).symm ▸ rfl
  | x :: l, [], _, _, h => by simpa using h.length_eq
  | x :: l, y :: m, h1, h2, h => by
    have hx : x ∈ y :: m := h.mem_iff.mp List.mem_cons_self
    have hy : y ∈ x :: l := h.mem_iff.mpr List.mem_cons_self
    have a1 := List.pairwise_cons.mp h1
    have a2 := List.pairwise_cons.mp h2
    have e : x = y := by
      rcases List.mem_cons.mp hx with z | z
      · exact z
      · rcases List.mem_cons.mp hy with z' | z'
        · exact z'.symm
        · exact leP_anti (a1.1 y z') (a2.1 x z)
    subst e
    rw [pwP_eq a1.2 a2.2 h.cons_inv]
def kP (H : Hp) (v : V) : Int × Int := match v with
  | .ref t => match H t with
    | some (.tup [.int i, .int j]) => (i, j)
    | _ => (0, 0)
  | _ => (0, 0)
theorem pairs_at {H : Hp} : ∀ {vs : List V} {ps : List (Int × Int)}, DqAll K H vs (ps.map pD) → vs.map (kP H) = ps ∧ ∀ x ∈ vs, ∃ t, x = V.ref t ∧ H t = some (.tup [.int (kP H x).1, .int (kP H x).2])
  | [], [], _ => ⟨rfl, fun x h => nomatch h⟩
  | v :: vs, p :: ps, h => by
    cases h with
    | cons a b =>
      obtain ⟨e1, e2⟩ := pairs_at b
      obtain ⟨t, us, rfl, ht, hu⟩ := dp_tup a
      cases hu with
      | cons u1 hu =>
        cases hu with
        | cons u2 hu =>
          cases hu
          obtain rfl := dp_int u1
          obtain rfl := dp_int u2
          have ek : kP H (.ref t) = p := by
            show (match H t with
              | some (.tup [.int i, .int j]) => (i, j)
              | _ => (0, 0)) = p
            rw [ht]
          refine ⟨by rw [List.map_cons, ek, e1], fun x hx => ?_⟩
          rcases List.mem_cons.mp hx with rfl | hx
          · exact ⟨t, rfl, by rw [ek]; exact ht⟩
          · exact e2 x hx
theorem da_of_pairs {H F : Hp} (e : Ex F H) : ∀ {ys : List V}, (∀ x ∈ ys, ∃ t, x = V.ref t ∧ F t = some (.tup [.int (kP H x).1, .int (kP H x).2])) → DqAll K F ys ((ys.map (kP H)).map pD)
  | [], _ => .nil
  | y :: ys, h => by
    obtain ⟨t, ht, hy⟩ := h y List.mem_cons_self
    refine .cons ?_ (da_of_pairs e fun x hx => h x (List.mem_cons_of_mem _ hx))
    rw [ht] at hy ⊢
    exact .tup hy (.cons (.int _) (.cons (.int _) .nil))
theorem rn_sortP {w1 : W} {ps : List (Int × Int)} (e1 : wd G w1 = some (.list (ps.map pD))) (q : P G (.fr (.o none ((srtP ps).map pD)))) : RWn K B G (rSortedPO K) [w1] P := fun S F H Q vs I hv k => by
  obtain ⟨v, rfl, h1⟩ := vws1 hv
  obtain ⟨p, us, rfl, hp, ha⟩ := wd_list I h1 e1
  obtain ⟨em, et⟩ := pairs_at (da_mono I.ex ha)
  obtain ⟨_, et2⟩ := pairs_at ha
  have kk : ∀ x ∈ us, kP F x = kP H x := fun x hx => by
    obtain ⟨t, rfl, ht⟩ := et2 x hx
    obtain ⟨t', e, ht'⟩ := et _ hx
    cases e
    have := I.ex _ _ ht
    rw [this] at ht'
    have := (HO.tup.inj (Option.some.inj ht'))
    simp only [List.cons.injEq, V.int.injEq, and_true] at this
    exact Prod.ext this.1 this.2
  refine ⟨p, us, kP H, rfl, SqL.of hp, et, fun ys c hs hb hc => ?_⟩
  have hperm := hb.perm
  have e3 : ys.map (kP H) = srtP ps := by
    refine pwP_eq ?_ (srtP_pw ps) ((hperm.map (kP H)).trans ?_)
    · refine List.pairwise_map.mpr ?_
      refine hs.imp fun {a b} h => ?_
      show (!SrtO.lexB (kP H b) (kP H a)) = true
      rw [show SrtO.lexB (kP H b) (kP H a) = false from h]
      rfl
    · rw [em]
      exact (srtP_perm ps).symm
  have hd : DqAll K F ys ((srtP ps).map pD) := by
    rw [← e3]
    refine da_of_pairs I.ex fun x hx => ?_
    have hm := hperm.mem_iff.mp hx
    obtain ⟨t, rfl, ht⟩ := et2 x hm
    exact ⟨t, rfl, by rw [← kk _ hm]; exact ht⟩
  exact ct_L k I hc hd q
end

/-! ### an own dict whose keys are tuples of ints and texts -/
def keyD : Key → PyData
  | .inl i => .int i
  | .inr s => .str s
def lkD (kvs : List (List Key × PyData)) (k : List Key) : Option PyData := (kvs.find? fun kv => decide (kv.1 = k)).map (·.2)
def putD (kvs : List (List Key × PyData)) (k : List Key) (d : PyData) : List (List Key × PyData) :=
  if (kvs.any fun kv => decide (kv.1 = k)) = true then kvs.map fun kv => if kv.1 = k then (kv.1, d) else kv else kvs ++ [(k, d)]
section
variable {K : Fr} {B : Bs} {G : En} {P : Po} {td ty tv te : TE} {E : De} {S : St} {F H : Hp}
theorem keys_eq : ∀ {vs : List V} {ks : List Key}, DqAll K H vs (ks.map keyD) → vs = ks.map kV
  | [], [], _ => rfl
  | v :: vs, k :: ks, h => by
    cases h with
    | cons a b =>
      rw [keys_eq b]
      cases k with
      | inl i => rw [dp_int a]; rfl
      | inr s => rw [dp_str a]; rfl
theorem key_at {v : V} {ks : List Key} (h : Dq K F v (.tuple (ks.map keyD))) (e : Ex F H) : ∃ b, v = .ref b ∧ H b = some (.tup (ks.map kV)) := by
  obtain ⟨b, vs, rfl, hb, ha⟩ := dp_tup h
  rw [keys_eq ha] at hb
  exact ⟨b, rfl, e _ _ hb⟩
theorem lk_val {k : List Key} : ∀ {kws : List (List Key × V)} {kvs : List (List Key × PyData)}, kws.map (·.1) = kvs.map (·.1) → DqAll K F (kws.map (·.2)) (kvs.map (·.2)) → (valV kws k).isSome = (lkD kvs k).isSome ∧ ∀ d, lkD kvs k = some d → ∃ v, valV kws k = some v ∧ Dq K F v d
  | [], [], _, _ => ⟨rfl, fun d h => nomatch h⟩
  | (a, v) :: kws, (b, e) :: kvs, h1, h2 => by
    cases h2 with
    | cons u1 u2 =>
      have h3 := List.cons.inj h1
      obtain ⟨i1, i2⟩ := lk_val (k := k) h3.2 u2
      have ea : a = b := h3.1
      subst ea
      by_cases hk : a = k
      · subst hk
        refine ⟨by rw [valV_pos rfl]; simp [lkD], fun d hd => ⟨v, valV_pos rfl, ?_⟩⟩
        have : d = e := by
          simp [lkD] at hd
          exact hd.symm
        rw [this]
        exact u1
      · have e1 : lkD ((a, e) :: kvs) k = lkD kvs k := by simp [lkD, List.find?_cons, hk]
        rw [valV_neg hk, e1]
        exact ⟨i1, i2⟩
theorem put_keys {k : List Key} {v : V} {d : PyData} : ∀ {kws : List (List Key × V)} {kvs : List (List Key × PyData)}, kws.map (·.1) = kvs.map (·.1) → DqAll K F (kws.map (·.2)) (kvs.map (·.2)) → Dq K F v d →
    (putK kws k v).map (·.1) = (putD kvs k d).map (·.1) ∧ DqAll K F ((putK kws k v).map (·.2)) ((putD kvs k d).map (·.2)) := by
  intro kws kvs h1 h2 hd
  have hany : ∀ {kws : List (List Key × V)} {kvs : List (List Key × PyData)}, kws.map (·.1) = kvs.map (·.1) → (kws.any fun kv => decide (kv.1 = k)) = (kvs.any fun kv => decide (kv.1 = k)) := by
    intro kws kvs h
    have e1 : (kws.any fun kv => decide (kv.1 = k)) = (kws.map (·.1)).any fun x => decide (x = k) := by rw [List.any_map]; rfl
    have e2 : (kvs.any fun kv => decide (kv.1 = k)) = (kvs.map (·.1)).any fun x => decide (x = k) := by rw [List.any_map]; rfl
    rw [e1, e2, h]
  have hrep : ∀ {kws : List (List Key × V)} {kvs : List (List Key × PyData)}, kws.map (·.1) = kvs.map (·.1) → DqAll K F (kws.map (·.2)) (kvs.map (·.2)) →
      (kws.map fun kv => if kv.1 = k then (kv.1, v) else kv).map (·.1) = (kvs.map fun kv => if kv.1 = k then (kv.1, d) else kv).map (·.1) ∧ DqAll K F ((kws.map fun kv => if kv.1 = k then (kv.1, v) else kv).map (·.2)) ((kvs.map fun kv => if kv.1 = k then (kv.1, d) else kv).map (·.2)) := by
    intro kws
    induction kws with
    | nil =>
      intro kvs h1 h2
      cases kvs with
      | nil => exact ⟨rfl, .nil⟩
      | cons _ _ => cases h1
    | cons a kws ih =>
      intro kvs h1 h2
      cases kvs with
      | nil => cases h1
      | cons b kvs =>
        have h3 := List.cons.inj h1
        have h31 : a.1 = b.1 := h3.1
        cases h2 with
        | cons u1 u2 =>
          obtain ⟨i1, i2⟩ := ih h3.2 u2
          simp only [List.map_cons]
          by_cases hk : a.1 = k
          · rw [if_pos hk, if_pos (h31 ▸ hk)]
            exact ⟨by rw [i1, h31], .cons hd i2⟩
          · rw [if_neg hk, if_neg (h31 ▸ hk)]
            exact ⟨by rw [i1, h31], .cons u1 i2⟩
  unfold putK putD
  rw [hany h1]
  split
  · exact hrep h1 h2
  · refine ⟨by rw [List.map_append, List.map_append, h1]; rfl, ?_⟩
    rw [List.map_append, List.map_append]
    exact da_app h2 (.cons hd .nil)
theorem Iv.dct (I : Iv K B G S F H) {i : Nat} {kvs : List (List Key × PyData)} (h : G[i]? = some (.t kvs)) : ∃ p kws, S[i]? = some (some (.ref p)) ∧ H p = some (.dT kws) ∧ kws.map (·.1) = kvs.map (·.1) ∧ DqAll K F (kws.map (·.2)) (kvs.map (·.2)) := by
  obtain ⟨A, h1, _, _⟩ := I.own
  rcases h1 i _ h with e | ⟨v, h1, p, kws, rfl, h5, h6, h7, _⟩
  · cases e
  · exact ⟨p, kws, h1, h5, h6, h7⟩
/-- slot i's own thing is another one now (of the same address) -/
theorem Iv.mutG {i : Nat} {s s' : Sl} {p : Addr} {ob : HO} (I : Iv K B G S F H) (hi : G[i]? = some s) (hS : S[i]? = some (some (.ref p))) (hA : ∀ A, SvR K F H (.ref p) A s → A p) (hn : s ≠ .un) (h : ∀ A : Addr → Prop, A p → SvR K F H (.ref p) A s → SvR K F (upd H p ob) (.ref p) A s') : Iv K B (G.set i s') S F (upd H p ob) := by
  obtain ⟨A, h1, h2, h3⟩ := I.own
  obtain ⟨u, z1, z2⟩ := (h1 i _ hi).resolve_left hn
  rw [hS] at z1
  cases z1
  have hAp := hA _ z2
  obtain ⟨y1, y2, y3⟩ := h3 i p hAp
  refine ⟨I.ex.mut y1 ob, I.f0, fun b o hb hm => ?_, I.nw, fun b hb => ?_, by simpa using I.len, A, fun j s2 hj => ?_, h2, fun j b hb => ?_⟩
  · by_cases e : b = p
    · subst e
      rcases y3 with z | z
      · rw [hb] at z
        cases z
      · exact absurd z hm
    · rw [upd_ne e]
      exact I.fr b o hb hm
  · by_cases e : b = p
    · subst e
      rw [upd_same]
      exact fun z => by cases z
    · rw [upd_ne e]
      exact I.st b hb
  · by_cases e : i = j
    · subst e
      obtain ⟨rfl, _⟩ := set_same hj
      exact .inr ⟨_, hS, h _ hAp z2⟩
    · rw [List.getElem?_set_ne e] at hj
      rcases h1 j s2 hj with z | ⟨u, x1, x2⟩
      · exact .inl z
      · refine .inr ⟨u, x1, slr_stab x2 (Ex.refl _) fun b hb => ?_⟩
        refine upd_ne fun z => ?_
        subst z
        exact e (h2 _ _ _ hAp hb)
  · refine ⟨(h3 j b hb).1, ?_, (h3 j b hb).2.2⟩
    by_cases e : b = p
    · subst e
      rw [upd_same]
      exact fun z => by cases z
    · rw [upd_ne e]
      exact (h3 j b hb).2.1
theorem dw_slT {i : Nat} {kvs : List (List Key × PyData)} (h : G[i]? = some (.t kvs)) (q : P G (.p (.sl i))) : DW K B G (tVar i) P := fun S F H Q I k => by
  obtain ⟨p, kws, e, _⟩ := I.dct h
  exact ⟨_, e, k _ F H G (.p (.sl i)) (Ex.refl F) ⟨I, e⟩ q⟩
theorem dw_newT (q : P G (.fr (.t []))) : DW K B G tDNewT P := fun S F H Q I k => by
  intro p hp
  refine k (.ref p) F _ G (.fr (.t [])) (Ex.refl F) ?_ q
  refine I.add (Ex.refl F) (Ex.new hp) (I.ex.trans (Ex.new hp)) (fun b o h n => ?_) _ (fun a => a = p) (.inr ⟨_, rfl, p, [], rfl, upd_same, rfl, .nil, rfl⟩) fun a e => ?_
  · rw [h] at n
    cases n
  · have e : a = p := e
    subst e
    exact ⟨hp, I.fnone hp, by rw [upd_same]; exact fun z => (by cases z)⟩
theorem dw_dIn (h : DW K B G ty fun G1 r1 => PW r1 fun w1 => DW K B G1 td fun G2 r2 => PW r2 fun w2 => ∃ i ks kvs, w1 = .d (.tuple (ks.map keyD)) ∧ w2 = .sl i ∧ G2[i]? = some (.t kvs) ∧ P G2 (.p (.d (.bool (lkD kvs ks).isSome)))) : DW K B G (tDIn ty td) P := fun S F H Q I k => by
  show ty S H fun y H1 => td S H1 fun x H2 => ∃ a o, x = .ref a ∧ DGet H2 a y o ∧ Q (.bl o.isSome) H2
  refine dw_run (k' := fun G1 w1 => DW K B G1 td fun G2 r2 => PW r2 fun w2 => ∃ i ks kvs, w1 = .d (.tuple (ks.map keyD)) ∧ w2 = .sl i ∧ G2[i]? = some (.t kvs) ∧ P G2 (.p (.d (.bool (lkD kvs ks).isSome)))) h I fun v1 F1 H1 G1 w1 e1 I1 a1 q1 => ?_
  refine dw_run (k' := fun G2 w2 => ∃ i ks kvs, w1 = .d (.tuple (ks.map keyD)) ∧ w2 = .sl i ∧ G2[i]? = some (.t kvs) ∧ P G2 (.p (.d (.bool (lkD kvs ks).isSome)))) q1 I1 fun v2 F2 H2 G2 w2 e2 I2 a2 ⟨i, ks, kvs, x1, x2, hi, q2⟩ => ?_
  subst x1 x2
  obtain ⟨b, rfl, hb⟩ := key_at (dp_mono e2 a1) I2.ex
  obtain ⟨p, kws, hS, hp, hk, hv⟩ := I2.dct hi
  have a2 : S[i]? = some (some v2) := a2
  rw [hS] at a2
  cases a2
  refine ⟨p, _, rfl, DGet.t hp hb, ?_⟩
  rw [(lk_val (k := ks) hk hv).1]
  exact ct_d (k.mono (e1.trans e2)) I2 (.bl _) q2
theorem dw_dNotIn (h : DW K B G ty fun G1 r1 => PW r1 fun w1 => DW K B G1 td fun G2 r2 => PW r2 fun w2 => ∃ i ks kvs, w1 = .d (.tuple (ks.map keyD)) ∧ w2 = .sl i ∧ G2[i]? = some (.t kvs) ∧ P G2 (.p (.d (.bool (!(lkD kvs ks).isSome))))) : DW K B G (tDNotIn ty td) P := fun S F H Q I k => by
  show ty S H fun y H1 => td S H1 fun x H2 => ∃ a o, x = .ref a ∧ DGet H2 a y o ∧ Q (.bl (!o.isSome)) H2
  refine dw_run (k' := fun G1 w1 => DW K B G1 td fun G2 r2 => PW r2 fun w2 => ∃ i ks kvs, w1 = .d (.tuple (ks.map keyD)) ∧ w2 = .sl i ∧ G2[i]? = some (.t kvs) ∧ P G2 (.p (.d (.bool (!(lkD kvs ks).isSome))))) h I fun v1 F1 H1 G1 w1 e1 I1 a1 q1 => ?_
  refine dw_run (k' := fun G2 w2 => ∃ i ks kvs, w1 = .d (.tuple (ks.map keyD)) ∧ w2 = .sl i ∧ G2[i]? = some (.t kvs) ∧ P G2 (.p (.d (.bool (!(lkD kvs ks).isSome))))) q1 I1 fun v2 F2 H2 G2 w2 e2 I2 a2 ⟨i, ks, kvs, x1, x2, hi, q2⟩ => ?_
  subst x1 x2
  obtain ⟨b, rfl, hb⟩ := key_at (dp_mono e2 a1) I2.ex
  obtain ⟨p, kws, hS, hp, hk, hv⟩ := I2.dct hi
  have a2 : S[i]? = some (some v2) := a2
  rw [hS] at a2
  cases a2
  refine ⟨p, _, rfl, DGet.t hp hb, ?_⟩
  rw [(lk_val (k := ks) hk hv).1]
  exact ct_d (k.mono (e1.trans e2)) I2 (.bl _) q2
theorem dw_dGet (h : DW K B G td fun G1 r1 => PW r1 fun w1 => DW K B G1 ty fun G2 r2 => PW r2 fun w2 => ∃ i ks kvs d, w1 = .sl i ∧ w2 = .d (.tuple (ks.map keyD)) ∧ G2[i]? = some (.t kvs) ∧ lkD kvs ks = some d ∧ P G2 (.p (.d d))) : DW K B G (tDGet td ty) P := fun S F H Q I k => by
  show td S H fun x H1 => ty S H1 fun y H2 => ∃ a v, x = .ref a ∧ DGet H2 a y (some v) ∧ Q v H2
  refine dw_run (k' := fun G1 w1 => DW K B G1 ty fun G2 r2 => PW r2 fun w2 => ∃ i ks kvs d, w1 = .sl i ∧ w2 = .d (.tuple (ks.map keyD)) ∧ G2[i]? = some (.t kvs) ∧ lkD kvs ks = some d ∧ P G2 (.p (.d d))) h I fun v1 F1 H1 G1 w1 e1 I1 a1 q1 => ?_
  refine dw_run (k' := fun G2 w2 => ∃ i ks kvs d, w1 = .sl i ∧ w2 = .d (.tuple (ks.map keyD)) ∧ G2[i]? = some (.t kvs) ∧ lkD kvs ks = some d ∧ P G2 (.p (.d d))) q1 I1 fun v2 F2 H2 G2 w2 e2 I2 a2 ⟨i, ks, kvs, d, x1, x2, hi, hd, q2⟩ => ?_
  subst x1 x2
  obtain ⟨b, rfl, hb⟩ := key_at a2 I2.ex
  obtain ⟨p, kws, hS, hp, hk, hv⟩ := I2.dct hi
  have a1 : S[i]? = some (some v1) := a1
  rw [hS] at a1
  cases a1
  obtain ⟨v, ev, hvd⟩ := (lk_val (k := ks) hk hv).2 d hd
  exact ⟨p, v, rfl, by rw [← ev]; exact DGet.t hp hb, ct_d (k.mono (e1.trans e2)) I2 hvd q2⟩
theorem ds_dPut (h : DW K B G tv fun G1 r1 => PW r1 fun w1 => DW K B G1 td fun G2 r2 => PW r2 fun w2 => DW K B G2 ty fun G3 r3 => PW r3 fun w3 => ∃ i ks kvs d, w1 = .d d ∧ w2 = .sl i ∧ w3 = .d (.tuple (ks.map keyD)) ∧ G3[i]? = some (.t kvs) ∧ kvs.length < sizeLine ∧ E.nx (G3.set i (.t (putD kvs ks d)))) : DS K B G (sDPut td ty tv) E := fun S F H D I c => by
  show tv S H fun v H1 => td S H1 fun x H2 => ty S H2 fun y H3 => ∃ a H4, x = .ref a ∧ DPut H3 a y v H4 ∧ D.nx S H4
  refine dw_run (k' := fun G1 w1 => DW K B G1 td fun G2 r2 => PW r2 fun w2 => DW K B G2 ty fun G3 r3 => PW r3 fun w3 => ∃ i ks kvs d, w1 = .d d ∧ w2 = .sl i ∧ w3 = .d (.tuple (ks.map keyD)) ∧ G3[i]? = some (.t kvs) ∧ kvs.length < sizeLine ∧ E.nx (G3.set i (.t (putD kvs ks d)))) h I fun v1 F1 H1 G1 w1 e1 I1 a1 q1 => ?_
  refine dw_run (k' := fun G2 w2 => DW K B G2 ty fun G3 r3 => PW r3 fun w3 => ∃ i ks kvs d, w1 = .d d ∧ w2 = .sl i ∧ w3 = .d (.tuple (ks.map keyD)) ∧ G3[i]? = some (.t kvs) ∧ kvs.length < sizeLine ∧ E.nx (G3.set i (.t (putD kvs ks d)))) q1 I1 fun v2 F2 H2 G2 w2 e2 I2 a2 q2 => ?_
  refine dw_run (k' := fun G3 w3 => ∃ i ks kvs d, w1 = .d d ∧ w2 = .sl i ∧ w3 = .d (.tuple (ks.map keyD)) ∧ G3[i]? = some (.t kvs) ∧ kvs.length < sizeLine ∧ E.nx (G3.set i (.t (putD kvs ks d)))) q2 I2 fun v3 F3 H3 G3 w3 e3 I3 a3 ⟨i, ks, kvs, d, x1, x2, x3, hi, hz, q3⟩ => ?_
  subst x1 x2 x3
  obtain ⟨b, rfl, hb⟩ := key_at a3 I3.ex
  obtain ⟨p, kws, hS, hp, hk, hv⟩ := I3.dct hi
  have a2 : S[i]? = some (some v2) := a2
  rw [hS] at a2
  cases a2
  have hl : kws.length = kvs.length := by
    have := congrArg List.length hk
    simpa using this
  refine ⟨p, _, rfl, DPut.t hp hb (by rw [hl]; exact hz), ?_⟩
  refine c.nx S F3 _ _ ((e1.trans e2).trans e3) (I3.mutG hi hS (fun A z => ?_) (fun z => nomatch z) fun A hA z => ?_) q3
  · obtain ⟨p', _, e, _, _, _, hA⟩ := z
    cases e
    exact hA
  · obtain ⟨z1, z2⟩ := put_keys (k := ks) hk hv (dp_mono (e2.trans e3) a1)
    exact ⟨p, _, rfl, upd_same, z1, z2, hA⟩
end
end DL
namespace DL
open PySem L2
/-! ### ''.join -/
theorem join0 : ∀ (cs : List Nat), Txt.join (mkS []) (cs.map fun c => mkS [c]) = mkS cs := by
  have f : ∀ (cs : List Nat) (acc : Array Nat), (cs.map fun c => mkS [c]).foldl (fun acc p => acc ++ (mkS []).cps ++ p.cps) acc = acc ++ cs.toArray := by
    intro cs
    induction cs with
    | nil => intro acc; simp
    | cons c cs ih =>
      intro acc
      rw [List.map_cons, List.foldl_cons, ih]
      simp [mkS]
  intro cs
  cases cs with
  | nil => rfl
  | cons c cs =>
    show (⟨(cs.map fun c => mkS [c]).foldl (fun acc p => acc ++ (mkS []).cps ++ p.cps) (mkS [c]).cps⟩ : Str) = mkS (c :: cs)
    rw [f]
    simp [mkS]
section
variable {K : Fr} {B : Bs} {G : En} {P : Po} {te tl tr : TE} {w1 w2 : W}
theorem rm_join0 {cs : List Nat} (e2 : wd G w2 = some (.list (cs.map fun c => .str (mkS [c])))) (hz : cs.length ≤ 16777216) (q : P G (.p (.d (.str (mkS cs))))) : RWm K B G (rJOIN K) (.d (.str (mkS []))) [w2] P := fun S F H Q v vs I hv hs k => by
  obtain ⟨y, rfl, hy⟩ := vws1 hs
  obtain rfl := dp_str hv
  obtain ⟨p, us, rfl, hp, ha⟩ := wd_list I hy e2
  have e : us = (cs.map fun c => mkS [c]).map V.str := da_strs_eq (by rw [List.map_map]; exact ha)
  subst e
  refine ⟨_, p, cs.map fun c => mkS [c], rfl, rfl, .inl (SqL.of hp), ?_, ?_⟩
  · rw [mkS_len]
    have : ((cs.map fun c => mkS [c]).map (·.length)).sum = cs.length := by
      clear ha hp e2 q hz
      induction cs with
      | nil => rfl
      | cons c cs ih =>
        simp only [List.map_cons, List.sum_cons, List.length_cons, List.length_nil, mkS_len, ih]
        omega
    rw [this, List.length_nil]
    omega
  · rw [join0]
    exact ct_d k I (.str _) q
end
/-! ### a letter times an int -/
def rRepS : R2 := fun x y H Q => ∃ c n, x = .str (mkS [c]) ∧ y = .int n ∧ 1 ≤ n ∧ n ≤ 1000 ∧ Q (.str (mkS (List.replicate n.toNat c))) H
section
open PySem.Spec PyProof.Rows
variable {X : Cx}
theorem rep_cps (c : Nat) : ∀ (n : Nat) (acc : Array Nat), (List.replicate n #[c]).foldl (· ++ ·) acc = acc ++ (List.replicate n c).toArray
  | 0, acc => by simp
  | n + 1, acc => by
    rw [List.replicate_succ, List.foldl_cons, rep_cps c n]
    apply Array.toList_inj.mp
    simp [List.replicate_succ]
theorem op_repS : OpR X (binaryOp .Mult) rRepS := by
  intro pins s σ H x y v u Q I rx ry h
  obtain ⟨c, n, rfl, rfl, h1, h2, q⟩ := h
  obtain ⟨t, rfl⟩ := rx
  obtain ⟨t', rfl⟩ := ry
  have hx : (mkS [c]).length = 1 := rfl
  refine PySem.P.mul_str ?_ ?_ ?_ ?_
  · rw [decide_eq_false (by omega), decide_eq_false (by omega)]
    rfl
  · intro _ _
    rw [hx]
    have : (1 : Int) ≤ (2 ^ 63 - 1) / n := by
      refine (Int.le_ediv_iff_mul_le (by omega)).mpr ?_
      omega
    show ¬ ((1 : Nat) : Int) > _
    omega
  · intro _ _
    rw [hx]
    exact decide_eq_false (by rw [sizeLine_eq]; omega)
  · rw [if_neg (by omega)]
    by_cases e : n = 1
    · subst e
      rw [if_pos (by rfl)]
      exact ⟨.str (mkS [c]), H, I, ⟨t, rfl⟩, q⟩
    · rw [if_neg (by simp [hx, e])]
      have e2 : (⟨(List.replicate n.toNat (mkS [c]).cps).foldl (· ++ ·) #[]⟩ : Str) = mkS (List.replicate n.toNat c) := by
        show (⟨(List.replicate n.toNat #[c]).foldl (· ++ ·) #[]⟩ : Str) = _
        rw [rep_cps]
        simp [mkS]
      rw [e2]
      refine ⟨?_, ?_⟩
      · show (mkS (List.replicate n.toNat c)).length ≤ sizeLine
        rw [mkS_len, List.length_replicate, sizeLine_eq]
        omega
      · exact ⟨.str (mkS (List.replicate n.toNat c)), H, I.tok _, ⟨_, rfl⟩, q⟩
end
section
variable {K : Fr} {B : Bs} {G : En} {P : Po}
theorem rw_repS {c : Nat} {n : Int} (h1 : 1 ≤ n) (h2 : n ≤ 1000) (q : P G (.p (.d (.str (mkS (List.replicate n.toNat c)))))) : RW2 K B G rRepS (.d (.str (mkS [c]))) (.d (.int n)) P := fun S F H Q v1 v2 I a1 a2 k => ⟨c, n, dp_str a1, dp_int a2, h1, h2, ct_d k I (.str _) q⟩
end

/-! ### [e for g in .. for g1 in ..] -/
section
variable {K : Fr} {B : Bs} {G : En} {te : TE} {P : Po} {tt tt1 : TT}
theorem dw_lc2 {wi wi1 : TI} {g g1 : TG} {ch ch1 : List Nat} {vs vs1 : List Nat} (J : List PyData → Nat → List PyData → En → Prop) (J1 : List PyData → Nat → List PyData → Nat → List PyData → En → Prop) (hsub : ∀ k ∈ ch, k ∈ vs) (hsub1 : ∀ k ∈ ch1, k ∈ vs1) (hv : ∀ k ∈ vs1, k ∈ vs)
    (h : DI K B G wi fun G1 ds => J ds 0 [] (wipeG G1 vs) ∧ (∀ (B' : Bs) i acc G2 d, ds[i]? = some d → J ds i acc G2 → DG K B' G2 g ch (.d d) fun G3 => DT K B' G3 tt fun G4 b => if b = true then
      DI K B' G4 wi1 fun G5 ds1 => J1 ds i ds1 0 acc (wipeG G5 vs1) ∧ (∀ (B'' : Bs) j acc G6 d1, ds1[j]? = some d1 → J1 ds i ds1 j acc G6 → DG K B'' G6 g1 ch1 (.d d1) fun G7 => DT K B'' G7 tt1 fun G8 b => if b = true then
        DW K B'' G8 te fun G9 r => PW r fun w => ∃ y, w = .d y ∧ acc.length < sizeLine ∧ J1 ds i ds1 (j + 1) (acc ++ [y]) (wipeG G9 vs1) else J1 ds i ds1 (j + 1) acc (wipeG G8 vs1)) ∧ (∀ acc G6, J1 ds i ds1 ds1.length acc G6 → J ds (i + 1) acc (wipeG G6 vs))
      else J ds (i + 1) acc (wipeG G4 vs)) ∧ ∀ acc G2, J ds ds.length acc G2 → P (wipeG G2 vs) (.fr (.o none acc))) :
    DW K B G (tLc2 wi g tt wi1 g1 tt1 te vs vs1) P := fun S F H Q I k => by
  refine h S F H _ I fun It F1 H1 G1 ds e1 I1 Y ⟨j0, hs, hd⟩ => ?_
  intro D hD
  refine ⟨fun i m H => m = ds.length - i ∧ i ≤ ds.length ∧ ∃ F2 G2 acc, Ex F1 F2 ∧ Iv K B (G2 ++ [.o none acc]) (L2.wipe S vs ++ [some (.ref D)]) F2 H ∧ J ds i acc G2, ⟨_, rfl, Nat.zero_le _, F1, _, [], Ex.refl _, (I1.wipe vs).newL hD .nil, j0⟩, ?_⟩
  rintro i m H2 ⟨rfl, hi, F2, G2, acc, e2, I2, j2⟩
  by_cases hlt : i < ds.length
  · obtain ⟨d, hd'⟩ : ∃ d, ds[i]? = some d := ⟨_, List.getElem?_eq_getElem hlt⟩
    refine .inr ⟨((Y i H2 F2 e2 I2.ex).1 d hd').1, fun H => ∃ F2 G2 acc, Ex F1 F2 ∧ Iv K B (G2 ++ [.o none acc]) (L2.wipe S vs ++ [some (.ref D)]) F2 H ∧ J ds (i + 1) acc G2, fun H' p => ⟨ds.length - (i + 1), by omega, rfl, hlt, p⟩, fun x H3 y => ?_⟩
    obtain ⟨F3, e3, I3, hx⟩ := Y.turn e2 I2 hd' y
    obtain ⟨D', accv, mu, eD, hD3, ha3, Ia, back⟩ := I3.aside
    cases eD
    refine hs _ i acc G2 d hd' j2 _ F3 H3 x _ Ia hx fun S4 F4 H4 G4 e4 I4 l4 u4 q => ?_
    have ew : L2.wipe S4 vs = L2.wipe S vs := by
      rw [wipe_ext l4 fun k hk => u4 k fun z => hk (hsub k z)]
      exact wipe_ext (wipe_length S vs) fun k hk => wipe_ne hk
    refine ⟨ew, q S4 F4 H4 _ I4 fun b F5 H5 G5 e5 I5 q5 => ?_⟩
    cases b with
    | false =>
      show ∃ F2 G2 acc, Ex F1 F2 ∧ Iv K B (G2 ++ [.o none acc]) (L2.wipe S vs ++ [some (.ref D)]) F2 H5 ∧ J ds (i + 1) acc G2
      obtain ⟨_, I6⟩ := back _ _ _ _ (I5.wipe vs)
      rw [ew] at I6
      exact ⟨F5, _, acc, ((e2.trans e3).trans e4).trans e5, I6, q5⟩
    | true =>
      show wi1 S4 H5 fun J1' H4 => ∃ W1 : Nat → Nat → Hp → Prop, _ ∧ _
      refine q5 S4 F5 H5 _ I5 fun It1 F6 H6 G6 ds1 e6 I6 Y1 ⟨k0, ks, kd⟩ => ?_
      obtain ⟨_, I7⟩ := back _ _ _ _ (I6.wipe vs1)
      have e06 : Ex F1 F6 := (((e2.trans e3).trans e4).trans e5).trans e6
      refine ⟨fun j m H => m = ds1.length - j ∧ j ≤ ds1.length ∧ ∃ F8 G8 acc, Ex F6 F8 ∧ Iv K B (G8 ++ [.o none acc]) (L2.wipe S4 vs1 ++ [some (.ref D)]) F8 H ∧ J1 ds i ds1 j acc G8, ⟨_, rfl, Nat.zero_le _, F6, _, acc, Ex.refl _, I7, k0⟩, ?_⟩
      rintro j m H8 ⟨rfl, hj, F8, G8, acc8, e8, I8, j8⟩
      by_cases hlt1 : j < ds1.length
      · obtain ⟨d1, hd1⟩ : ∃ d, ds1[j]? = some d := ⟨_, List.getElem?_eq_getElem hlt1⟩
        refine .inr ⟨((Y1 j H8 F8 e8 I8.ex).1 d1 hd1).1, fun H => ∃ F8 G8 acc, Ex F6 F8 ∧ Iv K B (G8 ++ [.o none acc]) (L2.wipe S4 vs1 ++ [some (.ref D)]) F8 H ∧ J1 ds i ds1 (j + 1) acc G8, fun H' p => ⟨ds1.length - (j + 1), by omega, rfl, hlt1, p⟩, fun x H9 y => ?_⟩
        obtain ⟨F9, e9, I9, hx9⟩ := Y1.turn e8 I8 hd1 y
        obtain ⟨D', accv9, mu9, eD, hD9, ha9, Ia9, back9⟩ := I9.aside
        cases eD
        refine ks _ j acc8 G8 d1 hd1 j8 _ F9 H9 x _ Ia9 hx9 fun Sa Fa Ha Ga ea Ja la ua qa => ?_
        have ew1 : L2.wipe Sa vs1 = L2.wipe S4 vs1 := by
          rw [wipe_ext la fun k hk => ua k fun z => hk (hsub1 k z)]
          exact wipe_ext (wipe_length S4 vs1) fun k hk => wipe_ne hk
        refine ⟨ew1, qa Sa Fa Ha _ Ja fun b Fb Hb Gb eb Ib qb => ?_⟩
        cases b with
        | false =>
          show ∃ F8 G8 acc, Ex F6 F8 ∧ Iv K B (G8 ++ [.o none acc]) (L2.wipe S4 vs1 ++ [some (.ref D)]) F8 Hb ∧ J1 ds i ds1 (j + 1) acc G8
          obtain ⟨_, Ic⟩ := back9 _ _ _ _ (Ib.wipe vs1)
          rw [ew1] at Ic
          exact ⟨Fb, _, acc8, ((e8.trans e9).trans ea).trans eb, Ic, qb⟩
        | true =>
          show te Sa Hb fun y H7 => ∃ acc, H7 D = some (.lst acc) ∧ acc.length < sizeLine ∧ (∃ F8 G8 acc', Ex F6 F8 ∧ Iv K B (G8 ++ [.o none acc']) (L2.wipe S4 vs1 ++ [some (.ref D)]) F8 (upd H7 D (.lst (acc ++ [y]))) ∧ J1 ds i ds1 (j + 1) acc' G8)
          refine dw_run (k' := fun G5 w => ∃ y, w = .d y ∧ acc8.length < sizeLine ∧ J1 ds i ds1 (j + 1) (acc8 ++ [y]) (wipeG G5 vs1)) qb Ib fun v Fc Hc Gc w ec Ic hv' qc => ?_
          obtain ⟨y, rfl, hz, jc⟩ := qc
          obtain ⟨hDc, Id⟩ := back9 _ _ _ _ (Ic.wipe vs1)
          rw [ew1] at Id
          refine ⟨accv9, hDc, by rw [da_len ha9]; exact hz, Fc, _, acc8 ++ [y], (((e8.trans e9).trans ea).trans eb).trans ec, ?_, jc⟩
          have hl : (L2.wipe S4 vs1).length = (wipeG Gc vs1).length := by
            have := Id.len
            simpa using this
          have Ie := Id.mut (i := (wipeG Gc vs1).length) (p := D) (q := none) (ds := acc8) (ds' := acc8 ++ [y]) (vs' := accv9 ++ [v]) (by simp) (by rw [← hl]; simp) (da_app (da_mono ((ea.trans eb).trans ec) ha9) (.cons hv' .nil))
          have eg : (wipeG Gc vs1 ++ [Sl.o none acc8]).set (wipeG Gc vs1).length (.o none (acc8 ++ [y])) = wipeG Gc vs1 ++ [.o none (acc8 ++ [y])] := by simp
          rw [eg] at Ie
          exact Ie
      · have e : j = ds1.length := by omega
        subst e
        refine .inl ⟨(Y1 _ H8 F8 e8 I8.ex).2 rfl, F8, _, acc8, e06.trans e8, ?_, kd acc8 G8 j8⟩
        obtain ⟨D', accv9, mu9, eD, hD9, ha9, Ia9, back9⟩ := I8.aside
        have I9 := (back9 _ _ _ _ (Ia9.wipe vs)).2
        have ew2 : L2.wipe (L2.wipe S4 vs1) vs = L2.wipe S vs := by
          rw [← ew]
          exact wipe_ext (wipe_length S4 vs1) fun k hk => wipe_ne fun z => hk (hv k z)
        rw [ew2] at I9
        exact I9
  · have e : i = ds.length := by omega
    subst e
    refine .inl ⟨(Y _ H2 F2 e2 I2.ex).2 rfl, ?_⟩
    have I3 : Iv K B (wipeG G2 vs ++ [.o none acc]) (S ++ [some (.ref D)]) F2 H2 := by
      obtain ⟨D', accv, mu, eD, hD3, ha3, Ia, back⟩ := I2.aside
      exact (back _ _ _ _ ((Ia.wipe vs).wiped (S := S) (by rw [wipe_length, wipe_length]) fun k hk => by rw [wipe_ne hk, wipe_ne hk])).2
    exact k (.ref D) F2 H2 (wipeG G2 vs) (.fr (.o none acc)) (e1.trans e2) I3 (hd acc G2 j2)
end
end DL
namespace DL
open PySem L2
/-! ### defs that raise -/
def spX (K : Fr) (pre : List PyData → Prop) (post : List PyData → Rs → Prop) (exc : List PyData → Value → Prop) : Sp := fun vs H Q E => ∃ F ds, Ex F H ∧ DqAll K F vs ds ∧ pre ds ∧
  (∀ v F' H' r, Ex F F' → Ex F' H' → Ex H H' → (∀ b o, F' b = some o → F b = none → H b = none) → Rr K (fun a => H a = none) F' H' v r → post ds r → Q v H') ∧
  ∀ cls F' H', Ex F F' → Ex F' H' → Ex H H' → (∀ b o, F' b = some o → F b = none → H b = none) → exc ds cls → E cls none H'
section
variable {K : Fr} {B : Bs} {G : En} {P : Po} {t : TA} {E : XK}
/-- what takes an exception of class cls, from the base B on -/
def Tk (K : Fr) (B : Bs) (exc : Value → Prop) (E : XK) : Prop := ∀ cls S F H G, Iv K B G S F H → exc cls → E cls none H
theorem dw_callX {pre : List PyData → Prop} {post : List PyData → Rs → Prop} {exc : List PyData → Value → Prop} {ex0 : Value → Prop} (hE : Tk K B ex0 E) (h : DA K B G t fun G1 ws => ∃ ds, allD ws = some ds ∧ pre ds ∧ (∀ r, post ds r → P G1 r) ∧ ∀ cls, exc ds cls → ex0 cls) : DW K B G (tCall (spX K pre post exc) [] E t) P := fun S F H Q I k => by
  show t S H fun vs H1 => spX K pre post exc (vs ++ []) H1 Q E
  refine h S F H _ I fun vs F1 H1 G1 ws e1 I1 hv ⟨ds, hd, hp, q, qx⟩ => ?_
  rw [List.append_nil]
  refine ⟨F1, ds, I1.ex, allD_ok hd hv, hp, fun v F2 H2 r a1 a2 a3 a4 a5 a6 => ?_, fun cls F2 H2 a1 a2 a3 a4 a5 => ?_⟩
  · match r, a5, a6 with
    | .p (.d d), a5, a6 => exact k v F2 H2 G1 (.p (.d d)) (e1.trans a1) ⟨I1.grow a1 a3 a2 a4, a5⟩ (q _ a6)
    | .fr s, ⟨A, b1, b2⟩, a6 =>
      refine k v F2 H2 G1 (.fr s) (e1.trans a1) ?_ (q _ a6)
      exact I1.add a1 a3 a2 a4 (some v) A (.inr ⟨v, rfl, b1⟩) fun a ha => ⟨(b2 a ha).2.2, (b2 a ha).1, (b2 a ha).2.1⟩
  · exact hE cls S F2 H2 G1 (I1.grow a1 a3 a2 a4) (qx cls a5)
/-- .. where nothing is raised -/
theorem dw_callN {pre : List PyData → Prop} {post : List PyData → Rs → Prop} {exc : List PyData → Value → Prop} (h : DA K B G t fun G1 ws => ∃ ds, allD ws = some ds ∧ pre ds ∧ (∀ r, post ds r → P G1 r) ∧ ∀ cls, ¬ exc ds cls) : DW K B G (tCall (spX K pre post exc) [] E t) P := by
  refine dw_callX (ex0 := fun _ => False) (fun _ _ _ _ _ _ z => z.elim) ?_
  exact h
/-- .. within try -/
def TkW (K : Fr) (B : Bs) (exc : Value → En → Prop) (W : WX) : Prop := ∀ cls S F H G, Iv K B G S F H → exc cls G → W cls none S H
theorem dw_callS {pre : List PyData → Prop} {post : List PyData → Rs → Prop} {exc : List PyData → Value → Prop} {W : WX} {ex0 : Value → En → Prop} (hE : TkW K B ex0 W) (h : DA K B G t fun G1 ws => ∃ ds, allD ws = some ds ∧ pre ds ∧ (∀ r, post ds r → P G1 r) ∧ ∀ cls, exc ds cls → ex0 cls G1) : DW K B G (tCallS (spX K pre post exc) (WE W) t) P := fun S F H Q I k => by
  show t S H fun vs H1 => spX K pre post exc vs H1 Q (fun cls d H => W cls d S H)
  refine h S F H _ I fun vs F1 H1 G1 ws e1 I1 hv ⟨ds, hd, hp, q, qx⟩ => ?_
  refine ⟨F1, ds, I1.ex, allD_ok hd hv, hp, fun v F2 H2 r a1 a2 a3 a4 a5 a6 => ?_, fun cls F2 H2 a1 a2 a3 a4 a5 => ?_⟩
  · match r, a5, a6 with
    | .p (.d d), a5, a6 => exact k v F2 H2 G1 (.p (.d d)) (e1.trans a1) ⟨I1.grow a1 a3 a2 a4, a5⟩ (q _ a6)
    | .fr s, ⟨A, b1, b2⟩, a6 =>
      refine k v F2 H2 G1 (.fr s) (e1.trans a1) ?_ (q _ a6)
      exact I1.add a1 a3 a2 a4 (some v) A (.inr ⟨v, rfl, b1⟩) fun a ha => ⟨(b2 a ha).2.2, (b2 a ha).1, (b2 a ha).2.1⟩
  · exact hE cls S F2 H2 G1 (I1.grow a1 a3 a2 a4) (qx cls a5)
variable {De0 : De}
/-- raise X(..), X without own fields -/
theorem ds_raise {W : WX} {cls : Value} {exc : Value → En → Prop} (hE : TkW K B exc W) (h : exc cls G) : DS K B G (fun _ σ H => (fun (_ : St) (H : Hp) (Q : XK) => Q cls none H) σ H fun cls d H' => W cls d σ H') De0 := fun S F H D I c => hE cls S F H G I h
/-- a caught exception -/
def exO (a : Addr) : Orel := ⟨fun _ _ v _ => v = .ref a, fun h _ _ => h⟩
/-- try .. except c as n -/
theorem ds_tryAs {c : Value} {i : Nat} {tb : WX → TS} {ts : Addr → Value → Option Addr → TS} {Wout : WX} {exc : Value → En → Prop} {E : De} (hi : i < G.length)
    (hb : ∀ (B' : Bs) (W : WX), TkW K B' exc W → DS K B' G (tb W) E) (hx : ∀ cls G1, exc cls G1 → PySem.W.exmOne K cls c = some true ∧ ∀ (B' : Bs) a, DS K B' (G1.set i (.ow (exO a))) (ts a cls none) { nx := fun G => E.nx (G.set i .un), rt := E.rt, bk := fun G => E.bk (G.set i .un), ct := fun G => E.ct (G.set i .un) }) :
    DS K B G (fun D σ H => tb (wAs K c i ts Wout D) D σ H) E := fun S F H D I cv => by
  obtain ⟨mu, _, I0, back, _⟩ := I.rebase
  have cov : Cov K ⟨F, H, mu⟩ F E D := ⟨fun S1 F1 H1 G1 e J p => cv.nx S1 F1 H1 G1 e (back _ _ _ _ J) p, fun S1 F1 H1 G1 v r e J p => cv.rt S1 F1 H1 G1 v r e (by
      cases r with
      | p w => exact ⟨back _ _ _ _ J.1, J.2⟩
      | fr s => exact back _ _ _ _ J) p, fun S1 F1 H1 G1 e J p => cv.bk S1 F1 H1 G1 e (back _ _ _ _ J) p, fun S1 F1 H1 G1 e J p => cv.ct S1 F1 H1 G1 e (back _ _ _ _ J) p⟩
  refine hb ⟨F, H, mu⟩ (wAs K c i ts Wout D) (fun cls S1 F1 H1 G1 J hx1 => ?_) S F H D I0 cov
  obtain ⟨e1, e2⟩ := hx cls G1 hx1
  refine ⟨true, e1, fun _ a ha => ?_, fun z => Bool.noConfusion z⟩
  have J1 : Iv K ⟨F, H, mu⟩ (G1.set i (.ow (exO a))) (S1.set i (some (.ref a))) F1 H1 := by
    obtain ⟨A, a1, a2, a3⟩ := J.own
    refine ⟨J.ex, J.f0, J.fr, J.nw, J.st, by simpa using J.len, fun j b => j ≠ i ∧ A j b, fun j s hj => ?_, fun j k b x y => a2 j k b x.2 y.2, fun j b x => a3 j b x.2⟩
    by_cases e : i = j
    · subst e
      obtain ⟨rfl, hl⟩ := set_same hj
      exact .inr ⟨.ref a, List.getElem?_set_self (by rw [J.len]; exact hl), rfl⟩
    · rw [List.getElem?_set_ne e] at hj
      rw [List.getElem?_set_ne e]
      rcases a1 j s hj with z | ⟨u, x1, x2⟩
      · exact .inl z
      · refine .inr ⟨u, x1, ?_⟩
        have ea : (fun b => j ≠ i ∧ A j b) = A j := by
          funext b
          exact propext ⟨fun z => z.2, fun z => ⟨fun z => e z.symm, z⟩⟩
        show SvR K F1 H1 u (fun b => j ≠ i ∧ A j b) s
        rw [ea]
        exact x2
  have f0 : Ex F F1 := J.f0
  refine e2 _ a _ F1 H1 _ J1 ⟨fun S2 F2 H2 G2 e J2 p => ?_, fun S2 F2 H2 G2 v r e J2 p => cov.rt S2 F2 H2 G2 v r (f0.trans e) J2 p, fun S2 F2 H2 G2 e J2 p => ?_, fun S2 F2 H2 G2 e J2 p => ?_⟩
  · exact cov.nx _ F2 H2 _ (f0.trans e) (J2.set_un i none) p
  · exact cov.bk _ F2 H2 _ (f0.trans e) (J2.set_un i none) p
  · exact cov.ct _ F2 H2 _ (f0.trans e) (J2.set_un i none) p
/-- try .. except c -/
theorem ds_tryOnly {c : Value} {tb : WX → TS} {ts : Addr → Value → Option Addr → TS} {Wout : WX} {exc : Value → En → Prop} {E : De}
    (hb : ∀ (B' : Bs) (W : WX), TkW K B' exc W → DS K B' G (tb W) E) (hx : ∀ cls G1, exc cls G1 → PySem.W.exmOne K cls c = some true ∧ ∀ (B' : Bs) a, DS K B' G1 (ts a cls none) E) :
    DS K B G (fun D σ H => tb (wOnly K c ts Wout D) D σ H) E := fun S F H D I cv => by
  obtain ⟨mu, _, I0, back, _⟩ := I.rebase
  have cov : Cov K ⟨F, H, mu⟩ F E D := ⟨fun S1 F1 H1 G1 e J p => cv.nx S1 F1 H1 G1 e (back _ _ _ _ J) p, fun S1 F1 H1 G1 v r e J p => cv.rt S1 F1 H1 G1 v r e (by
      cases r with
      | p w => exact ⟨back _ _ _ _ J.1, J.2⟩
      | fr s => exact back _ _ _ _ J) p, fun S1 F1 H1 G1 e J p => cv.bk S1 F1 H1 G1 e (back _ _ _ _ J) p, fun S1 F1 H1 G1 e J p => cv.ct S1 F1 H1 G1 e (back _ _ _ _ J) p⟩
  refine hb ⟨F, H, mu⟩ (wOnly K c ts Wout D) (fun cls S1 F1 H1 G1 J hx1 => ?_) S F H D I0 cov
  obtain ⟨e1, e2⟩ := hx cls G1 hx1
  exact ⟨true, e1, fun _ a ha => e2 _ a S1 F1 H1 D J (cov.mono J.f0), fun z => Bool.noConfusion z⟩
/-- isinstance(e, T), e the caught exception -/
theorem dw_slE {i : Nat} {a : Addr} (h : G[i]? = some (.ow (exO a))) (q : P G (.p (.sl i))) : DW K B G (tVar i) P := fun S F H Q I k => by
  obtain ⟨A, a1, _, _⟩ := I.own
  rcases a1 i _ h with e | ⟨v, h1, _⟩
  · cases e
  · exact ⟨v, h1, k _ F H G (.p (.sl i)) (Ex.refl F) ⟨I, h1⟩ q⟩
theorem rn_isE {i : Nat} {a D : Addr} {T : String} {b : Bool} (h : G[i]? = some (.ow (exO a))) (e : PySem.W.kitOne K (.ref D) (.type T) = some b) (q : P G (.p (.d (.bool b)))) : RWn K B G (rIsE K D a) [.sl i, .ty T] P := fun S F H Q vs I hv k => by
  obtain ⟨v, v', rfl, h1, h2⟩ := vws2 hv
  have h2 : v' = .ty T := h2
  subst h2
  obtain ⟨A, a1, _, _⟩ := I.own
  rcases a1 i _ h with e' | ⟨u, z1, z2⟩
  · cases e'
  · have h1 : S[i]? = some (some v) := h1
    rw [h1] at z1
    cases z1
    have z2 : v = .ref a := z2
    subst z2
    exact ⟨.ty T, .type T, b, rfl, fun _ h => h, e, ct_d k I (.bl _) q⟩
end
section
variable {P : Program} {w : World} {K : Fr} {mg : Str → Option Value} {base : Heap} {x qual : Str} {st : Stmt} {f : Addr} {fd : FuncData} {N ps : List Str} {k : Nat}
theorem fnX {pre : List PyData → Prop} {post : List PyData → Rs → Prop} {exc : List PyData → Value → Prop} (F : Fun K x qual st f fd) (S : FnScope N ps (defScope st)) (hl : ∀ ds, pre ds → ds.length = ps.length ∧ ds.length ≤ N.length)
    (hb : ∀ (cdv : Value) (A : Around) (outer : List Env) (s : Shared) (H : Hp) (E : XK), Room k (A.deeper (PyProof.Rows.envOfC qual (defScope st) s.heap.objs.size f cdv)) → ∃ t, PSs (cxOf (L2.CX P w) P w K mg base N qual (defScope st) f cdv A outer s H E) (defBody st) t ∧
      ∀ ds, pre ds → ∀ B, Tk K B (exc ds) E → DS K B (G0 N ds) t (E0 (post ds))) : FnOk P w K mg base (L2.CX P w) (k + 1) f fd ps (spX K pre post exc) := by
  refine F.okX S (fun vs H Q E h => ?_) (fun cdv A outer s H vs Q E hr h => ?_)
  · obtain ⟨F, ds, _, h1, h2, _⟩ := h
    rw [da_len h1]
    exact (hl ds h2).1
  · obtain ⟨F0, ds, ex, h1, h2, q, qx⟩ := h
    obtain ⟨t, ht, hs⟩ := hb cdv A outer s H E hr
    refine ⟨t, ht, ?_⟩
    have I0 := start_iv (N := N) ex h1 (hl ds h2).2
    have out : ∀ {G' : En} {S' : St} {F' H' : Hp}, Iv K ⟨F0, H, fun _ => False⟩ G' S' F' H' → Ex H H' ∧ ∀ b o, F' b = some o → F0 b = none → H b = none := fun {G' S' F' H'} J => ⟨fun b o h => J.fr b o h id, fun b o h n => by
      cases z : H b with
      | none => rfl
      | some u =>
        rcases J.nw b o h (nn z) with y | y
        · exact absurd n y
        · exact y.elim⟩
    refine hs ds h2 _ (fun cls S F H' G J hx => qx cls F H' J.f0 J.ex (out J).1 (out J).2 hx) _ F0 H _ I0 ⟨fun S F H' G e J p => ?_, fun S F H' G v r e J p => ?_, fun _ _ _ _ _ _ z => z.elim, fun _ _ _ _ _ _ z => z.elim⟩
    · exact q .non F H' (.p (.d .none)) e J.ex (out J).1 (out J).2 .non p
    · match r, J, p with
      | .p (.d d), J, p => exact q v F H' (.p (.d d)) e J.1.ex (out J.1).1 (out J.1).2 J.2 p
      | .p (.sl i), J, ⟨a, ds', hi, p⟩ =>
        obtain ⟨A, a1, a2, a3⟩ := J.1.own
        obtain ⟨u, z1, c, vs', z2, z3, z4, z5, _⟩ : ∃ v, S[i]? = some (some v) ∧ SvR K F H' v (A i) (.o a ds') := (a1 i _ hi).elim (fun z => by cases z) id
        have hv : S[i]? = some (some v) := J.2
        rw [hv] at z1
        cases z1
        exact q v F H' (.fr (.o none ds')) e J.1.ex (out J.1).1 (out J.1).2 ⟨A i, ⟨c, vs', z2, z3, z4, z5, fun _ z => by cases z⟩, fun a ha => ⟨(a3 i a ha).1, (a3 i a ha).2.1, (a3 i a ha).2.2.elim id False.elim⟩⟩ p
      | .fr s, J, ⟨hu, p⟩ =>
        obtain ⟨A, a1, a2, a3⟩ := J.own
        have J' := Iv.drop J
        obtain ⟨u, z1, z2⟩ : ∃ v', (S ++ [some v])[G.length]? = some (some v') ∧ SvR K F H' v' (A G.length) s := (a1 G.length s (by simp)).elim (fun z => absurd z hu) id
        have hv : (S ++ [some v])[G.length]? = some (some v) := by
          rw [← J'.len]
          simp
        rw [hv] at z1
        cases z1
        exact q v F H' (.fr s) e J'.ex (out J').1 (out J').2 ⟨_, z2, fun a ha => ⟨(a3 _ a ha).1, (a3 _ a ha).2.1, (a3 _ a ha).2.2.elim id False.elim⟩⟩ p
end
end DL
namespace DL
open PySem L2
/-- {k: v}, k a tuple of ints and texts -/
def tDisp1T (tk tv : TE) : TE := fun S H Q => ∀ p, H p = none → tk S (upd H p (.dT [])) fun x H1 => tv S H1 fun v H2 => ∃ (b : Addr) (k : List Key), x = .ref b ∧ H2 p = some (.dT []) ∧ H2 b = some (.tup (k.map kV)) ∧ Q (.ref p) (upd H2 p (.dT [(k, v)]))
section
open PySem.Spec PyProof.Rows
variable {X : Cx}
theorem pe_disp1T {k v : Expr} {tk tv : TE} {pos : Pos} (hu : X.A.units + 1 < cLine) (hk : PE X k tk) (hv : PE X v tv) : PE X (.Dict [some k] [v] pos) (tDisp1T tk tv) := by
  refine ⟨fun pins s σ H Q I q => ?_⟩
  have hn := I.hok.fresh (Nat.le_refl s.heap.objs.size)
  have I1 := I.laid (a := s.heap.objs.size) (o := .dT []) (h' := s.heap.push { cls := .type "dict", data := .dict #[] }) (t' := s.toks) (fun _ _ q => Heap.get?_push_of_some _ q) (Nat.le_refl _) (dt_empty s.heap I.big)
  have q := q _ hn
  rw [arm_eval_Dict, zip_pairTrees [some k] [v] X.env pos rfl rfl, dictDisplay_pairs (pairTrees [some k] [v] X.env pos) (by simp [pairTrees]) (by simp [pairTrees])]
  refine wpAny_bind (wpAny_standAt (wpAny_bind ?_))
  refine wpAny_subDictH (knd := tupleKind (mixKind X.prog X.w)) (Nat.lt_of_succ_lt hu) (by simp [pairTrees]) ?_
  refine pairTrees_cons_walk (thn (hk.run pins _ σ _ _ I1 q) fun u s1 ⟨x, H1, I2, rx, q1⟩ => thn (hv.run pins s1 σ H1 _ I2 q1) fun u2 s2 ⟨y, H2, I3, ry, b, ks, ex, e0, eb, q2⟩ => pairTrees_nil_walk ?_)
  subst ex
  cases (show u = Value.ref b from rx)
  obtain ⟨z, hd, xs, rel, dd⟩ := dt_of I3.hok e0
  cases rel
  refine ⟨[(ks, b, u2)], ⟨rfl, rfl, key_of I3.hok eb, trivial⟩, dd, fun h' tk' dd' hs => wpAny_pure ⟨.ref s.heap.objs.size, _, ?_, rfl, q2⟩⟩
  obtain ⟨q', es, ep, hq, h2, h3, h4, h6, h5⟩ := dd'
  refine d_write I3 (by rw [e0]; exact True.intro) hs ⟨q', hq⟩ ⟨by rw [sizeLine_eq]; exact (by decide : 1 ≤ 16777216), hd, [(ks, b, u2)], .cons ⟨rfl, ?_, ry⟩ .nil, q', es, ep, hq, h2, h3, h4, h5⟩
  rw [upd_ne (ne_of eb e0 (fun z => nomatch z))]
  exact eb
end
/-- the last slot's own thing, aside while the rest runs -/
theorem Iv.asideG {K : Fr} {B : Bs} {G : En} {S : St} {F H : Hp} {s : Sl} {x : V} (I : Iv K B (G ++ [s]) (S ++ [some x]) F H) (hs : s ≠ .un) : ∃ (A0 mu : Addr → Prop), SvR K F H x A0 s ∧ (∀ a, A0 a → F a = none ∧ H a ≠ none) ∧ Iv K ⟨F, H, mu⟩ G S F H ∧
    ∀ G1 S1 F1 H1, Iv K ⟨F, H, mu⟩ G1 S1 F1 H1 → (∀ a, A0 a → H1 a = H a) ∧ Iv K B (G1 ++ [s]) (S1 ++ [some x]) F1 H1 := by
  obtain ⟨A, h1, h2, h3⟩ := I.own
  have hl : S.length = G.length := by
    have := I.len
    simpa using this
  obtain ⟨u, e1, e2⟩ : ∃ v, (S ++ [some x])[G.length]? = some (some v) ∧ SvR K F H v (A G.length) s := (h1 G.length s (by simp)).elim (fun z => absurd z hs) id
  have ex : x = u := by
    rw [← hl] at e1
    have : (S ++ [some x])[S.length]? = some (some x) := by simp
    rw [this] at e1
    exact Option.some.inj (Option.some.inj e1)
  subst ex
  have I0 := I.drop
  have hm : ∀ a, (∃ i, i < G.length ∧ A i a) → F a = none ∧ H a ≠ none ∧ (B.H0 a = none ∨ B.mu a) := fun a ⟨i, _, h⟩ => h3 i a h
  have nD : ∀ a, A G.length a → ¬ ∃ i, i < G.length ∧ A i a := fun a ha ⟨i, hi, h⟩ => by
    have := h2 _ _ _ h ha
    omega
  refine ⟨A G.length, fun a => ∃ i, i < G.length ∧ A i a, e2, fun a ha => ⟨(h3 _ _ ha).1, (h3 _ _ ha).2.1⟩, ⟨I.ex, Ex.refl _, fun b o h _ => h, fun b o h _ => .inl (nn h), fun b h => h, hl, fun i a => i < G.length ∧ A i a, fun i s hi => ?_, fun i j a p q => h2 i j a p.2 q.2, fun i a h => ⟨(h3 i a h.2).1, (h3 i a h.2).2.1, .inr ⟨i, h⟩⟩⟩, fun G1 S1 F1 H1 J => ?_⟩
  · have hlt := (List.getElem?_eq_some_iff.mp hi).1
    rcases h1 i s (by rw [List.getElem?_append_left hlt]; exact hi) with z | ⟨u, z1, z2⟩
    · exact .inl z
    · refine .inr ⟨u, by rw [List.getElem?_append_left (by omega)] at z1; exact z1, ?_⟩
      have ea : (fun a => i < G.length ∧ A i a) = A i := by
        funext a
        exact propext ⟨fun z => z.2, fun z => ⟨hlt, z⟩⟩
      show SvR K F H u (fun a => i < G.length ∧ A i a) s
      rw [ea]
      exact z2
  · have hD : ∀ a, A G.length a → H1 a = H a := fun a ha => by
      obtain ⟨o, ho⟩ : ∃ o, H a = some o := by
        cases q : H a with
        | none => exact absurd q (h3 _ _ ha).2.1
        | some o => exact ⟨o, rfl⟩
      rw [ho]
      exact J.fr a o ho (nD a ha)
    have fD : ∀ a, A G.length a → F1 a = none := fun a ha => by
      cases q : F1 a with
      | none => rfl
      | some o =>
        rcases J.nw a o q (h3 _ _ ha).2.1 with z | z
        · exact absurd (h3 _ _ ha).1 z
        · exact absurd z (nD a ha)
    obtain ⟨A', k1, k2, k3⟩ := J.own
    have nA : ∀ i a, A G.length a → ¬ A' i a := fun i a ha z => by
      rcases (k3 i a z).2.2 with q | q
      · exact (h3 _ _ ha).2.1 q
      · exact nD a ha q
    refine ⟨hD, J.ex, I.f0.trans J.f0, fun b o h m => ?_, fun b o h n => ?_, fun b h => J.st b (I.st b h), by simp [J.len], fun i a => (i < G1.length ∧ A' i a) ∨ (i = G1.length ∧ A G.length a), fun i s' hi => ?_, fun i j a p q => ?_, fun i a h => ?_⟩
    · refine J.fr b o (I.fr b o h m) fun ⟨i, _, z⟩ => ?_
      rcases (h3 i b z).2.2 with q | q
      · rw [h] at q
        cases q
      · exact m q
    · rcases J.nw b o h (I.st b n) with z | z
      · obtain ⟨u, hu⟩ : ∃ u, F b = some u := by
          cases q : F b with
          | none => exact absurd q z
          | some u => exact ⟨u, rfl⟩
        exact I.nw b u hu n
      · rcases (hm b z).2.2 with q | q
        · exact absurd q n
        · exact .inr q
    · rcases app_get hi with ⟨hlt, h⟩ | ⟨hlt, e⟩
      · rcases k1 i s' h with z | ⟨u, z1, z2⟩
        · exact .inl z
        · refine .inr ⟨u, by rw [List.getElem?_append_left (by rw [J.len]; exact hlt)]; exact z1, ?_⟩
          have ea : (fun a => (i < G1.length ∧ A' i a) ∨ (i = G1.length ∧ A G.length a)) = A' i := by
            funext a
            exact propext ⟨fun z => z.elim (fun z => z.2) fun z => by omega, fun z => .inl ⟨hlt, z⟩⟩
          show SvR K F1 H1 u (fun a => (i < G1.length ∧ A' i a) ∨ (i = G1.length ∧ A G.length a)) s'
          rw [ea]
          exact z2
      · subst e hlt
        refine .inr ⟨x, by rw [← J.len]; simp, ?_⟩
        have ea : (fun a => (G1.length < G1.length ∧ A' G1.length a) ∨ (G1.length = G1.length ∧ A G.length a)) = A G.length := by
          funext a
          exact propext ⟨fun z => z.elim (fun z => by omega) fun z => z.2, fun z => .inr ⟨rfl, z⟩⟩
        show SvR K F1 H1 x (fun a => (G1.length < G1.length ∧ A' G1.length a) ∨ (G1.length = G1.length ∧ A G.length a)) s'
        rw [ea]
        exact slr_stab e2 J.f0 hD
    · rcases p with ⟨p1, p2⟩ | ⟨p1, p2⟩ <;> rcases q with ⟨q1, q2⟩ | ⟨q1, q2⟩
      · exact k2 _ _ _ p2 q2
      · exact absurd p2 (nA i a q2)
      · exact absurd q2 (nA j a p2)
      · omega
    · rcases h with ⟨_, h⟩ | ⟨_, h⟩
      · refine ⟨(k3 i a h).1, (k3 i a h).2.1, ?_⟩
        rcases (k3 i a h).2.2 with q | q
        · exact .inl (I.new0 q)
        · exact (hm a q).2.2
      · refine ⟨fD a h, ?_, (h3 _ _ h).2.2⟩
        rw [hD a h]
        exact (h3 _ _ h).2.1
section
variable {K : Fr} {B : Bs} {G : En} {P : Po} {tk tv : TE}
theorem Iv.newT {S : St} {F H : Hp} {p : Addr} (I : Iv K B G S F H) (hp : H p = none) : Iv K B (G ++ [.t []]) (S ++ [some (.ref p)]) F (upd H p (.dT [])) := by
  refine I.add (Ex.refl F) (Ex.new hp) (I.ex.trans (Ex.new hp)) (fun b o h n => ?_) _ (fun a => a = p) (.inr ⟨_, rfl, p, [], rfl, upd_same, rfl, .nil, rfl⟩) fun a e => ?_
  · rw [h] at n
    cases n
  · have e : a = p := e
    subst e
    exact ⟨hp, I.fnone hp, by rw [upd_same]; exact fun z => (by cases z)⟩
theorem dw_disp1T (h : ∀ B', DW K B' G tk fun G1 r1 => PW r1 fun w1 => DW K B' G1 tv fun G2 r2 => PW r2 fun w2 => ∃ ks d, w1 = .d (.tuple (ks.map keyD)) ∧ w2 = .d d ∧ P G2 (.fr (.t [(ks, d)]))) : DW K B G (tDisp1T tk tv) P := fun S F H Q I k => by
  intro p hp
  obtain ⟨A0, mu, a0, _, I0, back⟩ := (I.newT hp).asideG (fun z => nomatch z)
  refine dw_run (k' := fun G1 w1 => DW K ⟨F, upd H p (.dT []), mu⟩ G1 tv fun G2 r2 => PW r2 fun w2 => ∃ ks d, w1 = .d (.tuple (ks.map keyD)) ∧ w2 = .d d ∧ P G2 (.fr (.t [(ks, d)]))) (h _) I0 fun v1 F1 H1 G1 w1 e1 I1 r1 q1 => ?_
  refine dw_run (k' := fun G2 w2 => ∃ ks d, w1 = .d (.tuple (ks.map keyD)) ∧ w2 = .d d ∧ P G2 (.fr (.t [(ks, d)]))) q1 I1 fun v2 F2 H2 G2 w2 e2 I2 r2 ⟨ks, d, x1, x2, q2⟩ => ?_
  subst x1 x2
  obtain ⟨b, rfl, hb⟩ := key_at (dp_mono e2 r1) I2.ex
  obtain ⟨hD, J⟩ := back _ _ _ _ I2
  have hi : (G2 ++ [Sl.t []])[G2.length]? = some (.t []) := by simp
  have hl : S.length = G2.length := I2.len
  have hS : (S ++ [some (V.ref p)])[G2.length]? = some (some (.ref p)) := by
    rw [← hl]
    simp
  obtain ⟨p', kws, eS, ep, ek, ev⟩ := J.dct hi
  rw [hS] at eS
  cases eS
  have e0 : H2 p = some (.dT []) := by
    cases kws with
    | nil => exact ep
    | cons _ _ => cases ek
  refine ⟨b, ks, rfl, e0, hb, ?_⟩
  have J2 := J.mutG (s' := .t [(ks, d)]) (ob := .dT [(ks, v2)]) hi hS (fun A z => by
    obtain ⟨p', _, e, _, _, _, hA⟩ := z
    cases e
    exact hA) (fun z => nomatch z) fun A hA z => ⟨p, _, rfl, upd_same, rfl, .cons r2 .nil, hA⟩
  have eg : (G2 ++ [Sl.t []]).set G2.length (.t [(ks, d)]) = G2 ++ [.t [(ks, d)]] := by simp
  rw [eg] at J2
  exact k (.ref p) F2 _ G2 (.fr (.t [(ks, d)])) (e1.trans e2) J2 q2
end
end DL
namespace DL
open PySem L2
/-- what the written part says of an own error class without own fields -/
structure ExcT (K : Fr) (mg : Str → Option Value) (x : Str) (C : Addr) : Prop where
  y : PySem.W.excIn K C [.type "ValueError", .type "Exception", .type "BaseException", .type "object"] "ValueError.__new__" = true
  g : mg x = some (.ref C)
  k : PySem.W.keepIn K (.ref C) = true
  b : PySem.W.subIn K (.ref C) (.type "BaseException") = some true
  t : PySem.W.typeIn K (.ref C) = some (.type "type")
  s : PySem.W.subIn K (.ref C) (.ref C) = some true
  e : ExcC K C
  v : PySem.W.kitOne K (.ref C) (.type "ValueError") = some true
theorem ExcT.exm {K : Fr} {mg : Str → Option Value} {x : Str} {C : Addr} (T : ExcT K mg x C) : PySem.W.exmOne K (.ref C) (.ref C) = some true := PySem.W.exm_ref T.b T.e.hd T.t T.s
section
open PySem.Spec PyProof.Rows
variable {X : Cx}
theorem pe_globI {x : Str} {i : Int} {pos : Pos} (hg : Gl X x) (h : ∃ t, X.mg x = some (.int i t)) (hd : (x == ("__debug__" : Str)) = false := by decide) : PE X (.Name x pos) (tC (.int i)) := by
  obtain ⟨t, h⟩ := h
  exact pe_glob hg h ⟨t, rfl⟩ hd
def rIsE' (K : Fr) (D a : Addr) (cls : Value) (d : Option Addr) : List V → Hp → VK → Prop := fun xs H Q => cls = .ref D ∧ d = none ∧ rIsE K D a xs H Q
theorem kISE (K : Fr) (h : X.K = K) {a D : Addr} {oe : Obj} {cls : Value} {d : Option Addr} {pn : List (Addr × Obj)} (C : ExcC K D) (hz : Zc cls d oe) (hf : ∃ vs, oe.data = .fields vs) : CallR (X.suite a ((a, oe) :: pn)) (.builtin "isinstance") (rIsE' K D a cls d) := by
  subst h
  intro pins s σ H xs us Q I r h
  obtain ⟨e1, e2, h⟩ := h
  subst e1 e2
  exact call_isE C hz hf pins s σ H xs us Q I r h
end
section
variable {K : Fr} {B : Bs} {G : En} {P : Po} {te : TE} {w : W} {k : W → Prop}
theorem rn_isE' {i : Nat} {a D : Addr} {T : String} {b : Bool} (h : G[i]? = some (.ow (exO a))) (e : PySem.W.kitOne K (.ref D) (.type T) = some b) (q : P G (.p (.d (.bool b)))) : RWn K B G (rIsE' K D a (.ref D) none) [.sl i, .ty T] P := fun S F H Q vs I hv k =>
  ⟨rfl, rfl, rn_isE h e q S F H Q vs I hv k⟩
theorem pw_p (h : k w) : PW (.p w) k := h
theorem pw_o {a : Option Addr} {ds : List PyData} (h : k (.d (.list ds))) : PW (.fr (.o a ds)) k := h
end
end DL
namespace DL
open PySem L2
section
variable {K : Fr} {B : Bs} {G : En} {te : TE} {P : Po} {tt : TT}
/-- as dw_lc, the invariant chosen where the items are known -/
theorem dw_lcE {wi : TI} {g : TG} {ch : List Nat} {vs : List Nat} (hsub : ∀ k ∈ ch, k ∈ vs)
    (h : DI K B G wi fun G1 ds => ∃ J : Nat → List PyData → En → Prop, J 0 [] (wipeG G1 vs) ∧ (∀ (B' : Bs) i acc G2 d, ds[i]? = some d → J i acc G2 → DG K B' G2 g ch (.d d) fun G3 => DT K B' G3 tt fun G4 b => if b = true then DW K B' G4 te fun G5 r => PW r fun w => ∃ y, w = .d y ∧ acc.length < sizeLine ∧ J (i + 1) (acc ++ [y]) (wipeG G5 vs) else J (i + 1) acc (wipeG G4 vs)) ∧ ∀ acc G2, J ds.length acc G2 → P (wipeG G2 vs) (.fr (.o none acc))) :
    DW K B G (tLc wi g tt te vs) P := fun S F H Q I k => by
  refine h S F H _ I fun It F1 H1 G1 ds e1 I1 Y ⟨J, j0, hs, hd⟩ => ?_
  intro D hD
  refine ⟨fun i m H => m = ds.length - i ∧ i ≤ ds.length ∧ ∃ F2 G2 acc, Ex F1 F2 ∧ Iv K B (G2 ++ [.o none acc]) (L2.wipe S vs ++ [some (.ref D)]) F2 H ∧ J i acc G2, ⟨_, rfl, Nat.zero_le _, F1, _, [], Ex.refl _, (I1.wipe vs).newL hD .nil, j0⟩, ?_⟩
  rintro i m H2 ⟨rfl, hi, F2, G2, acc, e2, I2, j2⟩
  by_cases hlt : i < ds.length
  · obtain ⟨d, hd'⟩ : ∃ d, ds[i]? = some d := ⟨_, List.getElem?_eq_getElem hlt⟩
    refine .inr ⟨((Y i H2 F2 e2 I2.ex).1 d hd').1, fun H => ∃ F2 G2 acc, Ex F1 F2 ∧ Iv K B (G2 ++ [.o none acc]) (L2.wipe S vs ++ [some (.ref D)]) F2 H ∧ J (i + 1) acc G2, fun H' p => ⟨ds.length - (i + 1), by omega, rfl, hlt, p⟩, fun x H3 y => ?_⟩
    obtain ⟨F3, e3, I3, hx⟩ := Y.turn e2 I2 hd' y
    obtain ⟨D', accv, mu, eD, hD3, ha3, Ia, back⟩ := I3.aside
    cases eD
    refine hs _ i acc G2 d hd' j2 _ F3 H3 x _ Ia hx fun S4 F4 H4 G4 e4 I4 l4 u4 q => ?_
    have ew : L2.wipe S4 vs = L2.wipe S vs := by
      rw [wipe_ext l4 fun k hk => u4 k fun z => hk (hsub k z)]
      exact wipe_ext (wipe_length S vs) fun k hk => wipe_ne hk
    refine ⟨ew, q S4 F4 H4 _ I4 fun b F5 H5 G5 e5 I5 q5 => ?_⟩
    cases b with
    | false =>
      show ∃ F2 G2 acc, Ex F1 F2 ∧ Iv K B (G2 ++ [.o none acc]) (L2.wipe S vs ++ [some (.ref D)]) F2 H5 ∧ J (i + 1) acc G2
      obtain ⟨_, I6⟩ := back _ _ _ _ (I5.wipe vs)
      rw [ew] at I6
      exact ⟨F5, _, acc, ((e2.trans e3).trans e4).trans e5, I6, q5⟩
    | true =>
      show te S4 H5 fun y H4 => ∃ acc, H4 D = some (.lst acc) ∧ acc.length < sizeLine ∧ (∃ F2 G2 acc', Ex F1 F2 ∧ Iv K B (G2 ++ [.o none acc']) (L2.wipe S vs ++ [some (.ref D)]) F2 (upd H4 D (.lst (acc ++ [y]))) ∧ J (i + 1) acc' G2)
      refine dw_run (k' := fun G5 w => ∃ y, w = .d y ∧ acc.length < sizeLine ∧ J (i + 1) (acc ++ [y]) (wipeG G5 vs)) q5 I5 fun v F6 H6 G6 w e6 I6 hv q6 => ?_
      obtain ⟨y, rfl, hz, j6⟩ := q6
      obtain ⟨hD6, I7⟩ := back _ _ _ _ (I6.wipe vs)
      rw [ew] at I7
      refine ⟨accv, hD6, by rw [da_len ha3]; exact hz, F6, _, acc ++ [y], (((e2.trans e3).trans e4).trans e5).trans e6, ?_, j6⟩
      have hl : (L2.wipe S vs).length = (wipeG G6 vs).length := by
        have := I7.len
        simpa using this
      have I8 := I7.mut (i := (wipeG G6 vs).length) (p := D) (q := none) (ds := acc) (ds' := acc ++ [y]) (vs' := accv ++ [v]) (by simp) (by rw [← hl]; simp) (da_app (da_mono ((e4.trans e5).trans e6) ha3) (.cons hv .nil))
      have eg : (wipeG G6 vs ++ [Sl.o none acc]).set (wipeG G6 vs).length (.o none (acc ++ [y])) = wipeG G6 vs ++ [.o none (acc ++ [y])] := by simp
      rw [eg] at I8
      exact I8
  · have e : i = ds.length := by omega
    subst e
    refine .inl ⟨(Y _ H2 F2 e2 I2.ex).2 rfl, ?_⟩
    have I3 : Iv K B (wipeG G2 vs ++ [.o none acc]) (S ++ [some (.ref D)]) F2 H2 := by
      obtain ⟨D', accv, mu, eD, hD3, ha3, Ia, back⟩ := I2.aside
      exact (back _ _ _ _ ((Ia.wipe vs).wiped (S := S) (by rw [wipe_length, wipe_length]) fun k hk => by rw [wipe_ne hk, wipe_ne hk])).2
    exact k (.ref D) F2 H2 (wipeG G2 vs) (.fr (.o none acc)) (e1.trans e2) I3 (hd acc G2 j2)

/-- [f x for x in xs if p x], nothing else changes -/
theorem dw_lcF {α : Type} (xs : List α) (enc : α → PyData) (p : α → Bool) (f : α → PyData) {wi : TI} {i : Nat}
    (h : DI K B G wi fun G1 ds => ds = xs.map enc ∧ xs.length ≤ sizeLine ∧ (∀ (B' : Bs) x, x ∈ xs → DT K B' ((G1.set i .un).set i (.d (enc x))) tt fun G4 b => b = p x ∧ G4.set i .un = G1.set i .un ∧ (p x = true → DW K B' G4 te fun G5 r => PW r fun w => w = .d (f x) ∧ G5.set i .un = G1.set i .un)) ∧
      P (G1.set i .un) (.fr (.o none ((xs.filter p).map f)))) : DW K B G (tLc wi (gName i) tt te [i]) P := by
  refine dw_lcE (ch := [i]) (fun k hk => hk) ?_
  refine fun S F H R I k => h S F H R I fun J F1 H1 G1 ds e I1 Y ⟨hds, hz, hs, hp⟩ => k J F1 H1 G1 ds e I1 Y ⟨fun n acc G2 => acc = ((xs.take n).filter p).map f ∧ G2 = G1.set i .un, ⟨rfl, rfl⟩, fun B' n acc G2 d hd ⟨ha, hG⟩ => ?_, fun acc G2 ⟨ha, hG⟩ => ?_⟩
  · subst hds hG
    rw [List.getElem?_map] at hd
    obtain ⟨x, hx, rfl⟩ := Option.map_eq_some_iff.mp hd
    have hn : n < xs.length := (List.getElem?_eq_some_iff.mp hx).1
    have et : xs.take (n + 1) = xs.take n ++ [x] := by
      rw [List.take_succ, hx]
      rfl
    have hl : acc.length < sizeLine := by
      rw [ha, List.length_map]
      have := List.length_filter_le p (xs.take n)
      rw [List.length_take] at this
      omega
    refine dg_name ?_
    refine fun S F H Q I k => hs B' x (List.mem_of_getElem? hx) S F H Q I fun b F2 H2 G4 e2 I2 ⟨hb, hG, hw⟩ => k b F2 H2 G4 e2 I2 ?_
    subst hb
    cases q : p x with
    | true =>
      rw [if_pos rfl]
      refine fun S F H Q I k => hw q S F H Q I fun v F' H' G' r e V pq => k v F' H' G' r e V ?_
      match r, pq with
      | .p w, ⟨hw, hG⟩ => exact ⟨f x, hw, hl, by rw [et, List.filter_append, List.map_append, ← ha]; simp [List.filter, q], hG⟩
      | .fr (.o _ _), ⟨hw, hG⟩ => exact ⟨f x, hw, hl, by rw [et, List.filter_append, List.map_append, ← ha]; simp [List.filter, q], hG⟩
    | false =>
      rw [if_neg (by simp)]
      exact ⟨by rw [et, List.filter_append, List.map_append, ← ha]; simp [List.filter, q], hG⟩
  · subst hds hG
    rw [List.length_map, List.take_length] at ha
    rw [ha]
    show P ((G1.set i .un).set i .un) _
    rw [List.set_set]
    exact hp
/-- [f x for x in xs] -/
theorem dw_lcM {α : Type} (xs : List α) (enc : α → PyData) (f : α → PyData) {wi : TI} {i : Nat}
    (h : DI K B G wi fun G1 ds => ds = xs.map enc ∧ xs.length ≤ sizeLine ∧ (∀ (B' : Bs) x, x ∈ xs → DW K B' ((G1.set i .un).set i (.d (enc x))) te fun G5 r => PW r fun w => w = .d (f x) ∧ G5.set i .un = G1.set i .un) ∧
      P (G1.set i .un) (.fr (.o none (xs.map f)))) : DW K B G (tLc wi (gName i) tYes te [i]) P := by
  refine dw_lcF xs enc (fun _ => true) f ?_
  refine fun S F H R I k => h S F H R I fun J F1 H1 G1 ds e I1 Y ⟨hds, hz, hs, hp⟩ => k J F1 H1 G1 ds e I1 Y ⟨hds, hz, fun B' x hx => dt_yes ⟨rfl, by rw [List.set_set, List.set_set], fun _ => hs B' x hx⟩, ?_⟩
  rw [List.filter_eq_self.mpr (fun _ _ => rfl)]
  exact hp
end
section
variable {K : Fr} {B : Bs} {G : En} {te : TE} {P : Po} {tt tt1 : TT}
theorem dw_lc2E {wi wi1 : TI} {g g1 : TG} {ch ch1 : List Nat} {vs vs1 : List Nat} (hsub : ∀ k ∈ ch, k ∈ vs) (hsub1 : ∀ k ∈ ch1, k ∈ vs1) (hv : ∀ k ∈ vs1, k ∈ vs)
    (h : DI K B G wi fun G1 ds => ∃ (J : Nat → List PyData → En → Prop) (J1 : Nat → List PyData → Nat → List PyData → En → Prop), J 0 [] (wipeG G1 vs) ∧ (∀ (B' : Bs) i acc G2 d, ds[i]? = some d → J i acc G2 → DG K B' G2 g ch (.d d) fun G3 => DT K B' G3 tt fun G4 b => if b = true then
      DI K B' G4 wi1 fun G5 ds1 => J1 i ds1 0 acc (wipeG G5 vs1) ∧ (∀ (B'' : Bs) j acc G6 d1, ds1[j]? = some d1 → J1 i ds1 j acc G6 → DG K B'' G6 g1 ch1 (.d d1) fun G7 => DT K B'' G7 tt1 fun G8 b => if b = true then
        DW K B'' G8 te fun G9 r => PW r fun w => ∃ y, w = .d y ∧ acc.length < sizeLine ∧ J1 i ds1 (j + 1) (acc ++ [y]) (wipeG G9 vs1) else J1 i ds1 (j + 1) acc (wipeG G8 vs1)) ∧ (∀ acc G6, J1 i ds1 ds1.length acc G6 → J (i + 1) acc (wipeG G6 vs))
      else J (i + 1) acc (wipeG G4 vs)) ∧ ∀ acc G2, J ds.length acc G2 → P (wipeG G2 vs) (.fr (.o none acc))) :
    DW K B G (tLc2 wi g tt wi1 g1 tt1 te vs vs1) P := fun S F H Q I k => by
  refine h S F H _ I fun It F1 H1 G1 ds e1 I1 Y ⟨J, J1, j0, hs, hd⟩ => ?_
  intro D hD
  refine ⟨fun i m H => m = ds.length - i ∧ i ≤ ds.length ∧ ∃ F2 G2 acc, Ex F1 F2 ∧ Iv K B (G2 ++ [.o none acc]) (L2.wipe S vs ++ [some (.ref D)]) F2 H ∧ J i acc G2, ⟨_, rfl, Nat.zero_le _, F1, _, [], Ex.refl _, (I1.wipe vs).newL hD .nil, j0⟩, ?_⟩
  rintro i m H2 ⟨rfl, hi, F2, G2, acc, e2, I2, j2⟩
  by_cases hlt : i < ds.length
  · obtain ⟨d, hd'⟩ : ∃ d, ds[i]? = some d := ⟨_, List.getElem?_eq_getElem hlt⟩
    refine .inr ⟨((Y i H2 F2 e2 I2.ex).1 d hd').1, fun H => ∃ F2 G2 acc, Ex F1 F2 ∧ Iv K B (G2 ++ [.o none acc]) (L2.wipe S vs ++ [some (.ref D)]) F2 H ∧ J (i + 1) acc G2, fun H' p => ⟨ds.length - (i + 1), by omega, rfl, hlt, p⟩, fun x H3 y => ?_⟩
    obtain ⟨F3, e3, I3, hx⟩ := Y.turn e2 I2 hd' y
    obtain ⟨D', accv, mu, eD, hD3, ha3, Ia, back⟩ := I3.aside
    cases eD
    refine hs _ i acc G2 d hd' j2 _ F3 H3 x _ Ia hx fun S4 F4 H4 G4 e4 I4 l4 u4 q => ?_
    have ew : L2.wipe S4 vs = L2.wipe S vs := by
      rw [wipe_ext l4 fun k hk => u4 k fun z => hk (hsub k z)]
      exact wipe_ext (wipe_length S vs) fun k hk => wipe_ne hk
    refine ⟨ew, q S4 F4 H4 _ I4 fun b F5 H5 G5 e5 I5 q5 => ?_⟩
    cases b with
    | false =>
      show ∃ F2 G2 acc, Ex F1 F2 ∧ Iv K B (G2 ++ [.o none acc]) (L2.wipe S vs ++ [some (.ref D)]) F2 H5 ∧ J (i + 1) acc G2
      obtain ⟨_, I6⟩ := back _ _ _ _ (I5.wipe vs)
      rw [ew] at I6
      exact ⟨F5, _, acc, ((e2.trans e3).trans e4).trans e5, I6, q5⟩
    | true =>
      show wi1 S4 H5 fun J1' H4 => ∃ W1 : Nat → Nat → Hp → Prop, _ ∧ _
      refine q5 S4 F5 H5 _ I5 fun It1 F6 H6 G6 ds1 e6 I6 Y1 ⟨k0, ks, kd⟩ => ?_
      obtain ⟨_, I7⟩ := back _ _ _ _ (I6.wipe vs1)
      have e06 : Ex F1 F6 := (((e2.trans e3).trans e4).trans e5).trans e6
      refine ⟨fun j m H => m = ds1.length - j ∧ j ≤ ds1.length ∧ ∃ F8 G8 acc, Ex F6 F8 ∧ Iv K B (G8 ++ [.o none acc]) (L2.wipe S4 vs1 ++ [some (.ref D)]) F8 H ∧ J1 i ds1 j acc G8, ⟨_, rfl, Nat.zero_le _, F6, _, acc, Ex.refl _, I7, k0⟩, ?_⟩
      rintro j m H8 ⟨rfl, hj, F8, G8, acc8, e8, I8, j8⟩
      by_cases hlt1 : j < ds1.length
      · obtain ⟨d1, hd1⟩ : ∃ d, ds1[j]? = some d := ⟨_, List.getElem?_eq_getElem hlt1⟩
        refine .inr ⟨((Y1 j H8 F8 e8 I8.ex).1 d1 hd1).1, fun H => ∃ F8 G8 acc, Ex F6 F8 ∧ Iv K B (G8 ++ [.o none acc]) (L2.wipe S4 vs1 ++ [some (.ref D)]) F8 H ∧ J1 i ds1 (j + 1) acc G8, fun H' p => ⟨ds1.length - (j + 1), by omega, rfl, hlt1, p⟩, fun x H9 y => ?_⟩
        obtain ⟨F9, e9, I9, hx9⟩ := Y1.turn e8 I8 hd1 y
        obtain ⟨D', accv9, mu9, eD, hD9, ha9, Ia9, back9⟩ := I9.aside
        cases eD
        refine ks _ j acc8 G8 d1 hd1 j8 _ F9 H9 x _ Ia9 hx9 fun Sa Fa Ha Ga ea Ja la ua qa => ?_
        have ew1 : L2.wipe Sa vs1 = L2.wipe S4 vs1 := by
          rw [wipe_ext la fun k hk => ua k fun z => hk (hsub1 k z)]
          exact wipe_ext (wipe_length S4 vs1) fun k hk => wipe_ne hk
        refine ⟨ew1, qa Sa Fa Ha _ Ja fun b Fb Hb Gb eb Ib qb => ?_⟩
        cases b with
        | false =>
          show ∃ F8 G8 acc, Ex F6 F8 ∧ Iv K B (G8 ++ [.o none acc]) (L2.wipe S4 vs1 ++ [some (.ref D)]) F8 Hb ∧ J1 i ds1 (j + 1) acc G8
          obtain ⟨_, Ic⟩ := back9 _ _ _ _ (Ib.wipe vs1)
          rw [ew1] at Ic
          exact ⟨Fb, _, acc8, ((e8.trans e9).trans ea).trans eb, Ic, qb⟩
        | true =>
          show te Sa Hb fun y H7 => ∃ acc, H7 D = some (.lst acc) ∧ acc.length < sizeLine ∧ (∃ F8 G8 acc', Ex F6 F8 ∧ Iv K B (G8 ++ [.o none acc']) (L2.wipe S4 vs1 ++ [some (.ref D)]) F8 (upd H7 D (.lst (acc ++ [y]))) ∧ J1 i ds1 (j + 1) acc' G8)
          refine dw_run (k' := fun G5 w => ∃ y, w = .d y ∧ acc8.length < sizeLine ∧ J1 i ds1 (j + 1) (acc8 ++ [y]) (wipeG G5 vs1)) qb Ib fun v Fc Hc Gc w ec Ic hv' qc => ?_
          obtain ⟨y, rfl, hz, jc⟩ := qc
          obtain ⟨hDc, Id⟩ := back9 _ _ _ _ (Ic.wipe vs1)
          rw [ew1] at Id
          refine ⟨accv9, hDc, by rw [da_len ha9]; exact hz, Fc, _, acc8 ++ [y], (((e8.trans e9).trans ea).trans eb).trans ec, ?_, jc⟩
          have hl : (L2.wipe S4 vs1).length = (wipeG Gc vs1).length := by
            have := Id.len
            simpa using this
          have Ie := Id.mut (i := (wipeG Gc vs1).length) (p := D) (q := none) (ds := acc8) (ds' := acc8 ++ [y]) (vs' := accv9 ++ [v]) (by simp) (by rw [← hl]; simp) (da_app (da_mono ((ea.trans eb).trans ec) ha9) (.cons hv' .nil))
          have eg : (wipeG Gc vs1 ++ [Sl.o none acc8]).set (wipeG Gc vs1).length (.o none (acc8 ++ [y])) = wipeG Gc vs1 ++ [.o none (acc8 ++ [y])] := by simp
          rw [eg] at Ie
          exact Ie
      · have e : j = ds1.length := by omega
        subst e
        refine .inl ⟨(Y1 _ H8 F8 e8 I8.ex).2 rfl, F8, _, acc8, e06.trans e8, ?_, kd acc8 G8 j8⟩
        obtain ⟨D', accv9, mu9, eD, hD9, ha9, Ia9, back9⟩ := I8.aside
        have I9 := (back9 _ _ _ _ (Ia9.wipe vs)).2
        have ew2 : L2.wipe (L2.wipe S4 vs1) vs = L2.wipe S vs := by
          rw [← ew]
          exact wipe_ext (wipe_length S4 vs1) fun k hk => wipe_ne fun z => hk (hv k z)
        rw [ew2] at I9
        exact I9
  · have e : i = ds.length := by omega
    subst e
    refine .inl ⟨(Y _ H2 F2 e2 I2.ex).2 rfl, ?_⟩
    have I3 : Iv K B (wipeG G2 vs ++ [.o none acc]) (S ++ [some (.ref D)]) F2 H2 := by
      obtain ⟨D', accv, mu, eD, hD3, ha3, Ia, back⟩ := I2.aside
      exact (back _ _ _ _ ((Ia.wipe vs).wiped (S := S) (by rw [wipe_length, wipe_length]) fun k hk => by rw [wipe_ne hk, wipe_ne hk])).2
    exact k (.ref D) F2 H2 (wipeG G2 vs) (.fr (.o none acc)) (e1.trans e2) I3 (hd acc G2 j2)

theorem set4 {α : Type} (G : List α) {i i1 : Nat} (u : α) (h : i ≠ i1) : ((((G.set i1 u).set i u).set i1 u).set i u) = (G.set i1 u).set i u := by
  have e := List.set_comm (l := G.set i1 u) u u h
  rw [e, List.set_set, List.set_set]
/-- [f x y for x in xs for y in ys x], nothing else changes -/
theorem dw_lc2M {α β : Type} (xs : List α) (enc : α → PyData) (ys : α → List β) (enc1 : β → PyData) (f : α → β → PyData) {wi wi1 : TI} {i i1 : Nat} (hne : i ≠ i1) (hz : (xs.flatMap fun x => (ys x).map (f x)).length ≤ sizeLine)
    (h : DI K B G wi fun G1 ds => ds = xs.map enc ∧ (∀ (B' : Bs) x, x ∈ xs → DI K B' (((G1.set i1 .un).set i .un).set i (.d (enc x))) wi1 fun G5 ds1 => ds1 = (ys x).map enc1 ∧ G5 = ((G1.set i1 .un).set i .un).set i (.d (enc x)) ∧
      ∀ (B'' : Bs) y, y ∈ ys x → DW K B'' ((((G1.set i1 .un).set i .un).set i (.d (enc x))).set i1 (.d (enc1 y))) te fun G9 r => PW r fun w => w = .d (f x y) ∧ G9.set i1 .un = ((((G1.set i1 .un).set i .un).set i (.d (enc x))).set i1 .un)) ∧
      P ((G1.set i1 .un).set i .un) (.fr (.o none (xs.flatMap fun x => (ys x).map (f x))))) : DW K B G (tLc2 wi (gName i) tYes wi1 (gName i1) tYes te [i, i1] [i1]) P := by
  refine dw_lc2E (ch := [i]) (ch1 := [i1]) (fun k hk => by simp at hk; simp [hk]) (fun k hk => hk) (fun k hk => by simp at hk; simp [hk]) ?_
  refine fun S F H R I k => h S F H R I fun J F1 H1 G1 ds e I1 Y ⟨hds, hs, hp⟩ => k J F1 H1 G1 ds e I1 Y ⟨fun n acc G2 => acc = ((xs.take n).flatMap fun x => (ys x).map (f x)) ∧ G2 = (G1.set i1 .un).set i .un,
    fun n ds1 m acc G6 => ∃ x, xs[n]? = some x ∧ ds1 = (ys x).map enc1 ∧ acc = ((xs.take n).flatMap fun x => (ys x).map (f x)) ++ ((ys x).take m).map (f x) ∧ G6 = ((((G1.set i1 .un).set i .un).set i (.d (enc x))).set i1 .un), ⟨rfl, rfl⟩, fun B' n acc G2 d hd ⟨ha, hG⟩ => ?_, fun acc G2 ⟨ha, hG⟩ => ?_⟩
  · subst hds hG
    rw [List.getElem?_map] at hd
    obtain ⟨x, hx, rfl⟩ := Option.map_eq_some_iff.mp hd
    have hn : n < xs.length := (List.getElem?_eq_some_iff.mp hx).1
    have et : xs.take (n + 1) = xs.take n ++ [x] := by
      rw [List.take_succ, hx]
      rfl
    refine dg_name (dt_yes ?_)
    rw [if_pos rfl]
    refine fun S F H R I k => hs B' x (List.mem_of_getElem? hx) S F H R I fun J2 F2 H2 G5 ds1 e2 I2 Y2 ⟨hds1, hG5, hw⟩ => k J2 F2 H2 G5 ds1 e2 I2 Y2 ⟨⟨x, hx, hds1, by rw [ha]; simp, by rw [hG5]; rfl⟩, fun B'' m acc2 G6 d1 hd1 ⟨x', hx', hds', ha', hG6⟩ => ?_, fun acc2 G6 ⟨x', hx', hds', ha', hG6⟩ => ?_⟩
    · rw [hx] at hx'
      obtain rfl := Option.some.inj hx'
      subst hds1 hG6
      rw [List.getElem?_map] at hd1
      obtain ⟨y, hy, rfl⟩ := Option.map_eq_some_iff.mp hd1
      have hm : m < (ys x).length := (List.getElem?_eq_some_iff.mp hy).1
      have et1 : (ys x).take (m + 1) = (ys x).take m ++ [y] := by
        rw [List.take_succ, hy]
        rfl
      have hl : acc2.length < sizeLine := by
        have e1 : xs = xs.take n ++ x :: xs.drop (n + 1) := by
          rw [List.getElem?_eq_getElem hn] at hx
          have := Option.some.inj hx
          rw [← this, ← List.drop_eq_getElem_cons hn, List.take_append_drop]
        rw [ha', List.length_append, List.length_map, List.length_take]
        have hz2 := hz
        rw [e1, List.flatMap_append, List.length_append, List.flatMap_cons, List.length_append, List.length_map] at hz2
        omega
      refine dg_name (dt_yes ?_)
      rw [if_pos rfl, List.set_set]
      refine fun S F H Q I k => hw B'' y (List.mem_of_getElem? hy) S F H Q I fun v F' H' G' r e V pq => k v F' H' G' r e V ?_
      match r, pq with
      | .p w, ⟨hw, hG⟩ => exact ⟨f x y, hw, hl, x, hx, rfl, by rw [et1, List.map_append, ← List.append_assoc, ← ha']; rfl, hG⟩
      | .fr (.o _ _), ⟨hw, hG⟩ => exact ⟨f x y, hw, hl, x, hx, rfl, by rw [et1, List.map_append, ← List.append_assoc, ← ha']; rfl, hG⟩
    · rw [hx] at hx'
      obtain rfl := Option.some.inj hx'
      subst hds1 hG6
      rw [List.length_map, List.take_length] at ha'
      refine ⟨by rw [ha', et, List.flatMap_append]; simp, ?_⟩
      show (((((((G1.set i1 .un).set i .un).set i (.d (enc x))).set i1 .un)).set i1 .un).set i .un) = _
      rw [List.set_set]
      have e := List.set_comm (l := ((G1.set i1 .un).set i .un).set i (.d (enc x))) Sl.un Sl.un hne.symm
      rw [e, List.set_set, List.set_set, List.set_comm (l := (G1.set i1 .un)) Sl.un Sl.un hne, List.set_set]
  · subst hds hG
    rw [List.length_map, List.take_length] at ha
    rw [ha]
    show P ((((G1.set i1 .un).set i .un).set i1 .un).set i .un) _
    rw [set4 _ _ hne]
    exact hp
end
/-! ### loops whose invariant is chosen where the items are known -/
section
variable {K : Fr} {B : Bs} {G : En} {te : TE} {P : Po} {tt : TT} {t : TS} {E : De}
theorem ds_forE {wi : TI} {g : TG} {ch : List Nat} (h : DI K B G wi fun G1 ds => ∃ J : Nat → En → Prop, J 0 G1 ∧ (∀ i G2 d, ds[i]? = some d → J i G2 → DG K B G2 g ch (.d d) fun G3 => DS K B G3 t { E with nx := J (i + 1), ct := J (i + 1), bk := E.nx }) ∧ ∀ G2, J ds.length G2 → E.nx G2) :
    DS K B G (tFor wi g t) E := fun S F H D I c => by
  refine h S F H _ I fun It F1 H1 G1 ds e1 I1 Y ⟨J, j0, hs, hd⟩ => ?_
  refine ⟨fun i m S H => m = ds.length - i ∧ i ≤ ds.length ∧ ∃ F2 G2, Ex F1 F2 ∧ Iv K B G2 S F2 H ∧ J i G2, ⟨_, rfl, Nat.zero_le _, F1, G1, Ex.refl _, I1, j0⟩, ?_⟩
  rintro i m S2 H2 ⟨rfl, hi, F2, G2, e2, I2, j2⟩
  by_cases hlt : i < ds.length
  · obtain ⟨d, hd'⟩ : ∃ d, ds[i]? = some d := ⟨_, List.getElem?_eq_getElem hlt⟩
    refine .inr ⟨((Y i H2 F2 e2 I2.ex).1 d hd').1, fun S H => ∃ F2 G2, Ex F1 F2 ∧ Iv K B G2 S F2 H ∧ J (i + 1) G2, fun S' H' p => ⟨ds.length - (i + 1), by omega, rfl, hlt, p⟩, fun x H3 y => ?_⟩
    obtain ⟨F3, e3, I3, hx⟩ := Y.turn e2 I2 hd' y
    refine hs i G2 d hd' j2 S2 F3 H3 x _ I3 hx fun S4 F4 H4 G4 e4 I4 _ _ q => ?_
    have e5 := (e2.trans e3).trans e4
    exact q S4 F4 H4 _ I4 ⟨fun S F H G e I j => ⟨F, G, e5.trans e, I, j⟩, fun S F H G v r e => c.rt S F H G v r ((e1.trans e5).trans e), fun S F H G e I p => c.nx S F H G ((e1.trans e5).trans e) I p, fun S F H G e I j => ⟨F, G, e5.trans e, I, j⟩⟩
  · have e : i = ds.length := by omega
    subst e
    exact .inl ⟨(Y _ H2 F2 e2 I2.ex).2 rfl, c.nx S2 F2 H2 G2 (e1.trans e2) I2 (hd G2 j2)⟩
end
end DL
namespace DL
open PySem L2
/-! ### specs by a parameter -/
def spI {ι : Type} (K : Fr) (args : ι → List PyData) (pre : ι → Prop) (res : ι → Rs → Prop) : Sp := fun vs H Q E => ∃ x, pre x ∧ sp0 K (fun ds => ds = args x) (fun _ r => res x r) vs H Q E
def spJ {ι : Type} (K : Fr) (ls args : ι → List PyData) (pre : ι → Prop) (res : ι → List PyData → PyData → Prop) : Sp := fun vs H Q E => ∃ x, pre x ∧ sp1 K (fun l ds => l = ls x ∧ ds = args x) (fun _ _ l' d => res x l' d) vs H Q E
def spXI {ι : Type} (K : Fr) (args : ι → List PyData) (pre : ι → Prop) (res : ι → Rs → Prop) (exc : ι → Value → Prop) : Sp := fun vs H Q E => ∃ x, pre x ∧ spX K (fun ds => ds = args x) (fun _ r => res x r) (fun _ c => exc x c) vs H Q E
section
variable {P : Program} {w : World} {K : Fr} {mg : Str → Option Value} {base : Heap} {CX : CXT} {k : Nat} {f : Addr} {fd : FuncData} {ps : List Str}
theorem fnEx {ι : Type} {pre : ι → Prop} {sp : ι → Sp} (h : ∀ x, pre x → FnOk P w K mg base CX k f fd ps (sp x)) : FnOk P w K mg base CX k f fd ps (fun vs H Q E => ∃ x, pre x ∧ sp x vs H Q E) where
  len := fun vs H Q E ⟨x, hp, hs⟩ => (h x hp).len vs H Q E hs
  run := fun A outer s H args us vs Q E hr h1 h2 h3 ⟨x, hp, hs⟩ => (h x hp).run A outer s H args us vs Q E hr h1 h2 h3 hs
variable {x qual : Str} {st : Stmt} {N : List Str}
theorem fnI {ι : Type} {args : ι → List PyData} {pre : ι → Prop} {res : ι → Rs → Prop} (F : Fun K x qual st f fd) (S : FnScope N ps (defScope st)) (hl : ∀ x, (args x).length = ps.length ∧ ps.length ≤ N.length)
    (hb : ∀ (cdv : Value) (A : Around) (outer : List Env) (s : Shared) (H : Hp) (E : XK), Room k (A.deeper (PyProof.Rows.envOfC qual (defScope st) s.heap.objs.size f cdv)) → ∃ t, PSs (cxOf CX0 P w K mg base N qual (defScope st) f cdv A outer s H E).nox (defBody st) t ∧
      ∀ x, pre x → ∀ B, DS K B (G0 N (args x)) t (E0 (res x))) : FnOk P w K mg base CX0 (k + 1) f fd ps (spI K args pre res) :=
  fnEx (sp := fun x => sp0 K (fun ds => ds = args x) (fun _ r => res x r)) fun x hp => fn0 F S (fun ds e => by
    subst e
    have := hl x
    exact ⟨this.1, by omega⟩) fun cdv A outer s H E hr => by
      obtain ⟨t, h1, h2⟩ := hb cdv A outer s H E hr
      exact ⟨t, h1, fun ds e B => by
        subst e
        exact h2 x hp B⟩
theorem fnJ {ι : Type} {ls args : ι → List PyData} {pre : ι → Prop} {res : ι → List PyData → PyData → Prop} (F : Fun K x qual st f fd) (S : FnScope N ps (defScope st)) (hl : ∀ x, (args x).length + 1 = ps.length ∧ ps.length ≤ N.length)
    (hb : ∀ (cdv : Value) (A : Around) (outer : List Env) (s : Shared) (H : Hp) (E : XK), Room k (A.deeper (PyProof.Rows.envOfC qual (defScope st) s.heap.objs.size f cdv)) → ∃ t, PSs (cxOf CX0 P w K mg base N qual (defScope st) f cdv A outer s H E).nox (defBody st) t ∧
      ∀ x, pre x → ∀ p B, DS K B (G1 N p (ls x) (args x)) t (E1 p (res x))) : FnOk P w K mg base CX0 (k + 1) f fd ps (spJ K ls args pre res) :=
  fnEx (sp := fun x => sp1 K (fun l ds => l = ls x ∧ ds = args x) (fun _ _ l' d => res x l' d)) fun x hp => fn1 F S (fun l ds e => by
    obtain ⟨e1, e2⟩ := e
    subst e1 e2
    have := hl x
    exact ⟨this.1, by omega⟩) fun cdv A outer s H E hr => by
      obtain ⟨t, h1, h2⟩ := hb cdv A outer s H E hr
      exact ⟨t, h1, fun p l ds e B => by
        obtain ⟨e1, e2⟩ := e
        subst e1 e2
        exact h2 x hp p B⟩
theorem fnXI {ι : Type} {args : ι → List PyData} {pre : ι → Prop} {res : ι → Rs → Prop} {exc : ι → Value → Prop} (F : Fun K x qual st f fd) (S : FnScope N ps (defScope st)) (hl : ∀ x, (args x).length = ps.length ∧ ps.length ≤ N.length)
    (hb : ∀ (cdv : Value) (A : Around) (outer : List Env) (s : Shared) (H : Hp) (E : XK), Room k (A.deeper (PyProof.Rows.envOfC qual (defScope st) s.heap.objs.size f cdv)) → ∃ t, PSs (cxOf (L2.CX P w) P w K mg base N qual (defScope st) f cdv A outer s H E) (defBody st) t ∧
      ∀ x, pre x → ∀ B, Tk K B (exc x) E → DS K B (G0 N (args x)) t (E0 (res x))) : FnOk P w K mg base (L2.CX P w) (k + 1) f fd ps (spXI K args pre res exc) :=
  fnEx (sp := fun x => spX K (fun ds => ds = args x) (fun _ r => res x r) (fun _ c => exc x c)) fun x hp => fnX F S (fun ds e => by
    subst e
    have := hl x
    exact ⟨this.1, by omega⟩) fun cdv A outer s H E hr => by
      obtain ⟨t, h1, h2⟩ := hb cdv A outer s H E hr
      exact ⟨t, h1, fun ds e B hE => by
        subst e
        exact h2 x hp B hE⟩
end
section
variable {K : Fr} {B : Bs} {G G1 : En} {P : Po} {t : TA} {E : XK} {S : St} {F F1 H1 : Hp} {Q : VK} {vs : List V} {ws : List W}
theorem core0 {pre : List PyData → Prop} {post : List PyData → Rs → Prop} {ds : List PyData} (k : Ct K B S F P Q) (e1 : Ex F F1) (I1 : Iv K B G1 S F1 H1) (hv : Vws K S F1 vs ws) (hd : allD ws = some ds) (hp : pre ds) (q : ∀ r, post ds r → P G1 r) : sp0 K pre post vs H1 Q E := by
  refine ⟨F1, ds, I1.ex, allD_ok hd hv, hp, fun v F2 H2 r a1 a2 a3 a4 a5 a6 => ?_⟩
  match r, a5, a6 with
  | .p (.d d), a5, a6 => exact k v F2 H2 G1 (.p (.d d)) (e1.trans a1) ⟨I1.grow a1 a3 a2 a4, a5⟩ (q _ a6)
  | .fr s, ⟨A, b1, b2⟩, a6 =>
    refine k v F2 H2 G1 (.fr s) (e1.trans a1) ?_ (q _ a6)
    exact I1.add a1 a3 a2 a4 (some v) A (.inr ⟨v, rfl, b1⟩) fun a ha => ⟨(b2 a ha).2.2, (b2 a ha).1, (b2 a ha).2.1⟩
theorem coreX {pre : List PyData → Prop} {post : List PyData → Rs → Prop} {exc : List PyData → Value → Prop} {ds : List PyData} (k : Ct K B S F P Q) (e1 : Ex F F1) (I1 : Iv K B G1 S F1 H1) (hv : Vws K S F1 vs ws) (hd : allD ws = some ds) (hp : pre ds) (q : ∀ r, post ds r → P G1 r)
    (hE : ∀ cls F2 H2, Iv K B G1 S F2 H2 → exc ds cls → E cls none H2) : spX K pre post exc vs H1 Q E := by
  refine ⟨F1, ds, I1.ex, allD_ok hd hv, hp, fun v F2 H2 r a1 a2 a3 a4 a5 a6 => ?_, fun cls F2 H2 a1 a2 a3 a4 a5 => hE cls F2 H2 (I1.grow a1 a3 a2 a4) a5⟩
  match r, a5, a6 with
  | .p (.d d), a5, a6 => exact k v F2 H2 G1 (.p (.d d)) (e1.trans a1) ⟨I1.grow a1 a3 a2 a4, a5⟩ (q _ a6)
  | .fr s, ⟨A, b1, b2⟩, a6 =>
    refine k v F2 H2 G1 (.fr s) (e1.trans a1) ?_ (q _ a6)
    exact I1.add a1 a3 a2 a4 (some v) A (.inr ⟨v, rfl, b1⟩) fun a ha => ⟨(b2 a ha).2.2, (b2 a ha).1, (b2 a ha).2.1⟩
theorem core1 {pre : List PyData → List PyData → Prop} {post : List PyData → List PyData → List PyData → PyData → Prop} {i : Nat} {a : Option Addr} {ls ds : List PyData} {wr : List W} (k : Ct K B S F P Q) (e1 : Ex F F1) (I1 : Iv K B G1 S F1 H1) (hv : Vws K S F1 vs (.sl i :: wr)) (hd : allD wr = some ds) (hi : G1[i]? = some (.o a ls)) (hp : pre ls ds) (q : ∀ ls' d, post ls ds ls' d → P (G1.set i (.o a ls')) (.p (.d d))) : sp1 K pre post vs H1 Q E := by
  cases hv with
  | @cons v0 _ vr _ hv0 hvr =>
  obtain ⟨A, h1, h2, h3⟩ := I1.own
  obtain ⟨u, z1, p, vs0, rfl, z2, z3, z4, z5⟩ : ∃ v, S[i]? = some (some v) ∧ SvR K F1 H1 v (A i) (.o a ls) := (h1 i _ hi).elim (fun z => by cases z) id
  have hv0 : S[i]? = some (some v0) := hv0
  rw [hv0] at z1
  cases z1
  obtain ⟨y1, y2, y3⟩ := h3 i p z4
  refine ⟨F1, p, vs0, vr, ls, ds, rfl, I1.ex, y1, z2, z3, allD_ok hd hvr, hp, fun v F2 H2 vs' ls' d a1 a2 a3 a4 a5 a6 a7 a8 a9 => ?_⟩
  refine k v F2 H2 (G1.set i (.o a ls')) (.p (.d d)) (e1.trans a1) ⟨?_, a8⟩ (q ls' d a9)
  have own : ∀ j b, A j b → F2 b = none ∧ H2 b ≠ none ∧ (j ≠ i → H2 b = H1 b) := fun j b hb => by
    obtain ⟨x, y, z⟩ := h3 j b hb
    refine ⟨?_, ?_, fun hj => ?_⟩
    · cases q : F2 b with
      | none => rfl
      | some o => exact absurd (a4 b o q x) y
    · by_cases hbp : b = p
      · rw [hbp, a6]
        exact fun z => by cases z
      · cases q : H1 b with
        | none => exact absurd q y
        | some o =>
          rw [a3 b o q hbp]
          exact fun z => by cases z
    · cases q : H1 b with
      | none => exact absurd q y
      | some o =>
        refine a3 b o q fun e => ?_
        subst e
        exact hj (h2 _ _ _ hb z4)
  refine ⟨a2, I1.f0.trans a1, fun b o hb hm => ?_, fun b o hb hn => ?_, fun b hb => ?_, by simpa using I1.len, A, fun j s2 hj => ?_, h2, fun j b hb => ⟨(own j b hb).1, (own j b hb).2.1, (h3 j b hb).2.2⟩⟩
  · refine a3 b o (I1.fr b o hb hm) fun e => ?_
    subst e
    rcases y3 with z | z
    · rw [hb] at z
      cases z
    · exact hm z
  · cases q : F1 b with
    | some u => exact I1.nw b u q hn
    | none => exact absurd (I1.new0 (a4 b o hb q)) hn
  · have := I1.st b hb
    by_cases hbp : b = p
    · rw [hbp, a6]
      exact fun z => by cases z
    · cases q : H1 b with
      | none => exact absurd q this
      | some o =>
        rw [a3 b o q hbp]
        exact fun z => by cases z
  · by_cases e : i = j
    · subst e
      obtain ⟨rfl, _⟩ := set_same hj
      exact .inr ⟨_, hv0, p, vs', rfl, a6, a7, z4, z5⟩
    · rw [List.getElem?_set_ne e] at hj
      rcases h1 j s2 hj with z | ⟨u, x1, x2⟩
      · exact .inl z
      · exact .inr ⟨u, x1, slr_stab x2 a1 fun b hb => (own j b hb).2.2 (Ne.symm e)⟩
theorem dw_callI {ι : Type} {args : ι → List PyData} {pre : ι → Prop} {res : ι → Rs → Prop} (h : DA K B G t fun G1 ws => ∃ x, pre x ∧ allD ws = some (args x) ∧ ∀ r, res x r → P G1 r) : DW K B G (tCall (spI K args pre res) [] E t) P := fun S F H Q I k => by
  show t S H fun vs H1 => ∃ x, pre x ∧ sp0 K (fun ds => ds = args x) (fun _ r => res x r) (vs ++ []) H1 Q E
  refine h S F H _ I fun vs F1 H1 G1 ws e1 I1 hv ⟨x, hp, hd, q⟩ => ⟨x, hp, ?_⟩
  rw [List.append_nil]
  exact core0 k e1 I1 hv hd rfl q
theorem dw_callJ {ι : Type} {ls args : ι → List PyData} {pre : ι → Prop} {res : ι → List PyData → PyData → Prop} (h : DA K B G t fun G1 ws => ∃ x i a wr, pre x ∧ ws = .sl i :: wr ∧ allD wr = some (args x) ∧ G1[i]? = some (.o a (ls x)) ∧ ∀ l' d, res x l' d → P (G1.set i (.o a l')) (.p (.d d))) : DW K B G (tCall (spJ K ls args pre res) [] E t) P := fun S F H Q I k => by
  show t S H fun vs H1 => ∃ x, pre x ∧ sp1 K (fun l ds => l = ls x ∧ ds = args x) (fun _ _ l' d => res x l' d) (vs ++ []) H1 Q E
  refine h S F H _ I fun vs F1 H1 G1 ws e1 I1 hv ⟨x, i, a, wr, hp, hw, hd, hi, q⟩ => ⟨x, hp, ?_⟩
  rw [List.append_nil]
  subst hw
  exact core1 k e1 I1 hv hd hi ⟨rfl, rfl⟩ q
theorem dw_callXI {ι : Type} {args : ι → List PyData} {pre : ι → Prop} {res : ι → Rs → Prop} {exc : ι → Value → Prop} {ex0 : Value → Prop} (hE : Tk K B ex0 E) (h : DA K B G t fun G1 ws => ∃ x, pre x ∧ allD ws = some (args x) ∧ (∀ r, res x r → P G1 r) ∧ ∀ c, exc x c → ex0 c) : DW K B G (tCall (spXI K args pre res exc) [] E t) P := fun S F H Q I k => by
  show t S H fun vs H1 => ∃ x, pre x ∧ spX K (fun ds => ds = args x) (fun _ r => res x r) (fun _ c => exc x c) (vs ++ []) H1 Q E
  refine h S F H _ I fun vs F1 H1 G1 ws e1 I1 hv ⟨x, hp, hd, q, qx⟩ => ⟨x, hp, ?_⟩
  rw [List.append_nil]
  exact coreX k e1 I1 hv hd rfl q fun cls F2 H2 J z => hE cls S F2 H2 G1 J (qx cls z)
theorem dw_callNI {ι : Type} {args : ι → List PyData} {pre : ι → Prop} {res : ι → Rs → Prop} {exc : ι → Value → Prop} (h : DA K B G t fun G1 ws => ∃ x, pre x ∧ allD ws = some (args x) ∧ (∀ r, res x r → P G1 r) ∧ ∀ c, ¬ exc x c) : DW K B G (tCall (spXI K args pre res exc) [] E t) P :=
  dw_callXI (ex0 := fun _ => False) (fun _ _ _ _ _ _ z => z.elim) h
theorem dw_callSI {ι : Type} {args : ι → List PyData} {pre : ι → Prop} {res : ι → Rs → Prop} {exc : ι → Value → Prop} {W : WX} {ex0 : Value → En → Prop} (hE : TkW K B ex0 W) (h : DA K B G t fun G1 ws => ∃ x, pre x ∧ allD ws = some (args x) ∧ (∀ r, res x r → P G1 r) ∧ ∀ c, exc x c → ex0 c G1) : DW K B G (tCallS (spXI K args pre res exc) (WE W) t) P := fun S F H Q I k => by
  show t S H fun vs H1 => ∃ x, pre x ∧ spX K (fun ds => ds = args x) (fun _ r => res x r) (fun _ c => exc x c) vs H1 Q (fun cls d H => W cls d S H)
  refine h S F H _ I fun vs F1 H1 G1 ws e1 I1 hv ⟨x, hp, hd, q, qx⟩ => ⟨x, hp, ?_⟩
  exact coreX k e1 I1 hv hd rfl q fun cls F2 H2 J z => hE cls S F2 H2 G1 J (qx cls z)
end
end DL
namespace DL
open PySem L2
section
variable {K : Fr} {B : Bs} {G : En} {t u : TS} {E : De}
/-- between two statements: what is known of the slots -/
theorem ds_mid (M : En → Prop) (h1 : DS K B G t { E with nx := M }) (h2 : ∀ G1, M G1 → DS K B G1 u E) : DS K B G (tSeq t u) E := fun S F H D I c => by
  show t { D with nx := u D } S H
  exact h1 S F H _ I ⟨fun S F H G1 e I1 q => h2 G1 q S F H D I1 (c.mono e), c.rt, c.bk, c.ct⟩
theorem ite_k {c : Bool} {X Y : Prop} (h1 : c = true → X) (h2 : c = false → Y) : if c = true then X else Y := by
  cases c with
  | true =>
    rw [if_pos rfl]
    exact h1 rfl
  | false =>
    rw [if_neg (by simp)]
    exact h2 rfl
theorem ati {α β : Type} {f : α → β} {xs : List α} {i : Nat} {x : α} (h : xs[i]? = some x) : atI (xs.map f) (i : Int) = some (f x) := by
  have hl := (List.getElem?_eq_some_iff.mp h).1
  have e : ixN (xs.map f).length (i : Int) = some i := by
    unfold ixN
    rw [if_pos (Int.natCast_nonneg i), if_pos (by rw [List.length_map]; exact_mod_cast hl)]
    rfl
  unfold atI
  rw [e]
  show (xs.map f)[i]? = _
  rw [List.getElem?_map, h]
  rfl
theorem atn {α : Type} {xs : List α} {i : Nat} {x : α} (h : xs[i]? = some x) : atI xs (i : Int) = some x := by
  have := ati (f := id) h
  simpa using this
end
end DL
namespace DL
open PySem L2
theorem szl {n : Nat} (h : n ≤ 1000000) : n ≤ sizeLine := by
  rw [sizeLine_eq]
  omega
theorem szlt {n : Nat} (h : n ≤ 1000000) : n < sizeLine := by
  rw [sizeLine_eq]
  omega
theorem ite_t {X Y : Prop} (h : X) : if true = true then X else Y := by rw [if_pos rfl]; exact h
theorem ite_f {X Y : Prop} (h : Y) : if false = true then X else Y := by rw [if_neg (by simp)]; exact h
section
variable {K : Fr} {B : Bs} {G : En} {P : Po} {d : PyData}
theorem isi_int (q : P G (.p (.d (.bool (isiD d "int"))))) : RWn K B G (rIsi K) [.d d, .ty "int"] P := rn_isi rfl (kit_int d) q
theorem isi_bool (q : P G (.p (.d (.bool (isiD d "bool"))))) : RWn K B G (rIsi K) [.d d, .ty "bool"] P := rn_isi rfl (kit_bool d) q
theorem isi_str (q : P G (.p (.d (.bool (isiD d "str"))))) : RWn K B G (rIsi K) [.d d, .ty "str"] P := rn_isi rfl (kit_str d) q
theorem isi_tuple (q : P G (.p (.d (.bool (isiD d "tuple"))))) : RWn K B G (rIsi K) [.d d, .ty "tuple"] P := rn_isi rfl (kit_tuple d) q
theorem isi_list (q : P G (.p (.d (.bool (isiD d "list"))))) : RWn K B G (rIsi K) [.d d, .ty "list"] P := rn_isi rfl (kit_list d) q
theorem rn_lenD {ds : List PyData} (q : P G (.p (.d (.int (ds.length : Int))))) : RWn K B G (rLEN K) [.d (.list ds)] P := rn_lenL rfl q
theorem isN_d (q : P G (.p (.d (.bool (isNone d))))) : RW2 K B G (fun x y H Q => y = .non ∧ Q (.bl (decide (x = .non))) H) (.d d) (.d .none) P := rw_isN rfl q
theorem notN_d (q : P G (.p (.d (.bool (!isNone d))))) : RW2 K B G (fun x y H Q => y = .non ∧ Q (.bl (!decide (x = .non))) H) (.d d) (.d .none) P := rw_notN rfl q
end
end DL
namespace DL
open PySem L2
section
variable {d : PyData}
theorem isi_t (h : isiD d "tuple" = true) : ∃ xs, d = .tuple xs := by
  cases d with
  | tuple xs => exact ⟨xs, rfl⟩
  | none => exact Bool.noConfusion h
  | bool _ => exact Bool.noConfusion h
  | int _ => exact Bool.noConfusion h
  | str _ => exact Bool.noConfusion h
  | list _ => exact Bool.noConfusion h
  | dict _ => exact Bool.noConfusion h
theorem isi_l (h : isiD d "list" = true) : ∃ xs, d = .list xs := by
  cases d with
  | list xs => exact ⟨xs, rfl⟩
  | none => exact Bool.noConfusion h
  | bool _ => exact Bool.noConfusion h
  | int _ => exact Bool.noConfusion h
  | str _ => exact Bool.noConfusion h
  | tuple _ => exact Bool.noConfusion h
  | dict _ => exact Bool.noConfusion h
theorem isi_s (h : isiD d "str" = true) : ∃ z, d = .str (mkS z) := by
  cases d with
  | str x => exact ⟨_, congrArg PyData.str (mkS_of x).symm⟩
  | none => exact Bool.noConfusion h
  | bool _ => exact Bool.noConfusion h
  | int _ => exact Bool.noConfusion h
  | list _ => exact Bool.noConfusion h
  | tuple _ => exact Bool.noConfusion h
  | dict _ => exact Bool.noConfusion h
theorem isi_b (h : isiD d "bool" = true) : ∃ b, d = .bool b := by
  cases d with
  | bool b => exact ⟨b, rfl⟩
  | none => exact Bool.noConfusion h
  | int _ => exact Bool.noConfusion h
  | str _ => exact Bool.noConfusion h
  | list _ => exact Bool.noConfusion h
  | tuple _ => exact Bool.noConfusion h
  | dict _ => exact Bool.noConfusion h
theorem isi_i (h : isiD d "int" = true) (h' : isiD d "bool" = false) : ∃ i, d = .int i := by
  cases d with
  | int i => exact ⟨i, rfl⟩
  | bool _ => exact Bool.noConfusion h'
  | none => exact Bool.noConfusion h
  | str _ => exact Bool.noConfusion h
  | list _ => exact Bool.noConfusion h
  | tuple _ => exact Bool.noConfusion h
  | dict _ => exact Bool.noConfusion h
theorem not_f {b : Bool} (h : (!b) = true) : b = false := by
  cases b
  · rfl
  · exact absurd h (by simp)
theorem not_t {b : Bool} (h : (!b) = false) : b = true := by
  cases b
  · exact absurd h (by simp)
  · rfl
end
end DL
namespace DL
open PySem L2
/-! ### the ends, so told that terms stay small -/
def De.nxt (E : De) (f : En → Prop) : De := ⟨f, E.rt, E.bk, E.ct⟩
def De.lp (E : De) (f : En → Prop) : De := ⟨f, E.rt, E.nx, f⟩
section
variable {K : Fr} {B : Bs} {G : En} {t u : TS} {E : De} {f : En → Prop} {r : Rs} {d : PyData} {s : Sl} {i : Nat}
theorem nx_nxt (h : f G) : (E.nxt f).nx G := h
theorem rt_nxt (h : E.rt G r) : (E.nxt f).rt G r := h
theorem bk_nxt (h : E.bk G) : (E.nxt f).bk G := h
theorem ct_nxt (h : E.ct G) : (E.nxt f).ct G := h
theorem nx_lp (h : f G) : (E.lp f).nx G := h
theorem rt_lp (h : E.rt G r) : (E.lp f).rt G r := h
theorem bk_lp (h : E.nx G) : (E.lp f).bk G := h
theorem ct_lp (h : f G) : (E.lp f).ct G := h
theorem asn_d (h : E.nx (G.set i (.d d))) : AsN E G i (.p (.d d)) := h
theorem asn_fr (h : E.nx (G.set i s)) : AsN E G i (.fr s) := h
theorem ds_seq' (h : DS K B G t (E.nxt fun G1 => DS K B G1 u E)) : DS K B G (tSeq t u) E := ds_seq h
theorem ds_mid' (M : En → Prop) (h1 : DS K B G t (E.nxt M)) (h2 : ∀ G1, M G1 → DS K B G1 u E) : DS K B G (tSeq t u) E := ds_mid M h1 h2
theorem ds_forE' {wi : TI} {g : TG} {ch : List Nat} (h : DI K B G wi fun G1 ds => ∃ J : Nat → En → Prop, J 0 G1 ∧ (∀ i G2 d, ds[i]? = some d → J i G2 → DG K B G2 g ch (.d d) fun G3 => DS K B G3 t (E.lp (J (i + 1)))) ∧ ∀ G2, J ds.length G2 → E.nx G2) :
    DS K B G (tFor wi g t) E := ds_forE h
theorem ds_while' {tt : TT} (J : Nat → En → Prop) (m : Nat) (h0 : J m G) (hs : ∀ m G1, J m G1 → DT K B G1 tt fun G2 b => if b = true then DS K B G2 t (E.lp fun G3 => ∃ m', m' < m ∧ J m' G3) else E.nx G2) : DS K B G (tWhile tt t) E := ds_while J m h0 hs
variable {p : Rs → Prop} {a : Addr} {q : List PyData → PyData → Prop} {ls : List PyData}
theorem rt_E0 (h : p (.p (.d d))) : (DL.E0 p).rt G (.p (.d d)) := h
theorem rt_E0o {o : Option Addr} {ds : List PyData} (h : p (.fr (.o o ds))) : (DL.E0 p).rt G (.fr (.o o ds)) := And.intro (fun z => Sl.noConfusion z) h
theorem rt_E0s {o : Option Addr} {ds : List PyData} (hi : G[i]? = some (.o o ds)) (h : p (.fr (.o none ds))) : (DL.E0 p).rt G (.p (.sl i)) := ⟨o, ds, hi, h⟩
theorem nx_E0 (h : p (.p (.d .none))) : (DL.E0 p).nx G := h
theorem rt_E1 (hi : G[0]? = some (.o (some a) ls)) (h : q ls d) : (DL.E1 a q).rt G (.p (.d d)) := ⟨d, ls, rfl, hi, h⟩
theorem rt_E1o {o : Option Addr} {ds : List PyData} (hi : G[0]? = some (.o (some a) ls)) (h : q ls (.list ds)) : (DL.E1 a q).rt G (.fr (.o o ds)) := ⟨.list ds, ls, rfl, hi, h⟩
end
end DL
namespace DL
open PySem L2
theorem ite_T {c : Bool} {X Y : Prop} (e : c = true) (h : X) : if c = true then X else Y := by rw [if_pos e]; exact h
theorem ite_F {c : Bool} {X Y : Prop} (e : c = false) (h : Y) : if c = true then X else Y := by rw [e, if_neg (by simp)]; exact h
section
variable {G : En} {PT : En → Bool → Prop} {b : Bool} {ds : List PyData} {i : Int} {j : Nat}
theorem tr_b (h : PT G b) : TrW G PT (.d (.bool b)) := ⟨b, rfl, h⟩
theorem tr_i (h : PT G (i != 0)) : TrW G PT (.d (.int i)) := ⟨_, rfl, h⟩
theorem tr_n (h : PT G false) : TrW G PT (.d .none) := ⟨_, rfl, h⟩
theorem tr_T (h : PT G (!ds.isEmpty)) : TrW G PT (.d (.tuple ds)) := ⟨_, rfl, h⟩
theorem tr_L (h : PT G (!ds.isEmpty)) : TrW G PT (.d (.list ds)) := ⟨_, rfl, h⟩
theorem tr_o {a : Option Addr} (hi : G[j]? = some (.o a ds)) (h : PT G (!ds.isEmpty)) : TrW G PT (.sl j) := ⟨a, ds, hi, h⟩
end
end DL
namespace DL
open PySem L2
/-! ### shapes of data, equality of data -/
def Shp (n : Nat) (d : PyData) : Prop := d.canLay0 = true ∧ d.depth ≤ n
theorem shp_all {n : Nat} : ∀ {xs : List PyData}, (∀ x ∈ xs, Shp n x) → PyData.canLayAll0 xs = true ∧ PyData.depthAll xs ≤ n
  | [], _ => ⟨by simp [PyData.canLayAll0], by simp [PyData.depthAll]⟩
  | x :: xs, h => by
    obtain ⟨a, b⟩ := h x List.mem_cons_self
    obtain ⟨c, d⟩ := shp_all fun y hy => h y (List.mem_cons_of_mem _ hy)
    refine ⟨by simp [PyData.canLayAll0, a, c], ?_⟩
    simp only [PyData.depthAll]
    omega
theorem shp_list {n : Nat} {xs : List PyData} (h : ∀ x ∈ xs, Shp n x) : Shp (n + 1) (.list xs) := by
  obtain ⟨a, b⟩ := shp_all h
  exact ⟨by simp [PyData.canLay0, a], by simp only [PyData.depth]; omega⟩
theorem shp_tup {n : Nat} {xs : List PyData} (h : ∀ x ∈ xs, Shp n x) : Shp (n + 1) (.tuple xs) := by
  obtain ⟨a, b⟩ := shp_all h
  exact ⟨by simp [PyData.canLay0, a], by simp only [PyData.depth]; omega⟩
theorem shp_int (n : Nat) (i : Int) : Shp n (.int i) := ⟨by simp [PyData.canLay0], by simp [PyData.depth]⟩
theorem shp_bool (n : Nat) (b : Bool) : Shp n (.bool b) := ⟨by simp [PyData.canLay0], by simp [PyData.depth]⟩
theorem shp_none (n : Nat) : Shp n .none := ⟨by simp [PyData.canLay0], by simp [PyData.depth]⟩
theorem shp_str (n : Nat) {z : List Nat} (h : ∀ c ∈ z, c < 0x110000) : Shp n (.str (mkS z)) := by
  refine ⟨?_, by simp [PyData.depth]⟩
  simp only [PyData.canLay0, PyData.strOk, mkS]
  simpa using h
theorem shp_mono {n k : Nat} {d : PyData} (h : Shp n d) (hk : n ≤ k) : Shp k d := ⟨h.1, Nat.le_trans h.2 hk⟩
theorem shp_ok {n : Nat} {d : PyData} (h : Shp n d) (hn : n ≤ 64) : SeqAt.shaped d = true := by
  unfold SeqAt.shaped
  rw [h.1, decide_eq_true (Nat.le_trans h.2 hn)]
  rfl
theorem eqv_nil (xs : List PyData) : PyData.eqv (.list xs) (.list []) = xs.isEmpty := by
  cases xs <;> simp [PyData.eqv, PyData.eqvAll]
theorem eqv_nilT (xs : List PyData) : PyData.eqv (.tuple xs) (.tuple []) = xs.isEmpty := by
  cases xs <;> simp [PyData.eqv, PyData.eqvAll]
theorem any_inj {α : Type} [DecidableEq α] {f : α → PyData} (h : ∀ a b, PyData.eqv (f a) (f b) = decide (a = b)) (xs : List α) (x : α) : ((xs.map f).any fun z => PyData.eqv z (f x)) = decide (x ∈ xs) := by
  rw [List.any_map]
  induction xs with
  | nil => rfl
  | cons y ys ih =>
    rw [List.any_cons, ih]
    show (PyData.eqv (f y) (f x) || decide (x ∈ ys)) = decide (x ∈ y :: ys)
    rw [h]
    by_cases e : y = x
    · subst e
      simp
    · have e' : ¬ x = y := fun z => e z.symm
      simp [e, e']
theorem any_true {α : Type} (b : α → Bool) (xs : List α) : ((xs.map fun x => PyData.bool (b x)).any fun z => PyData.eqv z (.bool true)) = xs.any b := by
  rw [List.any_map]
  congr 1
  funext x
  show (PyData.eqv (.bool (b x)) (.bool true)) = b x
  simp [PyData.eqv]
theorem any_false {α : Type} (b : α → Bool) (xs : List α) : ((xs.map fun x => PyData.bool (b x)).any fun z => PyData.eqv z (.bool false)) = xs.any fun x => !b x := by
  rw [List.any_map]
  congr 1
  funext x
  show (PyData.eqv (.bool (b x)) (.bool false)) = !b x
  simp [PyData.eqv]
abbrev iD (n : Nat) : PyData := .int (n : Int)
theorem rng_nD (n : Nat) : rngD 0 ((n : Nat) : Int).toNat = (List.range n).map iD := by
  unfold rngD
  rw [Int.toNat_natCast]
  congr 1
  funext i
  show PyData.int (0 + (i : Int)) = PyData.int (i : Int)
  rw [Int.zero_add]
theorem eqv_iD (a b : Nat) : PyData.eqv (iD a) (iD b) = decide (a = b) := by
  simp only [PyData.eqv]
  by_cases h : a = b
  · subst h
    simp
  · rw [decide_eq_false h]
    have : ¬ ((a : Int) = (b : Int)) := fun e => h (Int.ofNat.inj e)
    simpa using this
theorem filter_isEmpty {α : Type} (p : α → Bool) (f : α → PyData) (xs : List α) : (((xs.filter p).map f).isEmpty) = !xs.any p := by
  induction xs with
  | nil => rfl
  | cons x xs ih =>
    rw [List.filter_cons, List.any_cons]
    cases p x with
    | true => simp
    | false => simpa using ih
end DL
namespace DL
open PySem L2
section
variable {K : Fr} {B : Bs} {G : En} {P : Po}
/-- [..] != [] -/
theorem rw_neF {α : Type} {xs : List α} {p : α → Bool} {f : α → PyData} (h : ∀ x ∈ xs, Shp 60 (f x)) (q : P G (.p (.d (.bool (xs.any p))))) : RW2 K B G (rNE K) (.d (.list ((xs.filter p).map f))) (.d (.list [])) P := by
  refine rw_neD rfl rfl (shp_ok (shp_list (n := 60) fun x hx => ?_) (by decide)) (shp_ok (shp_list (n := 0) fun x hx => nomatch hx) (by decide)) ?_
  · obtain ⟨y, hy, rfl⟩ := List.mem_map.mp hx
    exact h y (List.mem_filter.mp hy).1
  · rw [eqv_nil, filter_isEmpty, Bool.not_not]
    exact q
end
end DL
namespace DL
open PySem L2
/-! ### the law itself: its script stands as it came -/
def scr (K : Fr) (ns : List Int) : Orel := ⟨fun F _ v _ => ∃ p, v = .ref p ∧ SqL K F p (ns.map V.int), fun ⟨p, e, h⟩ ex _ => ⟨p, e, sl_mono ex h⟩⟩
def spLaw (K : Fr) (n : Nat) : Sp := fun vs H Q _ => ∃ (a : Addr) (ns : List Int), vs = [.ref a] ∧ ns.length ≤ n ∧ SqL K H a (ns.map V.int) ∧ ∀ H', Q (.bl true) H'
def GL (K : Fr) (N : List Str) (ns : List Int) : En := .ow (scr K ns) :: List.replicate (N.length - 1) .un
section
variable {P : Program} {w : World} {K : Fr} {mg : Str → Option Value} {base : Heap} {x qual : Str} {st : Stmt} {f : Addr} {fd : FuncData} {N : List Str} {p : Str} {k n : Nat}
theorem fnLaw (F : Fun K x qual st f fd) (S : FnScope N [p] (defScope st)) (hN : 1 ≤ N.length)
    (hb : ∀ (cdv : Value) (A : Around) (outer : List Env) (s : Shared) (H : Hp) (E : XK), Room k (A.deeper (PyProof.Rows.envOfC qual (defScope st) s.heap.objs.size f cdv)) → ∃ t, PSs (cxOf CX0 P w K mg base N qual (defScope st) f cdv A outer s H E).nox (defBody st) t ∧
      ∀ ns : List Int, ns.length ≤ n → ∀ B, DS K B (GL K N ns) t (DL.E0 fun r => r = .p (.d (.bool true)))) : FnOk P w K mg base CX0 (k + 1) f fd [p] (spLaw K n) := by
  refine F.ok S (fun vs H Q E h => ?_) (fun cdv A outer s H vs Q E hr h => ?_)
  · obtain ⟨a, ns, rfl, _⟩ := h
    rfl
  · obtain ⟨a, ns, rfl, hl, hs, q⟩ := h
    obtain ⟨t, ht, hd⟩ := hb cdv A outer s H E hr
    refine ⟨t, ht, ?_⟩
    have I0 : Iv K ⟨H, H, fun _ => False⟩ (GL K N ns) (L2.start N [.ref a]) H H := by
      refine ⟨Ex.refl _, Ex.refl _, fun b o h _ => h, fun b o h _ => .inl (nn h), fun b h => h, by simp [L2.start, GL], fun _ _ => False, fun i s' hi => ?_, fun _ _ _ z => z.elim, fun _ _ z => z.elim⟩
      cases i with
      | zero =>
        have e : s' = .ow (scr K ns) := by
          simp [GL] at hi
          exact hi.symm
        subst e
        exact .inr ⟨.ref a, rfl, a, rfl, hs⟩
      | succ i =>
        left
        unfold GL at hi
        rw [List.getElem?_cons_succ, List.getElem?_replicate] at hi
        split at hi
        · exact (Option.some.inj hi).symm
        · cases hi
    refine hd ns hl _ _ H H _ I0 ⟨fun S F H' G e J p => ?_, fun S F H' G v r e J p => ?_, fun _ _ _ _ _ _ z => z.elim, fun _ _ _ _ _ _ z => z.elim⟩
    · cases p
    · match r, J, p with
      | .p (.d d), J, p =>
        have p : Rs.p (.d d) = .p (.d (.bool true)) := p
        cases p
        rw [dp_bl J.2]
        exact q H'
      | .p (.sl i), J, ⟨a, ds', hi, p⟩ => cases p
      | .fr s, J, ⟨hu, p⟩ => cases p
end
section
variable {K : Fr} {B : Bs} {G : En} {P : Po}
theorem dw_scr {i : Nat} {ns : List Int} (h : G[i]? = some (.ow (scr K ns))) (q : P G (.p (.sl i))) : DW K B G (tVar i) P := fun S F H Q I k => by
  obtain ⟨A, a1, _, _⟩ := I.own
  rcases a1 i _ h with e | ⟨v, h1, _⟩
  · cases e
  · exact ⟨v, h1, k _ F H G (.p (.sl i)) (Ex.refl F) ⟨I, h1⟩ q⟩
theorem rn_listScr {i : Nat} {ns : List Int} (h : G[i]? = some (.ow (scr K ns))) (q : P G (.fr (.o none (ns.map .int)))) : RWn K B G (rLIST K) [.sl i] P := fun S F H Q vs I hv k => by
  obtain ⟨v, rfl, h1⟩ := vws1 hv
  obtain ⟨A, a1, _, _⟩ := I.own
  rcases a1 i _ h with e | ⟨u, z1, p, rfl, hs⟩
  · cases e
  · have h1 : S[i]? = some (some v) := h1
    rw [h1] at z1
    cases z1
    exact ⟨p, _, rfl, .inl (sl_mono I.ex hs), fun c hc => ct_L k I hc (da_ints _) q⟩
end
end DL
namespace K66
open PySem PySem.Spec PyProof.Rows L2 DL
def topS (i : Nat) : Stmt := PySem.Challenge.pw_chipgate_k66_resets_and_pairs_that_never.main.body.getD i (.Pass ⟨0, 0, 0, 0⟩)
structure Ad where
  (f5 f6 f7 f8 f9 f10 f12 f13 f14 f15 f16 f17 f18 f19 f20 f21 f22 f23 f24 : Addr)
  (d5 d6 d7 d8 d9 d10 d12 d13 d14 d15 d16 d17 d18 d19 d20 d21 d22 d23 d24 : FuncData)
  (c_ChipgateError c_TooWide : Addr)
abbrev s_least_reset : Stmt := topS 5
theorem sc_least_reset : FnScope ["machine", "signs", "start", "rows", "left", "lines", "number", "sign", "other", "line"] ["machine", "signs"] (defScope s_least_reset) := ⟨rfl, rfl, rfl, by decide +kernel, rfl, by decide +kernel, by decide +kernel⟩
abbrev s_pair_behind : Stmt := topS 6
theorem sc_pair_behind : FnScope ["machine", "number", "pair", "line"] ["machine", "number", "pair"] (defScope s_pair_behind) := ⟨rfl, rfl, rfl, by decide +kernel, rfl, by decide +kernel, by decide +kernel⟩
abbrev s_never_meeting : Stmt := topS 7
theorem sc_never_meeting : FnScope ["machine", "signs", "pairs", "meet", "grown", "pair", "behind", "second", "first", "number", "other"] ["machine", "signs"] (defScope s_never_meeting) := ⟨rfl, rfl, rfl, by decide +kernel, rfl, by decide +kernel, by decide +kernel⟩
abbrev s_reset : Stmt := topS 8
theorem sc_reset : FnScope ["machine", "signs", "pairs"] ["machine", "signs"] (defScope s_reset) := ⟨rfl, rfl, rfl, by decide +kernel, rfl, by decide +kernel, by decide +kernel⟩
abbrev s_judge_reset : Stmt := topS 9
theorem sc_judge_reset : FnScope ["machine", "signs", "told", "lines", "sign", "pair", "line", "number"] ["machine", "signs", "told"] (defScope s_judge_reset) := ⟨rfl, rfl, rfl, by decide +kernel, rfl, by decide +kernel, by decide +kernel⟩
abbrev s_is_line : Stmt := topS 10
theorem sc_is_line : FnScope ["machine", "line"] ["machine", "line"] (defScope s_is_line) := ⟨rfl, rfl, rfl, by decide +kernel, rfl, by decide +kernel, by decide +kernel⟩
abbrev s_law_next : Stmt := topS 12
theorem sc_law_next : FnScope ["state", "limit", "cell", "value"] ["state", "limit"] (defScope s_law_next) := ⟨rfl, rfl, rfl, by decide +kernel, rfl, by decide +kernel, by decide +kernel⟩
abbrev s_law_same : Stmt := topS 13
theorem sc_law_same : FnScope ["actual", "expected", "k"] ["actual", "expected"] (defScope s_law_same) := ⟨rfl, rfl, rfl, by decide +kernel, rfl, by decide +kernel, by decide +kernel⟩
abbrev s_law_signs : Stmt := topS 14
theorem sc_law_signs : FnScope ["state"] ["state"] (defScope s_law_signs) := ⟨rfl, rfl, rfl, by decide +kernel, rfl, by decide +kernel, by decide +kernel⟩
abbrev s_law_machine : Stmt := topS 15
theorem sc_law_machine : FnScope ["state", "signs", "many", "kind", "steps", "lines", "line", "nexts", "k", "pick", "sign"] ["state", "signs"] (defScope s_law_machine) := ⟨rfl, rfl, rfl, by decide +kernel, rfl, by decide +kernel, by decide +kernel⟩
abbrev s_law_line : Stmt := topS 16
theorem sc_law_line : FnScope ["machine", "signs", "line", "row", "sign"] ["machine", "signs", "line", "row"] (defScope s_law_line) := ⟨rfl, rfl, rfl, by decide +kernel, rfl, by decide +kernel, by decide +kernel⟩
abbrev s_law_row : Stmt := topS 17
theorem sc_law_row : FnScope ["state", "signs", "most", "k"] ["state", "signs", "most"] (defScope s_law_row) := ⟨rfl, rfl, rfl, by decide +kernel, rfl, by decide +kernel, by decide +kernel⟩
abbrev s_law_behind : Stmt := topS 18
theorem sc_law_behind : FnScope ["machine", "k", "pair", "line"] ["machine", "k", "pair"] (defScope s_law_behind) := ⟨rfl, rfl, rfl, by decide +kernel, rfl, by decide +kernel, by decide +kernel⟩
abbrev s_law_meeting : Stmt := topS 19
theorem sc_law_meeting : FnScope ["machine", "signs", "pairs", "q", "meet", "turned", "more", "pair", "ends", "p", "k", "end"] ["machine", "signs"] (defScope s_law_meeting) := ⟨rfl, rfl, rfl, by decide +kernel, rfl, by decide +kernel, by decide +kernel⟩
abbrev s_law_least_reset : Stmt := topS 20
theorem sc_law_least_reset : FnScope ["machine", "signs", "front", "met", "behind", "lines", "row", "k", "line"] ["machine", "signs"] (defScope s_law_least_reset) := ⟨rfl, rfl, rfl, by decide +kernel, rfl, by decide +kernel, by decide +kernel⟩
abbrev s_law_is_line : Stmt := topS 21
theorem sc_law_is_line : FnScope ["machine", "value"] ["machine", "value"] (defScope s_law_is_line) := ⟨rfl, rfl, rfl, by decide +kernel, rfl, by decide +kernel, by decide +kernel⟩
abbrev s_law_accepts : Stmt := topS 22
theorem sc_law_accepts : FnScope ["machine", "signs", "told", "paper", "pair", "sign", "line", "k"] ["machine", "signs", "told"] (defScope s_law_accepts) := ⟨rfl, rfl, rfl, by decide +kernel, rfl, by decide +kernel, by decide +kernel⟩
abbrev s_law_turned : Stmt := topS 23
theorem sc_law_turned : FnScope ["state", "signs", "paper", "pick", "sign", "k"] ["state", "signs", "paper"] (defScope s_law_turned) := ⟨rfl, rfl, rfl, by decide +kernel, rfl, by decide +kernel, by decide +kernel⟩
abbrev s_law : Stmt := topS 24
theorem sc_law : FnScope ["script", "state", "turn", "signs", "machine", "pairs", "due", "told", "asks", "k", "asked", "many", "chain", "ring", "error", "p"] ["script"] (defScope s_law) := ⟨rfl, rfl, rfl, by decide +kernel, rfl, by decide +kernel, by decide +kernel⟩
structure Tx (K : PySem.W.Frag) (mg : Str → Option Value) (a : Ad) : Prop where
  z_ValueError : mg "ValueError" = none
  z_bool : mg "bool" = none
  z_enumerate : mg "enumerate" = none
  z_int : mg "int" = none
  z_isinstance : mg "isinstance" = none
  z_len : mg "len" = none
  z_list : mg "list" = none
  z_max : mg "max" = none
  z_min : mg "min" = none
  z_range : mg "range" = none
  z_set : mg "set" = none
  z_sorted : mg "sorted" = none
  z_str : mg "str" = none
  z_tuple : mg "tuple" = none
  g_MOST_RESET : ∃ t, mg "MOST_RESET" = some (.int 16 t)
  x_TooWide : DL.ExcT K mg "TooWide" a.c_TooWide
  m_least_reset : mg "least_reset" = some (.ref a.f5)
  k_least_reset : PySem.W.keepIn K (.ref a.f5) = true
  b_least_reset : Binds K a.d5 ["machine", "signs"] []
  F_least_reset : Fun K "least_reset" "least_reset" s_least_reset a.f5 a.d5
  m_pair_behind : mg "pair_behind" = some (.ref a.f6)
  k_pair_behind : PySem.W.keepIn K (.ref a.f6) = true
  b_pair_behind : Binds K a.d6 ["machine", "number", "pair"] []
  F_pair_behind : Fun K "pair_behind" "pair_behind" s_pair_behind a.f6 a.d6
  m_never_meeting : mg "never_meeting" = some (.ref a.f7)
  k_never_meeting : PySem.W.keepIn K (.ref a.f7) = true
  b_never_meeting : Binds K a.d7 ["machine", "signs"] []
  F_never_meeting : Fun K "never_meeting" "never_meeting" s_never_meeting a.f7 a.d7
  m_reset : mg "reset" = some (.ref a.f8)
  k_reset : PySem.W.keepIn K (.ref a.f8) = true
  b_reset : Binds K a.d8 ["machine", "signs"] []
  F_reset : Fun K "reset" "reset" s_reset a.f8 a.d8
  m_judge_reset : mg "judge_reset" = some (.ref a.f9)
  k_judge_reset : PySem.W.keepIn K (.ref a.f9) = true
  b_judge_reset : Binds K a.d9 ["machine", "signs", "told"] []
  F_judge_reset : Fun K "judge_reset" "judge_reset" s_judge_reset a.f9 a.d9
  m_is_line : mg "is_line" = some (.ref a.f10)
  k_is_line : PySem.W.keepIn K (.ref a.f10) = true
  b_is_line : Binds K a.d10 ["machine", "line"] []
  F_is_line : Fun K "is_line" "is_line" s_is_line a.f10 a.d10
  m_law_next : mg "_law_next" = some (.ref a.f12)
  k_law_next : PySem.W.keepIn K (.ref a.f12) = true
  b_law_next : Binds K a.d12 ["state", "limit"] []
  F_law_next : Fun K "_law_next" "_law_next" s_law_next a.f12 a.d12
  m_law_same : mg "_law_same" = some (.ref a.f13)
  k_law_same : PySem.W.keepIn K (.ref a.f13) = true
  b_law_same : Binds K a.d13 ["actual", "expected"] []
  F_law_same : Fun K "_law_same" "_law_same" s_law_same a.f13 a.d13
  m_law_signs : mg "_law_signs" = some (.ref a.f14)
  k_law_signs : PySem.W.keepIn K (.ref a.f14) = true
  b_law_signs : Binds K a.d14 ["state"] []
  F_law_signs : Fun K "_law_signs" "_law_signs" s_law_signs a.f14 a.d14
  m_law_machine : mg "_law_machine" = some (.ref a.f15)
  k_law_machine : PySem.W.keepIn K (.ref a.f15) = true
  b_law_machine : Binds K a.d15 ["state", "signs"] []
  F_law_machine : Fun K "_law_machine" "_law_machine" s_law_machine a.f15 a.d15
  m_law_line : mg "_law_line" = some (.ref a.f16)
  k_law_line : PySem.W.keepIn K (.ref a.f16) = true
  b_law_line : Binds K a.d16 ["machine", "signs", "line", "row"] []
  F_law_line : Fun K "_law_line" "_law_line" s_law_line a.f16 a.d16
  m_law_row : mg "_law_row" = some (.ref a.f17)
  k_law_row : PySem.W.keepIn K (.ref a.f17) = true
  b_law_row : Binds K a.d17 ["state", "signs", "most"] []
  F_law_row : Fun K "_law_row" "_law_row" s_law_row a.f17 a.d17
  m_law_behind : mg "_law_behind" = some (.ref a.f18)
  k_law_behind : PySem.W.keepIn K (.ref a.f18) = true
  b_law_behind : Binds K a.d18 ["machine", "k", "pair"] []
  F_law_behind : Fun K "_law_behind" "_law_behind" s_law_behind a.f18 a.d18
  m_law_meeting : mg "_law_meeting" = some (.ref a.f19)
  k_law_meeting : PySem.W.keepIn K (.ref a.f19) = true
  b_law_meeting : Binds K a.d19 ["machine", "signs"] []
  F_law_meeting : Fun K "_law_meeting" "_law_meeting" s_law_meeting a.f19 a.d19
  m_law_least_reset : mg "_law_least_reset" = some (.ref a.f20)
  k_law_least_reset : PySem.W.keepIn K (.ref a.f20) = true
  b_law_least_reset : Binds K a.d20 ["machine", "signs"] []
  F_law_least_reset : Fun K "_law_least_reset" "_law_least_reset" s_law_least_reset a.f20 a.d20
  m_law_is_line : mg "_law_is_line" = some (.ref a.f21)
  k_law_is_line : PySem.W.keepIn K (.ref a.f21) = true
  b_law_is_line : Binds K a.d21 ["machine", "value"] []
  F_law_is_line : Fun K "_law_is_line" "_law_is_line" s_law_is_line a.f21 a.d21
  m_law_accepts : mg "_law_accepts" = some (.ref a.f22)
  k_law_accepts : PySem.W.keepIn K (.ref a.f22) = true
  b_law_accepts : Binds K a.d22 ["machine", "signs", "told"] []
  F_law_accepts : Fun K "_law_accepts" "_law_accepts" s_law_accepts a.f22 a.d22
  m_law_turned : mg "_law_turned" = some (.ref a.f23)
  k_law_turned : PySem.W.keepIn K (.ref a.f23) = true
  b_law_turned : Binds K a.d23 ["state", "signs", "paper"] []
  F_law_turned : Fun K "_law_turned" "_law_turned" s_law_turned a.f23 a.d23
  m_law : mg "law" = some (.ref a.f24)
  k_law : PySem.W.keepIn K (.ref a.f24) = true
  b_law : Binds K a.d24 ["script"] []
  F_law : Fun K "law" "law" s_law a.f24 a.d24

end K66
namespace K66
open PySem PySem.Spec PyProof.Rows L2 DL
local macro_rules | `(tactic| walk_at "st") => `(tactic| with_reducible first
  | refine pw_p ?_ | refine pw_o ?_ | refine dw_op ?_ | refine dw_un ?_ | refine dw_int ?_ | refine dw_str ?_ | refine dw_bl ?_ | refine dw_non ?_ | refine dw_ty ?_ | refine da_nil' ?_ | refine da_cons' ?_ | refine dw_sortSet ?_ | refine dw_lenSet ?_ | refine dw_CB ?_ | refine dw_BM ?_ | refine dw_BM0 ?_
  | refine dw_tup ?_ | refine dw_lst ?_ | refine dw_notV ?_ | refine dw_and ?_ | refine dw_or ?_ | refine dw_if ?_ | refine dw_chain ?_ | refine dw_sl3 ?_ | refine dw_revT ?_ | refine dw_tupRg1 ?_ | refine dw_lstRg1 ?_ | refine dw_callI ?_ | refine dw_callJ ?_
  | refine dt_test ?_ | refine dt_B ?_ | refine dt_and ?_ | refine dt_or ?_ | refine dt_not ?_ | refine dt_yes ?_ | refine dt_truth ?_
  | refine ds_ret ?_ | refine ds_retN ?_ | refine ds_next ?_ | refine ds_break ?_ | refine ds_cont ?_ | refine ds_drop ?_ | refine ds_if ?_ | refine ds_set ?_
  | refine nx_nxt ?_ | refine rt_nxt ?_ | refine bk_nxt ?_ | refine ct_nxt ?_ | refine nx_lp ?_ | refine rt_lp ?_ | refine bk_lp ?_ | refine ct_lp ?_ | refine asn_d ?_ | refine asn_fr ?_ | refine rt_E0 ?_ | refine rt_E0o ?_ | refine nx_E0 ?_
  | refine dw_newT ?_ | refine dw_dIn ?_ | refine dw_dNotIn ?_ | refine dw_dGet ?_ | refine ds_dPut ?_
  | refine tr_b ?_ | refine tr_i ?_ | refine tr_n ?_ | refine tr_T ?_ | refine tr_L ?_
  | refine do_none ?_ | refine do_some ?_ | refine ite_t ?_ | refine ite_f ?_
  | refine rw_addI ?_ | refine rw_sub ?_ | refine rw_cmp ?_ | refine rw_eqI ?_ | refine rw_neI ?_ | refine rw_eqS ?_ | refine rw_neS ?_ | refine rw_eqB ?_ | refine rw_neB ?_ | refine isN_d ?_ | refine notN_d ?_ | refine rw_isB ?_ | refine rw_notB ?_
  | refine rn_intI ?_ | refine rn_intB ?_ | refine rn_max ?_ | refine rn_min ?_ | refine rn_lenT ?_ | refine rn_lenD ?_ | refine isi_int ?_ | refine isi_bool ?_ | refine isi_str ?_ | refine isi_tuple ?_ | refine isi_list ?_ | refine rn_tupT ?_ | refine rn_listT ?_
  | refine ⟨_, rfl, ?_⟩
  | fail)
local macro_rules | `(tactic| walk_at "va") => `(tactic| first
  | ((with_reducible apply dw_var); rfl) | ((with_reducible apply dw_sl); rfl) | ((with_reducible apply dw_slT); rfl)
  | ((with_reducible apply rw_ixL); rfl; rfl) | ((with_reducible apply rw_ixT); rfl)
  | ((with_reducible apply ite_T); rfl) | ((with_reducible apply ite_F); rfl) | ((with_reducible apply tr_o); rfl)
  | refine ⟨_, rfl, szl (Nat.le_of_ble_eq_true rfl), ?_⟩
  | (with_reducible refine rw_mod (by omega) ?_)
  | (with_reducible refine rw_fdiv (by unfold CDiv; omega) ?_)
  | (with_reducible refine rw_mul (by unfold CMul; omega) ?_)
  | refine ⟨szl (Nat.le_of_ble_eq_true rfl), ?_⟩
  | refine ⟨rfl, ?_⟩
  | rfl
  | fail)
local macro_rules | `(tactic| walk_at "go") => `(tactic| repeat' (first | walk_at "st" | (with_reducible refine ds_seq' ?_) | walk_at "va" | fail))
local macro_rules | `(tactic| walk_at "gs") => `(tactic| repeat' (first | walk_at "st" | walk_at "va" | fail))
abbrev Mach := List (Bool × List Nat)
abbrev nD (n : Nat) : PyData := .int (n : Int)
abbrev encL (l : Bool × List Nat) : PyData := .tuple [.bool l.1, .tuple (l.2.map nD)]
abbrev encM (m : Mach) : PyData := .tuple (m.map encL)
abbrev pN (p : Nat × Nat) : PyData := .tuple [nD p.1, nD p.2]
def nxt (m : Mach) (l k : Nat) : Nat := ((m[l]?).bind fun p => p.2[k]?).getD 0
def bh (m : Mach) (k : Nat) (p : Nat × Nat) : Nat × Nat := (min (nxt m p.1 k) (nxt m p.2 k), max (nxt m p.1 k) (nxt m p.2 k))
def Good (m : Mach) (n : Nat) : Prop := ∀ l ∈ m, l.2.length = n ∧ ∀ q ∈ l.2, q < m.length
theorem Good.at {m : Mach} {n l k : Nat} (g : Good m n) (hl : l < m.length) (hk : k < n) : ∃ x, m[l]? = some x ∧ x.2[k]? = some (nxt m l k) ∧ nxt m l k < m.length := by
  obtain ⟨h1, h2⟩ := g m[l] (List.getElem_mem hl)
  have e1 : m[l]? = some m[l] := List.getElem?_eq_getElem hl
  have hk' : k < m[l].2.length := by omega
  have e2 : m[l].2[k]? = some (nxt m l k) := by
    unfold nxt
    rw [e1]
    show m[l].2[k]? = some (m[l].2[k]?.getD 0)
    rw [List.getElem?_eq_getElem hk']
    rfl
  exact ⟨_, e1, e2, h2 _ (List.mem_of_getElem? e2)⟩
theorem srt2 (a b : Nat) : srtI [(a : Int), (b : Int)] = [((min a b : Nat) : Int), ((max a b : Nat) : Int)] := by
  refine (srtI_eq ?_ ?_).symm
  · by_cases h : a ≤ b
    · rw [Nat.min_eq_left h, Nat.max_eq_right h]
    · have h : b ≤ a := by omega
      rw [Nat.min_eq_right h, Nat.max_eq_left h]
      exact List.Perm.swap _ _ _
  · simp
    omega
structure Stt where
  xs : List Int
  i : Nat
  c : Int
  s : Int
abbrev encS (st : Stt) : List PyData := [.list (st.xs.map .int), nD st.i, .int st.c, .int st.s]
def Stt.ok (st : Stt) : Prop := 0 ≤ st.c ∧ 0 ≤ st.s ∧ st.s < 2147483647 ∧ st.xs.length ≤ 63
section
variable {P : Program} {w : World} {K : PySem.W.Frag} {mg : Str → Option Value} {base : Heap} {a : Ad}
abbrev argB (x : Mach × Nat × Nat × (Nat × Nat)) : List PyData := [encM x.1, nD x.2.2.1, pN x.2.2.2]
def preB (x : Mach × Nat × Nat × (Nat × Nat)) : Prop := Good x.1 x.2.1 ∧ x.2.2.1 < x.2.1 ∧ x.2.2.2.1 < x.1.length ∧ x.2.2.2.2 < x.1.length
def resB (x : Mach × Nat × Nat × (Nat × Nat)) (r : Rs) : Prop := r = .p (.d (pN (bh x.1 x.2.2.1 x.2.2.2)))
abbrev spB (K : PySem.W.Frag) := spI K argB preB resB
theorem ok_pair_behind (T : Tx K mg a) : FnOk P w K mg base CX0 1 a.f6 a.d6 ["machine", "number", "pair"] (spB K) := by
  refine fnI T.F_pair_behind sc_pair_behind (fun x => ⟨rfl, by decide⟩) fun cdv A outer s H E hr => ⟨_, (pss_one (ps_ret (pe_callTy (kTUP K rfl) (by rfl) T.z_tuple (by decide +kernel) (pa_cons (pe_callB (kSORT K rfl) (by rfl) T.z_sorted (by decide +kernel) (pa_cons (pe_lc (own := [("line", 3)]) (g := gName 3) (by rfl) sc_pair_behind.nd (kANY K rfl (pv 2)) (blkOk_by (own := [("line", 3)]) (N := ["machine", "number", "pair", "line"]) (sc := defScope s_pair_behind) (by decide +kernel)) (fun _ _ _ _ _ => (pg_name (i := 3) sc_pair_behind.nd rfl (by first | exact Or.inl rfl | exact Or.inr rfl))) (fun _ _ _ _ _ => pts_nil) (fun _ _ _ _ _ => (pe_ix (kIX K rfl) (pe_ix (kIX K rfl) (pe_ix (kIX K rfl) (pv 0) (pv 3) (fun _ _ => rfl)) pe_int (fun _ _ => rfl)) (pv 1) (fun _ _ => rfl)))) pa_nil)) pa_nil)))), ?_⟩
  rintro ⟨m, n, k, p⟩ ⟨g, hk, h1, h2⟩ B
  dsimp only [argB] at *
  walk_at "go"
  refine dw_lcM [p.1, p.2] nD (fun l => nD (nxt m l k)) ?_
  refine di_anyT (di_tup ?_)
  walk_at "go"
  refine ⟨fun B' l hl => ?_, ?_⟩
  · have hl : l < m.length := by
      simp at hl
      rcases hl with hl | hl
      · rw [hl]; exact h1
      · rw [hl]; exact h2
    obtain ⟨x, e1, e2, _⟩ := g.at hl hk
    walk_at "go"
    refine rw_ixT (ati e1) ?_
    walk_at "go"
    refine rw_ixT (ati e2) ?_
    walk_at "go"
  · walk_at "go"
    refine rn_sortI (ns := [(nxt m p.1 k : Int), (nxt m p.2 k : Int)]) rfl ?_
    rw [srt2]
    walk_at "go"
    exact rn_tupL rfl rfl
theorem ok_law_behind (T : Tx K mg a) : FnOk P w K mg base CX0 1 a.f18 a.d18 ["machine", "k", "pair"] (spB K) := by
  refine fnI T.F_law_behind sc_law_behind (fun x => ⟨rfl, by decide⟩) fun cdv A outer s H E hr => ⟨_, (pss_one (ps_ret (pe_callTy (kTUP K rfl) (by rfl) T.z_tuple (by decide +kernel) (pa_cons (pe_callB (kSORT K rfl) (by rfl) T.z_sorted (by decide +kernel) (pa_cons (pe_lc (own := [("line", 3)]) (g := gName 3) (by rfl) sc_law_behind.nd (kANY K rfl (pv 2)) (blkOk_by (own := [("line", 3)]) (N := ["machine", "k", "pair", "line"]) (sc := defScope s_law_behind) (by decide +kernel)) (fun _ _ _ _ _ => (pg_name (i := 3) sc_law_behind.nd rfl (by first | exact Or.inl rfl | exact Or.inr rfl))) (fun _ _ _ _ _ => pts_nil) (fun _ _ _ _ _ => (pe_ix (kIX K rfl) (pe_ix (kIX K rfl) (pe_ix (kIX K rfl) (pv 0) (pv 3) (fun _ _ => rfl)) pe_int (fun _ _ => rfl)) (pv 1) (fun _ _ => rfl)))) pa_nil)) pa_nil)))), ?_⟩
  rintro ⟨m, n, k, p⟩ ⟨g, hk, h1, h2⟩ B
  dsimp only [argB] at *
  walk_at "go"
  refine dw_lcM [p.1, p.2] nD (fun l => nD (nxt m l k)) ?_
  refine di_anyT (di_tup ?_)
  walk_at "go"
  refine ⟨fun B' l hl => ?_, ?_⟩
  · have hl : l < m.length := by
      simp at hl
      rcases hl with hl | hl
      · rw [hl]; exact h1
      · rw [hl]; exact h2
    obtain ⟨x, e1, e2, _⟩ := g.at hl hk
    walk_at "go"
    refine rw_ixT (ati e1) ?_
    walk_at "go"
    refine rw_ixT (ati e2) ?_
    walk_at "go"
  · walk_at "go"
    refine rn_sortI (ns := [(nxt m p.1 k : Int), (nxt m p.2 k : Int)]) rfl ?_
    rw [srt2]
    walk_at "go"
    exact rn_tupL rfl rfl
/-! is_line -/
def isLn (n : Nat) : PyData → Bool
  | .int i => decide (0 ≤ i) && decide (i < (n : Int))
  | _ => false
abbrev argL (x : Mach × PyData) : List PyData := [encM x.1, x.2]
abbrev spL (K : PySem.W.Frag) := spI K argL (fun _ => True) (fun x r => r = .p (.d (.bool (isLn x.1.length x.2))))
theorem ok_is_line (T : Tx K mg a) : FnOk P w K mg base CX0 1 a.f10 a.d10 ["machine", "line"] (spL K) := by
  refine fnI T.F_is_line sc_is_line (fun x => ⟨rfl, by decide⟩) fun cdv A outer s H E hr => ⟨_, (pss_one (ps_ret (pe_and (pe_callB (kISI K rfl) (by rfl) T.z_isinstance (by decide +kernel) (pa_cons (pv 1) (pa_cons (pe_bltn (v := .ty "int") (by rfl) T.z_int (by decide +kernel) rfl) pa_nil))) (pe_and (pe_not (pe_callB (kISI K rfl) (by rfl) T.z_isinstance (by decide +kernel) (pa_cons (pv 1) (pa_cons (pe_bltn (v := .ty "bool") (by rfl) T.z_bool (by decide +kernel) rfl) pa_nil)))) (pe_one (pe_chain op_le op_lt pe_int (pv 1) (pe_callB (kLEN K rfl) (by rfl) T.z_len (by decide +kernel) (pa_cons (pv 0) pa_nil)))))))), ?_⟩
  rintro ⟨m, d⟩ _ B
  dsimp only [argL] at *
  walk_at "go"
  refine ite_k (fun h => ?_) (fun h => ?_)
  · walk_at "go"
    refine ite_k (fun h' => ?_) (fun h' => ?_)
    · obtain ⟨i, rfl⟩ := isi_i h (not_f h')
      walk_at "go"
      refine ite_k (fun h1 => ?_) (fun h1 => ?_)
      · walk_at "go"
        simp [isLn, h1]
      · show Rs.p _ = Rs.p _
        simp [isLn, h1]
    · obtain ⟨b, rfl⟩ := isi_b (not_t h')
      rfl
  · have e : isLn m.length d = false := by
      cases d <;> first | rfl | exact absurd h (by simp [isiD, tyN])
    walk_at "go"
    rw [e]
/-! _law_next -/
abbrev argN (x : Stt × Nat) : List PyData := [nD x.2]
def resN (x : Stt × Nat) (l : List PyData) (d : PyData) : Prop := ∃ (st : Stt) (k : Nat), st.ok ∧ l = encS st ∧ d = nD k ∧ k < x.2
abbrev spN (K : PySem.W.Frag) := spJ K (fun x : Stt × Nat => encS x.1) argN (fun x => x.1.ok ∧ 0 < x.2 ∧ x.2 < 1000000000) resN
theorem ok_law_next (T : Tx K mg a) : FnOk P w K mg base CX0 1 a.f12 a.d12 ["state", "limit"] (spN K) := by
  refine fnJ T.F_law_next sc_law_next (fun x => ⟨rfl, by decide⟩) fun cdv A outer s H E hr => ⟨_, (pss_cons (ps_if (PW.pt (pw_and (pt_cmpR (kEQ K rfl hr.units) (pe_ix (kIX K rfl) (pv 0) pe_int (fun _ _ => rfl)) pe_int (nomark _)) (pw_and1 (pt_cmpR op_lt (pe_ix (kIX K rfl) (pv 0) pe_int (fun _ _ => rfl)) (pe_callB (kLEN K rfl) (by rfl) T.z_len (by decide +kernel) (pa_cons (pe_ix (kIX K rfl) (pv 0) pe_int (fun _ _ => rfl)) pa_nil)) (nomark _))))) (pss_cons (ps_set (i := 2) sc_law_next.nd rfl (Or.inl rfl) (pe_ix (kIX K rfl) (pe_ix (kIX K rfl) (pv 0) pe_int (fun _ _ => rfl)) (pe_ix (kIX K rfl) (pv 0) pe_int (fun _ _ => rfl)) (fun _ _ => rfl))) (pss_cons (ps_augS (pv 0) pe_int (kGET K rfl) pe_int ip_add set_list) (pss_one (ps_if (pt_cmpR op_ge (pv 2) (pe_op op_pow pe_int pe_int) (nomark _)) (pss_one (ps_asg (pv 2) (pg_sub (pv 0) pe_int set_list))) (pss_one (ps_asg (pe_op op_mod (pe_callTy call_int1 (by rfl) T.z_int (by decide +kernel) (pa_cons (pe_op (kADD K rfl) (pe_op (kADD K rfl) (pe_op op_mul (pe_ix (kIX K rfl) (pv 0) pe_int (fun _ _ => rfl)) pe_int) (pe_op op_mod (pe_callTy call_int1 (by rfl) T.z_int (by decide +kernel) (pa_cons (pv 2) pa_nil)) pe_int)) pe_int) pa_nil)) pe_int) (pg_sub (pv 0) pe_int set_list))))))) pss_nil) (pss_cons (ps_if (pt_cmpR op_gt (pe_ix (kIX K rfl) (pv 0) pe_int (fun _ _ => rfl)) pe_int (nomark _)) (pss_cons (ps_set (i := 3) sc_law_next.nd rfl (Or.inl rfl) (pe_op op_mod (pe_callTy call_int1 (by rfl) T.z_int (by decide +kernel) (pa_cons (pe_ix (kIX K rfl) (pv 0) pe_int (fun _ _ => rfl)) pa_nil)) (pv 1))) (pss_cons (ps_asg (pe_op op_fdiv (pe_ix (kIX K rfl) (pv 0) pe_int (fun _ _ => rfl)) (pv 1)) (pg_sub (pv 0) pe_int set_list)) (pss_one (ps_ret (pv 3))))) pss_nil) (pss_cons (ps_asg (pe_op op_mod (pe_callTy call_int1 (by rfl) T.z_int (by decide +kernel) (pa_cons (pe_op (kADD K rfl) (pe_op op_mul (pe_ix (kIX K rfl) (pv 0) pe_int (fun _ _ => rfl)) pe_int) pe_int) pa_nil)) pe_int) (pg_sub (pv 0) pe_int set_list)) (pss_one (ps_ret (pe_op op_mod (pe_callTy call_int1 (by rfl) T.z_int (by decide +kernel) (pa_cons (pe_op op_fdiv (pe_ix (kIX K rfl) (pv 0) pe_int (fun _ _ => rfl)) pe_int) pa_nil)) (pv 1))))))), ?_⟩
  rintro ⟨st, n⟩ ⟨⟨h1, h2, h3, h4⟩, h5, h6⟩ p B
  dsimp only [argN] at *
  refine ds_mid' (fun G => ∃ st' c, Stt.ok st' ∧ G = [.o (some p) (encS st'), .d (nD n), c, .un]) ?_ ?_
  · walk_at "go"
    refine ite_k (fun c1 => ?_) (fun c1 => ?_)
    · walk_at "go"
      refine ite_k (fun c2 => ?_) (fun c2 => ?_)
      · have c2 := of_decide_eq_true c2
        obtain ⟨v, hv⟩ : ∃ v, st.xs[st.i]? = some v := by
          rw [List.length_map] at c2
          exact ⟨_, List.getElem?_eq_getElem (by omega)⟩
        walk_at "go"
        refine rw_ixL rfl (ati hv) ?_
        walk_at "go"
        walk_at "go"
        refine ds_augL (i := 0) (a := some p) (ds := encS st) (j := 1) (x := (st.i : Int)) ?_
        walk_at "go"
        refine rw_pow ⟨by decide, by decide, by decide⟩ ?_
        walk_at "go"
        refine ite_k (fun c3 => ?_) (fun c3 => ?_)
        · refine ds_setL (i := 0) (a := some p) (ds := encS { st with i := st.i + 1 }) (j := 2) (d := .int v) ?_
          walk_at "go"
          refine ⟨by simp, ?_⟩
          walk_at "go"
          refine ⟨{ st with i := st.i + 1, c := v }, _, ⟨?_, h2, h3, h4⟩, rfl⟩
          have c3 : (10 : Int) ^ 18 ≤ v := of_decide_eq_true c3
          exact Int.le_trans (by decide) c3
        · refine ds_setL (i := 0) (a := some p) (ds := encS { st with i := st.i + 1 }) (j := 3) (d := .int ((st.s * 48271 + v % 2147483647 + 7) % 2147483647)) ?_
          walk_at "go"
          refine ⟨by simp, ?_⟩
          walk_at "go"
          exact ⟨{ st with i := st.i + 1, s := (st.s * 48271 + v % 2147483647 + 7) % 2147483647 }, _, ⟨h1, Int.emod_nonneg _ (by decide), Int.emod_lt_of_pos _ (by decide), h4⟩, rfl⟩
      · walk_at "go"
        exact ⟨st, _, ⟨h1, h2, h3, h4⟩, rfl⟩
    · walk_at "go"
      exact ⟨st, _, ⟨h1, h2, h3, h4⟩, rfl⟩
  · rintro G1 ⟨st', c, ⟨g1, g2, g3, g4⟩, rfl⟩
    have nn : (0 : Int) < (n : Int) := by omega
    walk_at "go"
    refine ite_k (fun c1 => ?_) (fun c1 => ?_)
    · have c1 := of_decide_eq_true c1
      walk_at "go"
      refine ds_setL (i := 0) (a := some p) (ds := encS st') (j := 2) (d := .int (st'.c / n)) ?_
      walk_at "go"
      refine ⟨by simp, ?_⟩
      walk_at "go"
      refine rt_E1 (ls := encS { st' with c := st'.c / n }) rfl ?_
      refine ⟨{ st' with c := st'.c / n }, (st'.c % n).toNat, ⟨Int.ediv_nonneg g1 (by omega), g2, g3, g4⟩, rfl, ?_, ?_⟩
      · have := Int.emod_nonneg st'.c (b := n) (by omega)
        show PyData.int _ = PyData.int _
        congr 1
        omega
      · have := Int.emod_lt_of_pos st'.c nn
        have := Int.emod_nonneg st'.c (b := n) (by omega)
        show (st'.c % n).toNat < n
        omega
    · walk_at "go"
      refine ds_setL (i := 0) (a := some p) (ds := encS st') (j := 3) (d := .int ((st'.s * 69621 + 12345) % 2147483647)) ?_
      walk_at "go"
      refine ⟨by simp, ?_⟩
      walk_at "go"
      refine rt_E1 (ls := encS { st' with s := (st'.s * 69621 + 12345) % 2147483647 }) rfl ?_
      refine ⟨{ st' with s := (st'.s * 69621 + 12345) % 2147483647 }, ((st'.s * 69621 + 12345) % 2147483647 / 7 % n).toNat, ⟨g1, Int.emod_nonneg _ (by decide), Int.emod_lt_of_pos _ (by decide), g4⟩, rfl, ?_, ?_⟩
      · have := Int.emod_nonneg ((st'.s * 69621 + 12345) % 2147483647 / 7) (b := n) (by omega)
        show PyData.int _ = PyData.int _
        congr 1
        omega
      · have := Int.emod_lt_of_pos ((st'.s * 69621 + 12345) % 2147483647 / 7) nn
        have := Int.emod_nonneg ((st'.s * 69621 + 12345) % 2147483647 / 7) (b := n) (by omega)
        show ((st'.s * 69621 + 12345) % 2147483647 / 7 % n).toNat < n
        omega
end
end K66
namespace K66
open PySem PySem.Spec PyProof.Rows L2 DL
local macro_rules | `(tactic| walk_at "st") => `(tactic| with_reducible first
  | refine pw_p ?_ | refine pw_o ?_ | refine dw_op ?_ | refine dw_un ?_ | refine dw_int ?_ | refine dw_str ?_ | refine dw_bl ?_ | refine dw_non ?_ | refine dw_ty ?_ | refine da_nil' ?_ | refine da_cons' ?_ | refine dw_sortSet ?_ | refine dw_lenSet ?_ | refine dw_CB ?_ | refine dw_BM ?_ | refine dw_BM0 ?_
  | refine dw_tup ?_ | refine dw_lst ?_ | refine dw_notV ?_ | refine dw_and ?_ | refine dw_or ?_ | refine dw_if ?_ | refine dw_chain ?_ | refine dw_sl3 ?_ | refine dw_revT ?_ | refine dw_tupRg1 ?_ | refine dw_lstRg1 ?_ | refine dw_callI ?_ | refine dw_callJ ?_
  | refine dt_test ?_ | refine dt_B ?_ | refine dt_and ?_ | refine dt_or ?_ | refine dt_not ?_ | refine dt_yes ?_ | refine dt_truth ?_
  | refine ds_ret ?_ | refine ds_retN ?_ | refine ds_next ?_ | refine ds_break ?_ | refine ds_cont ?_ | refine ds_drop ?_ | refine ds_if ?_ | refine ds_set ?_
  | refine nx_nxt ?_ | refine rt_nxt ?_ | refine bk_nxt ?_ | refine ct_nxt ?_ | refine nx_lp ?_ | refine rt_lp ?_ | refine bk_lp ?_ | refine ct_lp ?_ | refine asn_d ?_ | refine asn_fr ?_ | refine rt_E0 ?_ | refine rt_E0o ?_ | refine nx_E0 ?_
  | refine dw_newT ?_ | refine dw_dIn ?_ | refine dw_dNotIn ?_ | refine dw_dGet ?_ | refine ds_dPut ?_
  | refine tr_b ?_ | refine tr_i ?_ | refine tr_n ?_ | refine tr_T ?_ | refine tr_L ?_
  | refine do_none ?_ | refine do_some ?_ | refine ite_t ?_ | refine ite_f ?_
  | refine rw_addI ?_ | refine rw_sub ?_ | refine rw_cmp ?_ | refine rw_eqI ?_ | refine rw_neI ?_ | refine rw_eqS ?_ | refine rw_neS ?_ | refine rw_eqB ?_ | refine rw_neB ?_ | refine isN_d ?_ | refine notN_d ?_ | refine rw_isB ?_ | refine rw_notB ?_
  | refine rn_intI ?_ | refine rn_intB ?_ | refine rn_max ?_ | refine rn_min ?_ | refine rn_lenT ?_ | refine rn_lenD ?_ | refine isi_int ?_ | refine isi_bool ?_ | refine isi_str ?_ | refine isi_tuple ?_ | refine isi_list ?_ | refine rn_tupT ?_ | refine rn_listT ?_
  | refine ⟨_, rfl, ?_⟩
  | fail)
local macro_rules | `(tactic| walk_at "va") => `(tactic| first
  | ((with_reducible apply dw_var); rfl) | ((with_reducible apply dw_sl); rfl) | ((with_reducible apply dw_slT); rfl)
  | ((with_reducible apply rw_ixL); rfl; rfl) | ((with_reducible apply rw_ixT); rfl)
  | ((with_reducible apply ite_T); rfl) | ((with_reducible apply ite_F); rfl) | ((with_reducible apply tr_o); rfl)
  | refine ⟨_, rfl, szl (Nat.le_of_ble_eq_true rfl), ?_⟩
  | (with_reducible refine rw_mod (by omega) ?_)
  | (with_reducible refine rw_fdiv (by unfold CDiv; omega) ?_)
  | (with_reducible refine rw_mul (by unfold CMul; omega) ?_)
  | refine ⟨szl (Nat.le_of_ble_eq_true rfl), ?_⟩
  | refine ⟨rfl, ?_⟩
  | rfl
  | fail)
local macro_rules | `(tactic| walk_at "go") => `(tactic| repeat' (first | walk_at "st" | (with_reducible refine ds_seq' ?_) | walk_at "va" | fail))
local macro_rules | `(tactic| walk_at "gs") => `(tactic| repeat' (first | walk_at "st" | walk_at "va" | fail))
section
variable {P : Program} {w : World} {K : PySem.W.Frag} {mg : Str → Option Value} {base : Heap} {a : Ad}
theorem ok_law_is_line (T : Tx K mg a) : FnOk P w K mg base CX0 1 a.f21 a.d21 ["machine", "value"] (spL K) := by
  refine fnI T.F_law_is_line sc_law_is_line (fun x => ⟨rfl, by decide⟩) fun cdv A outer s H E hr => ⟨_, (pss_one (ps_ret (pe_and (pe_callB (kISI K rfl) (by rfl) T.z_isinstance (by decide +kernel) (pa_cons (pv 1) (pa_cons (pe_bltn (v := .ty "int") (by rfl) T.z_int (by decide +kernel) rfl) pa_nil))) (pe_and (pe_not (pe_callB (kISI K rfl) (by rfl) T.z_isinstance (by decide +kernel) (pa_cons (pv 1) (pa_cons (pe_bltn (v := .ty "bool") (by rfl) T.z_bool (by decide +kernel) rfl) pa_nil)))) (pe_one (pe_chain op_le op_lt pe_int (pv 1) (pe_callB (kLEN K rfl) (by rfl) T.z_len (by decide +kernel) (pa_cons (pv 0) pa_nil)))))))), ?_⟩
  rintro ⟨m, d⟩ _ B
  dsimp only [argL] at *
  walk_at "go"
  refine ite_k (fun h => ?_) (fun h => ?_)
  · walk_at "go"
    refine ite_k (fun h' => ?_) (fun h' => ?_)
    · obtain ⟨i, rfl⟩ := isi_i h (not_f h')
      walk_at "go"
      refine ite_k (fun h1 => ?_) (fun h1 => ?_)
      · walk_at "st"
        walk_at "go"
        simp [isLn, h1]
      · walk_at "go"
        simp [isLn, h1]
    · obtain ⟨b, rfl⟩ := isi_b (not_t h')
      rfl
  · have e : isLn m.length d = false := by
      cases d <;> first | rfl | exact absurd h (by simp [isiD, tyN])
    walk_at "go"
    rw [e]
/-! _law_signs -/
def sigs : List (List Nat) := [[97, 98], [97, 98, 99], [97, 99], [98, 100, 122], [97, 98], [97, 98, 99, 100]]
abbrev zD (z : List Nat) : PyData := .str (mkS z)
theorem sigs_ok {z : List Nat} (h : z ∈ sigs) : z.Nodup ∧ 2 ≤ z.length ∧ z.length ≤ 4 := (by decide : ∀ z ∈ sigs, z.Nodup ∧ 2 ≤ z.length ∧ z.length ≤ 4) z h
def resS (_ : Stt) (l : List PyData) (d : PyData) : Prop := ∃ (st : Stt) (z : List Nat), st.ok ∧ l = encS st ∧ d = zD z ∧ z ∈ sigs
abbrev spS (K : PySem.W.Frag) := spJ K (fun x : Stt => encS x) (fun _ => []) (fun x => x.ok) resS
theorem ok_law_signs (T : Tx K mg a) (G_law_next : FnOk P w K mg base CX0 1 a.f12 a.d12 ["state", "limit"] (spN K)) : FnOk P w K mg base CX0 2 a.f14 a.d14 ["state"] (spS K) := by
  refine fnJ T.F_law_signs sc_law_signs (fun x => ⟨rfl, by decide⟩) fun cdv A outer s H E hr => ⟨_, (pss_one (ps_ret (pe_ix (kIX K rfl) (pe_lst (pa_cons (pe_strM [97, 98] rfl) (pa_cons (pe_strM [97, 98, 99] rfl) (pa_cons (pe_strM [97, 99] rfl) (pa_cons (pe_strM [98, 100, 122] rfl) (pa_cons (pe_strM [97, 98] rfl) (pa_cons (pe_strM [97, 98, 99, 100] rfl) pa_nil))))))) (pe_call G_law_next hr (by rfl) T.m_law_next T.k_law_next T.b_law_next .nil pass0 (pa_cons (pv 0) (pa_cons pe_int pa_nil))) (fun _ _ => rfl)))), ?_⟩
  rintro st hst p B
  walk_at "go"
  refine ⟨(st, 6), 0, some p, _, ⟨hst, by simp, by simp⟩, rfl, rfl, rfl, ?_⟩
  rintro _ _ ⟨st', k, hst', rfl, rfl, hk⟩
  walk_at "go"
  obtain ⟨z, hz⟩ : ∃ z, sigs[k]? = some z := ⟨_, List.getElem?_eq_getElem hk⟩
  refine rw_ixL rfl (ati (f := zD) (xs := sigs) hz) ?_
  walk_at "go"
  exact rt_E1 rfl ⟨st', z, hst', rfl, rfl, List.mem_of_getElem? hz⟩
/-! _law_line -/
def run (m : Mach) (z : List Nat) (l : Nat) (row : List Nat) : Nat := row.foldl (fun l c => nxt m l (z.idxOf c)) l
abbrev argR (x : Mach × List Nat × Nat × List Nat) : List PyData := [encM x.1, zD x.2.1, nD x.2.2.1, zD x.2.2.2]
def preR (x : Mach × List Nat × Nat × List Nat) : Prop := Good x.1 x.2.1.length ∧ x.2.2.1 < x.1.length ∧ ∀ c ∈ x.2.2.2, c ∈ x.2.1
abbrev spR (K : PySem.W.Frag) := spI K argR preR (fun x r => r = .p (.d (nD (run x.1 x.2.1 x.2.2.1 x.2.2.2))))
theorem run_lt {m : Mach} {z : List Nat} (g : Good m z.length) : ∀ {row : List Nat} {l : Nat}, l < m.length → (∀ c ∈ row, c ∈ z) → run m z l row < m.length
  | [], _, h, _ => h
  | c :: row, l, h, hr => by
    obtain ⟨x, _, _, e⟩ := g.at h (List.idxOf_lt_length_of_mem (hr c List.mem_cons_self))
    exact run_lt (row := row) g e fun c hc => hr c (List.mem_cons_of_mem _ hc)
theorem ok_law_line (T : Tx K mg a) : FnOk P w K mg base CX0 1 a.f16 a.d16 ["machine", "signs", "line", "row"] (spR K) := by
  refine fnI T.F_law_line sc_law_line (fun x => ⟨rfl, by decide⟩) fun cdv A outer s H E hr => ⟨_, (pss_cons (ps_for PassesOwn.never rfl (kANY K rfl (pv 3)) (pg_name (i := 4) sc_law_line.nd rfl (Or.inl rfl)) (pss_one (ps_set (i := 2) sc_law_line.nd rfl (Or.inl rfl) (pe_ix (kIX K rfl) (pe_ix (kIX K rfl) (pe_ix (kIX K rfl) (pv 0) (pv 2) (fun _ _ => rfl)) pe_int (fun _ _ => rfl)) (kBM K rfl (pe_bm PySem.F.plainAttrs_str PySem.F.slot_str_index PySem.F.type_str_index mt_sindex (pv 1) (pa_cons (pv 4) pa_nil))) (fun _ _ => rfl))))) (pss_one (ps_ret (pv 2)))), ?_⟩
  rintro ⟨m, z, l, row⟩ ⟨g, hl, hr⟩ B
  dsimp only [argR] at *
  walk_at "go"
  refine ds_forE' (ch := [4]) ?_
  refine di_anyS (di_str ?_)
  walk_at "go"
  refine ⟨fun i G => ∃ s, G = [.d (encM m), .d (zD z), .d (nD (run m z l (row.take i))), .d (zD row), s], ⟨_, rfl⟩, fun i G2 d hd ⟨s, hG⟩ => ?_, fun G2 ⟨s, hG⟩ => ?_⟩
  · subst hG
    rw [List.getElem?_map] at hd
    obtain ⟨c, hc, rfl⟩ := Option.map_eq_some_iff.mp hd
    have hcz : c ∈ z := hr c (List.mem_of_getElem? hc)
    have hlt : run m z l (row.take i) < m.length := run_lt g hl fun c hc => hr c (List.mem_of_mem_take hc)
    obtain ⟨x, e1, e2, _⟩ := g.at hlt (List.idxOf_lt_length_of_mem hcz)
    refine dg_name ?_
    walk_at "go"
    refine rw_ixT (ati e1) ?_
    walk_at "go"
    refine rm_sindex hcz ?_
    walk_at "go"
    refine rw_ixT (ati e2) ?_
    walk_at "go"
    refine ⟨.d (zD [c]), ?_⟩
    rw [List.take_succ, hc]
    show _ = [Sl.d (encM m), Sl.d (zD z), Sl.d (nD (run m z l (row.take i ++ [c]))), Sl.d (zD row), _]
    unfold run
    rw [List.foldl_append]
    rfl
  · subst hG
    rw [List.length_map, List.take_length]
    walk_at "go"
/-! _law_row -/
abbrev argW (x : Stt × List Nat × Nat) : List PyData := [zD x.2.1, nD x.2.2]
def resW (x : Stt × List Nat × Nat) (l : List PyData) (d : PyData) : Prop := ∃ (st : Stt) (row : List Nat), st.ok ∧ l = encS st ∧ d = zD row ∧ row.length ≤ x.2.2 ∧ ∀ c ∈ row, c ∈ x.2.1
abbrev spW (K : PySem.W.Frag) := spJ K (fun x : Stt × List Nat × Nat => encS x.1) argW (fun x => x.1.ok ∧ 0 < x.2.1.length ∧ x.2.1.length ≤ 1000 ∧ x.2.2 ≤ 1000) resW
theorem ok_law_row (T : Tx K mg a) (G_law_next : FnOk P w K mg base CX0 1 a.f12 a.d12 ["state", "limit"] (spN K)) : FnOk P w K mg base CX0 2 a.f17 a.d17 ["state", "signs", "most"] (spW K) := by
  refine fnJ T.F_law_row sc_law_row (fun x => ⟨rfl, by decide⟩) fun cdv A outer s H E hr => ⟨_, (pss_one (ps_ret (kBM K rfl (pe_bm PySem.F.plainAttrs_str PySem.F.slot_str_join PySem.F.type_str_join (kJOIN K rfl) (pe_strM [] rfl) (pa_cons (pe_lc (own := [("k", 3)]) (g := gName 3) (by rfl) sc_law_row.nd (pi_range1 (by rfl) T.z_range (pa_cons (pe_call G_law_next hr (by rfl) T.m_law_next T.k_law_next T.b_law_next .nil pass0 (pa_cons (pv 0) (pa_cons (pe_op (kADD K rfl) (pv 2) pe_int) pa_nil))) pa_nil)) (blkOk_by (own := [("k", 3)]) (N := ["state", "signs", "most", "k"]) (sc := defScope s_law_row) (by decide +kernel)) (fun _ _ _ _ _ => (pg_name (i := 3) sc_law_row.nd rfl (by first | exact Or.inl rfl | exact Or.inr rfl))) (fun _ _ _ _ _ => pts_nil) (fun _ _ _ _ _ => (pe_ix (kIX K rfl) (pv 1) (pe_call G_law_next hr (by rfl) T.m_law_next T.k_law_next T.b_law_next .nil pass0 (pa_cons (pv 0) (pa_cons (pe_callB (kLEN K rfl) (by rfl) T.z_len (by decide +kernel) (pa_cons (pv 1) pa_nil)) pa_nil))) (fun _ _ => rfl)))) pa_nil))))), ?_⟩
  rintro ⟨st, z, n⟩ ⟨hst, h1, h2, h3⟩ p B
  dsimp only [argW] at *
  walk_at "go"
  refine dw_lcE (ch := [3]) (fun k hk => hk) ?_
  refine di_rng1 ?_
  walk_at "go"
  refine ⟨(st, n + 1), 0, some p, _, ⟨hst, Nat.succ_pos n, by show n + 1 < 1000000000; omega⟩, rfl, rfl, rfl, ?_⟩
  rintro _ _ ⟨st1, k, hst1, rfl, rfl, hk⟩
  have hk : k < n + 1 := hk
  walk_at "go"
  refine ⟨by omega, by omega, fun i acc G => ∃ st' cs, Stt.ok st' ∧ acc = cs.map (fun c => zD [c]) ∧ cs.length = i ∧ (∀ c ∈ cs, c ∈ z) ∧ G = [.o (some p) (encS st'), .d (zD z), .d (nD n), .un], ⟨st1, [], hst1, rfl, rfl, (fun c h => nomatch h), rfl⟩, fun B' i acc G2 d hd ⟨st', cs, hst', ha, hl, hc, hG⟩ => ?_, fun acc G2 ⟨st', cs, hst', ha, hl, hc, hG⟩ => ?_⟩
  · subst hG ha
    have hi : i < k := by
      obtain ⟨h, _⟩ := rngD_get hd
      simpa using h
    refine dg_name ?_
    walk_at "go"
    refine rn_lenS (szl (by omega)) ?_
    walk_at "go"
    refine ⟨(st', z.length), 0, some p, _, ⟨hst', h1, by show z.length < 1000000000; omega⟩, rfl, rfl, rfl, ?_⟩
    rintro _ _ ⟨st2, j, hst2, rfl, rfl, hj⟩
    have hj : j < z.length := hj
    walk_at "go"
    obtain ⟨c, hcz⟩ : ∃ c, z[j]? = some c := ⟨_, List.getElem?_eq_getElem hj⟩
    refine rw_ixS (szl (by omega)) (atn hcz) ?_
    walk_at "go"
    refine ⟨szlt (by rw [List.length_map]; omega), st2, cs ++ [c], hst2, by rw [List.map_append]; rfl, by simp [hl], fun c' h' => ?_, rfl⟩
    rcases List.mem_append.mp h' with h' | h'
    · exact hc c' h'
    · rw [List.mem_singleton.mp h']
      exact List.mem_of_getElem? hcz
  · subst hG ha
    walk_at "go"
    have hn : cs.length ≤ n := by
      rw [rngD_len] at hl
      simp at hl
      omega
    refine rm_join0 rfl (by omega) ?_
    exact rt_E1 rfl ⟨st', cs, hst', rfl, rfl, hn, hc⟩
/-! _law_same -/
def SD : Nat → PyData → Prop
  | 0, _ => False
  | n + 1, .tuple xs => xs.length ≤ 1000000 ∧ ∀ x ∈ xs, SD n x
  | _ + 1, .none => True
  | _ + 1, .bool _ => True
  | _ + 1, .int _ => True
  | _ + 1, .str _ => True
  | _ + 1, _ => False
abbrev spQ (K : PySem.W.Frag) (n : Nat) := spI K (fun d : PyData => [d, d]) (SD n) (fun _ r => r = .p (.d (.bool true)))
theorem ok_law_same (T : Tx K mg a) : ∀ n : Nat, FnOk P w K mg base CX0 (n + 1) a.f13 a.d13 ["actual", "expected"] (spQ K n)
  | 0 => fnEx fun x h => h.elim
  | n + 1 => by
    have G_law_same := ok_law_same T n
    refine fnI T.F_law_same sc_law_same (fun x => ⟨rfl, by decide⟩) fun cdv A outer s H E hr => ⟨_, (pss_cons (ps_if (pt_cmpR op_isN (pv 1) pe_non (nomark _)) (pss_one (ps_ret (pe_cmpR op_isN (pv 0) pe_non (nomark _)))) pss_nil) (pss_cons (ps_if (kTRUTH K rfl (pe_callB (kISI K rfl) (by rfl) T.z_isinstance (by decide +kernel) (pa_cons (pv 1) (pa_cons (pe_bltn (v := .ty "bool") (by rfl) T.z_bool (by decide +kernel) rfl) pa_nil))) (by intro _; rfl)) (pss_one (ps_ret (pe_and (pe_callB (kISI K rfl) (by rfl) T.z_isinstance (by decide +kernel) (pa_cons (pv 0) (pa_cons (pe_bltn (v := .ty "bool") (by rfl) T.z_bool (by decide +kernel) rfl) pa_nil))) (pe_one (pe_cmpR (kEQ K rfl hr.units) (pv 0) (pv 1) (nomark _)))))) pss_nil) (pss_cons (ps_if (kTRUTH K rfl (pe_callB (kISI K rfl) (by rfl) T.z_isinstance (by decide +kernel) (pa_cons (pv 1) (pa_cons (pe_bltn (v := .ty "int") (by rfl) T.z_int (by decide +kernel) rfl) pa_nil))) (by intro _; rfl)) (pss_one (ps_ret (pe_and (pe_callB (kISI K rfl) (by rfl) T.z_isinstance (by decide +kernel) (pa_cons (pv 0) (pa_cons (pe_bltn (v := .ty "int") (by rfl) T.z_int (by decide +kernel) rfl) pa_nil))) (pe_and (pe_not (pe_callB (kISI K rfl) (by rfl) T.z_isinstance (by decide +kernel) (pa_cons (pv 0) (pa_cons (pe_bltn (v := .ty "bool") (by rfl) T.z_bool (by decide +kernel) rfl) pa_nil)))) (pe_one (pe_cmpR (kEQ K rfl hr.units) (pv 0) (pv 1) (nomark _))))))) pss_nil) (pss_cons (ps_if (kTRUTH K rfl (pe_callB (kISI K rfl) (by rfl) T.z_isinstance (by decide +kernel) (pa_cons (pv 1) (pa_cons (pe_bltn (v := .ty "str") (by rfl) T.z_str (by decide +kernel) rfl) pa_nil))) (by intro _; rfl)) (pss_one (ps_ret (pe_and (pe_callB (kISI K rfl) (by rfl) T.z_isinstance (by decide +kernel) (pa_cons (pv 0) (pa_cons (pe_bltn (v := .ty "str") (by rfl) T.z_str (by decide +kernel) rfl) pa_nil))) (pe_one (pe_cmpR (kEQ K rfl hr.units) (pv 0) (pv 1) (nomark _)))))) pss_nil) (pss_cons (ps_if (PW.pt (pw_and (kTRUTH K rfl (pe_callB (kISI K rfl) (by rfl) T.z_isinstance (by decide +kernel) (pa_cons (pv 1) (pa_cons (pe_bltn (v := .ty "tuple") (by rfl) T.z_tuple (by decide +kernel) rfl) pa_nil))) (by intro _; rfl)) (pw_and1 (pt_not (kTRUTH K rfl (pe_callB (kISI K rfl) (by rfl) T.z_isinstance (by decide +kernel) (pa_cons (pv 0) (pa_cons (pe_bltn (v := .ty "tuple") (by rfl) T.z_tuple (by decide +kernel) rfl) pa_nil))) (by intro _; rfl)))))) (pss_one (ps_ret pe_bl)) pss_nil) (pss_cons (ps_if (PW.pt (pw_and (kTRUTH K rfl (pe_callB (kISI K rfl) (by rfl) T.z_isinstance (by decide +kernel) (pa_cons (pv 1) (pa_cons (pe_bltn (v := .ty "list") (by rfl) T.z_list (by decide +kernel) rfl) pa_nil))) (by intro _; rfl)) (pw_and1 (pt_not (kTRUTH K rfl (pe_callB (kISI K rfl) (by rfl) T.z_isinstance (by decide +kernel) (pa_cons (pv 0) (pa_cons (pe_bltn (v := .ty "list") (by rfl) T.z_list (by decide +kernel) rfl) pa_nil))) (by intro _; rfl)))))) (pss_one (ps_ret pe_bl)) pss_nil) (pss_cons (ps_if (pt_cmpR (kNE K rfl hr.units) (pe_callB (kLEN K rfl) (by rfl) T.z_len (by decide +kernel) (pa_cons (pv 0) pa_nil)) (pe_callB (kLEN K rfl) (by rfl) T.z_len (by decide +kernel) (pa_cons (pv 1) pa_nil)) (nomark _)) (pss_one (ps_ret pe_bl)) pss_nil) (pss_cons (ps_for PassesOwn.never rfl (pi_range1 (by rfl) T.z_range (pa_cons (pe_callB (kLEN K rfl) (by rfl) T.z_len (by decide +kernel) (pa_cons (pv 1) pa_nil)) pa_nil)) (pg_name (i := 2) sc_law_same.nd rfl (Or.inl rfl)) (pss_one (ps_if (pt_not (kTRUTH K rfl (pe_call G_law_same hr (by rfl) T.m_law_same T.k_law_same T.b_law_same .nil pass0 (pa_cons (pe_ix (kIX K rfl) (pv 0) (pv 2) (fun _ _ => rfl)) (pa_cons (pe_ix (kIX K rfl) (pv 1) (pv 2) (fun _ _ => rfl)) pa_nil))) (by intro _; rfl))) (pss_one (ps_ret pe_bl)) pss_nil))) (pss_one (ps_ret pe_bl)))))))))), ?_⟩
    intro d hd B
    walk_at "go"
    cases d with
    | none => walk_at "go"
    | bool b =>
      walk_at "go"
      simp
    | int i =>
      walk_at "go"
      simp
    | str s =>
      walk_at "go"
      simp
    | list xs => exact hd.elim
    | dict xs => exact hd.elim
    | tuple xs =>
      obtain ⟨hz, hx⟩ := hd
      walk_at "go"
      refine ite_F (by simp) ?_
      walk_at "go"
      refine ds_forE' (ch := [2]) ?_
      refine di_rng1 ?_
      walk_at "go"
      refine ⟨by omega, by omega, fun i G => ∃ s, G = [.d (.tuple xs), .d (.tuple xs), s], ⟨_, rfl⟩, fun i G2 d hd ⟨s, hG⟩ => ?_, fun G2 ⟨s, hG⟩ => ?_⟩
      · subst hG
        obtain ⟨hi, rfl⟩ := rngD_get hd
        have hi : i < xs.length := by simpa using hi
        have hg : xs[i]? = some xs[i] := List.getElem?_eq_getElem hi
        have e0 : (0 : Int) + (i : Int) = (i : Int) := by omega
        rw [e0]
        refine dg_name ?_
        walk_at "go"
        refine rw_ixT (atn hg) ?_
        walk_at "go"
        refine rw_ixT (atn hg) ?_
        walk_at "go"
        refine ⟨xs[i], hx _ (List.getElem_mem hi), rfl, ?_⟩
        rintro _ rfl
        walk_at "go"
        exact ⟨_, rfl⟩
      · subst hG
        walk_at "go"
end
end K66
namespace K66
open PySem PySem.Spec PyProof.Rows L2 DL
local macro_rules | `(tactic| walk_at "st") => `(tactic| with_reducible first
  | refine pw_p ?_ | refine pw_o ?_ | refine dw_op ?_ | refine dw_un ?_ | refine dw_int ?_ | refine dw_str ?_ | refine dw_bl ?_ | refine dw_non ?_ | refine dw_ty ?_ | refine da_nil' ?_ | refine da_cons' ?_ | refine dw_sortSet ?_ | refine dw_lenSet ?_ | refine dw_CB ?_ | refine dw_BM ?_ | refine dw_BM0 ?_
  | refine dw_tup ?_ | refine dw_lst ?_ | refine dw_notV ?_ | refine dw_and ?_ | refine dw_or ?_ | refine dw_if ?_ | refine dw_chain ?_ | refine dw_sl3 ?_ | refine dw_revT ?_ | refine dw_tupRg1 ?_ | refine dw_lstRg1 ?_ | refine dw_callI ?_ | refine dw_callJ ?_
  | refine dt_test ?_ | refine dt_B ?_ | refine dt_and ?_ | refine dt_or ?_ | refine dt_not ?_ | refine dt_yes ?_ | refine dt_truth ?_
  | refine ds_ret ?_ | refine ds_retN ?_ | refine ds_next ?_ | refine ds_break ?_ | refine ds_cont ?_ | refine ds_drop ?_ | refine ds_if ?_ | refine ds_set ?_
  | refine nx_nxt ?_ | refine rt_nxt ?_ | refine bk_nxt ?_ | refine ct_nxt ?_ | refine nx_lp ?_ | refine rt_lp ?_ | refine bk_lp ?_ | refine ct_lp ?_ | refine asn_d ?_ | refine asn_fr ?_ | refine rt_E0 ?_ | refine rt_E0o ?_ | refine nx_E0 ?_
  | refine dw_newT ?_ | refine dw_dIn ?_ | refine dw_dNotIn ?_ | refine dw_dGet ?_ | refine ds_dPut ?_
  | refine tr_b ?_ | refine tr_i ?_ | refine tr_n ?_ | refine tr_T ?_ | refine tr_L ?_
  | refine do_none ?_ | refine do_some ?_ | refine ite_t ?_ | refine ite_f ?_
  | refine rw_addI ?_ | refine rw_sub ?_ | refine rw_cmp ?_ | refine rw_eqI ?_ | refine rw_neI ?_ | refine rw_eqS ?_ | refine rw_neS ?_ | refine rw_eqB ?_ | refine rw_neB ?_ | refine isN_d ?_ | refine notN_d ?_ | refine rw_isB ?_ | refine rw_notB ?_
  | refine rn_intI ?_ | refine rn_intB ?_ | refine rn_max ?_ | refine rn_min ?_ | refine rn_lenT ?_ | refine rn_lenD ?_ | refine isi_int ?_ | refine isi_bool ?_ | refine isi_str ?_ | refine isi_tuple ?_ | refine isi_list ?_ | refine rn_tupT ?_ | refine rn_listT ?_
  | refine ⟨_, rfl, ?_⟩
  | fail)
local macro_rules | `(tactic| walk_at "va") => `(tactic| first
  | ((with_reducible apply dw_var); rfl) | ((with_reducible apply dw_sl); rfl) | ((with_reducible apply dw_slT); rfl)
  | ((with_reducible apply rw_ixL); rfl; rfl) | ((with_reducible apply rw_ixT); rfl)
  | ((with_reducible apply ite_T); rfl) | ((with_reducible apply ite_F); rfl) | ((with_reducible apply tr_o); rfl)
  | refine ⟨_, rfl, szl (Nat.le_of_ble_eq_true rfl), ?_⟩
  | (with_reducible refine rw_mod (by omega) ?_)
  | (with_reducible refine rw_fdiv (by unfold CDiv; omega) ?_)
  | (with_reducible refine rw_mul (by unfold CMul; omega) ?_)
  | refine ⟨szl (Nat.le_of_ble_eq_true rfl), ?_⟩
  | refine ⟨rfl, ?_⟩
  | rfl
  | fail)
local macro_rules | `(tactic| walk_at "go") => `(tactic| repeat' (first | walk_at "st" | (with_reducible refine ds_seq' ?_) | walk_at "va" | fail))
local macro_rules | `(tactic| walk_at "gs") => `(tactic| repeat' (first | walk_at "st" | walk_at "va" | fail))
section
variable {P : Program} {w : World} {K : PySem.W.Frag} {mg : Str → Option Value} {base : Heap} {a : Ad}
/-! _law_machine -/
abbrev argM (x : Stt × List Nat) : List PyData := [zD x.2]
def resM (x : Stt × List Nat) (l : List PyData) (d : PyData) : Prop := ∃ (st : Stt) (m : Mach), st.ok ∧ l = encS st ∧ d = encM m ∧ Good m x.2.length ∧ 1 ≤ m.length ∧ m.length ≤ 10
abbrev spM (K : PySem.W.Frag) := spJ K (fun x : Stt × List Nat => encS x.1) argM (fun x => x.1.ok ∧ 0 < x.2.length ∧ x.2.length ≤ 1000) resM
theorem nD_of {x : Int} (h : 0 ≤ x) : PyData.int x = nD x.toNat := by
  show PyData.int x = PyData.int (x.toNat : Int)
  rw [Int.toNat_of_nonneg h]
def manyL : List Nat := [6, 6, 6, 10]
theorem ok_law_machine (T : Tx K mg a) (G_law_next : FnOk P w K mg base CX0 1 a.f12 a.d12 ["state", "limit"] (spN K)) : FnOk P w K mg base CX0 2 a.f15 a.d15 ["state", "signs"] (spM K) := by
  refine fnJ T.F_law_machine sc_law_machine (fun x => ⟨rfl, by decide⟩) fun cdv A outer s H E hr => ⟨_, (pss_cons (ps_set (i := 2) sc_law_machine.nd rfl (Or.inr rfl) (pe_op (kADD K rfl) pe_int (pe_call G_law_next hr (by rfl) T.m_law_next T.k_law_next T.b_law_next .nil pass0 (pa_cons (pv 0) (pa_cons (pe_ix (kIX K rfl) (pe_lst (pa_cons pe_int (pa_cons pe_int (pa_cons pe_int (pa_cons pe_int pa_nil))))) (pe_call G_law_next hr (by rfl) T.m_law_next T.k_law_next T.b_law_next .nil pass0 (pa_cons (pv 0) (pa_cons pe_int pa_nil))) (fun _ _ => rfl)) pa_nil))))) (pss_cons (ps_set (i := 3) sc_law_machine.nd rfl (Or.inl rfl) (pe_call G_law_next hr (by rfl) T.m_law_next T.k_law_next T.b_law_next .nil pass0 (pa_cons (pv 0) (pa_cons pe_int pa_nil)))) (pss_cons (ps_setLc (i := 4) (own := [("sign", 10)]) (g := gName 10) (by rfl) sc_law_machine.nd rfl rfl (sw_true rfl rfl rfl (by decide +kernel)) (kANY K rfl (pv 1)) (blkOk_by (own := [("sign", 10)]) (N := ["state", "signs", "many", "kind", "steps", "lines", "line", "nexts", "k", "pick", "sign"]) (sc := defScope s_law_machine) (by decide +kernel)) (fun _ _ _ _ _ => (pg_name (i := 10) sc_law_machine.nd rfl (by first | exact Or.inl rfl | exact Or.inr rfl))) (fun _ _ _ _ _ => pts_nil) (fun _ _ _ _ _ => (pe_call G_law_next hr (by rfl) T.m_law_next T.k_law_next T.b_law_next .nil pass0 (pa_cons (pv 0) (pa_cons (pv 2) pa_nil))))) (pss_cons (ps_set (i := 5) sc_law_machine.nd rfl (Or.inl rfl) (pe_lst pa_nil)) (pss_cons (ps_for PassesOwn.never rfl (pi_range1 (by rfl) T.z_range (pa_cons (pv 2) pa_nil)) (pg_name (i := 6) sc_law_machine.nd rfl (Or.inl rfl)) (pss_cons (ps_set (i := 7) sc_law_machine.nd rfl (Or.inl rfl) (pe_lst pa_nil)) (pss_cons (ps_for PassesOwn.never rfl (pi_range1 (by rfl) T.z_range (pa_cons (pe_callB (kLEN K rfl) (by rfl) T.z_len (by decide +kernel) (pa_cons (pv 1) pa_nil)) pa_nil)) (pg_name (i := 8) sc_law_machine.nd rfl (Or.inl rfl)) (pss_cons (ps_set (i := 9) sc_law_machine.nd rfl (Or.inl rfl) (pe_call G_law_next hr (by rfl) T.m_law_next T.k_law_next T.b_law_next .nil pass0 (pa_cons (pv 0) (pa_cons (pv 2) pa_nil)))) (pss_cons (ps_if (pt_cmpR (kEQ K rfl hr.units) (pv 3) pe_int (nomark _)) (pss_one (ps_set (i := 9) sc_law_machine.nd rfl (Or.inl rfl) (pe_callB (call_max2 rfl) (by rfl) T.z_max (by decide +kernel) (pa_cons (pv 6) (pa_cons (pv 9) pa_nil))))) (pss_one (ps_if (pt_cmpR (kEQ K rfl hr.units) (pv 3) pe_int (nomark _)) (pss_one (ps_set (i := 9) sc_law_machine.nd rfl (Or.inl rfl) (pe_op op_mod (pe_callTy call_int1 (by rfl) T.z_int (by decide +kernel) (pa_cons (pe_op (kADD K rfl) (pv 6) (pe_ix (kIX K rfl) (pv 4) (pv 8) (fun _ _ => rfl))) pa_nil)) (pv 2)))) (pss_one (ps_if (pt_cmpR (kEQ K rfl hr.units) (pv 3) pe_int (nomark _)) (pss_one (ps_set (i := 9) sc_law_machine.nd rfl (Or.inl rfl) (pe_callB (call_min2 rfl) (by rfl) T.z_min (by decide +kernel) (pa_cons (pe_op op_sub (pv 2) pe_int) (pa_cons (pe_op (kADD K rfl) (pv 6) (pe_callTy call_int1 (by rfl) T.z_int (by decide +kernel) (pa_cons (pe_cmpR op_gt (pe_ix (kIX K rfl) (pv 4) (pv 8) (fun _ _ => rfl)) pe_int (nomark _)) pa_nil))) pa_nil))))) (pss_one (ps_if (pt_cmpR (kEQ K rfl hr.units) (pv 3) pe_int (nomark _)) (pss_one (ps_set (i := 9) sc_law_machine.nd rfl (Or.inl rfl) (pe_ix (kIX K rfl) (pe_lst (pa_cons (pv 6) (pa_cons (pe_callB (call_max2 rfl) (by rfl) T.z_max (by decide +kernel) (pa_cons (pv 6) (pa_cons (pv 9) pa_nil))) pa_nil))) (pe_call G_law_next hr (by rfl) T.m_law_next T.k_law_next T.b_law_next .nil pass0 (pa_cons (pv 0) (pa_cons pe_int pa_nil))) (fun _ _ => rfl)))) (pss_one (ps_if (pt_cmpR (kEQ K rfl hr.units) (pv 3) pe_int (nomark _)) (pss_one (ps_set (i := 9) sc_law_machine.nd rfl (Or.inl rfl) (pe_ix (kIX K rfl) (pv 4) (pv 8) (fun _ _ => rfl)))) pss_nil))))))))) (pss_one (ps_expr (kBM K rfl (pe_bm PySem.F.plainAttrs_list PySem.F.slot_list_append PySem.F.type_list_append mt_append (pv 7) (pa_cons (pv 9) pa_nil)))))))) (pss_one (ps_expr (kBM K rfl (pe_bm PySem.F.plainAttrs_list PySem.F.slot_list_append PySem.F.type_list_append mt_append (pv 5) (pa_cons (pe_tup (pa_cons (pe_cmpR (kEQ K rfl hr.units) (pe_call G_law_next hr (by rfl) T.m_law_next T.k_law_next T.b_law_next .nil pass0 (pa_cons (pv 0) (pa_cons pe_int pa_nil))) pe_int (nomark _)) (pa_cons (pe_callTy (kTUP K rfl) (by rfl) T.z_tuple (by decide +kernel) (pa_cons (pv 7) pa_nil)) pa_nil))) pa_nil)))))))) (pss_one (ps_ret (pe_callTy (kTUP K rfl) (by rfl) T.z_tuple (by decide +kernel) (pa_cons (pv 5) pa_nil))))))))), ?_⟩
  rintro ⟨st, z⟩ ⟨hst, h1, h2⟩ p B
  dsimp only [argM] at *
  walk_at "go"
  refine ⟨(st, 4), 0, some p, _, ⟨hst, by simp, by simp⟩, rfl, rfl, rfl, ?_⟩
  rintro _ _ ⟨st1, k1, hst1, rfl, rfl, hk1⟩
  have hk1 : k1 < 4 := hk1
  obtain ⟨lim, hlim⟩ : ∃ n, manyL[k1]? = some n := ⟨_, List.getElem?_eq_getElem hk1⟩
  have hl : 6 ≤ lim ∧ lim ≤ 10 := (by decide : ∀ n ∈ manyL, 6 ≤ n ∧ n ≤ 10) _ (List.mem_of_getElem? hlim)
  walk_at "go"
  refine rw_ixL rfl (ati (f := nD) (xs := manyL) hlim) ?_
  walk_at "go"
  refine ⟨(st1, lim), 0, some p, _, ⟨hst1, by show 0 < lim; omega, by show lim < 1000000000; omega⟩, rfl, rfl, rfl, ?_⟩
  rintro _ _ ⟨st2, k2, hst2, rfl, rfl, hk2⟩
  have hk2 : k2 < lim := hk2
  walk_at "go"
  refine ⟨(st2, 7), 0, some p, _, ⟨hst2, by simp, by simp⟩, rfl, rfl, rfl, ?_⟩
  rintro _ _ ⟨st3, kind, hst3, rfl, rfl, hkind⟩
  obtain ⟨many, hmany⟩ : ∃ many : Nat, many = 1 + k2 := ⟨_, rfl⟩
  have em : (1 : Int) + (k2 : Int) = (many : Int) := by omega
  rw [em]
  have hm1 : 1 ≤ many := by omega
  have hm2 : many ≤ 10 := by omega
  walk_at "go"
  refine dw_lcE (ch := [10]) (fun k hk => hk) ?_
  refine di_anyS (di_str ?_)
  walk_at "go"
  refine ⟨fun i acc G => ∃ st' ss, Stt.ok st' ∧ acc = ss.map nD ∧ ss.length = i ∧ (∀ q ∈ ss, q < many) ∧ G = [.o (some p) (encS st'), .d (zD z), .d (nD many), .d (nD kind), .un, .un, .un, .un, .un, .un, .un], ⟨st3, [], hst3, rfl, rfl, (fun c h => nomatch h), rfl⟩, fun B' i acc G2 d hd ⟨st', ss, hst', ha, hl, hc, hG⟩ => ?_, fun acc G2 ⟨st4, ss, hst4, ha, hls, hss, hG⟩ => ?_⟩
  · subst hG ha
    have hi : i < z.length := by
      have := (List.getElem?_eq_some_iff.mp hd).1
      simpa using this
    refine dg_name ?_
    walk_at "go"
    refine ⟨(st', many), 0, some p, _, ⟨hst', hm1, by show many < 1000000000; omega⟩, rfl, rfl, rfl, ?_⟩
    rintro _ _ ⟨st2, j, hst2, rfl, rfl, hj⟩
    walk_at "go"
    refine ⟨szlt (by rw [List.length_map]; omega), st2, ss ++ [j], hst2, by rw [List.map_append]; rfl, by simp [hl], fun c' h' => ?_, rfl⟩
    rcases List.mem_append.mp h' with h' | h'
    · exact hc c' h'
    · rw [List.mem_singleton.mp h']
      exact hj
  · subst hG ha
    rw [List.length_map] at hls
    walk_at "go"
    refine ds_forE' (ch := [6]) ?_
    refine di_rng1 ?_
    walk_at "go"
    refine ⟨by omega, by omega, fun i G => ∃ (st' : Stt) (ls : Mach) (s6 s7 s8 s9 s10 : Sl), st'.ok ∧ ls.length = i ∧ (∀ l ∈ ls, l.2.length = z.length ∧ ∀ q ∈ l.2, q < many) ∧ G = [.o (some p) (encS st'), .d (zD z), .d (nD many), .d (nD kind), .o none (ss.map nD), .o none (ls.map encL), s6, s7, s8, s9, s10], ⟨st4, [], _, _, _, _, _, hst4, rfl, (fun c h => nomatch h), rfl⟩, fun i G2 d hd ⟨st', ls, s6, s7, s8, s9, s10, hst', hl, hok, hG⟩ => ?_, fun G2 ⟨st', ls, s6, s7, s8, s9, s10, hst', hl, hok, hG⟩ => ?_⟩
    · subst hG
      obtain ⟨hi, rfl⟩ := rngD_get hd
      have hi : i < many := by simpa using hi
      have e0 : (0 : Int) + (i : Int) = (i : Int) := by omega
      rw [e0]
      refine dg_name ?_
      walk_at "go"
      refine ds_forE' (ch := [8]) ?_
      refine di_rng1 ?_
      walk_at "go"
      refine rn_lenS (szl (by omega)) ?_
      walk_at "go"
      refine ⟨by omega, by omega, fun j G => ∃ (st' : Stt) (ns : List Nat) (s8 s9 s10 : Sl), st'.ok ∧ ns.length = j ∧ (∀ q ∈ ns, q < many) ∧ G = [.o (some p) (encS st'), .d (zD z), .d (nD many), .d (nD kind), .o none (ss.map nD), .o none (ls.map encL), .d (nD i), .o none (ns.map nD), s8, s9, s10], ⟨st', [], _, _, _, hst', rfl, (fun c h => nomatch h), rfl⟩, fun j G2 d hd ⟨st', ns, s8, s9, s10, hst', hnl, hns, hG⟩ => ?_, fun G2 ⟨st', ns, s8, s9, s10, hst', hnl, hns, hG⟩ => ?_⟩
      · subst hG
        obtain ⟨hj, rfl⟩ := rngD_get hd
        have hj : j < z.length := by simpa using hj
        have e0 : (0 : Int) + (j : Int) = (j : Int) := by omega
        rw [e0]
        obtain ⟨sj, hsj⟩ : ∃ x, ss[j]? = some x := ⟨_, List.getElem?_eq_getElem (by omega)⟩
        have hsj2 : sj < many := hss _ (List.mem_of_getElem? hsj)
        refine dg_name ?_
        refine ds_seq' ?_
        walk_at "gs"
        refine ⟨(st', many), 0, some p, _, ⟨hst', hm1, by show many < 1000000000; omega⟩, rfl, rfl, rfl, ?_⟩
        rintro _ _ ⟨st5, pick, hst5, rfl, rfl, hpick⟩
        have hpick : pick < many := hpick
        walk_at "gs"
        refine ds_mid' (fun G => ∃ (st' : Stt) (pk : Int), st'.ok ∧ 0 ≤ pk ∧ pk < (many : Int) ∧ G = [.o (some p) (encS st'), .d (zD z), .d (nD many), .d (nD kind), .o none (ss.map nD), .o none (ls.map encL), .d (nD i), .o none (ns.map nD), .d (nD j), .d (.int pk), s10]) ?_ ?_
        · walk_at "gs"
          refine ite_k (fun c1 => ?_) (fun c1 => ?_)
          · walk_at "gs"
            refine ⟨st5, _, hst5, ?_, ?_, rfl⟩ <;> split <;> omega
          · walk_at "gs"
            refine ite_k (fun c1 => ?_) (fun c1 => ?_)
            · walk_at "gs"
              refine rw_ixL rfl (ati hsj) ?_
              walk_at "gs"
              exact ⟨st5, _, hst5, Int.emod_nonneg _ (by omega), Int.emod_lt_of_pos _ (by omega), rfl⟩
            · walk_at "gs"
              refine ite_k (fun c1 => ?_) (fun c1 => ?_)
              · walk_at "gs"
                refine rw_ixL rfl (ati hsj) ?_
                walk_at "gs"
                refine ⟨st5, _, hst5, ?_, ?_, rfl⟩ <;> (repeat' split) <;> omega
              · walk_at "gs"
                refine ite_k (fun c1 => ?_) (fun c1 => ?_)
                · walk_at "gs"
                  refine ⟨(st5, 2), 0, some p, _, ⟨hst5, by simp, by simp⟩, rfl, rfl, rfl, ?_⟩
                  rintro _ _ ⟨st6, b, hst6, rfl, rfl, hb⟩
                  have hb : b < 2 := hb
                  walk_at "gs"
                  have hb2 : b = 0 ∨ b = 1 := by omega
                  rcases hb2 with rfl | rfl
                  · refine rw_ixL rfl rfl ?_
                    walk_at "gs"
                    exact ⟨st6, _, hst6, by omega, by omega, rfl⟩
                  · refine rw_ixL rfl rfl ?_
                    walk_at "gs"
                    refine ⟨st6, _, hst6, ?_, ?_, rfl⟩ <;> split <;> omega
                · walk_at "gs"
                  refine ite_k (fun c1 => ?_) (fun c1 => ?_)
                  · walk_at "gs"
                    refine rw_ixL rfl (ati hsj) ?_
                    walk_at "gs"
                    exact ⟨st5, _, hst5, by omega, by omega, rfl⟩
                  · walk_at "gs"
                    exact ⟨st5, _, hst5, by omega, by omega, rfl⟩
        · rintro G2 ⟨st6, pk, hst6, hp0, hp1, rfl⟩
          rw [nD_of hp0]
          walk_at "gs"
          refine ⟨⟨rfl, _, _, rfl⟩, ?_⟩
          walk_at "gs"
          refine rm_app rfl (szlt (by rw [List.length_map]; omega)) ?_
          walk_at "gs"
          refine ⟨st6, ns ++ [pk.toNat], _, _, _, hst6, by simp [hnl], fun q hq => ?_, by rw [List.map_append]; rfl⟩
          rcases List.mem_append.mp hq with h' | h'
          · exact hns q h'
          · rw [List.mem_singleton.mp h']
            omega
      · subst hG
        have hnl : ns.length = z.length := by
          rw [hnl, rngD_len]
          simp
        walk_at "gs"
        refine ⟨⟨rfl, _, _, rfl⟩, ?_⟩
        walk_at "gs"
        refine ⟨(st', 2), 0, some p, _, ⟨hst', by simp, by simp⟩, rfl, rfl, rfl, ?_⟩
        rintro _ _ ⟨st6, b, hst6, rfl, rfl, hb⟩
        walk_at "gs"
        refine rn_tupL rfl ?_
        walk_at "gs"
        refine rm_app rfl (szlt (by rw [List.length_map]; omega)) ?_
        walk_at "gs"
        refine ⟨st6, ls ++ [(decide ((b : Int) = 1), ns)], _, _, _, _, _, hst6, by simp [hl], fun l hl => ?_, by rw [List.map_append]; rfl⟩
        rcases List.mem_append.mp hl with h' | h'
        · exact hok l h'
        · rw [List.mem_singleton.mp h']
          exact ⟨hnl, hns⟩
    · subst hG
      rw [rngD_len] at hl
      have hl : ls.length = many := by simpa using hl
      walk_at "gs"
      refine rn_tupL rfl ?_
      refine rt_E1 rfl ⟨st', ls, hst', rfl, rfl, fun l h => ?_, by omega, by omega⟩
      rw [hl]
      exact hok l h
end
end K66
namespace K66
open PySem PySem.Spec PyProof.Rows L2 DL
/-! ### the pairs of lines, in plain Lean -/
def allP (n : Nat) : List (Nat × Nat) := (List.range n).flatMap fun q => (List.range q).map fun p => (p, q)
theorem mem_allP {n : Nat} {p : Nat × Nat} : p ∈ allP n ↔ p.1 < p.2 ∧ p.2 < n := by
  unfold allP
  simp only [List.mem_flatMap, List.mem_map, List.mem_range]
  constructor
  · rintro ⟨q, hq, r, hr, rfl⟩
    exact ⟨hr, hq⟩
  · rintro ⟨h1, h2⟩
    exact ⟨p.2, h2, p.1, h1, rfl⟩
theorem allP_len (n : Nat) : (allP n).length ≤ n * n := by
  unfold allP
  have : ∀ l : List Nat, (∀ q ∈ l, q ≤ n) → (l.flatMap fun q => (List.range q).map fun p => (p, q)).length ≤ l.length * n := by
    intro l
    induction l with
    | nil => intro _; simp
    | cons q l ih =>
      intro h
      have h1 := h q List.mem_cons_self
      have h2 := ih fun x hx => h x (List.mem_cons_of_mem _ hx)
      rw [List.flatMap_cons, List.length_append, List.length_map, List.length_range, List.length_cons, Nat.succ_mul]
      omega
  have h := this (List.range n) fun q hq => Nat.le_of_lt (List.mem_range.mp hq)
  rw [List.length_range] at h
  exact h
theorem allP_succ (n : Nat) : allP (n + 1) = allP n ++ (List.range n).map fun p => (p, n) := by
  unfold allP
  rw [List.range_succ, List.flatMap_append]
  simp
theorem allP_nodup : ∀ n : Nat, (allP n).Nodup
  | 0 => by simp [allP]
  | n + 1 => by
    rw [allP_succ]
    refine List.nodup_append.mpr ⟨allP_nodup n, ?_, fun x hx y hy e => ?_⟩
    · refine List.pairwise_map.mpr (List.nodup_range.imp fun h e => h ?_)
      exact congrArg Prod.fst e
    · obtain ⟨p, _, rfl⟩ := List.mem_map.mp hy
      have := (mem_allP.mp hx).2
      rw [e] at this
      exact Nat.lt_irrefl _ this
theorem eqv_pN (a b : Nat × Nat) : PyData.eqv (pN a) (pN b) = decide (a = b) := by
  have e : PyData.eqv (pN a) (pN b) = (PyData.eqv (nD a.1) (nD b.1) && (PyData.eqv (nD a.2) (nD b.2) && true)) := by
    simp [PyData.eqv, PyData.eqvAll]
  rw [e, eqv_iD, eqv_iD]
  by_cases h1 : a.1 = b.1
  · by_cases h2 : a.2 = b.2
    · have : a = b := Prod.ext h1 h2
      simp [this]
    · have : a ≠ b := fun z => h2 (by rw [z])
      simp [h1, h2, this]
  · have : a ≠ b := fun z => h1 (by rw [z])
    simp [h1, this]
theorem any_pN (xs : List (Nat × Nat)) (p : Nat × Nat) : ((xs.map pN).any fun z => PyData.eqv z (pN p)) = decide (p ∈ xs) := (any_inj eqv_pN xs p).trans (decide_eq_decide.mpr Iff.rfl)
theorem shp_pN (p : Nat × Nat) : Shp 1 (pN p) := shp_tup fun x hx => by
  simp at hx
  rcases hx with rfl | rfl <;> exact shp_int 0 _
theorem shp_pNs (xs : List (Nat × Nat)) : Shp 2 (.list (xs.map pN)) := shp_list fun x hx => by
  obtain ⟨p, _, rfl⟩ := List.mem_map.mp hx
  exact shp_pN p
/-- some row leads the two lines to one -/
inductive Mt (m : Mach) (nn : Nat) : Nat × Nat → Prop
  | base {p : Nat × Nat} {k : Nat} : k < nn → (bh m k p).1 = (bh m k p).2 → Mt m nn p
  | step {p : Nat × Nat} {k : Nat} : k < nn → Mt m nn (bh m k p) → Mt m nn p
def hit (m : Mach) (nn : Nat) (meet : List (Nat × Nat)) (p : Nat × Nat) : Bool := (List.range nn).any fun k => decide ((bh m k p).1 = (bh m k p).2) || decide (bh m k p ∈ meet)
theorem hit_iff {m : Mach} {nn : Nat} {meet : List (Nat × Nat)} {p : Nat × Nat} : hit m nn meet p = true ↔ ∃ k, k < nn ∧ ((bh m k p).1 = (bh m k p).2 ∨ bh m k p ∈ meet) := by
  unfold hit
  simp [List.any_eq_true]
theorem hit_mono {m : Mach} {nn : Nat} {meet meet' : List (Nat × Nat)} {p : Nat × Nat} (h : ∀ q ∈ meet, q ∈ meet') (e : hit m nn meet p = true) : hit m nn meet' p = true := by
  obtain ⟨k, hk, e⟩ := hit_iff.mp e
  exact hit_iff.mpr ⟨k, hk, e.imp id fun e => h _ e⟩
theorem hit_mt {m : Mach} {nn : Nat} {meet : List (Nat × Nat)} {p : Nat × Nat} (h : ∀ q ∈ meet, Mt m nn q) (e : hit m nn meet p = true) : Mt m nn p := by
  obtain ⟨k, hk, e⟩ := hit_iff.mp e
  rcases e with e | e
  · exact .base hk e
  · exact .step hk (h _ e)
theorem bh_mem {m : Mach} {nn k : Nat} {p : Nat × Nat} (g : Good m nn) (hk : k < nn) (hp : p ∈ allP m.length) : (bh m k p).1 = (bh m k p).2 ∨ bh m k p ∈ allP m.length := by
  obtain ⟨h1, h2⟩ := mem_allP.mp hp
  obtain ⟨_, _, _, a1⟩ := g.at (l := p.1) (by omega) hk
  obtain ⟨_, _, _, a2⟩ := g.at (l := p.2) (by omega) hk
  by_cases e : nxt m p.1 k = nxt m p.2 k
  · left
    unfold bh
    simp [e]
  · right
    refine mem_allP.mpr ?_
    unfold bh
    simp only
    omega
theorem mt_closed {m : Mach} {nn : Nat} {meet : List (Nat × Nat)} (g : Good m nn) (hc : ∀ p ∈ allP m.length, hit m nn meet p = true → p ∈ meet) {p : Nat × Nat} (h : Mt m nn p) : p ∈ allP m.length → p ∈ meet := by
  induction h with
  | base hk e => exact fun hp => hc _ hp (hit_iff.mpr ⟨_, hk, .inl e⟩)
  | step hk h ih =>
    intro hp
    rcases bh_mem g hk hp with e | e
    · exact hc _ hp (hit_iff.mpr ⟨_, hk, .inl e⟩)
    · exact hc _ hp (hit_iff.mpr ⟨_, hk, .inr (ih e)⟩)
/-! the sorted list of those that never meet -/
def toI (p : Nat × Nat) : Int × Int := ((p.1 : Int), (p.2 : Int))
def leN (p q : Nat × Nat) : Bool := leP (toI p) (toI q)
def srtN (ps : List (Nat × Nat)) : List (Nat × Nat) := ps.mergeSort leN
theorem srtN_perm (ps : List (Nat × Nat)) : (srtN ps).Perm ps := List.mergeSort_perm _ _
theorem srtN_pw (ps : List (Nat × Nat)) : (srtN ps).Pairwise fun a b => leN a b = true := List.pairwise_mergeSort (le := leN) (fun a b c => leP_tr _ _ _) (fun a b => leP_tot _ _) ps
theorem srtP_toI (ps : List (Nat × Nat)) : srtP (ps.map toI) = (srtN ps).map toI := by
  refine (pwP_eq ?_ (srtP_pw _) (((srtN_perm ps).map toI).trans (srtP_perm _).symm)).symm
  exact List.pairwise_map.mpr ((srtN_pw ps).imp fun h => h)
theorem pN_toI (ps : List (Nat × Nat)) : ps.map pN = (ps.map toI).map pD := by
  rw [List.map_map]
  rfl
theorem toI_inj {a b : Nat × Nat} (h : toI a = toI b) : a = b := by
  have h1 := congrArg Prod.fst h
  have h2 := congrArg Prod.snd h
  exact Prod.ext (Int.ofNat.inj h1) (Int.ofNat.inj h2)
theorem pwN_eq : ∀ {l k : List (Nat × Nat)}, l.Pairwise (fun a b => leN a b = true) → k.Pairwise (fun a b => leN a b = true) → l.Perm k → l = k := by
  intro l k h1 h2 h
  have e := pwP_eq (l := l.map toI) (m := k.map toI) (List.pairwise_map.mpr (h1.imp fun h => h)) (List.pairwise_map.mpr (h2.imp fun h => h)) (h.map toI)
  clear h1 h2 h
  induction l generalizing k with
  | nil =>
    cases k with
    | nil => rfl
    | cons _ _ => cases e
  | cons a l ih =>
    cases k with
    | nil => cases e
    | cons b k =>
      rw [List.map_cons, List.map_cons] at e
      have e2 := List.cons.inj e
      rw [toI_inj e2.1, ih e2.2]
theorem srtN_filter (p : Nat × Nat → Bool) (ps : List (Nat × Nat)) : (srtN ps).filter p = srtN (ps.filter p) :=
  pwN_eq ((srtN_pw ps).filter p) (srtN_pw _) (((srtN_perm ps).filter p).trans (srtN_perm _).symm)
open Classical in
noncomputable def nv (m : Mach) (nn : Nat) : List (Nat × Nat) := srtN ((allP m.length).filter fun p => decide (¬ Mt m nn p))
theorem nv_of {m : Mach} {nn : Nat} {meet : List (Nat × Nat)} (g : Good m nn) (h1 : ∀ q ∈ meet, Mt m nn q) (hc : ∀ p ∈ allP m.length, hit m nn meet p = true → p ∈ meet) : srtN ((allP m.length).filter fun p => !decide (p ∈ meet)) = nv m nn := by
  unfold nv
  congr 1
  refine List.filter_congr fun p hp => ?_
  by_cases h : p ∈ meet
  · have := h1 p h
    simp [h, this]
  · have : ¬ Mt m nn p := fun z => h (mt_closed g hc z hp)
    simp [h, this]
theorem nv_mem {m : Mach} {nn : Nat} {p : Nat × Nat} : p ∈ nv m nn ↔ p ∈ allP m.length ∧ ¬ Mt m nn p := by
  unfold nv
  rw [(srtN_perm _).mem_iff, List.mem_filter]
  simp
/-- a nodup list within another is no longer -/
theorem nodup_le {α : Type} [DecidableEq α] : ∀ {l k : List α}, l.Nodup → (∀ x ∈ l, x ∈ k) → l.length ≤ k.length
  | [], _, _, _ => Nat.zero_le _
  | x :: l, k, hn, h => by
    have hx := h x List.mem_cons_self
    have hn' := List.nodup_cons.mp hn
    have := nodup_le (l := l) (k := k.erase x) hn'.2 fun y hy => by
      have hne : y ≠ x := fun z => hn'.1 (z ▸ hy)
      exact (List.mem_erase_of_ne hne).mpr (h y (List.mem_cons_of_mem _ hy))
    rw [List.length_erase_of_mem hx] at this
    have hpos := List.length_pos_of_mem hx
    rw [List.length_cons]
    omega
end K66
namespace K66
open PySem PySem.Spec PyProof.Rows L2 DL
local macro_rules | `(tactic| walk_at "st") => `(tactic| with_reducible first
  | refine pw_p ?_ | refine pw_o ?_ | refine dw_op ?_ | refine dw_un ?_ | refine dw_int ?_ | refine dw_str ?_ | refine dw_bl ?_ | refine dw_non ?_ | refine dw_ty ?_ | refine da_nil' ?_ | refine da_cons' ?_ | refine dw_sortSet ?_ | refine dw_lenSet ?_ | refine dw_CB ?_ | refine dw_BM ?_ | refine dw_BM0 ?_
  | refine dw_tup ?_ | refine dw_lst ?_ | refine dw_notV ?_ | refine dw_and ?_ | refine dw_or ?_ | refine dw_if ?_ | refine dw_chain ?_ | refine dw_sl3 ?_ | refine dw_revT ?_ | refine dw_tupRg1 ?_ | refine dw_lstRg1 ?_ | refine dw_callI ?_ | refine dw_callJ ?_
  | refine dt_test ?_ | refine dt_B ?_ | refine dt_and ?_ | refine dt_or ?_ | refine dt_not ?_ | refine dt_yes ?_ | refine dt_truth ?_
  | refine ds_ret ?_ | refine ds_retN ?_ | refine ds_next ?_ | refine ds_break ?_ | refine ds_cont ?_ | refine ds_drop ?_ | refine ds_if ?_ | refine ds_set ?_
  | refine nx_nxt ?_ | refine rt_nxt ?_ | refine bk_nxt ?_ | refine ct_nxt ?_ | refine nx_lp ?_ | refine rt_lp ?_ | refine bk_lp ?_ | refine ct_lp ?_ | refine asn_d ?_ | refine asn_fr ?_ | refine rt_E0 ?_ | refine rt_E0o ?_ | refine nx_E0 ?_
  | refine dw_newT ?_ | refine dw_dIn ?_ | refine dw_dNotIn ?_ | refine dw_dGet ?_ | refine ds_dPut ?_
  | refine tr_b ?_ | refine tr_i ?_ | refine tr_n ?_ | refine tr_T ?_ | refine tr_L ?_
  | refine do_none ?_ | refine do_some ?_ | refine ite_t ?_ | refine ite_f ?_
  | refine rw_addI ?_ | refine rw_sub ?_ | refine rw_cmp ?_ | refine rw_eqI ?_ | refine rw_neI ?_ | refine rw_eqS ?_ | refine rw_neS ?_ | refine rw_eqB ?_ | refine rw_neB ?_ | refine isN_d ?_ | refine notN_d ?_ | refine rw_isB ?_ | refine rw_notB ?_
  | refine rn_intI ?_ | refine rn_intB ?_ | refine rn_max ?_ | refine rn_min ?_ | refine rn_lenT ?_ | refine rn_lenD ?_ | refine isi_int ?_ | refine isi_bool ?_ | refine isi_str ?_ | refine isi_tuple ?_ | refine isi_list ?_ | refine rn_tupT ?_ | refine rn_listT ?_
  | refine ⟨_, rfl, ?_⟩
  | fail)
local macro_rules | `(tactic| walk_at "va") => `(tactic| first
  | ((with_reducible apply dw_var); rfl) | ((with_reducible apply dw_sl); rfl) | ((with_reducible apply dw_slT); rfl)
  | ((with_reducible apply rw_ixL); rfl; rfl) | ((with_reducible apply rw_ixT); rfl)
  | ((with_reducible apply ite_T); rfl) | ((with_reducible apply ite_F); rfl) | ((with_reducible apply tr_o); rfl)
  | refine ⟨_, rfl, szl (Nat.le_of_ble_eq_true rfl), ?_⟩
  | (with_reducible refine rw_mod (by omega) ?_)
  | (with_reducible refine rw_fdiv (by unfold CDiv; omega) ?_)
  | (with_reducible refine rw_mul (by unfold CMul; omega) ?_)
  | refine ⟨szl (Nat.le_of_ble_eq_true rfl), ?_⟩
  | refine ⟨rfl, ?_⟩
  | rfl
  | fail)
local macro_rules | `(tactic| walk_at "go") => `(tactic| repeat' (first | walk_at "st" | (with_reducible refine ds_seq' ?_) | walk_at "va" | fail))
local macro_rules | `(tactic| walk_at "gs") => `(tactic| repeat' (first | walk_at "st" | walk_at "va" | fail))
section
variable {P : Program} {w : World} {K : PySem.W.Frag} {mg : Str → Option Value} {base : Heap} {a : Ad}
abbrev argV (x : Mach × List Nat) : List PyData := [encM x.1, zD x.2]
def preV (x : Mach × List Nat) : Prop := Good x.1 x.2.length ∧ x.1.length ≤ 100 ∧ x.2.length ≤ 100
theorem ok_never_meeting (T : Tx K mg a) (G_pair_behind : FnOk P w K mg base CX0 1 a.f6 a.d6 ["machine", "number", "pair"] (spB K)) : FnOk P w K mg base CX0 2 a.f7 a.d7 ["machine", "signs"] (spI K argV preV fun x r => r = .p (.d (.tuple ((nv x.1 x.2.length).map pN)))) := by
  refine fnI T.F_never_meeting sc_never_meeting (fun x => ⟨rfl, by decide⟩) fun cdv A outer s H E hr => ⟨_, (pss_cons (ps_setLc2 (i := 2) (own := [("second", 7), ("first", 8)]) (vs1 := [8]) (g := gName 7) (g1 := gName 8) (by rfl) sc_never_meeting.nd rfl rfl (sw_true rfl rfl rfl (by decide +kernel)) (pi_range1 (by rfl) T.z_range (pa_cons (pe_callB (kLEN K rfl) (by rfl) T.z_len (by decide +kernel) (pa_cons (pv 0) pa_nil)) pa_nil)) (blkOk_by (own := [("second", 7), ("first", 8)]) (N := ["machine", "signs", "pairs", "meet", "grown", "pair", "behind", "second", "first", "number", "other"]) (sc := defScope s_never_meeting) (by decide +kernel)) (by decide) (fun _ _ _ _ _ => (pg_name (i := 7) sc_never_meeting.nd rfl (by first | exact Or.inl rfl | exact Or.inr rfl))) (fun _ _ _ _ _ => pts_nil) (fun _ _ _ _ _ => (pi_range1 (by rfl) T.z_range (pa_cons (pv 7) pa_nil))) (fun _ _ _ _ _ => (pg_name (i := 8) sc_never_meeting.nd rfl (by first | exact Or.inl rfl | exact Or.inr rfl))) (fun _ _ _ _ _ => pts_nil) (fun _ _ _ _ _ => (pe_tup (pa_cons (pv 8) (pa_cons (pv 7) pa_nil))))) (pss_cons (ps_set (i := 3) sc_never_meeting.nd rfl (Or.inr rfl) (pe_lst pa_nil)) (pss_cons (ps_set (i := 4) sc_never_meeting.nd rfl (Or.inl rfl) pe_bl) (pss_cons (ps_while PassesOwn.never (kTRUTH K rfl (pv 4) (by intro _; rfl)) (pss_cons (ps_set (i := 4) sc_never_meeting.nd rfl (Or.inl rfl) pe_bl) (pss_one (ps_for PassesOwn.never rfl (kANY K rfl (pv 2)) (pg_name (i := 5) sc_never_meeting.nd rfl (Or.inr rfl)) (pss_one (ps_if (pt_cmpR (kNI K rfl (hu65 hr)) (pv 5) (pv 3) (by rfl)) (pss_cons (ps_setLc (i := 6) (own := [("number", 9)]) (g := gName 9) (by rfl) sc_never_meeting.nd rfl rfl (sw_true rfl rfl rfl (by decide +kernel)) (pi_range1 (by rfl) T.z_range (pa_cons (pe_callB (kLEN K rfl) (by rfl) T.z_len (by decide +kernel) (pa_cons (pv 1) pa_nil)) pa_nil)) (blkOk_by (own := [("number", 9)]) (N := ["machine", "signs", "pairs", "meet", "grown", "pair", "behind", "second", "first", "number", "other"]) (sc := defScope s_never_meeting) (by decide +kernel)) (fun _ _ _ _ _ => (pg_name (i := 9) sc_never_meeting.nd rfl (by first | exact Or.inl rfl | exact Or.inr rfl))) (fun _ _ _ _ _ => pts_nil) (fun _ _ _ _ _ => (pe_call G_pair_behind hr (by rfl) T.m_pair_behind T.k_pair_behind T.b_pair_behind .nil pass0 (pa_cons (pv 0) (pa_cons (pv 9) (pa_cons (pv 5) pa_nil)))))) (pss_one (ps_if (pt_cmpR (kIN K rfl (hu65 hr)) pe_bl (pe_lc (own := [("other", 10)]) (g := gName 10) (by rfl) sc_never_meeting.nd (kANY K rfl (pv 6)) (blkOk_by (own := [("other", 10)]) (N := ["machine", "signs", "pairs", "meet", "grown", "pair", "behind", "second", "first", "number", "other"]) (sc := defScope s_never_meeting) (by decide +kernel)) (fun _ _ _ _ _ => (pg_name (i := 10) sc_never_meeting.nd rfl (by first | exact Or.inl rfl | exact Or.inr rfl))) (fun _ _ _ _ _ => pts_nil) (fun _ _ _ _ _ => (pe_or (pe_cmpR (kEQ K rfl hr.units) (pe_ix (kIX K rfl) (pv 10) pe_int (fun _ _ => rfl)) (pe_ix (kIX K rfl) (pv 10) pe_int (fun _ _ => rfl)) (nomark _)) (pe_one (pe_cmpR (kIN K rfl (hu65 hr)) (pv 10) (pv 3) (by rfl)))))) (by rfl)) (pss_cons (ps_expr (kBM K rfl (pe_bm PySem.F.plainAttrs_list PySem.F.slot_list_append PySem.F.type_list_append mt_append (pv 3) (pa_cons (pv 5) pa_nil)))) (pss_one (ps_set (i := 4) sc_never_meeting.nd rfl (Or.inl rfl) pe_bl))) pss_nil))) pss_nil)))))) (pss_one (ps_ret (pe_callTy (kTUP K rfl) (by rfl) T.z_tuple (by decide +kernel) (pa_cons (pe_callB (kSORTP K rfl) (by rfl) T.z_sorted (by decide +kernel) (pa_cons (pe_lc (own := [("pair", 5)]) (g := gName 5) (by rfl) sc_never_meeting.nd (kANY K rfl (pv 2)) (blkOk_by (own := [("pair", 5)]) (N := ["machine", "signs", "pairs", "meet", "grown", "pair", "behind", "second", "first", "number", "other"]) (sc := defScope s_never_meeting) (by decide +kernel)) (fun _ _ _ _ _ => (pg_name (i := 5) sc_never_meeting.nd rfl (by first | exact Or.inl rfl | exact Or.inr rfl))) (fun _ _ _ _ _ => (pts_one (pt_cmpR (kNI K rfl (hu65 hr)) (pv 5) (pv 3) (by rfl)))) (fun _ _ _ _ _ => (pv 5))) pa_nil)) pa_nil)))))))), ?_⟩
  rintro ⟨m, z⟩ ⟨g, hm, hz⟩ B
  dsimp only [argV] at *
  have hN := allP_len m.length
  have hNN : m.length * m.length ≤ 10000 := Nat.mul_le_mul hm hm
  have hA : ((List.range m.length).flatMap fun q => (List.range q).map fun p => pN (p, q)) = (allP m.length).map pN := by
    unfold allP
    rw [List.map_flatMap]
    congr 1
    funext q
    rw [List.map_map]
    rfl
  walk_at "go"
  refine dw_lc2M (List.range m.length) nD (fun q => List.range q) nD (fun q p => pN (p, q)) (by decide) (by rw [hA, List.length_map]; exact szl (by omega)) ?_
  refine di_rng1 ?_
  walk_at "go"
  rw [List.length_map]
  refine ⟨by omega, by omega, rng_nD _, fun B' q hq => ?_, ?_⟩
  · have hq := List.mem_range.mp hq
    refine di_rng1 ?_
    walk_at "go"
    refine ⟨by omega, by omega, rng_nD _, rfl, fun B'' p hp => ?_⟩
    walk_at "go"
  · rw [hA]
    walk_at "gs"
    refine ds_freeze 2 rfl ?_
    walk_at "go"
    refine ds_while' (fun mu G => ∃ (meet : List (Nat × Nat)) (gr : Bool) (s5 s6 s7 s8 s9 s10 : Sl), meet.Nodup ∧ (∀ q ∈ meet, q ∈ allP m.length ∧ Mt m z.length q) ∧ (gr = false → ∀ p ∈ allP m.length, hit m z.length meet p = true → p ∈ meet) ∧ mu = 2 * ((allP m.length).length - meet.length) + (if gr then 1 else 0) ∧
      G = [.d (encM m), .d (zD z), .d (.list ((allP m.length).map pN)), .o none (meet.map pN), .d (.bool gr), s5, s6, s7, s8, s9, s10]) _ ⟨[], true, _, _, _, _, _, _, List.nodup_nil, (fun q h => nomatch h), (fun h => nomatch h), rfl, rfl⟩ ?_
    rintro mu G1 ⟨meet, gr, s5, s6, s7, s8, s9, s10, hnd, hme, hcl, hmu, rfl⟩
    have hlen : meet.length ≤ (allP m.length).length := nodup_le hnd fun q hq => (hme q hq).1
    walk_at "gs"
    refine ite_k (fun c1 => ?_) (fun c1 => ?_)
    · subst c1
      walk_at "go"
      refine ds_forE' (ch := [5]) ?_
      refine di_anyL (di_list ?_)
      walk_at "go"
      refine ⟨fun i G => ∃ (meet' : List (Nat × Nat)) (gr : Bool) (s5 s6 s7 s8 s9 s10 : Sl), meet'.Nodup ∧ (∀ q ∈ meet', q ∈ allP m.length ∧ Mt m z.length q) ∧ (∀ q ∈ meet, q ∈ meet') ∧ (gr = false → meet' = meet ∧ ∀ p ∈ (allP m.length).take i, hit m z.length meet p = true → p ∈ meet) ∧ (gr = true → meet.length < meet'.length) ∧
        G = [.d (encM m), .d (zD z), .d (.list ((allP m.length).map pN)), .o none (meet'.map pN), .d (.bool gr), s5, s6, s7, s8, s9, s10], ⟨meet, false, _, _, _, _, _, _, hnd, hme, (fun q h => h), (fun _ => ⟨rfl, fun p h => nomatch h⟩), (fun h => nomatch h), rfl⟩, fun i G2 d hd ⟨meet', gr, s5, s6, s7, s8, s9, s10, hnd', hme', hsub, hf, ht, hG⟩ => ?_, fun G2 ⟨meet', gr, s5, s6, s7, s8, s9, s10, hnd', hme', hsub, hf, ht, hG⟩ => ?_⟩
      · subst hG
        rw [List.getElem?_map] at hd
        obtain ⟨p, hp, rfl⟩ := Option.map_eq_some_iff.mp hd
        have hpm : p ∈ allP m.length := List.mem_of_getElem? hp
        have hp12 := mem_allP.mp hpm
        have et : (allP m.length).take (i + 1) = (allP m.length).take i ++ [p] := by
          rw [List.take_succ, hp]
          rfl
        have hl' : meet'.length ≤ (allP m.length).length := nodup_le hnd' fun q hq => (hme' q hq).1
        refine dg_name ?_
        walk_at "go"
        refine rw_niL rfl rfl (shp_ok (shp_pN p) (by decide)) (shp_ok (shp_pNs meet') (by decide)) ?_
        rw [any_pN]
        walk_at "go"
        refine ite_k (fun c1 => ?_) (fun c1 => ?_)
        · have c1 : p ∉ meet' := by simpa using c1
          walk_at "go"
          refine dw_lcM (List.range z.length) nD (fun k => pN (bh m k p)) ?_
          refine di_rng1 ?_
          walk_at "go"
          refine rn_lenS (szl (by omega)) ?_
          walk_at "go"
          refine ⟨by omega, by omega, rng_nD _, szl (by rw [List.length_range]; omega), fun B' k hk => ?_, ?_⟩
          · walk_at "go"
            refine ⟨(m, z.length, k, p), ⟨g, List.mem_range.mp hk, by show p.1 < m.length; omega, by show p.2 < m.length; omega⟩, rfl, ?_⟩
            rintro _ rfl
            walk_at "go"
          · refine asn_fr (nx_nxt ?_)
            refine ds_freeze 6 rfl ?_
            walk_at "go"
            refine dw_lcM (List.range z.length) (fun k => pN (bh m k p)) (fun k => .bool (decide ((bh m k p).1 = (bh m k p).2) || decide (bh m k p ∈ meet'))) ?_
            refine di_anyL (di_list ?_)
            walk_at "go"
            refine ⟨szl (by rw [List.length_range]; omega), fun B' k hk => ?_, ?_⟩
            · walk_at "go"
              refine ite_k (fun c2 => ?_) (fun c2 => ?_)
              · have c2 : (bh m k p).1 = (bh m k p).2 := Int.ofNat.inj (of_decide_eq_true c2)
                walk_at "go"
                simp [c2]
              · have c2 : (bh m k p).1 ≠ (bh m k p).2 := fun e => of_decide_eq_false c2 (by rw [e])
                walk_at "go"
                refine rw_inL rfl rfl (shp_ok (shp_pN _) (by decide)) (shp_ok (shp_pNs meet') (by decide)) ?_
                rw [any_pN]
                walk_at "go"
                simp [c2]
            · walk_at "go"
              refine rw_inL rfl rfl (shp_ok (shp_bool 0 _) (by decide)) (shp_ok (shp_list fun x hx => by
                obtain ⟨k, _, rfl⟩ := List.mem_map.mp hx
                exact shp_bool 0 _) (by decide)) ?_
              rw [any_true]
              walk_at "go"
              refine ite_k (fun c2 => ?_) (fun c2 => ?_)
              · walk_at "go"
                refine ⟨⟨rfl, _, _, rfl⟩, ?_⟩
                walk_at "go"
                refine rm_app rfl (szlt (by rw [List.length_map]; omega)) ?_
                walk_at "go"
                refine ⟨meet' ++ [p], true, _, _, _, _, _, _, ?_, fun q hq => ?_, fun q hq => List.mem_append_left _ (hsub q hq), (fun h => nomatch h), fun _ => ?_, by rw [List.map_append]; rfl⟩
                · refine List.nodup_append.mpr ⟨hnd', by simp, ?_⟩
                  intro x hx y hy
                  rw [List.mem_singleton.mp hy]
                  exact fun e => c1 (e ▸ hx)
                · rcases List.mem_append.mp hq with h | h
                  · exact hme' q h
                  · rw [List.mem_singleton.mp h]
                    exact ⟨hpm, hit_mt (fun q hq => (hme' q hq).2) c2⟩
                · rw [List.length_append, List.length_singleton]
                  have := nodup_le hnd hsub
                  omega
              · walk_at "go"
                refine ⟨meet', gr, _, _, _, _, _, _, hnd', hme', hsub, fun e => ?_, ht, rfl⟩
                obtain ⟨e1, e2⟩ := hf e
                refine ⟨e1, fun q hq hh => ?_⟩
                rw [et] at hq
                rcases List.mem_append.mp hq with h | h
                · exact e2 q h hh
                · rw [List.mem_singleton.mp h] at hh
                  rw [← e1] at hh
                  exact absurd hh (by rw [show hit m z.length meet' p = false from c2]; simp)
        · have c1 : p ∈ meet' := by simpa using c1
          walk_at "go"
          refine ⟨meet', gr, _, _, _, _, _, _, hnd', hme', hsub, fun e => ?_, ht, rfl⟩
          obtain ⟨e1, e2⟩ := hf e
          refine ⟨e1, fun q hq hh => ?_⟩
          rw [et] at hq
          rcases List.mem_append.mp hq with h | h
          · exact e2 q h hh
          · rw [List.mem_singleton.mp h, ← e1]
            exact c1
      · subst hG
        have hl' : meet'.length ≤ (allP m.length).length := nodup_le hnd' fun q hq => (hme' q hq).1
        walk_at "go"
        cases gr with
        | true =>
          have := ht rfl
          refine ⟨2 * ((allP m.length).length - meet'.length) + 1, by simp only [if_true] at hmu; omega, meet', true, _, _, _, _, _, _, hnd', hme', (fun h => nomatch h), rfl, rfl⟩
        | false =>
          obtain ⟨e1, e2⟩ := hf rfl
          refine ⟨2 * ((allP m.length).length - meet'.length), by rw [e1]; simp only [if_true] at hmu; omega, meet', false, _, _, _, _, _, _, hnd', hme', (fun _ p hp hh => ?_), rfl, rfl⟩
          rw [e1] at hh ⊢
          refine e2 p ?_ hh
          rw [List.length_map, List.take_length]
          exact hp
    · subst c1
      walk_at "go"
      refine dw_lcF (allP m.length) pN (fun p => !decide (p ∈ meet)) pN ?_
      refine di_anyL (di_list ?_)
      walk_at "go"
      refine ⟨szl (by omega), fun B' p hp => ?_, ?_⟩
      · walk_at "go"
        refine rw_niL rfl rfl (shp_ok (shp_pN p) (by decide)) (shp_ok (shp_pNs meet) (by decide)) ?_
        rw [any_pN]
        walk_at "go"
        intro _
        walk_at "go"
      · walk_at "go"
        refine rn_sortP (ps := ((allP m.length).filter fun p => !decide (p ∈ meet)).map toI) (congrArg (fun l => some (PyData.list l)) (pN_toI _)) ?_
        rw [srtP_toI, ← pN_toI, nv_of g (fun q hq => (hme q hq).2) (hcl rfl)]
        walk_at "go"
        refine rn_tupL rfl ?_
        walk_at "go"
end
end K66
namespace K66
open PySem PySem.Spec PyProof.Rows L2 DL
local macro_rules | `(tactic| walk_at "st") => `(tactic| with_reducible first
  | refine pw_p ?_ | refine pw_o ?_ | refine dw_op ?_ | refine dw_un ?_ | refine dw_int ?_ | refine dw_str ?_ | refine dw_bl ?_ | refine dw_non ?_ | refine dw_ty ?_ | refine da_nil' ?_ | refine da_cons' ?_ | refine dw_sortSet ?_ | refine dw_lenSet ?_ | refine dw_CB ?_ | refine dw_BM ?_ | refine dw_BM0 ?_
  | refine dw_tup ?_ | refine dw_lst ?_ | refine dw_notV ?_ | refine dw_and ?_ | refine dw_or ?_ | refine dw_if ?_ | refine dw_chain ?_ | refine dw_sl3 ?_ | refine dw_revT ?_ | refine dw_tupRg1 ?_ | refine dw_lstRg1 ?_ | refine dw_callI ?_ | refine dw_callJ ?_
  | refine dt_test ?_ | refine dt_B ?_ | refine dt_and ?_ | refine dt_or ?_ | refine dt_not ?_ | refine dt_yes ?_ | refine dt_truth ?_
  | refine ds_ret ?_ | refine ds_retN ?_ | refine ds_next ?_ | refine ds_break ?_ | refine ds_cont ?_ | refine ds_drop ?_ | refine ds_if ?_ | refine ds_set ?_
  | refine nx_nxt ?_ | refine rt_nxt ?_ | refine bk_nxt ?_ | refine ct_nxt ?_ | refine nx_lp ?_ | refine rt_lp ?_ | refine bk_lp ?_ | refine ct_lp ?_ | refine asn_d ?_ | refine asn_fr ?_ | refine rt_E0 ?_ | refine rt_E0o ?_ | refine nx_E0 ?_
  | refine dw_newT ?_ | refine dw_dIn ?_ | refine dw_dNotIn ?_ | refine dw_dGet ?_ | refine ds_dPut ?_
  | refine tr_b ?_ | refine tr_i ?_ | refine tr_n ?_ | refine tr_T ?_ | refine tr_L ?_
  | refine do_none ?_ | refine do_some ?_ | refine ite_t ?_ | refine ite_f ?_
  | refine rw_addI ?_ | refine rw_sub ?_ | refine rw_cmp ?_ | refine rw_eqI ?_ | refine rw_neI ?_ | refine rw_eqS ?_ | refine rw_neS ?_ | refine rw_eqB ?_ | refine rw_neB ?_ | refine isN_d ?_ | refine notN_d ?_ | refine rw_isB ?_ | refine rw_notB ?_
  | refine rn_intI ?_ | refine rn_intB ?_ | refine rn_max ?_ | refine rn_min ?_ | refine rn_lenT ?_ | refine rn_lenD ?_ | refine isi_int ?_ | refine isi_bool ?_ | refine isi_str ?_ | refine isi_tuple ?_ | refine isi_list ?_ | refine rn_tupT ?_ | refine rn_listT ?_
  | refine ⟨_, rfl, ?_⟩
  | fail)
local macro_rules | `(tactic| walk_at "va") => `(tactic| first
  | ((with_reducible apply dw_var); rfl) | ((with_reducible apply dw_sl); rfl) | ((with_reducible apply dw_slT); rfl)
  | ((with_reducible apply rw_ixL); rfl; rfl) | ((with_reducible apply rw_ixT); rfl)
  | ((with_reducible apply ite_T); rfl) | ((with_reducible apply ite_F); rfl) | ((with_reducible apply tr_o); rfl)
  | refine ⟨_, rfl, szl (Nat.le_of_ble_eq_true rfl), ?_⟩
  | (with_reducible refine rw_mod (by omega) ?_)
  | (with_reducible refine rw_fdiv (by unfold CDiv; omega) ?_)
  | (with_reducible refine rw_mul (by unfold CMul; omega) ?_)
  | refine ⟨szl (Nat.le_of_ble_eq_true rfl), ?_⟩
  | refine ⟨rfl, ?_⟩
  | rfl
  | fail)
local macro_rules | `(tactic| walk_at "go") => `(tactic| repeat' (first | walk_at "st" | (with_reducible refine ds_seq' ?_) | walk_at "va" | fail))
local macro_rules | `(tactic| walk_at "gs") => `(tactic| repeat' (first | walk_at "st" | walk_at "va" | fail))
section
variable {P : Program} {w : World} {K : PySem.W.Frag} {mg : Str → Option Value} {base : Heap} {a : Ad}
theorem ok_law_meeting (T : Tx K mg a) (G_law_behind : FnOk P w K mg base CX0 1 a.f18 a.d18 ["machine", "k", "pair"] (spB K)) : FnOk P w K mg base CX0 2 a.f19 a.d19 ["machine", "signs"] (spI K argV preV fun x r => r = .fr (.o none ((nv x.1 x.2.length).map pN))) := by
  refine fnI T.F_law_meeting sc_law_meeting (fun x => ⟨rfl, by decide⟩) fun cdv A outer s H E hr => ⟨_, (pss_cons (ps_set (i := 2) sc_law_meeting.nd rfl (Or.inl rfl) (pe_lst pa_nil)) (pss_cons (ps_for PassesOwn.never rfl (pi_range1 (by rfl) T.z_range (pa_cons (pe_callB (kLEN K rfl) (by rfl) T.z_len (by decide +kernel) (pa_cons (pv 0) pa_nil)) pa_nil)) (pg_name (i := 3) sc_law_meeting.nd rfl (Or.inr rfl)) (pss_one (ps_set (i := 2) sc_law_meeting.nd rfl (Or.inl rfl) (pe_op (kADD K rfl) (pv 2) (pe_lc (own := [("p", 9)]) (g := gName 9) (by rfl) sc_law_meeting.nd (pi_range1 (by rfl) T.z_range (pa_cons (pv 3) pa_nil)) (blkOk_by (own := [("p", 9)]) (N := ["machine", "signs", "pairs", "q", "meet", "turned", "more", "pair", "ends", "p", "k", "end"]) (sc := defScope s_law_meeting) (by decide +kernel)) (fun _ _ _ _ _ => (pg_name (i := 9) sc_law_meeting.nd rfl (by first | exact Or.inl rfl | exact Or.inr rfl))) (fun _ _ _ _ _ => pts_nil) (fun _ _ _ _ _ => (pe_tup (pa_cons (pv 9) (pa_cons (pv 3) pa_nil))))))))) (pss_cons (ps_set (i := 4) sc_law_meeting.nd rfl (Or.inr rfl) (pe_lst pa_nil)) (pss_cons (ps_set (i := 5) sc_law_meeting.nd rfl (Or.inl rfl) pe_bl) (pss_cons (ps_while PassesOwn.never (kTRUTH K rfl (pv 5) (by intro _; rfl)) (pss_cons (ps_set (i := 6) sc_law_meeting.nd rfl (Or.inl rfl) (pe_lst pa_nil)) (pss_cons (ps_for PassesOwn.never rfl (kANY K rfl (pv 2)) (pg_name (i := 7) sc_law_meeting.nd rfl (Or.inr rfl)) (pss_cons (ps_setLc (i := 8) (own := [("k", 10)]) (g := gName 10) (by rfl) sc_law_meeting.nd rfl rfl (sw_true rfl rfl rfl (by decide +kernel)) (pi_range1 (by rfl) T.z_range (pa_cons (pe_callB (kLEN K rfl) (by rfl) T.z_len (by decide +kernel) (pa_cons (pv 1) pa_nil)) pa_nil)) (blkOk_by (own := [("k", 10)]) (N := ["machine", "signs", "pairs", "q", "meet", "turned", "more", "pair", "ends", "p", "k", "end"]) (sc := defScope s_law_meeting) (by decide +kernel)) (fun _ _ _ _ _ => (pg_name (i := 10) sc_law_meeting.nd rfl (by first | exact Or.inl rfl | exact Or.inr rfl))) (fun _ _ _ _ _ => pts_nil) (fun _ _ _ _ _ => (pe_call G_law_behind hr (by rfl) T.m_law_behind T.k_law_behind T.b_law_behind .nil pass0 (pa_cons (pv 0) (pa_cons (pv 10) (pa_cons (pv 7) pa_nil)))))) (pss_one (ps_if (PW.pt (pw_and (pt_cmpR (kNI K rfl (hu65 hr)) (pv 7) (pv 4) (by rfl)) (pw_and1 (pt_cmpR (kNE K rfl hr.units) (pe_lc (own := [("end", 11)]) (g := gName 11) (by rfl) sc_law_meeting.nd (kANY K rfl (pv 8)) (blkOk_by (own := [("end", 11)]) (N := ["machine", "signs", "pairs", "q", "meet", "turned", "more", "pair", "ends", "p", "k", "end"]) (sc := defScope s_law_meeting) (by decide +kernel)) (fun _ _ _ _ _ => (pg_name (i := 11) sc_law_meeting.nd rfl (by first | exact Or.inl rfl | exact Or.inr rfl))) (fun _ _ _ _ _ => (pts_one (PW.pt (pw_or (pt_cmpR (kEQ K rfl hr.units) (pe_ix (kIX K rfl) (pv 11) pe_int (fun _ _ => rfl)) (pe_ix (kIX K rfl) (pv 11) pe_int (fun _ _ => rfl)) (nomark _)) (pw_or1 (pt_cmpR (kIN K rfl (hu65 hr)) (pv 11) (pv 4) (by rfl))))))) (fun _ _ _ _ _ => (pv 11))) (pe_lst pa_nil) (nomark _))))) (pss_one (ps_expr (kBM K rfl (pe_bm PySem.F.plainAttrs_list PySem.F.slot_list_append PySem.F.type_list_append mt_append (pv 6) (pa_cons (pv 7) pa_nil))))) pss_nil)))) (pss_cons (ps_set (i := 4) sc_law_meeting.nd rfl (Or.inr rfl) (pe_op (kADD K rfl) (pv 4) (pv 6))) (pss_one (ps_set (i := 5) sc_law_meeting.nd rfl (Or.inl rfl) (pe_cmpR (kNE K rfl hr.units) (pv 6) (pe_lst pa_nil) (nomark _)))))))) (pss_one (ps_ret (pe_lc (own := [("pair", 7)]) (g := gName 7) (by rfl) sc_law_meeting.nd (kANY K rfl (pe_callB (kSORTP K rfl) (by rfl) T.z_sorted (by decide +kernel) (pa_cons (pv 2) pa_nil))) (blkOk_by (own := [("pair", 7)]) (N := ["machine", "signs", "pairs", "q", "meet", "turned", "more", "pair", "ends", "p", "k", "end"]) (sc := defScope s_law_meeting) (by decide +kernel)) (fun _ _ _ _ _ => (pg_name (i := 7) sc_law_meeting.nd rfl (by first | exact Or.inl rfl | exact Or.inr rfl))) (fun _ _ _ _ _ => (pts_one (pt_cmpR (kNI K rfl (hu65 hr)) (pv 7) (pv 4) (by rfl)))) (fun _ _ _ _ _ => (pv 7)))))))))), ?_⟩
  rintro ⟨m, z⟩ ⟨g, hm, hz⟩ B
  dsimp only [argV] at *
  have hN := allP_len m.length
  have hNN : m.length * m.length ≤ 10000 := Nat.mul_le_mul hm hm
  walk_at "go"
  refine ds_forE' (ch := [3]) ?_
  refine di_rng1 ?_
  walk_at "go"
  rw [List.length_map]
  refine ⟨by omega, by omega, fun i G => ∃ (s3 s4 s5 s6 s7 s8 s9 s10 s11 : Sl), G = [.d (encM m), .d (zD z), .o none ((allP i).map pN), s3, s4, s5, s6, s7, s8, s9, s10, s11], ⟨_, _, _, _, _, _, _, _, _, rfl⟩, fun i G2 d hd ⟨s3, s4, s5, s6, s7, s8, s9, s10, s11, hG⟩ => ?_, fun G2 ⟨s3, s4, s5, s6, s7, s8, s9, s10, s11, hG⟩ => ?_⟩
  · subst hG
    obtain ⟨hi, rfl⟩ := rngD_get hd
    have hi : i < m.length := by simpa using hi
    have e0 : (0 : Int) + (i : Int) = (i : Int) := by omega
    rw [e0]
    have h1 := allP_len i
    have h2 : i * i ≤ 10000 := Nat.mul_le_mul (by omega : i ≤ 100) (by omega : i ≤ 100)
    refine dg_name ?_
    walk_at "go"
    refine dw_lcM (List.range i) nD (fun p => pN (p, i)) ?_
    refine di_rng1 ?_
    walk_at "go"
    refine ⟨by omega, by omega, rng_nD _, szl (by rw [List.length_range]; omega), fun B' p hp => ?_, ?_⟩
    · walk_at "go"
    · walk_at "go"
      refine rw_addL rfl rfl (szl (by rw [List.length_map, List.length_map, List.length_range]; omega)) ?_
      walk_at "go"
      have hS : (allP (i + 1)).map pN = (allP i).map pN ++ (List.range i).map fun p => pN (p, i) := by
        rw [allP_succ, List.map_append, List.map_map]
        rfl
      rw [← hS]
      exact ⟨_, _, _, _, _, _, _, _, _, rfl⟩
  · subst hG
    rw [rngD_len, Int.toNat_natCast]
    refine nx_nxt ?_
    refine ds_freeze 2 rfl ?_
    walk_at "go"
    refine ds_while' (fun mu G => ∃ (meet : List (Nat × Nat)) (gr : Bool) (s3 s6 s7 s8 s9 s10 s11 : Sl), meet.Nodup ∧ (∀ q ∈ meet, q ∈ allP m.length ∧ Mt m z.length q) ∧ (gr = false → ∀ p ∈ allP m.length, hit m z.length meet p = true → p ∈ meet) ∧ mu = 2 * ((allP m.length).length - meet.length) + (if gr then 1 else 0) ∧
      G = [.d (encM m), .d (zD z), .d (.list ((allP m.length).map pN)), s3, .o none (meet.map pN), .d (.bool gr), s6, s7, s8, s9, s10, s11]) _ ⟨[], true, _, _, _, _, _, _, _, List.nodup_nil, (fun q h => nomatch h), (fun h => nomatch h), rfl, rfl⟩ ?_
    rintro mu G1 ⟨meet, gr, s3, s6, s7, s8, s9, s10, s11, hnd, hme, hcl, hmu, rfl⟩
    have hlen : meet.length ≤ (allP m.length).length := nodup_le hnd fun q hq => (hme q hq).1
    walk_at "gs"
    refine ite_k (fun c1 => ?_) (fun c1 => ?_)
    · subst c1
      walk_at "go"
      refine ds_forE' (ch := [7]) ?_
      refine di_anyL (di_list ?_)
      walk_at "go"
      refine ⟨fun i G => ∃ (s3 s7 s8 s9 s10 s11 : Sl), G = [.d (encM m), .d (zD z), .d (.list ((allP m.length).map pN)), s3, .o none (meet.map pN), .d (.bool true), .o none ((((allP m.length).take i).filter fun p => !decide (p ∈ meet) && hit m z.length meet p).map pN), s7, s8, s9, s10, s11], ⟨_, _, _, _, _, _, rfl⟩, fun i G2 d hd ⟨s3, s7, s8, s9, s10, s11, hG⟩ => ?_, fun G2 ⟨s3, s7, s8, s9, s10, s11, hG⟩ => ?_⟩
      · subst hG
        rw [List.getElem?_map] at hd
        obtain ⟨p, hp, rfl⟩ := Option.map_eq_some_iff.mp hd
        have hpm : p ∈ allP m.length := List.mem_of_getElem? hp
        have hp12 := mem_allP.mp hpm
        have et : (allP m.length).take (i + 1) = (allP m.length).take i ++ [p] := by
          rw [List.take_succ, hp]
          rfl
        refine dg_name ?_
        walk_at "go"
        refine dw_lcM (List.range z.length) nD (fun k => pN (bh m k p)) ?_
        refine di_rng1 ?_
        walk_at "go"
        refine rn_lenS (szl (by omega)) ?_
        walk_at "go"
        refine ⟨by omega, by omega, rng_nD _, szl (by rw [List.length_range]; omega), fun B' k hk => ?_, ?_⟩
        · walk_at "go"
          refine ⟨(m, z.length, k, p), ⟨g, List.mem_range.mp hk, by show p.1 < m.length; omega, by show p.2 < m.length; omega⟩, rfl, ?_⟩
          rintro _ rfl
          walk_at "go"
        · refine asn_fr (nx_nxt ?_)
          refine ds_freeze 8 rfl ?_
          walk_at "go"
          refine rw_niL rfl rfl (shp_ok (shp_pN p) (by decide)) (shp_ok (shp_pNs meet) (by decide)) ?_
          rw [any_pN]
          walk_at "go"
          refine ite_k (fun c1 => ?_) (fun c1 => ?_)
          · have c1 : p ∉ meet := by simpa using c1
            walk_at "go"
            refine dw_lcF (List.range z.length) (fun k => pN (bh m k p)) (fun k => decide ((bh m k p).1 = (bh m k p).2) || decide (bh m k p ∈ meet)) (fun k => pN (bh m k p)) ?_
            refine di_anyL (di_list ?_)
            walk_at "go"
            refine ⟨szl (by rw [List.length_range]; omega), fun B' k hk => ?_, ?_⟩
            · walk_at "go"
              refine ite_k (fun c2 => ?_) (fun c2 => ?_)
              · have c2 : (bh m k p).1 = (bh m k p).2 := Int.ofNat.inj (of_decide_eq_true c2)
                walk_at "go"
                refine ⟨by simp [c2], rfl, fun _ => ?_⟩
                walk_at "go"
              · have c2 : (bh m k p).1 ≠ (bh m k p).2 := fun e => of_decide_eq_false c2 (by rw [e])
                walk_at "go"
                refine rw_inL rfl rfl (shp_ok (shp_pN _) (by decide)) (shp_ok (shp_pNs meet) (by decide)) ?_
                rw [any_pN]
                walk_at "go"
                refine ⟨by simp [c2], rfl, fun _ => ?_⟩
                walk_at "go"
            · walk_at "go"
              refine rw_neD rfl rfl (shp_ok (shp_list fun x hx => by
                obtain ⟨k, _, rfl⟩ := List.mem_map.mp hx
                exact shp_pN _) (by decide)) (shp_ok (shp_list (n := 0) fun x hx => nomatch hx) (by decide)) ?_
              rw [eqv_nil, filter_isEmpty]
              walk_at "go"
              refine ite_k (fun c2 => ?_) (fun c2 => ?_)
              · have c2 : hit m z.length meet p = true := by simpa [hit] using c2
                walk_at "go"
                refine ⟨⟨rfl, _, _, rfl⟩, ?_⟩
                walk_at "go"
                refine rm_app rfl (szlt (by
                  rw [List.length_map]
                  have := List.length_filter_le (fun p => !decide (p ∈ meet) && hit m z.length meet p) ((allP m.length).take i)
                  rw [List.length_take] at this
                  omega)) ?_
                walk_at "go"
                have hS : (((allP m.length).take (i + 1)).filter fun p => !decide (p ∈ meet) && hit m z.length meet p).map pN = (((allP m.length).take i).filter fun p => !decide (p ∈ meet) && hit m z.length meet p).map pN ++ [pN p] := by
                  rw [et, List.filter_append, List.map_append, List.filter_cons_of_pos (by simp [c1, c2])]
                  rfl
                rw [← hS]
                exact ⟨_, _, _, _, _, _, rfl⟩
              · have c2 : hit m z.length meet p = false := by simpa [hit] using c2
                walk_at "go"
                have hS : (((allP m.length).take (i + 1)).filter fun p => !decide (p ∈ meet) && hit m z.length meet p) = (((allP m.length).take i).filter fun p => !decide (p ∈ meet) && hit m z.length meet p) := by
                  rw [et, List.filter_append, List.filter_cons_of_neg (by simp [c2]), List.filter_nil, List.append_nil]
                rw [← hS]
                exact ⟨_, _, _, _, _, _, rfl⟩
          · have c1 : p ∈ meet := by simpa using c1
            walk_at "go"
            have hS : (((allP m.length).take (i + 1)).filter fun p => !decide (p ∈ meet) && hit m z.length meet p) = (((allP m.length).take i).filter fun p => !decide (p ∈ meet) && hit m z.length meet p) := by
              rw [et, List.filter_append, List.filter_cons_of_neg (by simp [c1]), List.filter_nil, List.append_nil]
            rw [← hS]
            exact ⟨_, _, _, _, _, _, rfl⟩
      · subst hG
        rw [List.length_map, List.take_length]
        obtain ⟨more, hmore⟩ : ∃ l, l = (allP m.length).filter fun p => !decide (p ∈ meet) && hit m z.length meet p := ⟨_, rfl⟩
        rw [← hmore]
        have hml : more.length ≤ (allP m.length).length := by
          rw [hmore]
          exact List.length_filter_le _ _
        have hmm : ∀ q ∈ more, q ∈ allP m.length ∧ q ∉ meet ∧ hit m z.length meet q = true := fun q hq => by
          rw [hmore, List.mem_filter] at hq
          obtain ⟨h1, h2⟩ := hq
          simp only [Bool.and_eq_true, Bool.not_eq_true', decide_eq_false_iff_not] at h2
          exact ⟨h1, h2.1, h2.2⟩
        have hnd2 : (meet ++ more).Nodup := by
          refine List.nodup_append.mpr ⟨hnd, ?_, fun x hx y hy e => ?_⟩
          · rw [hmore]
            exact (allP_nodup _).filter _
          · rw [← e] at hy
            exact (hmm x hy).2.1 hx
        have hme2 : ∀ q ∈ meet ++ more, q ∈ allP m.length ∧ Mt m z.length q := fun q hq => by
          rcases List.mem_append.mp hq with h | h
          · exact hme q h
          · exact ⟨(hmm q h).1, hit_mt (fun q hq => (hme q hq).2) (hmm q h).2.2⟩
        have hl2 : (meet ++ more).length ≤ (allP m.length).length := nodup_le hnd2 fun q hq => (hme2 q hq).1
        rw [List.length_append] at hl2
        walk_at "go"
        refine rw_addL rfl rfl (szl (by rw [List.length_map, List.length_map]; omega)) ?_
        rw [← List.map_append]
        walk_at "go"
        refine rw_neD rfl rfl (shp_ok (shp_pNs more) (by decide)) (shp_ok (shp_list (n := 0) fun x hx => nomatch hx) (by decide)) ?_
        rw [eqv_nil]
        walk_at "go"
        refine ⟨2 * ((allP m.length).length - (meet ++ more).length) + (if (!(more.map pN).isEmpty) = true then 1 else 0), ?_, meet ++ more, !(more.map pN).isEmpty, _, _, _, _, _, _, _, hnd2, hme2, fun e p hp hh => ?_, rfl, rfl⟩
        · rw [List.length_append]
          simp only [if_true] at hmu
          cases more with
          | nil =>
            simp at *
            omega
          | cons a l =>
            rw [List.length_cons] at hl2 ⊢
            simp at *
            omega
        · have em : more = [] := by simpa using e
          rw [em, List.append_nil] at hh ⊢
          refine Classical.byContradiction fun hn => ?_
          have : p ∈ more := by
            rw [hmore, List.mem_filter]
            exact ⟨hp, by simp [hn, hh]⟩
          rw [em] at this
          cases this
    · subst c1
      walk_at "go"
      refine dw_lcF (srtN (allP m.length)) pN (fun p => !decide (p ∈ meet)) pN ?_
      refine di_anyL (di_list ?_)
      walk_at "go"
      refine rn_sortP (ps := (allP m.length).map toI) (congrArg (fun l => some (PyData.list l)) (pN_toI _)) ?_
      rw [srtP_toI, ← pN_toI]
      walk_at "go"
      refine ⟨szl (by rw [(srtN_perm _).length_eq]; omega), fun B' p hp => ?_, ?_⟩
      · walk_at "go"
        refine rw_niL rfl rfl (shp_ok (shp_pN p) (by decide)) (shp_ok (shp_pNs meet) (by decide)) ?_
        rw [any_pN]
        walk_at "go"
        intro _
        walk_at "go"
      · rw [srtN_filter, nv_of g (fun q hq => (hme q hq).2) (hcl rfl)]
        walk_at "go"
end
end K66
namespace K66
open PySem PySem.Spec PyProof.Rows L2 DL
/-! ### least resets, in plain Lean -/
def nextS (m : Mach) (s : List Nat) (k : Nat) : List Nat := (usrt (s.map fun l => (nxt m l k : Int))).map Int.toNat
def Srt (n : Nat) (s : List Nat) : Prop := s.Pairwise (· < ·) ∧ ∀ x ∈ s, x < n
theorem usrt_nat (ns : List Nat) : usrt (ns.map fun (l : Nat) => (l : Int)) = ((usrt (ns.map fun (l : Nat) => (l : Int))).map Int.toNat).map fun (l : Nat) => (l : Int) := by
  rw [List.map_map]
  refine (List.map_id _).symm.trans (List.map_congr_left fun x hx => ?_)
  obtain ⟨y, _, e⟩ := List.mem_map.mp (usrt_mem.mp hx)
  show x = ((x.toNat : Nat) : Int)
  rw [← e]
  rfl
theorem nextS_int (m : Mach) (s : List Nat) (k : Nat) : usrt (s.map fun l => (nxt m l k : Int)) = (nextS m s k).map fun (l : Nat) => (l : Int) := by
  have := usrt_nat (s.map fun l => nxt m l k)
  rw [List.map_map] at this
  exact this
theorem nextS_mem {m : Mach} {s : List Nat} {k x : Nat} : x ∈ nextS m s k ↔ ∃ l ∈ s, nxt m l k = x := by
  have h : (x : Int) ∈ (nextS m s k).map (fun (l : Nat) => (l : Int)) ↔ x ∈ nextS m s k := by
    rw [List.mem_map]
    exact ⟨fun ⟨y, hy, e⟩ => Int.ofNat.inj e ▸ hy, fun h => ⟨x, h, rfl⟩⟩
  rw [← h, ← nextS_int, usrt_mem, List.mem_map]
  exact ⟨fun ⟨l, hl, e⟩ => ⟨l, hl, Int.ofNat.inj e⟩, fun ⟨l, hl, e⟩ => ⟨l, hl, by rw [e]⟩⟩
theorem nextS_srt {m : Mach} {nn : Nat} {s : List Nat} {k : Nat} (g : Good m nn) (hs : Srt m.length s) (hk : k < nn) : Srt m.length (nextS m s k) := by
  refine ⟨?_, fun x hx => ?_⟩
  · have h := usrt_pw (s.map fun l => (nxt m l k : Int))
    rw [nextS_int] at h
    refine (List.pairwise_map.mp h).imp fun h => ?_
    exact Int.ofNat_lt.mp h
  · obtain ⟨l, hl, rfl⟩ := nextS_mem.mp hx
    obtain ⟨_, _, _, h⟩ := g.at (hs.2 l hl) hk
    exact h
theorem srt_range (n : Nat) : Srt n (List.range n) := ⟨List.pairwise_lt_range, fun x hx => List.mem_range.mp hx⟩
theorem Srt.nodup {n : Nat} {s : List Nat} (h : Srt n s) : s.Nodup := List.Pairwise.imp (fun {a b} (h : a < b) (e : a = b) => by omega) h.1
/-! all increasing lists below n -/
def subs : Nat → List (List Nat)
  | 0 => [[]]
  | n + 1 => subs n ++ (subs n).map (· ++ [n])
theorem subs_len : ∀ n, (subs n).length = 2 ^ n
  | 0 => rfl
  | n + 1 => by
    show (subs n ++ (subs n).map (· ++ [n])).length = _
    rw [List.length_append, List.length_map, subs_len n, Nat.pow_succ]
    omega
theorem mem_subs : ∀ {n : Nat} {s : List Nat}, Srt n s → s ∈ subs n
  | 0, s, h => by
    cases s with
    | nil => exact List.mem_singleton.mpr rfl
    | cons x s => exact absurd (h.2 x List.mem_cons_self) (Nat.not_lt_zero x)
  | n + 1, s, h => by
    show s ∈ subs n ++ (subs n).map (· ++ [n])
    by_cases hn : n ∈ s
    · refine List.mem_append_right _ (List.mem_map.mpr ?_)
      obtain ⟨a, b, e⟩ := List.append_of_mem hn
      subst e
      have hb : b = [] := by
        cases b with
        | nil => rfl
        | cons y b =>
          have h1 := (List.pairwise_append.mp h.1).2.1
          have h2 := (List.pairwise_cons.mp h1).1 y List.mem_cons_self
          have h3 := h.2 y (by simp)
          omega
      subst hb
      refine ⟨a, mem_subs ⟨(List.pairwise_append.mp h.1).1, fun x hx => ?_⟩, rfl⟩
      exact (List.pairwise_append.mp h.1).2.2 x hx n (by simp)
    · refine List.mem_append_left _ (mem_subs ⟨h.1, fun x hx => ?_⟩)
      have h1 := h.2 x hx
      have : x ≠ n := fun e => hn (e ▸ hx)
      omega
theorem srt_count {n : Nat} {l : List (List Nat)} (hn : l.Nodup) (h : ∀ s ∈ l, Srt n s) : l.length ≤ 2 ^ n := by
  rw [← subs_len]
  exact nodup_le hn fun s hs => mem_subs (h s hs)
/-! the search -/
abbrev Qe := List Nat × List Nat
def kid (m : Mach) (z : List Nat) (e : Qe) (k : Nat) : Qe := (nextS m e.1 k, e.2 ++ [z.getD k 0])
def kids (m : Mach) (z : List Nat) (e : Qe) : List Qe := (List.range z.length).map (kid m z e)
inductive Rf (m : Mach) (z : List Nat) : List Qe → List (List Nat) → Option (List Nat) → Prop
  | nil {met} : Rf m z [] met none
  | one {e q met} : e.1.length = 1 → Rf m z (e :: q) met (some e.2)
  | skip {e q met res} : e.1.length ≠ 1 → e.1 ∈ met → Rf m z q met res → Rf m z (e :: q) met res
  | exp {e q met res} : e.1.length ≠ 1 → e.1 ∉ met → Rf m z (q ++ kids m z e) (met ++ [e.1]) res → Rf m z (e :: q) met res
theorem Rf.det {m : Mach} {z : List Nat} {q : List Qe} {met : List (List Nat)} {r1 r2 : Option (List Nat)} (h1 : Rf m z q met r1) (h2 : Rf m z q met r2) : r1 = r2 := by
  induction h1 with
  | nil => cases h2; rfl
  | one h =>
    cases h2 with
    | one _ => rfl
    | skip h' _ _ => exact absurd h h'
    | exp h' _ _ => exact absurd h h'
  | skip h h' _ ih =>
    cases h2 with
    | one h2 => exact absurd h2 h
    | skip _ _ h2 => exact ih h2
    | exp _ h2 _ => exact absurd h' h2
  | exp h h' _ ih =>
    cases h2 with
    | one h2 => exact absurd h2 h
    | skip _ h2 _ => exact absurd h2 h'
    | exp _ _ h2 => exact ih h2
/-! the queue without what came before -/
def dd : List Qe → List (List Nat) → List Qe
  | [], _ => []
  | e :: q, seen => if e.1 ∈ seen then dd q seen else e :: dd q (seen ++ [e.1])
theorem dd_eq (e : Qe) (q : List Qe) (seen : List (List Nat)) : dd (e :: q) seen = if e.1 ∈ seen then dd q seen else e :: dd q (seen ++ [e.1]) := rfl
theorem dd_nil {m : Mach} {z : List Nat} : ∀ {q : List Qe} {seen : List (List Nat)}, dd q seen = [] → (∀ s ∈ seen, s.length ≠ 1) → Rf m z q seen none
  | [], _, _, _ => .nil
  | e :: q, seen, h, hs => by
    unfold dd at h
    by_cases he : e.1 ∈ seen
    · rw [if_pos he] at h
      exact .skip (hs _ he) he (dd_nil h hs)
    · rw [if_neg he] at h
      cases h
theorem dd_cons {m : Mach} {z : List Nat} {e : Qe} {ps : List Qe} : ∀ {q : List Qe} {seen : List (List Nat)}, dd q seen = e :: ps → (∀ s ∈ seen, s.length ≠ 1) → e.1 ∉ seen ∧ ∃ q', dd q' (seen ++ [e.1]) = ps ∧ ∀ res, Rf m z (e :: q') seen res → Rf m z q seen res
  | [], _, h, _ => by cases h
  | e' :: q, seen, h, hs => by
    unfold dd at h
    by_cases he : e'.1 ∈ seen
    · rw [if_pos he] at h
      obtain ⟨h1, q', h2, h3⟩ := dd_cons h hs
      exact ⟨h1, q', h2, fun res hr => .skip (hs _ he) he (h3 res hr)⟩
    · rw [if_neg he] at h
      have h := List.cons.inj h
      rw [← h.1]
      exact ⟨he, q, h.2, fun res hr => hr⟩
theorem dd_app : ∀ (q k : List Qe) (seen : List (List Nat)), dd (q ++ k) seen = dd q seen ++ dd k (seen ++ (dd q seen).map (·.1))
  | [], k, seen => by simp [dd]
  | e :: q, k, seen => by
    show dd (e :: (q ++ k)) seen = _
    rw [dd_eq, dd_eq]
    by_cases he : e.1 ∈ seen
    · rw [if_pos he, if_pos he, dd_app q k seen]
    · rw [if_neg he, if_neg he, dd_app q k (seen ++ [e.1])]
      simp
theorem dd_snoc (q : List Qe) (x : Qe) (seen : List (List Nat)) : dd (q ++ [x]) seen = dd q seen ++ (if x.1 ∈ seen ++ (dd q seen).map (·.1) then [] else [x]) := by
  rw [dd_app]
  congr 1
theorem dd_sub : ∀ {q : List Qe} {seen : List (List Nat)} {e : Qe}, e ∈ dd q seen → e ∈ q ∧ e.1 ∉ seen
  | [], _, _, h => by cases h
  | x :: q, seen, e, h => by
    unfold dd at h
    by_cases hx : x.1 ∈ seen
    · rw [if_pos hx] at h
      obtain ⟨h1, h2⟩ := dd_sub h
      exact ⟨List.mem_cons_of_mem _ h1, h2⟩
    · rw [if_neg hx] at h
      rcases List.mem_cons.mp h with h | h
      · rw [h]
        exact ⟨List.mem_cons_self, hx⟩
      · obtain ⟨h1, h2⟩ := dd_sub h
        exact ⟨List.mem_cons_of_mem _ h1, fun z => h2 (List.mem_append_left _ z)⟩
theorem dd_nodup : ∀ {q : List Qe} {seen : List (List Nat)}, ((dd q seen).map (·.1)).Nodup
  | [], _ => List.nodup_nil
  | x :: q, seen => by
    unfold dd
    by_cases hx : x.1 ∈ seen
    · rw [if_pos hx]
      exact dd_nodup
    · rw [if_neg hx, List.map_cons]
      refine List.nodup_cons.mpr ⟨fun h => ?_, dd_nodup⟩
      obtain ⟨e, he, e1⟩ := List.mem_map.mp h
      exact (dd_sub he).2 (List.mem_append_right _ (by rw [← e1]; exact List.mem_singleton.mpr rfl))
/-! what it finds -/
def runK (m : Mach) (l : Nat) (ks : List Nat) : Nat := ks.foldl (fun l k => nxt m l k) l
def itS (m : Mach) (s : List Nat) (ks : List Nat) : List Nat := ks.foldl (nextS m) s
theorem itS_mem {m : Mach} {x : Nat} : ∀ {ks s : List Nat}, x ∈ itS m s ks ↔ ∃ l ∈ s, runK m l ks = x
  | [], s => by simp [itS, runK]
  | k :: ks, s => by
    show x ∈ itS m (nextS m s k) ks ↔ ∃ l ∈ s, runK m (nxt m l k) ks = x
    rw [itS_mem]
    constructor
    · rintro ⟨l, hl, e⟩
      obtain ⟨l', hl', rfl⟩ := nextS_mem.mp hl
      exact ⟨l', hl', e⟩
    · rintro ⟨l, hl, e⟩
      exact ⟨_, nextS_mem.mpr ⟨l, hl, rfl⟩, e⟩
theorem itS_srt {m : Mach} {nn : Nat} (g : Good m nn) : ∀ {ks s : List Nat}, Srt m.length s → (∀ k ∈ ks, k < nn) → Srt m.length (itS m s ks)
  | [], _, h, _ => h
  | k :: ks, s, h, hk => itS_srt (ks := ks) (s := nextS m s k) g (nextS_srt g h (hk k List.mem_cons_self)) fun j hj => hk j (List.mem_cons_of_mem _ hj)
theorem itS_app (m : Mach) (s ks js : List Nat) : itS m s (ks ++ js) = itS m (itS m s ks) js := List.foldl_append
theorem mt_row {m : Mach} {nn : Nat} {p : Nat × Nat} (h : Mt m nn p) : ∃ ks, (∀ k ∈ ks, k < nn) ∧ runK m p.1 ks = runK m p.2 ks := by
  have sym : ∀ {p : Nat × Nat} {k : Nat} {ks : List Nat}, runK m (bh m k p).1 ks = runK m (bh m k p).2 ks → runK m p.1 (k :: ks) = runK m p.2 (k :: ks) := by
    intro p k ks e
    show runK m (nxt m p.1 k) ks = runK m (nxt m p.2 k) ks
    unfold bh at e
    simp only at e
    by_cases h : nxt m p.1 k ≤ nxt m p.2 k
    · rw [Nat.min_eq_left h, Nat.max_eq_right h] at e
      exact e
    · have h : nxt m p.2 k ≤ nxt m p.1 k := by omega
      rw [Nat.min_eq_right h, Nat.max_eq_left h] at e
      exact e.symm
  induction h with
  | @base p k hk e => exact ⟨[k], fun j hj => by rw [List.mem_singleton.mp hj]; exact hk, sym (ks := []) e⟩
  | @step p k hk _ ih =>
    obtain ⟨ks, h1, h2⟩ := ih
    exact ⟨k :: ks, fun j hj => (List.mem_cons.mp hj).elim (fun e => e ▸ hk) (h1 j), sym h2⟩
theorem reset_row {m : Mach} {nn : Nat} (g : Good m nn) (hall : ∀ p ∈ allP m.length, Mt m nn p) : ∀ (n : Nat) {s : List Nat}, s.length = n → Srt m.length s → s ≠ [] → ∃ ks, (∀ k ∈ ks, k < nn) ∧ (itS m s ks).length = 1 := by
  intro n
  induction n using Nat.strongRecOn with
  | ind n ih =>
    intro s hn hs hne
    match s, hn, hs, hne with
    | [x], _, _, _ => exact ⟨[], (fun k h => nomatch h), rfl⟩
    | x :: y :: s, hn, hs, hne =>
      have hxy : x < y := (List.pairwise_cons.mp hs.1).1 y List.mem_cons_self
      obtain ⟨ks, h1, h2⟩ := mt_row (hall (x, y) (mem_allP.mpr ⟨hxy, hs.2 y (by simp)⟩))
      have h2 : runK m x ks = runK m y ks := h2
      have hs2 := itS_srt g hs h1
      have hl : (itS m (x :: y :: s) ks).length ≤ ((y :: s).map fun l => runK m l ks).length := by
        refine nodup_le hs2.nodup fun v hv => ?_
        obtain ⟨l, hl, rfl⟩ := itS_mem.mp hv
        rcases List.mem_cons.mp hl with e | hl
        · rw [e, h2]
          exact List.mem_map.mpr ⟨y, List.mem_cons_self, rfl⟩
        · exact List.mem_map.mpr ⟨l, hl, rfl⟩
      have hne2 : itS m (x :: y :: s) ks ≠ [] := fun e => by
        have : runK m x ks ∈ itS m (x :: y :: s) ks := itS_mem.mpr ⟨x, List.mem_cons_self, rfl⟩
        rw [e] at this
        cases this
      rw [List.length_map] at hl
      obtain ⟨js, h3, h4⟩ := ih _ (by rw [← hn]; simp only [List.length_cons] at hl ⊢; omega) rfl hs2 hne2
      exact ⟨ks ++ js, fun k hk => (List.mem_append.mp hk).elim (h1 k) (h3 k), by rw [itS_app]; exact h4⟩
/-- where nothing is found, what was met is closed -/
theorem Rf.none_closed {m : Mach} {z : List Nat} {q : List Qe} {met : List (List Nat)} {res : Option (List Nat)} (h : Rf m z q met res) : res = none → (∀ s ∈ met, s.length ≠ 1 ∧ ∀ k < z.length, nextS m s k ∈ met ∨ ∃ e ∈ q, e.1 = nextS m s k) →
    ∃ C : List Nat → Prop, (∀ e ∈ q, C e.1) ∧ (∀ s ∈ met, C s) ∧ (∀ s, C s → s.length ≠ 1 ∧ ∀ k < z.length, C (nextS m s k)) := by
  induction h with
  | @nil met =>
    intro _ hm
    refine ⟨fun s => s ∈ met, (fun e h => nomatch h), fun s h => h, fun s h => ⟨(hm s h).1, fun k hk => ?_⟩⟩
    rcases (hm s h).2 k hk with h | ⟨e, h, _⟩
    · exact h
    · cases h
  | one _ => intro h; cases h
  | @skip e q met res h1 h2 _ ih =>
    intro hr hm
    obtain ⟨C, c1, c2, c3⟩ := ih hr fun s hs => ⟨(hm s hs).1, fun k hk => by
      rcases (hm s hs).2 k hk with h | ⟨e', h, he⟩
      · exact .inl h
      · rcases List.mem_cons.mp h with h | h
        · left
          rw [← he, h]
          exact h2
        · exact .inr ⟨e', h, he⟩⟩
    refine ⟨C, fun e' he => ?_, c2, c3⟩
    rcases List.mem_cons.mp he with h | h
    · rw [h]
      exact c2 _ h2
    · exact c1 _ h
  | @exp e q met res h1 h2 _ ih =>
    intro hr hm
    obtain ⟨C, c1, c2, c3⟩ := ih hr fun s hs => by
      rcases List.mem_append.mp hs with hs | hs
      · refine ⟨(hm s hs).1, fun k hk => ?_⟩
        rcases (hm s hs).2 k hk with h | ⟨e', h, he⟩
        · exact .inl (List.mem_append_left _ h)
        · rcases List.mem_cons.mp h with h | h
          · left
            rw [← he, h]
            exact List.mem_append_right _ (List.mem_singleton.mpr rfl)
          · exact .inr ⟨e', List.mem_append_left _ h, he⟩
      · rw [List.mem_singleton.mp hs]
        refine ⟨h1, fun k hk => .inr ⟨kid m z e k, List.mem_append_right _ (List.mem_map.mpr ⟨k, List.mem_range.mpr hk, rfl⟩), rfl⟩⟩
    refine ⟨C, fun e' he => ?_, fun s hs => c2 s (List.mem_append_left _ hs), c3⟩
    rcases List.mem_cons.mp he with h | h
    · rw [h]
      exact c2 _ (List.mem_append_right _ (List.mem_singleton.mpr rfl))
    · exact c1 _ (List.mem_append_left _ h)
def q0 (m : Mach) : List Qe := [(List.range m.length, [])]
theorem Rf.found {m : Mach} {z : List Nat} (g : Good m z.length) (h1 : 1 ≤ m.length) (hall : ∀ p ∈ allP m.length, Mt m z.length p) {res : Option (List Nat)} (h : Rf m z (q0 m) [] res) : ∃ r, res = some r := by
  cases res with
  | some r => exact ⟨r, rfl⟩
  | none =>
    obtain ⟨C, c1, _, c3⟩ := h.none_closed rfl fun s h => nomatch h
    obtain ⟨ks, k1, k2⟩ := reset_row g hall _ rfl (srt_range m.length) (fun e => by
      have := congrArg List.length e
      rw [List.length_range, List.length_nil] at this
      omega)
    have : ∀ {ks s : List Nat}, C s → (∀ k ∈ ks, k < z.length) → C (itS m s ks) := by
      intro ks
      induction ks with
      | nil => exact fun h _ => h
      | cons k ks ih => exact fun h hk => ih ((c3 _ h).2 k (hk k List.mem_cons_self)) fun j hj => hk j (List.mem_cons_of_mem _ hj)
    exact absurd k2 (c3 _ (this (c1 _ (List.mem_singleton.mpr rfl)) k1)).1
/-- an entry tells where its row leads all lines -/
def Vq (m : Mach) (z : List Nat) (e : Qe) : Prop := (∀ c ∈ e.2, c ∈ z) ∧ ∀ x, x ∈ e.1 ↔ ∃ l, l < m.length ∧ run m z l e.2 = x
theorem kid_v {m : Mach} {z : List Nat} (hz : z.Nodup) {e : Qe} (h : Vq m z e) {k : Nat} (hk : k < z.length) : Vq m z (kid m z e k) := by
  have ez : z.getD k 0 = z[k] := by
    rw [List.getD_eq_getElem?_getD, List.getElem?_eq_getElem hk]
    rfl
  have ei : z.idxOf z[k] = k := by
    have h1 := List.idxOf_lt_length_of_mem (List.getElem_mem hk)
    have h2 := List.getElem_idxOf h1
    exact (List.getElem_inj hz).mp h2
  refine ⟨fun c hc => ?_, fun x => ?_⟩
  · rcases List.mem_append.mp hc with hc | hc
    · exact h.1 c hc
    · rw [List.mem_singleton.mp hc, ez]
      exact List.getElem_mem hk
  · show x ∈ nextS m e.1 k ↔ ∃ l, l < m.length ∧ run m z l (e.2 ++ [z.getD k 0]) = x
    have er : ∀ l, run m z l (e.2 ++ [z.getD k 0]) = nxt m (run m z l e.2) k := fun l => by
      unfold run
      rw [List.foldl_append, ez]
      show nxt m _ (z.idxOf z[k]) = _
      rw [ei]
    rw [nextS_mem]
    constructor
    · rintro ⟨l, hl, e1⟩
      obtain ⟨j, hj, e2⟩ := (h.2 l).mp hl
      exact ⟨j, hj, by rw [er, e2, e1]⟩
    · rintro ⟨j, hj, e1⟩
      rw [er] at e1
      exact ⟨_, (h.2 _).mpr ⟨j, hj, rfl⟩, e1⟩
theorem Rf.sound {m : Mach} {z : List Nat} (hz : z.Nodup) {q : List Qe} {met : List (List Nat)} {res : Option (List Nat)} (h : Rf m z q met res) : ∀ {r}, res = some r → (∀ e ∈ q, Vq m z e) → (∀ c ∈ r, c ∈ z) ∧ ∃ x, ∀ l, l < m.length → run m z l r = x := by
  induction h with
  | nil => intro r h; cases h
  | @one e q met h =>
    intro r hr hv
    cases hr
    obtain ⟨h1, h2⟩ := hv e List.mem_cons_self
    match hs : e.1, h with
    | [x], _ =>
      refine ⟨h1, x, fun l hl => ?_⟩
      have := (h2 (run m z l e.2)).mpr ⟨l, hl, rfl⟩
      rw [hs] at this
      exact List.mem_singleton.mp this
  | @skip e q met res h1 h2 _ ih => exact fun hr hv => ih hr fun e he => hv e (List.mem_cons_of_mem _ he)
  | @exp e q met res h1 h2 _ ih =>
    intro r hr hv
    refine ih hr fun e' he => ?_
    rcases List.mem_append.mp he with he | he
    · exact hv e' (List.mem_cons_of_mem _ he)
    · obtain ⟨k, hk, rfl⟩ := List.mem_map.mp he
      exact kid_v hz (hv e List.mem_cons_self) (List.mem_range.mp hk)
theorem q0_v (m : Mach) (z : List Nat) : ∀ e ∈ q0 m, Vq m z e := fun e he => by
  rw [List.mem_singleton.mp he]
  refine ⟨(fun c h => nomatch h), fun x => ?_⟩
  show x ∈ List.range m.length ↔ _
  rw [List.mem_range]
  exact ⟨fun h => ⟨x, h, rfl⟩, fun ⟨l, hl, e⟩ => e ▸ hl⟩
end K66
namespace K66
open PySem PySem.Spec PyProof.Rows L2 DL
local macro_rules | `(tactic| walk_at "st") => `(tactic| with_reducible first
  | refine pw_p ?_ | refine pw_o ?_ | refine dw_op ?_ | refine dw_un ?_ | refine dw_int ?_ | refine dw_str ?_ | refine dw_bl ?_ | refine dw_non ?_ | refine dw_ty ?_ | refine da_nil' ?_ | refine da_cons' ?_ | refine dw_sortSet ?_ | refine dw_lenSet ?_ | refine dw_CB ?_ | refine dw_BM ?_ | refine dw_BM0 ?_
  | refine dw_tup ?_ | refine dw_lst ?_ | refine dw_notV ?_ | refine dw_and ?_ | refine dw_or ?_ | refine dw_if ?_ | refine dw_chain ?_ | refine dw_sl3 ?_ | refine dw_revT ?_ | refine dw_tupRg1 ?_ | refine dw_lstRg1 ?_ | refine dw_callI ?_ | refine dw_callJ ?_
  | refine dt_test ?_ | refine dt_B ?_ | refine dt_and ?_ | refine dt_or ?_ | refine dt_not ?_ | refine dt_yes ?_ | refine dt_truth ?_
  | refine ds_ret ?_ | refine ds_retN ?_ | refine ds_next ?_ | refine ds_break ?_ | refine ds_cont ?_ | refine ds_drop ?_ | refine ds_if ?_ | refine ds_set ?_
  | refine nx_nxt ?_ | refine rt_nxt ?_ | refine bk_nxt ?_ | refine ct_nxt ?_ | refine nx_lp ?_ | refine rt_lp ?_ | refine bk_lp ?_ | refine ct_lp ?_ | refine asn_d ?_ | refine asn_fr ?_ | refine rt_E0 ?_ | refine rt_E0o ?_ | refine nx_E0 ?_
  | refine dw_newT ?_ | refine dw_dIn ?_ | refine dw_dNotIn ?_ | refine dw_dGet ?_ | refine ds_dPut ?_
  | refine tr_b ?_ | refine tr_i ?_ | refine tr_n ?_ | refine tr_T ?_ | refine tr_L ?_
  | refine do_none ?_ | refine do_some ?_ | refine ite_t ?_ | refine ite_f ?_
  | refine rw_addI ?_ | refine rw_sub ?_ | refine rw_cmp ?_ | refine rw_eqI ?_ | refine rw_neI ?_ | refine rw_eqS ?_ | refine rw_neS ?_ | refine rw_eqB ?_ | refine rw_neB ?_ | refine isN_d ?_ | refine notN_d ?_ | refine rw_isB ?_ | refine rw_notB ?_
  | refine rn_intI ?_ | refine rn_intB ?_ | refine rn_max ?_ | refine rn_min ?_ | refine rn_lenT ?_ | refine rn_lenD ?_ | refine isi_int ?_ | refine isi_bool ?_ | refine isi_str ?_ | refine isi_tuple ?_ | refine isi_list ?_ | refine rn_tupT ?_ | refine rn_listT ?_
  | refine ⟨_, rfl, ?_⟩
  | fail)
local macro_rules | `(tactic| walk_at "va") => `(tactic| first
  | ((with_reducible apply dw_var); rfl) | ((with_reducible apply dw_sl); rfl) | ((with_reducible apply dw_slT); rfl)
  | ((with_reducible apply rw_ixL); rfl; rfl) | ((with_reducible apply rw_ixT); rfl)
  | ((with_reducible apply ite_T); rfl) | ((with_reducible apply ite_F); rfl) | ((with_reducible apply tr_o); rfl)
  | refine ⟨_, rfl, szl (Nat.le_of_ble_eq_true rfl), ?_⟩
  | (with_reducible refine rw_mod (by omega) ?_)
  | (with_reducible refine rw_fdiv (by unfold CDiv; omega) ?_)
  | (with_reducible refine rw_mul (by unfold CMul; omega) ?_)
  | refine ⟨szl (Nat.le_of_ble_eq_true rfl), ?_⟩
  | refine ⟨rfl, ?_⟩
  | rfl
  | fail)
local macro_rules | `(tactic| walk_at "go") => `(tactic| repeat' (first | walk_at "st" | (with_reducible refine ds_seq' ?_) | walk_at "va" | fail))
local macro_rules | `(tactic| walk_at "gs") => `(tactic| repeat' (first | walk_at "st" | walk_at "va" | fail))
/-! ### a queue's entries, dicts by sets of lines, as data -/
abbrev eD (e : Qe) : PyData := .tuple [.list (e.1.map nD), zD e.2]
def sK (s : List Nat) : List Key := s.map fun (n : Nat) => Sum.inl (n : Int)
theorem sK_D (s : List Nat) : (sK s).map keyD = s.map nD := by
  unfold sK
  rw [List.map_map]
  rfl
theorem sK_inj : ∀ {a b : List Nat}, sK a = sK b → a = b
  | [], [], _ => rfl
  | [], _ :: _, h => by cases h
  | _ :: _, [], h => by cases h
  | x :: a, y :: b, h => by
    have h := List.cons.inj h
    have h1 : (x : Int) = (y : Int) := Sum.inl.inj h.1
    rw [Int.ofNat.inj h1, sK_inj h.2]
def kv {α : Type} (key : α → List Nat) (val : α → PyData) (l : List α) : List (List Key × PyData) := l.map fun a => (sK (key a), val a)
theorem lk_kv {α : Type} {key : α → List Nat} {val : α → PyData} {s : List Nat} : ∀ {l : List α}, lkD (kv key val l) (sK s) = (l.find? fun a => decide (key a = s)).map val
  | [] => rfl
  | a :: l => by
    have e : lkD (kv key val (a :: l)) (sK s) = if sK (key a) = sK s then some (val a) else lkD (kv key val l) (sK s) := by
      unfold lkD kv
      rw [List.map_cons, List.find?_cons]
      by_cases h : sK (key a) = sK s <;> simp [h]
    rw [e, List.find?_cons]
    by_cases h : key a = s
    · subst h
      simp
    · have h' : sK (key a) ≠ sK s := fun z => h (sK_inj z)
      rw [if_neg h', lk_kv]
      simp [h]
theorem lk_is {α : Type} {key : α → List Nat} {val : α → PyData} {s : List Nat} {l : List α} : (lkD (kv key val l) (sK s)).isSome = decide (s ∈ l.map key) := by
  rw [lk_kv]
  induction l with
  | nil => rfl
  | cons a l ih =>
    rw [List.find?_cons]
    by_cases h : key a = s
    · simp [h]
    · have h' : ¬ s = key a := fun z => h z.symm
      simpa [h, h'] using ih
theorem put_kv {α : Type} {key : α → List Nat} {val : α → PyData} {a : α} {l : List α} (h : key a ∉ l.map key) : putD (kv key val l) (sK (key a)) (val a) = kv key val (l ++ [a]) := by
  unfold putD
  rw [if_neg]
  · unfold kv
    rw [List.map_append]
    rfl
  · intro e
    rw [List.any_eq_true] at e
    obtain ⟨x, hx, e⟩ := e
    obtain ⟨b, hb, rfl⟩ := List.mem_map.mp hx
    exact h (List.mem_map.mpr ⟨b, hb, sK_inj (of_decide_eq_true e)⟩)
theorem kv_len {α : Type} {key : α → List Nat} {val : α → PyData} (l : List α) : (kv key val l).length = l.length := List.length_map _
abbrev metD (ms : List (List Nat)) := kv (fun s => s) (fun _ => PyData.bool true) ms
theorem rng_nD' (n : Nat) : rngD 0 n = (List.range n).map iD := by
  have := rng_nD n
  rwa [Int.toNat_natCast] at this
theorem shp_eD {z : List Nat} (hz : ∀ c ∈ z, c < 0x110000) {e : Qe} (h : ∀ c ∈ e.2, c ∈ z) : Shp 2 (eD e) := shp_tup fun x hx => by
  simp at hx
  rcases hx with rfl | rfl
  · exact shp_list fun y hy => by
      obtain ⟨n, _, rfl⟩ := List.mem_map.mp hy
      exact shp_int 0 _
  · exact shp_str 1 fun c hc => hz c (h c hc)
theorem kid_get {m : Mach} {z : List Nat} {e : Qe} {k : Nat} (hk : k < z.length) : (kids m z e).take (k + 1) = (kids m z e).take k ++ [kid m z e k] := by
  rw [List.take_succ]
  congr 1
  unfold kids
  rw [List.getElem?_map, List.getElem?_range hk]
  rfl
def oD : Option (List Nat) → PyData
  | none => .none
  | some r => zD r
section
variable {P : Program} {w : World} {K : PySem.W.Frag} {mg : Str → Option Value} {base : Heap} {a : Ad}
def preS (x : Mach × List Nat) : Prop := Good x.1 x.2.length ∧ 1 ≤ x.1.length ∧ x.1.length ≤ 10 ∧ x.2.length ≤ 100 ∧ ∀ c ∈ x.2, c < 0x110000
theorem ok_law_least_reset (T : Tx K mg a) : FnOk P w K mg base CX0 1 a.f20 a.d20 ["machine", "signs"] (spI K argV preS fun x r => ∃ o, Rf x.1 x.2 (q0 x.1) [] o ∧ r = .p (.d (oD o))) := by
  refine fnI T.F_law_least_reset sc_law_least_reset (fun x => ⟨rfl, by decide⟩) fun cdv A outer s H E hr => ⟨_, (pss_cons (ps_set (i := 2) sc_law_least_reset.nd rfl (Or.inl rfl) (pe_lst (pa_cons (pe_tup (pa_cons (pe_listRg rfl (by rfl) T.z_list (prg_1 (by rfl) T.z_range (pe_callB (kLEN K rfl) (by rfl) T.z_len (by decide +kernel) (pa_cons (pv 0) pa_nil)))) (pa_cons (pe_strM [] rfl) pa_nil))) pa_nil))) (pss_cons (ps_set (i := 3) sc_law_least_reset.nd rfl (Or.inl rfl) pe_dnewT) (pss_cons (ps_while PassesOwn.never (pt_cmpR (kNE K rfl hr.units) (pv 2) (pe_lst pa_nil) (nomark _)) (pss_cons (ps_set (i := 4) sc_law_least_reset.nd rfl (Or.inl rfl) (pe_lst pa_nil)) (pss_cons (ps_for PassesOwn.never rfl (kANY K rfl (pv 2)) (kTG K rfl rfl (pgs_cons (pg_name (i := 5) sc_law_least_reset.nd rfl (Or.inl rfl)) (pgs_cons (pg_name (i := 6) sc_law_least_reset.nd rfl (Or.inl rfl)) pgs_nil))) (pss_cons (ps_if (pt_cmpR (kEQ K rfl hr.units) (pe_callB (kLEN K rfl) (by rfl) T.z_len (by decide +kernel) (pa_cons (pv 5) pa_nil)) pe_int (nomark _)) (pss_one (ps_ret (pv 6))) pss_nil) (pss_one (ps_if (pt_cmp (pc_dnotin (hu_of hr) (pe_callTy (kTUP K rfl) (by rfl) T.z_tuple (by decide +kernel) (pa_cons (pv 5) pa_nil)) (pv 3)) rfl) (pss_cons (ps_dput (hu_of hr) (pv 3) (pe_callTy (kTUP K rfl) (by rfl) T.z_tuple (by decide +kernel) (pa_cons (pv 5) pa_nil)) pe_bl rfl) (pss_one (ps_for PassesOwn.never rfl (pi_range1 (by rfl) T.z_range (pa_cons (pe_callB (kLEN K rfl) (by rfl) T.z_len (by decide +kernel) (pa_cons (pv 1) pa_nil)) pa_nil)) (pg_name (i := 7) sc_law_least_reset.nd rfl (Or.inr rfl)) (pss_one (ps_expr (kBM K rfl (pe_bm PySem.F.plainAttrs_list PySem.F.slot_list_append PySem.F.type_list_append mt_append (pv 4) (pa_cons (pe_tup (pa_cons (pe_callB (kSORTSET w rfl rfl) (by rfl) T.z_sorted (by decide +kernel) (pa_cons (pe_callTy (kSET w K rfl rfl rfl) (by rfl) T.z_set (by decide +kernel) (pa_cons (pe_lc (own := [("line", 8)]) (g := gName 8) (by rfl) sc_law_least_reset.nd (kANY K rfl (pv 5)) (blkOk_by (own := [("line", 8)]) (N := ["machine", "signs", "front", "met", "behind", "lines", "row", "k", "line"]) (sc := defScope s_law_least_reset) (by decide +kernel)) (fun _ _ _ _ _ => (pg_name (i := 8) sc_law_least_reset.nd rfl (by first | exact Or.inl rfl | exact Or.inr rfl))) (fun _ _ _ _ _ => pts_nil) (fun _ _ _ _ _ => (pe_ix (kIX K rfl) (pe_ix (kIX K rfl) (pe_ix (kIX K rfl) (pv 0) (pv 8) (fun _ _ => rfl)) pe_int (fun _ _ => rfl)) (pv 7) (fun _ _ => rfl)))) pa_nil)) pa_nil)) (pa_cons (pe_op (kADD K rfl) (pv 6) (pe_ix (kIX K rfl) (pv 1) (pv 7) (fun _ _ => rfl))) pa_nil))) pa_nil)))))))) pss_nil)))) (pss_one (ps_set (i := 2) sc_law_least_reset.nd rfl (Or.inl rfl) (pv 4)))))) (pss_one (ps_ret pe_non))))), ?_⟩
  rintro ⟨m, z⟩ ⟨g, hm1, hm, hz, hc⟩ B
  dsimp only [argV] at *
  have h2 : 2 ^ m.length ≤ 1024 := Nat.pow_le_pow_right (by decide) hm
  walk_at "go"
  refine ⟨by rw [List.length_map]; omega, ?_⟩
  rw [List.length_map, rng_nD']
  walk_at "gs"
  refine ds_freeze 2 rfl ?_
  walk_at "go"
  refine ds_while' (fun mu G => ∃ (front : List Qe) (ms : List (List Nat)) (s4 s5 s6 s7 s8 : Sl), (∀ res, Rf m z front ms res → Rf m z (q0 m) [] res) ∧ ms.Nodup ∧ (∀ s ∈ ms, Srt m.length s) ∧ (∀ e ∈ front, Srt m.length e.1 ∧ e.2.length ≤ ms.length ∧ ∀ c ∈ e.2, c ∈ z) ∧ front.length ≤ 100 * ms.length + 1 ∧ mu = 2 * (2 ^ m.length - ms.length) + (if front = [] then 0 else 1) ∧
    G = [.d (encM m), .d (zD z), .d (.list (front.map eD)), .t (metD ms), s4, s5, s6, s7, s8]) _ ⟨q0 m, [], _, _, _, _, _, fun res h => h, List.nodup_nil, (fun s h => nomatch h), (fun e he => ?_), (by simp [q0]), rfl, rfl⟩ ?_
  · rw [List.mem_singleton.mp he]
    exact ⟨srt_range _, Nat.le_refl _, fun c h => nomatch h⟩
  rintro mu G1 ⟨front, ms, s4, s5, s6, s7, s8, hrf, hnd, hms, hfr, hfl, hmu, rfl⟩
  have hml : ms.length ≤ 2 ^ m.length := srt_count hnd hms
  walk_at "go"
  refine rw_neD rfl rfl (shp_ok (shp_list fun x hx => by
    obtain ⟨e, he, rfl⟩ := List.mem_map.mp hx
    exact shp_eD hc (hfr e he).2.2) (by decide)) (shp_ok (shp_list (n := 0) fun x hx => nomatch hx) (by decide)) ?_
  rw [eqv_nil]
  walk_at "go"
  refine ite_k (fun c1 => ?_) (fun c1 => ?_)
  · have c1 : front ≠ [] := fun e => by
      rw [e] at c1
      cases c1
    walk_at "go"
    refine ds_forE' (ch := [5, 6]) ?_
    refine di_anyL (di_list ?_)
    walk_at "go"
    refine ⟨fun i G => ∃ (ms' : List (List Nat)) (bh : List Qe) (s5 s6 s7 s8 : Sl), (∀ res, Rf m z (front.drop i ++ bh) ms' res → Rf m z (q0 m) [] res) ∧ ms'.Nodup ∧ (∀ s ∈ ms', Srt m.length s) ∧ (∀ e ∈ bh, Srt m.length e.1 ∧ e.2.length ≤ ms'.length ∧ ∀ c ∈ e.2, c ∈ z) ∧ ms.length ≤ ms'.length ∧ (ms'.length = ms.length → bh = []) ∧ bh.length ≤ 100 * ms'.length ∧
      G = [.d (encM m), .d (zD z), .d (.list (front.map eD)), .t (metD ms'), .o none (bh.map eD), s5, s6, s7, s8], ⟨ms, [], _, _, _, _, (by simpa using hrf), hnd, hms, (fun e h => nomatch h), Nat.le_refl _, (fun _ => rfl), Nat.zero_le _, rfl⟩, fun i G2 d hd ⟨ms', bh, s5, s6, s7, s8, hrf', hnd', hms', hbh, hle, heq, hbl, hG⟩ => ?_, fun G2 ⟨ms', bh, s5, s6, s7, s8, hrf', hnd', hms', hbh, hle, heq, hbl, hG⟩ => ?_⟩
    · subst hG
      rw [List.getElem?_map] at hd
      obtain ⟨e, he, rfl⟩ := Option.map_eq_some_iff.mp hd
      obtain ⟨e1, e2, e3⟩ := hfr e (List.mem_of_getElem? he)
      have hi := (List.getElem?_eq_some_iff.mp he).1
      have ed : front.drop i = e :: front.drop (i + 1) := by
        rw [List.drop_eq_getElem_cons hi]
        rw [List.getElem?_eq_getElem hi] at he
        rw [Option.some.inj he]
      have hml' : ms'.length ≤ 2 ^ m.length := srt_count hnd' hms'
      refine dg_tup rfl (dgs_cons (c := [5]) (cs := [6]) (dg_name (dgs_cons (c := [6]) (cs := []) (dg_name (dgs_nil ?_)))))
      walk_at "go"
      refine ite_k (fun c2 => ?_) (fun c2 => ?_)
      · have c2 : e.1.length = 1 := by
          have := of_decide_eq_true c2
          rw [List.length_map] at this
          omega
        walk_at "go"
        exact ⟨some e.2, hrf' _ (by rw [ed]; exact .one c2), rfl⟩
      · have c2 : e.1.length ≠ 1 := fun q => of_decide_eq_false c2 (by rw [List.length_map, q]; rfl)
        walk_at "go"
        refine rn_tupL rfl ?_
        walk_at "go"
        refine ⟨3, sK e.1, metD ms', by rw [sK_D], rfl, rfl, ?_⟩
        walk_at "go"
        rw [lk_is, List.map_id']
        refine ite_k (fun c3 => ?_) (fun c3 => ?_)
        · have c3 : e.1 ∉ ms' := by simpa using c3
          walk_at "go"
          refine rn_tupL rfl ?_
          walk_at "go"
          refine ⟨3, sK e.1, metD ms', .bool true, rfl, rfl, by rw [sK_D], rfl, szlt (by rw [kv_len]; omega), ?_⟩
          have hput : putD (metD ms') (sK e.1) (.bool true) = metD (ms' ++ [e.1]) := put_kv (key := fun s => s) (val := fun _ => PyData.bool true) (by rw [List.map_id']; exact c3)
          rw [hput]
          walk_at "go"
          refine ds_forE' (ch := [7]) ?_
          refine di_rng1 ?_
          walk_at "go"
          refine rn_lenS (szl (by omega)) ?_
          walk_at "go"
          have hnd2 : (ms' ++ [e.1]).Nodup := List.nodup_append.mpr ⟨hnd', by simp, fun x hx y hy q => c3 (by rw [List.mem_singleton.mp hy] at q; exact q ▸ hx)⟩
          have hms2 : ∀ s ∈ ms' ++ [e.1], Srt m.length s := fun s hs => (List.mem_append.mp hs).elim (hms' s) fun h => by
            rw [List.mem_singleton.mp h]
            exact e1
          have hml2 := srt_count hnd2 hms2
          refine ⟨by omega, by omega, fun k G => ∃ (s7 s8 : Sl), G = [.d (encM m), .d (zD z), .d (.list (front.map eD)), .t (metD (ms' ++ [e.1])), .o none ((bh ++ (kids m z e).take k).map eD), .d (.list (e.1.map nD)), .d (zD e.2), s7, s8], ⟨_, _, (by rw [List.take_zero, List.append_nil]; rfl)⟩, fun k G2 d hd ⟨s7, s8, hG⟩ => ?_, fun G2 ⟨s7, s8, hG⟩ => ?_⟩
          · subst hG
            obtain ⟨hk, rfl⟩ := rngD_get hd
            have hk : k < z.length := by simpa using hk
            have e0 : (0 : Int) + (k : Int) = (k : Int) := by omega
            rw [e0]
            have hzk : z[k]? = some (z.getD k 0) := by
              rw [List.getD_eq_getElem?_getD, List.getElem?_eq_getElem hk]
              rfl
            refine dg_name ?_
            walk_at "go"
            refine ⟨⟨rfl, _, _, rfl⟩, ?_⟩
            walk_at "go"
            refine dw_lcM e.1 nD (fun l => nD (nxt m l k)) ?_
            refine di_anyL (di_list ?_)
            walk_at "go"
            have hel : e.1.length ≤ m.length := by
              have := nodup_le (k := List.range m.length) e1.nodup fun x hx => List.mem_range.mpr (e1.2 x hx)
              rwa [List.length_range] at this
            refine ⟨szl (by omega), fun B' l hl => ?_, ?_⟩
            · obtain ⟨x, x1, x2, _⟩ := g.at (e1.2 l hl) hk
              walk_at "go"
              refine rw_ixT (ati x1) ?_
              walk_at "go"
              refine rw_ixT (ati x2) ?_
              walk_at "go"
            · refine pw_o ?_
              refine ⟨e.1.map fun l => (nxt m l k : Int), by rw [List.map_map]; rfl, by rw [List.length_map]; omega, ?_⟩
              rw [nextS_int, List.map_map]
              walk_at "go"
              refine rw_ixS (szl (by omega)) (atn hzk) ?_
              walk_at "go"
              refine rw_addS (szl (by simp only [List.length_singleton]; omega)) ?_
              walk_at "go"
              refine rm_app rfl (szlt (by
                rw [List.length_map, List.length_append]
                have : ((kids m z e).take k).length ≤ 100 := by
                  rw [List.length_take]
                  omega
                omega)) ?_
              walk_at "go"
              have hS : (bh ++ (kids m z e).take (k + 1)).map eD = (bh ++ (kids m z e).take k).map eD ++ [eD (kid m z e k)] := by
                rw [kid_get hk, ← List.append_assoc, List.map_append]
                rfl
              refine ⟨.d (nD k), .un, ?_⟩
              rw [hS]
              rfl
          · subst hG
            rw [rngD_len, Int.toNat_natCast]
            have ek : (kids m z e).take z.length = kids m z e := List.take_of_length_le (by simp [kids])
            rw [ek]
            have hkl : (kids m z e).length = z.length := by simp [kids]
            walk_at "go"
            refine ⟨ms' ++ [e.1], bh ++ kids m z e, _, _, _, _, fun res h => hrf' res (by rw [ed]; refine .exp c2 c3 ?_; show Rf m z ((front.drop (i + 1) ++ bh) ++ kids m z e) _ res; rw [List.append_assoc]; exact h), hnd2, hms2, fun e' he' => ?_, ?_, ?_, ?_, rfl⟩
            · rcases List.mem_append.mp he' with h | h
              · obtain ⟨a1, a2, a3⟩ := hbh e' h
                exact ⟨a1, by rw [List.length_append]; omega, a3⟩
              · obtain ⟨k, hk, rfl⟩ := List.mem_map.mp h
                have hk := List.mem_range.mp hk
                refine ⟨nextS_srt g e1 hk, ?_, fun c hcc => ?_⟩
                · show (e.2 ++ [z.getD k 0]).length ≤ _
                  rw [List.length_append, List.length_append, List.length_singleton, List.length_singleton]
                  omega
                · rcases List.mem_append.mp hcc with h | h
                  · exact e3 c h
                  · rw [List.mem_singleton.mp h, List.getD_eq_getElem?_getD, List.getElem?_eq_getElem hk]
                    exact List.getElem_mem hk
            · rw [List.length_append]
              omega
            · intro q
              rw [List.length_append, List.length_singleton] at q
              omega
            · rw [List.length_append, List.length_append, List.length_singleton, hkl]
              omega
        · have c3 : e.1 ∈ ms' := by simpa using c3
          walk_at "go"
          exact ⟨ms', bh, _, _, _, _, fun res h => hrf' res (by rw [ed]; exact .skip c2 c3 h), hnd', hms', hbh, hle, heq, hbl, rfl⟩
    · subst hG
      rw [List.length_map, List.drop_length, List.nil_append] at hrf'
      have hml' : ms'.length ≤ 2 ^ m.length := srt_count hnd' hms'
      refine nx_nxt (ds_freeze 4 rfl ?_)
      walk_at "go"
      refine ⟨2 * (2 ^ m.length - ms'.length) + (if bh = [] then 0 else 1), ?_, bh, ms', _, _, _, _, _, hrf', hnd', hms', hbh, by omega, rfl, rfl⟩
      rw [if_neg c1] at hmu
      by_cases hb : bh = []
      · rw [if_pos hb]
        omega
      · rw [if_neg hb]
        have : ms'.length ≠ ms.length := fun q => hb (heq q)
        omega
  · have c1 : front = [] := by
      cases front with
      | nil => rfl
      | cons _ _ => cases c1
    subst c1
    walk_at "go"
    exact ⟨none, hrf _ .nil, rfl⟩
end
end K66
namespace K66
open PySem PySem.Spec PyProof.Rows L2 DL
local macro_rules | `(tactic| walk_at "st") => `(tactic| with_reducible first
  | refine pw_p ?_ | refine pw_o ?_ | refine dw_op ?_ | refine dw_un ?_ | refine dw_int ?_ | refine dw_str ?_ | refine dw_bl ?_ | refine dw_non ?_ | refine dw_ty ?_ | refine da_nil' ?_ | refine da_cons' ?_ | refine dw_sortSet ?_ | refine dw_lenSet ?_ | refine dw_CB ?_ | refine dw_BM ?_ | refine dw_BM0 ?_
  | refine dw_tup ?_ | refine dw_lst ?_ | refine dw_notV ?_ | refine dw_and ?_ | refine dw_or ?_ | refine dw_if ?_ | refine dw_chain ?_ | refine dw_sl3 ?_ | refine dw_revT ?_ | refine dw_tupRg1 ?_ | refine dw_lstRg1 ?_ | refine dw_callI ?_ | refine dw_callJ ?_
  | refine dt_test ?_ | refine dt_B ?_ | refine dt_and ?_ | refine dt_or ?_ | refine dt_not ?_ | refine dt_yes ?_ | refine dt_truth ?_
  | refine ds_ret ?_ | refine ds_retN ?_ | refine ds_next ?_ | refine ds_break ?_ | refine ds_cont ?_ | refine ds_drop ?_ | refine ds_if ?_ | refine ds_set ?_
  | refine nx_nxt ?_ | refine rt_nxt ?_ | refine bk_nxt ?_ | refine ct_nxt ?_ | refine nx_lp ?_ | refine rt_lp ?_ | refine bk_lp ?_ | refine ct_lp ?_ | refine asn_d ?_ | refine asn_fr ?_ | refine rt_E0 ?_ | refine rt_E0o ?_ | refine nx_E0 ?_
  | refine dw_newT ?_ | refine dw_dIn ?_ | refine dw_dNotIn ?_ | refine dw_dGet ?_ | refine ds_dPut ?_
  | refine tr_b ?_ | refine tr_i ?_ | refine tr_n ?_ | refine tr_T ?_ | refine tr_L ?_
  | refine do_none ?_ | refine do_some ?_ | refine ite_t ?_ | refine ite_f ?_
  | refine rw_addI ?_ | refine rw_sub ?_ | refine rw_cmp ?_ | refine rw_eqI ?_ | refine rw_neI ?_ | refine rw_eqS ?_ | refine rw_neS ?_ | refine rw_eqB ?_ | refine rw_neB ?_ | refine isN_d ?_ | refine notN_d ?_ | refine rw_isB ?_ | refine rw_notB ?_
  | refine rn_intI ?_ | refine rn_intB ?_ | refine rn_max ?_ | refine rn_min ?_ | refine rn_lenT ?_ | refine rn_lenD ?_ | refine isi_int ?_ | refine isi_bool ?_ | refine isi_str ?_ | refine isi_tuple ?_ | refine isi_list ?_ | refine rn_tupT ?_ | refine rn_listT ?_
  | refine ⟨_, rfl, ?_⟩
  | fail)
local macro_rules | `(tactic| walk_at "va") => `(tactic| first
  | ((with_reducible apply dw_var); rfl) | ((with_reducible apply dw_sl); rfl) | ((with_reducible apply dw_slT); rfl)
  | ((with_reducible apply rw_ixL); rfl; rfl) | ((with_reducible apply rw_ixT); rfl)
  | ((with_reducible apply ite_T); rfl) | ((with_reducible apply ite_F); rfl) | ((with_reducible apply tr_o); rfl)
  | refine ⟨_, rfl, szl (Nat.le_of_ble_eq_true rfl), ?_⟩
  | (with_reducible refine rw_mod (by omega) ?_)
  | (with_reducible refine rw_fdiv (by unfold CDiv; omega) ?_)
  | (with_reducible refine rw_mul (by unfold CMul; omega) ?_)
  | refine ⟨szl (Nat.le_of_ble_eq_true rfl), ?_⟩
  | refine ⟨rfl, ?_⟩
  | rfl
  | fail)
local macro_rules | `(tactic| walk_at "go") => `(tactic| repeat' (first | walk_at "st" | (with_reducible refine ds_seq' ?_) | walk_at "va" | fail))
local macro_rules | `(tactic| walk_at "gs") => `(tactic| repeat' (first | walk_at "st" | walk_at "va" | fail))
abbrev sD (e : Qe) : PyData := .tuple (e.1.map nD)
abbrev rowD (rs : List Qe) := kv (fun e : Qe => e.1) (fun e : Qe => zD e.2) rs
theorem find_mid {e : Qe} {l : List Qe} : ∀ {pop : List Qe}, e.1 ∉ pop.map (·.1) → ((pop ++ e :: l).find? fun a => decide (a.1 = e.1)) = some e
  | [], _ => by simp
  | x :: pop, h => by
    have h1 : ¬ x.1 = e.1 := fun q => h (by rw [← q]; simp)
    have h2 : e.1 ∉ pop.map (·.1) := fun q => h (List.mem_cons_of_mem _ q)
    show ((x :: (pop ++ e :: l)).find? fun a => decide (a.1 = e.1)) = some e
    rw [List.find?_cons, decide_eq_false h1]
    exact find_mid h2
section
variable {P : Program} {w : World} {K : PySem.W.Frag} {mg : Str → Option Value} {base : Heap} {a : Ad}
def preX (x : Mach × List Nat) : Prop := Good x.1 x.2.length ∧ 1 ≤ x.1.length ∧ x.1.length ≤ 100 ∧ x.2.length ≤ 100 ∧ ∀ c ∈ x.2, c < 0x110000
theorem ok_least_reset (T : Tx K mg a) : FnOk P w K mg base (L2.CX P w) 1 a.f5 a.d5 ["machine", "signs"] (spXI K argV preX (fun x r => x.1.length ≤ 16 ∧ ∃ o, Rf x.1 x.2 (q0 x.1) [] o ∧ r = .p (.d (oD o))) (fun x c => 16 < x.1.length ∧ c = .ref a.c_TooWide)) := by
  refine fnXI T.F_least_reset sc_least_reset (fun x => ⟨rfl, by decide⟩) fun cdv A outer s H E hr => ⟨_, (pss_cons (ps_if (pt_cmpR op_gt (pe_callB (kLEN K rfl) (by rfl) T.z_len (by decide +kernel) (pa_cons (pv 0) pa_nil)) (pe_globI (by rfl) T.g_MOST_RESET) (nomark _)) (pss_one (ps_raise rfl (takes_of rfl rfl rfl rfl) (pmk_own PySem.F.excBase_ValueError T.x_TooWide.y T.x_TooWide.g T.x_TooWide.k (raises_own T.x_TooWide.b T.x_TooWide.t) (by rfl)))) pss_nil) (pss_cons (ps_set (i := 2) sc_least_reset.nd rfl (Or.inl rfl) (pe_tupRg rfl (by rfl) T.z_tuple (prg_1 (by rfl) T.z_range (pe_callB (kLEN K rfl) (by rfl) T.z_len (by decide +kernel) (pa_cons (pv 0) pa_nil))))) (pss_cons (ps_set (i := 3) sc_least_reset.nd rfl (Or.inl rfl) (pe_disp1T (hu_of hr) (pv 2) (pe_strM [] rfl))) (pss_cons (ps_set (i := 4) sc_least_reset.nd rfl (Or.inl rfl) (pe_lst (pa_cons (pv 2) pa_nil))) (pss_cons (ps_while (passes_of rfl) (kTRUTH K rfl (pv 4) (by intro _; rfl)) (pss_cons (ps_set (i := 5) sc_least_reset.nd rfl (Or.inl rfl) (kBM K rfl (pe_bm PySem.F.plainAttrs_list PySem.F.slot_list_pop PySem.F.type_list_pop mt_popAt (pv 4) (pa_cons pe_int pa_nil)))) (pss_cons (ps_if (pt_cmpR (kEQ K rfl hr.units) (pe_callB (kLEN K rfl) (by rfl) T.z_len (by decide +kernel) (pa_cons (pv 5) pa_nil)) pe_int (nomark _)) (pss_one (ps_ret (pe_dget (hu_of hr) (pv 3) (pv 5) (fun _ _ => rfl)))) pss_nil) (pss_one (ps_for (passes_of rfl) rfl (kENUM K rfl (by rfl) T.z_enumerate (pa_cons (pv 1) pa_nil)) (kTG K rfl rfl (pgs_cons (pg_name (i := 6) sc_least_reset.nd rfl (Or.inr rfl)) (pgs_cons (pg_name (i := 7) sc_least_reset.nd rfl (Or.inl rfl)) pgs_nil))) (pss_cons (ps_set (i := 8) sc_least_reset.nd rfl (Or.inl rfl) (pe_callTy (kTUP K rfl) (by rfl) T.z_tuple (by decide +kernel) (pa_cons (pe_callB (kSORTSET w rfl rfl) (by rfl) T.z_sorted (by decide +kernel) (pa_cons (pe_callTy (kSET w K rfl rfl rfl) (by rfl) T.z_set (by decide +kernel) (pa_cons (pe_lc (own := [("line", 9)]) (g := gName 9) (by rfl) sc_least_reset.nd (kANY K rfl (pv 5)) (blkOk_by (own := [("line", 9)]) (N := ["machine", "signs", "start", "rows", "left", "lines", "number", "sign", "other", "line"]) (sc := defScope s_least_reset) (by decide +kernel)) (fun _ _ _ _ _ => (pg_name (i := 9) sc_least_reset.nd rfl (by first | exact Or.inl rfl | exact Or.inr rfl))) (fun _ _ _ _ _ => pts_nil) (fun _ _ _ _ _ => (pe_ix (kIX K rfl) (pe_ix (kIX K rfl) (pe_ix (kIX K rfl) (pv 0) (pv 9) (fun _ _ => rfl)) pe_int (fun _ _ => rfl)) (pv 6) (fun _ _ => rfl)))) pa_nil)) pa_nil)) pa_nil))) (pss_one (ps_if (pt_cmp (pc_dnotin (hu_of hr) (pv 8) (pv 3)) rfl) (pss_cons (ps_dput (hu_of hr) (pv 3) (pv 8) (pe_op (kADD K rfl) (pe_dget (hu_of hr) (pv 3) (pv 5) (fun _ _ => rfl)) (pv 7)) rfl) (pss_one (ps_expr (kBM K rfl (pe_bm PySem.F.plainAttrs_list PySem.F.slot_list_append PySem.F.type_list_append mt_append (pv 4) (pa_cons (pv 8) pa_nil)))))) pss_nil)))))))) (pss_one (ps_ret pe_non))))))), ?_⟩
  rintro ⟨m, z⟩ ⟨g, hm1, hm, hz, hc⟩ B hE
  dsimp only [argV] at *
  walk_at "go"
  refine ite_k (fun c0 => ?_) (fun c0 => ?_)
  · have c0 := of_decide_eq_true c0
    rw [List.length_map] at c0
    exact ds_raise (W := fun cls d _ H => E cls d H) (cls := .ref a.c_TooWide) (exc := fun c _ => 16 < m.length ∧ c = .ref a.c_TooWide) (fun cls S F H G I h => hE cls S F H G I h) ⟨by omega, rfl⟩
  · have c0 := of_decide_eq_false c0
    rw [List.length_map] at c0
    have c0 : m.length ≤ 16 := by omega
    have h2 : 2 ^ m.length ≤ 65536 := Nat.pow_le_pow_right (by decide) c0
    walk_at "go"
    refine ⟨by rw [List.length_map]; omega, ?_⟩
    rw [List.length_map, rng_nD']
    walk_at "go"
    refine dw_disp1T fun B' => ?_
    walk_at "go"
    refine ⟨sK (List.range m.length), zD [], by rw [sK_D], rfl, ?_⟩
    walk_at "go"
    refine ds_while' (fun mu G => ∃ (pop pend q : List Qe) (s2 s5 s6 s7 s8 s9 : Sl), pend = dd q (pop.map (·.1)) ∧ (∀ res, Rf m z q (pop.map (·.1)) res → Rf m z (q0 m) [] res) ∧ (∀ s ∈ pop.map (·.1), s.length ≠ 1) ∧ ((pop ++ pend).map (·.1)).Nodup ∧ (∀ e ∈ pop ++ pend, Srt m.length e.1) ∧ (∀ e ∈ pend, e.2.length ≤ pop.length ∧ ∀ c ∈ e.2, c ∈ z) ∧ mu = 2 * (2 ^ m.length - (pop ++ pend).length) + pend.length ∧
      G = [.d (encM m), .d (zD z), s2, .t (rowD (pop ++ pend)), .o none (pend.map sD), s5, s6, s7, s8, s9]) _ ⟨[], q0 m, q0 m, _, _, _, _, _, _, rfl, (fun res h => h), (fun s h => nomatch h), by simp [q0], (fun e he => ?_), (fun e he => ?_), rfl, rfl⟩ ?_
    · rw [List.mem_singleton.mp he]
      exact srt_range _
    · rw [List.mem_singleton.mp he]
      exact ⟨Nat.le_refl _, fun c h => nomatch h⟩
    rintro mu G1 ⟨pop, pend, q, s2, s5, s6, s7, s8, s9, hpe, hrf, hne, hnd, hsr, hpl, hmu, rfl⟩
    walk_at "gs"
    refine ite_k (fun c1 => ?_) (fun c1 => ?_)
    · cases pend with
      | nil => cases c1
      | cons e pend =>
      obtain ⟨hes, q', hq', hrq⟩ := dd_cons (m := m) (z := z) hpe.symm hne
      obtain ⟨e2, e3⟩ := hpl e List.mem_cons_self
      have e1 : Srt m.length e.1 := hsr e (by simp)
      have hcount : (pop ++ e :: pend).length ≤ 2 ^ m.length := by
        rw [← List.length_map (f := fun e : Qe => e.1)]
        refine srt_count hnd fun s hs => ?_
        obtain ⟨x, hx, rfl⟩ := List.mem_map.mp hs
        exact hsr x hx
      have hcount' := hcount
      rw [List.length_append, List.length_cons] at hcount'
      walk_at "go"
      refine ⟨⟨rfl, _, _, rfl⟩, ?_⟩
      walk_at "go"
      refine rm_pop0 rfl ?_
      walk_at "go"
      refine ite_k (fun c2 => ?_) (fun c2 => ?_)
      · have c2 : e.1.length = 1 := by
          have := of_decide_eq_true c2
          rw [List.length_map] at this
          omega
        walk_at "go"
        refine ⟨3, sK e.1, rowD (pop ++ e :: pend), zD e.2, rfl, by rw [sK_D], rfl, by rw [lk_kv, find_mid hes]; rfl, ?_⟩
        walk_at "go"
        exact ⟨c0, some e.2, hrf _ (hrq _ (.one c2)), rfl⟩
      · have c2 : e.1.length ≠ 1 := fun q => of_decide_eq_false c2 (by rw [List.length_map, q]; rfl)
        walk_at "go"
        refine ds_forE' (ch := [6, 7]) ?_
        refine di_enumS ?_
        walk_at "go"
        obtain ⟨R, hR⟩ : ∃ R, R = pop ++ e :: pend := ⟨_, rfl⟩
        rw [← hR]
        have hRn : R.length = pop.length + (pend.length + 1) := by
          rw [hR, List.length_append, List.length_cons]
        have hall : ∀ k, ((R ++ dd ((kids m z e).take k) (R.map (·.1))).map (·.1)).Nodup ∧ ∀ x ∈ R ++ dd ((kids m z e).take k) (R.map (·.1)), Srt m.length x.1 := fun k => by
          refine ⟨?_, fun x hx => ?_⟩
          · rw [List.map_append]
            refine List.nodup_append.mpr ⟨hR ▸ hnd, dd_nodup, fun x hx y hy q => ?_⟩
            obtain ⟨v, hv, rfl⟩ := List.mem_map.mp hy
            exact (dd_sub hv).2 (q ▸ hx)
          · rcases List.mem_append.mp hx with h | h
            · rw [hR] at h
              exact hsr x h
            · obtain ⟨j, hj, rfl⟩ := List.mem_map.mp (List.mem_of_mem_take (dd_sub h).1)
              exact nextS_srt g e1 (List.mem_range.mp hj)
        have hcnt : ∀ k, (R ++ dd ((kids m z e).take k) (R.map (·.1))).length ≤ 2 ^ m.length := fun k => by
          rw [← List.length_map (f := fun e : Qe => e.1)]
          refine srt_count (hall k).1 fun s hs => ?_
          obtain ⟨x, hx, rfl⟩ := List.mem_map.mp hs
          exact (hall k).2 x hx
        refine ⟨fun k G => ∃ (s6 s7 s8 s9 : Sl), G = [.d (encM m), .d (zD z), s2, .t (rowD (R ++ dd ((kids m z e).take k) (R.map (·.1)))), .o none ((pend ++ dd ((kids m z e).take k) (R.map (·.1))).map sD), .d (sD e), s6, s7, s8, s9], ⟨_, _, _, _, (by rw [List.take_zero]; simp only [dd, List.append_nil]; rfl)⟩, fun k G2 d hd ⟨s6, s7, s8, s9, hG⟩ => ?_, fun G2 ⟨s6, s7, s8, s9, hG⟩ => ?_⟩
        · subst hG
          obtain ⟨x, hx, rfl⟩ := enD_get hd
          rw [List.getElem?_map] at hx
          obtain ⟨c, hzk, rfl⟩ := Option.map_eq_some_iff.mp hx
          have hk : k < z.length := (List.getElem?_eq_some_iff.mp hzk).1
          have ec : z.getD k 0 = c := by
            rw [List.getD_eq_getElem?_getD, hzk]
            rfl
          have hel : e.1.length ≤ m.length := by
            have := nodup_le (k := List.range m.length) e1.nodup fun x hx => List.mem_range.mpr (e1.2 x hx)
            rwa [List.length_range] at this
          have hck := hcnt k
          rw [List.length_append] at hck
          refine dg_tup rfl (dgs_cons (c := [6]) (cs := [7]) (dg_name (dgs_cons (c := [7]) (cs := []) (dg_name (dgs_nil ?_)))))
          walk_at "go"
          refine dw_lcM e.1 nD (fun l => nD (nxt m l k)) ?_
          refine di_anyT (di_tup ?_)
          walk_at "go"
          refine ⟨szl (by omega), fun B' l hl => ?_, ?_⟩
          · obtain ⟨x, x1, x2, _⟩ := g.at (e1.2 l hl) hk
            walk_at "go"
            refine rw_ixT (ati x1) ?_
            walk_at "go"
            refine rw_ixT (ati x2) ?_
            walk_at "go"
          · refine pw_o ?_
            refine ⟨e.1.map fun l => (nxt m l k : Int), by rw [List.map_map]; rfl, by rw [List.length_map]; omega, ?_⟩
            rw [nextS_int, List.map_map]
            walk_at "go"
            refine rn_tupL rfl ?_
            walk_at "go"
            refine ⟨3, sK (nextS m e.1 k), rowD (R ++ dd ((kids m z e).take k) (R.map (·.1))), by rw [sK_D]; rfl, rfl, rfl, ?_⟩
            rw [lk_is]
            walk_at "go"
            refine ite_k (fun c3 => ?_) (fun c3 => ?_)
            · have c3 : (kid m z e k).1 ∉ (R ++ dd ((kids m z e).take k) (R.map (·.1))).map (·.1) := by
                have c4 := not_f c3
                exact of_decide_eq_false c4
              have hS : dd ((kids m z e).take (k + 1)) (R.map (·.1)) = dd ((kids m z e).take k) (R.map (·.1)) ++ [kid m z e k] := by
                rw [kid_get hk, dd_snoc, if_neg]
                rwa [List.map_append] at c3
              walk_at "go"
              refine ⟨3, sK e.1, rowD (R ++ dd ((kids m z e).take k) (R.map (·.1))), zD e.2, rfl, by rw [sK_D], rfl, by rw [lk_kv, hR, List.append_assoc, List.cons_append, find_mid hes]; rfl, ?_⟩
              walk_at "go"
              refine rw_addS (szl (by simp only [List.length_singleton]; omega)) ?_
              walk_at "go"
              refine ⟨3, sK (nextS m e.1 k), rowD (R ++ dd ((kids m z e).take k) (R.map (·.1))), zD (kid m z e k).2, by rw [← ec]; rfl, rfl, by rw [sK_D]; rfl, rfl, szlt (by rw [kv_len, List.length_append]; omega), ?_⟩
              have hput : putD (rowD (R ++ dd ((kids m z e).take k) (R.map (·.1)))) (sK (nextS m e.1 k)) (zD (kid m z e k).2) = rowD ((R ++ dd ((kids m z e).take k) (R.map (·.1))) ++ [kid m z e k]) := put_kv (key := fun e : Qe => e.1) (val := fun e : Qe => zD e.2) (a := kid m z e k) c3
              rw [hput]
              walk_at "go"
              refine ⟨⟨rfl, _, _, rfl⟩, ?_⟩
              walk_at "go"
              refine rm_app rfl (szlt (by rw [List.length_map, List.length_append]; omega)) ?_
              walk_at "go"
              refine ⟨.d (nD k), .d (zD [c]), .d (sD (kid m z e k)), .un, ?_⟩
              have hL : (pend ++ dd ((kids m z e).take (k + 1)) (R.map (·.1))).map sD = (pend ++ dd ((kids m z e).take k) (R.map (·.1))).map sD ++ [sD (kid m z e k)] := by
                rw [hS, ← List.append_assoc, List.map_append]
                rfl
              rw [hL, hS, ← List.append_assoc]
              rfl
            · have c3 : (kid m z e k).1 ∈ (R ++ dd ((kids m z e).take k) (R.map (·.1))).map (·.1) := by
                have c4 := not_t c3
                exact of_decide_eq_true c4
              have hS : dd ((kids m z e).take (k + 1)) (R.map (·.1)) = dd ((kids m z e).take k) (R.map (·.1)) := by
                rw [kid_get hk, dd_snoc, if_pos, List.append_nil]
                rwa [List.map_append] at c3
              walk_at "go"
              refine ⟨.d (nD k), .d (zD [c]), .d (sD (kid m z e k)), .un, ?_⟩
              rw [hS]
              rfl
        · subst hG
          have hkl : (kids m z e).length = z.length := by simp [kids]
          rw [enD_len, List.length_map, List.take_of_length_le (by omega)]
          have hck := hcnt z.length
          rw [List.take_of_length_le (by omega)] at hck
          obtain ⟨hn1, hs1⟩ := hall z.length
          rw [List.take_of_length_le (by omega)] at hn1 hs1
          obtain ⟨nw, hnw⟩ : ∃ l, l = dd (kids m z e) (R.map (·.1)) := ⟨_, rfl⟩
          rw [← hnw] at hn1 hs1 hck ⊢
          have eR : R ++ nw = (pop ++ [e]) ++ (pend ++ nw) := by
            rw [hR]
            simp
          have eM : (pop ++ [e]).map (·.1) = pop.map (·.1) ++ [e.1] := by
            rw [List.map_append]
            rfl
          walk_at "go"
          refine ⟨2 * (2 ^ m.length - (R ++ nw).length) + (pend ++ nw).length, ?_, pop ++ [e], pend ++ nw, q' ++ kids m z e, s2, .d (sD e), s6, s7, s8, s9, ?_, fun res h => hrf _ (hrq _ (.exp c2 hes ?_)), ?_, ?_, ?_, ?_, ?_, ?_⟩
          rotate_left
          · rw [eM, dd_app, hq', hnw]
            congr 2
            rw [hR]
            simp
          · rw [← eM]
            exact h
          · intro s hs
            rw [eM] at hs
            rcases List.mem_append.mp hs with h | h
            · exact hne s h
            · rw [List.mem_singleton.mp h]
              exact c2
          · rw [← eR]
            exact hn1
          · rw [← eR]
            exact hs1
          · intro x hx
            rw [List.length_append, List.length_singleton]
            rcases List.mem_append.mp hx with h | h
            · obtain ⟨a1, a2⟩ := hpl x (List.mem_cons_of_mem _ h)
              exact ⟨by omega, a2⟩
            · rw [hnw] at h
              obtain ⟨j, hj, rfl⟩ := List.mem_map.mp (dd_sub h).1
              have hj := List.mem_range.mp hj
              refine ⟨?_, fun c hcc => ?_⟩
              · show (e.2 ++ [z.getD j 0]).length ≤ _
                rw [List.length_append, List.length_singleton]
                omega
              · rcases List.mem_append.mp hcc with h | h
                · exact e3 c h
                · rw [List.mem_singleton.mp h, List.getD_eq_getElem?_getD, List.getElem?_eq_getElem hj]
                  exact List.getElem_mem hj
          · rw [← eR]
          · rw [← eR]
          · rw [List.length_append] at hck ⊢
            rw [List.length_append]
            rw [List.length_append, List.length_cons] at hmu
            rw [hRn] at hck ⊢
            omega
    · have c1 : pend = [] := by
        cases pend with
        | nil => rfl
        | cons _ _ => cases c1
      subst c1
      walk_at "go"
      exact ⟨c0, none, hrf _ (dd_nil hpe.symm hne), rfl⟩
end
end K66
namespace K66
open PySem PySem.Spec PyProof.Rows L2 DL
local macro_rules | `(tactic| walk_at "st") => `(tactic| with_reducible first
  | refine pw_p ?_ | refine pw_o ?_ | refine dw_op ?_ | refine dw_un ?_ | refine dw_int ?_ | refine dw_str ?_ | refine dw_bl ?_ | refine dw_non ?_ | refine dw_ty ?_ | refine da_nil' ?_ | refine da_cons' ?_ | refine dw_sortSet ?_ | refine dw_lenSet ?_ | refine dw_CB ?_ | refine dw_BM ?_ | refine dw_BM0 ?_
  | refine dw_tup ?_ | refine dw_lst ?_ | refine dw_notV ?_ | refine dw_and ?_ | refine dw_or ?_ | refine dw_if ?_ | refine dw_chain ?_ | refine dw_sl3 ?_ | refine dw_revT ?_ | refine dw_tupRg1 ?_ | refine dw_lstRg1 ?_ | refine dw_callI ?_ | refine dw_callJ ?_
  | refine dt_test ?_ | refine dt_B ?_ | refine dt_and ?_ | refine dt_or ?_ | refine dt_not ?_ | refine dt_yes ?_ | refine dt_truth ?_
  | refine ds_ret ?_ | refine ds_retN ?_ | refine ds_next ?_ | refine ds_break ?_ | refine ds_cont ?_ | refine ds_drop ?_ | refine ds_if ?_ | refine ds_set ?_
  | refine nx_nxt ?_ | refine rt_nxt ?_ | refine bk_nxt ?_ | refine ct_nxt ?_ | refine nx_lp ?_ | refine rt_lp ?_ | refine bk_lp ?_ | refine ct_lp ?_ | refine asn_d ?_ | refine asn_fr ?_ | refine rt_E0 ?_ | refine rt_E0o ?_ | refine nx_E0 ?_
  | refine dw_newT ?_ | refine dw_dIn ?_ | refine dw_dNotIn ?_ | refine dw_dGet ?_ | refine ds_dPut ?_
  | refine tr_b ?_ | refine tr_i ?_ | refine tr_n ?_ | refine tr_T ?_ | refine tr_L ?_
  | refine do_none ?_ | refine do_some ?_ | refine ite_t ?_ | refine ite_f ?_
  | refine rw_addI ?_ | refine rw_sub ?_ | refine rw_cmp ?_ | refine rw_eqI ?_ | refine rw_neI ?_ | refine rw_eqS ?_ | refine rw_neS ?_ | refine rw_eqB ?_ | refine rw_neB ?_ | refine isN_d ?_ | refine notN_d ?_ | refine rw_isB ?_ | refine rw_notB ?_
  | refine rn_intI ?_ | refine rn_intB ?_ | refine rn_max ?_ | refine rn_min ?_ | refine rn_lenT ?_ | refine rn_lenD ?_ | refine isi_int ?_ | refine isi_bool ?_ | refine isi_str ?_ | refine isi_tuple ?_ | refine isi_list ?_ | refine rn_tupT ?_ | refine rn_listT ?_
  | refine ⟨_, rfl, ?_⟩
  | fail)
local macro_rules | `(tactic| walk_at "va") => `(tactic| first
  | ((with_reducible apply dw_var); rfl) | ((with_reducible apply dw_sl); rfl) | ((with_reducible apply dw_slT); rfl)
  | ((with_reducible apply rw_ixL); rfl; rfl) | ((with_reducible apply rw_ixT); rfl)
  | ((with_reducible apply ite_T); rfl) | ((with_reducible apply ite_F); rfl) | ((with_reducible apply tr_o); rfl)
  | refine ⟨_, rfl, szl (Nat.le_of_ble_eq_true rfl), ?_⟩
  | (with_reducible refine rw_mod (by omega) ?_)
  | (with_reducible refine rw_fdiv (by unfold CDiv; omega) ?_)
  | (with_reducible refine rw_mul (by unfold CMul; omega) ?_)
  | refine ⟨szl (Nat.le_of_ble_eq_true rfl), ?_⟩
  | refine ⟨rfl, ?_⟩
  | rfl
  | fail)
local macro_rules | `(tactic| walk_at "go") => `(tactic| repeat' (first | walk_at "st" | (with_reducible refine ds_seq' ?_) | walk_at "va" | fail))
local macro_rules | `(tactic| walk_at "gs") => `(tactic| repeat' (first | walk_at "st" | walk_at "va" | fail))
abbrev yesL : List Nat := [121, 101, 115]
abbrev noL : List Nat := [110, 111]
section
variable {P : Program} {w : World} {K : PySem.W.Frag} {mg : Str → Option Value} {base : Heap} {a : Ad}
def resT (x : Mach × List Nat) (r : Rs) : Prop := (nv x.1 x.2.length ≠ [] ∧ r = .p (.d (.tuple [zD noL, .tuple ((nv x.1 x.2.length).map pN)]))) ∨ (nv x.1 x.2.length = [] ∧ x.1.length ≤ 16 ∧ ∃ o, Rf x.1 x.2 (q0 x.1) [] o ∧ r = .p (.d (.tuple [zD yesL, oD o])))
abbrev spT (K : PySem.W.Frag) (a : Ad) := spXI K argV preX resT (fun x c => nv x.1 x.2.length = [] ∧ 16 < x.1.length ∧ c = .ref a.c_TooWide)
theorem ok_reset (T : Tx K mg a) (G_never_meeting : FnOk P w K mg base CX0 2 a.f7 a.d7 ["machine", "signs"] (spI K argV preV fun x r => r = .p (.d (.tuple ((nv x.1 x.2.length).map pN)))))
    (G_least_reset0 : FnOk P w K mg base (L2.CX P w) 1 a.f5 a.d5 ["machine", "signs"] (spXI K argV preX (fun x r => x.1.length ≤ 16 ∧ ∃ o, Rf x.1 x.2 (q0 x.1) [] o ∧ r = .p (.d (oD o))) (fun x c => 16 < x.1.length ∧ c = .ref a.c_TooWide))) :
    FnOk P w K mg base (L2.CX P w) 3 a.f8 a.d8 ["machine", "signs"] (spT K a) := by
  have G_least_reset := G_least_reset0.mono (show 1 ≤ 2 by decide)
  refine fnXI T.F_reset sc_reset (fun x => ⟨rfl, by decide⟩) fun cdv A outer s H E hr => ⟨_, (pss_cons (ps_set (i := 2) sc_reset.nd rfl (Or.inl rfl) (pe_call G_never_meeting hr (by rfl) T.m_never_meeting T.k_never_meeting T.b_never_meeting .nil pass0 (pa_cons (pv 0) (pa_cons (pv 1) pa_nil)))) (pss_cons (ps_if (kTRUTH K rfl (pv 2) (by intro _; rfl)) (pss_one (ps_ret (pe_tup (pa_cons (pe_strM [110, 111] rfl) (pa_cons (pv 2) pa_nil))))) pss_nil) (pss_one (ps_ret (pe_tup (pa_cons (pe_strM [121, 101, 115] rfl) (pa_cons (pe_call G_least_reset hr (by rfl) T.m_least_reset T.k_least_reset T.b_least_reset .nil (passes_call (takes_of rfl rfl rfl rfl) (fun _ _ _ _ h => h)) (pa_cons (pv 0) (pa_cons (pv 1) pa_nil))) pa_nil))))))), ?_⟩
  rintro ⟨m, z⟩ ⟨g, hm1, hm, hz, hc⟩ B hE
  dsimp only [argV] at *
  walk_at "go"
  refine ⟨(m, z), ⟨g, hm, hz⟩, rfl, ?_⟩
  rintro _ rfl
  walk_at "go"
  refine ite_k (fun c1 => ?_) (fun c1 => ?_)
  · have c1 : nv m z.length ≠ [] := fun e => by
      rw [e] at c1
      cases c1
    walk_at "go"
    exact .inl ⟨c1, rfl⟩
  · have c1 : nv m z.length = [] := by simpa using c1
    walk_at "go"
    refine dw_callXI hE ?_
    walk_at "go"
    refine ⟨(m, z), ⟨g, hm1, hm, hz, hc⟩, rfl, ?_, fun c h => ⟨c1, h.1, h.2⟩⟩
    rintro _ ⟨h16, o, ho, rfl⟩
    walk_at "go"
    exact .inr ⟨c1, h16, o, ho, rfl⟩
/-! ### what the judges accept, in plain Lean -/
def yesB (m : Mach) (z w : List Nat) : Bool := (w.all fun c => decide (c ∈ z)) && decide ((usrt ((List.range m.length).map fun l => (run m z l w : Int))).length = 1)
def ltD : PyData → PyData → Bool
  | .int i, .int j => decide (i < j)
  | _, _ => false
def validP (n : Nat) : PyData → Bool
  | .tuple [a, b] => isLn n a && isLn n b && ltD a b
  | _ => false
def prOf : PyData → Nat × Nat
  | .tuple [.int i, .int j] => (i.toNat, j.toNat)
  | _ => (0, 0)
def clsB (m : Mach) (nn : Nat) (ps : List PyData) (q : PyData) : Bool := (List.range nn).all fun k => ps.any fun d => PyData.eqv d (pN (bh m k (prOf q)))
def noB (m : Mach) (nn : Nat) : PyData → Bool
  | .tuple ps => !ps.isEmpty && ps.all (validP m.length) && ps.all (clsB m nn ps)
  | _ => false
def strB (m : Mach) (z : List Nat) : PyData → Bool
  | .str w => yesB m z w.cps.toList
  | _ => false
def accB (m : Mach) (z : List Nat) : PyData → Bool
  | .tuple [.str a, p] => if a = mkS yesL then strB m z p else if a = mkS noL then noB m z.length p else false
  | _ => false
def Tok (told : PyData) : Prop := Shp 20 told ∧ ∀ x y, told = .tuple [x, y] → (∃ s, x = zD s ∧ ∀ c ∈ s, c < 0x110000) ∧ ∀ w, y = zD w → w.length ≤ 1000000
theorem isLn_nat {n : Nat} {d : PyData} (h : isLn n d = true) : ∃ i : Nat, d = nD i ∧ i < n := by
  cases d with
  | int i =>
    unfold isLn at h
    simp only [Bool.and_eq_true, decide_eq_true_eq] at h
    exact ⟨i.toNat, nD_of h.1, by omega⟩
  | none => cases h
  | bool _ => cases h
  | str _ => cases h
  | list _ => cases h
  | tuple _ => cases h
  | dict _ => cases h
theorem validP_pN {n : Nat} {q : PyData} (h : validP n q = true) : ∃ p : Nat × Nat, q = pN p ∧ p.1 < p.2 ∧ p.2 < n := by
  unfold validP at h
  split at h
  · rename_i x y
    simp only [Bool.and_eq_true] at h
    obtain ⟨⟨h1, h2⟩, h3⟩ := h
    obtain ⟨i, rfl, hi⟩ := isLn_nat h1
    obtain ⟨j, rfl, hj⟩ := isLn_nat h2
    refine ⟨(i, j), rfl, ?_, hj⟩
    unfold ltD at h3
    simp only [decide_eq_true_eq] at h3
    exact Int.ofNat_lt.mp h3
  · cases h
theorem prOf_pN (p : Nat × Nat) : prOf (pN p) = p := by
  unfold prOf
  simp
theorem shp_in {n : Nat} {ps : List PyData} (h : Shp (n + 1) (.tuple ps)) : ∀ q ∈ ps, Shp n q := by
  obtain ⟨h1, h2⟩ := h
  simp only [PyData.canLay0] at h1
  simp only [PyData.depth] at h2
  have : ∀ l : List PyData, PyData.canLayAll0 l = true → PyData.depthAll l ≤ n → ∀ q ∈ l, Shp n q := by
    intro l
    induction l with
    | nil => intro _ _ q hq; cases hq
    | cons x l ih =>
      intro a b q hq
      simp only [PyData.canLayAll0, Bool.and_eq_true] at a
      simp only [PyData.depthAll] at b
      rcases List.mem_cons.mp hq with e | hq
      · rw [e]
        exact ⟨a.1, by omega⟩
      · exact ih a.2 (by omega) q hq
  exact this ps h1 (by omega)
/-! the image of all lines -/
theorem img_len {m : Mach} {z : List Nat} (g : Good m z.length) {w : List Nat} (hw : ∀ c ∈ w, c ∈ z) : (usrt ((List.range m.length).map fun l => (run m z l w : Int))).length = (itS m (List.range m.length) (w.map z.idxOf)).length := by
  have e1 : ∀ (w : List Nat) (l : Nat), runK m l (w.map z.idxOf) = run m z l w := by
    intro w
    induction w with
    | nil => intro l; rfl
    | cons c w ih => intro l; exact ih _
  have hs := itS_srt g (srt_range m.length) (ks := w.map z.idxOf) fun k hk => by
    obtain ⟨c, hc, rfl⟩ := List.mem_map.mp hk
    exact List.idxOf_lt_length_of_mem (hw c hc)
  have e2 : usrt ((List.range m.length).map fun l => (run m z l w : Int)) = (itS m (List.range m.length) (w.map z.idxOf)).map fun (n : Nat) => (n : Int) := by
    refine pwlt_eq (usrt_pw _) (List.pairwise_map.mpr (hs.1.imp fun h => Int.ofNat_lt.mpr h)) fun x => ?_
    rw [usrt_mem, List.mem_map, List.mem_map]
    constructor
    · rintro ⟨l, hl, rfl⟩
      exact ⟨_, itS_mem.mpr ⟨l, hl, rfl⟩, by rw [e1]⟩
    · rintro ⟨y, hy, rfl⟩
      obtain ⟨l, hl, rfl⟩ := itS_mem.mp hy
      exact ⟨l, hl, by rw [e1]⟩
  rw [e2, List.length_map]
abbrev argJ (x : Mach × List Nat × PyData) : List PyData := [encM x.1, zD x.2.1, x.2.2]
def preJ (x : Mach × List Nat × PyData) : Prop := Good x.1 x.2.1.length ∧ 1 ≤ x.1.length ∧ x.1.length ≤ 63 ∧ x.2.1.length ≤ 100 ∧ (∀ c ∈ x.2.1, c < 0x110000) ∧ Tok x.2.2
abbrev spJR (K : PySem.W.Frag) := spI K argJ preJ (fun x r => r = .p (.d (.bool (accB x.1 x.2.1 x.2.2))))
theorem accB_tup2 {m : Mach} {z s : List Nat} {y : PyData} : accB m z (.tuple [zD s, y]) = if s = yesL then strB m z y else if s = noL then noB m z.length y else false := by
  show (if mkS s = mkS yesL then strB m z y else if mkS s = mkS noL then noB m z.length y else false) = _
  simp only [mkS_inj]
theorem accB_len {m : Mach} {z : List Nat} {ps : List PyData} (h : ps.length ≠ 2) : accB m z (.tuple ps) = false := by
  unfold accB
  split
  · rename_i e
    cases e
    exact absurd rfl h
  · rfl
theorem accB_not {m : Mach} {z : List Nat} {d : PyData} (h : isiD d "tuple" = false) : accB m z d = false := by
  unfold accB
  split
  · exact absurd h (by simp [isiD, tyN])
  · rfl
theorem len2 {α : Type} {xs : List α} (h : xs.length = 2) : ∃ x y, xs = [x, y] := by
  match xs, h with
  | [x, y], _ => exact ⟨x, y, rfl⟩
theorem eqv_zD (s t : List Nat) : PyData.eqv (zD s) (zD t) = decide (s = t) := by
  have : PyData.eqv (zD s) (zD t) = (mkS s == mkS t) := by simp only [PyData.eqv]
  rw [this]
  by_cases h : s = t
  · simp [h]
  · have : mkS s ≠ mkS t := fun e => h (mkS_inj.mp e)
    simp [h, this]
theorem shp_yn : Shp 1 (.tuple [zD yesL, zD noL]) := shp_tup fun x hx => by
  simp at hx
  rcases hx with rfl | rfl <;> exact shp_str 0 (by decide)
theorem strB_not {m : Mach} {z : List Nat} {d : PyData} (h : isiD d "str" = false) : strB m z d = false := by
  cases d <;> first | rfl | exact absurd h (by simp [isiD, tyN])
theorem strB_zD (m : Mach) (z w : List Nat) : strB m z (zD w) = yesB m z w := by
  show yesB m z (mkS w).cps.toList = _
  simp [mkS]
theorem noB_not {m : Mach} {nn : Nat} {d : PyData} (h : isiD d "tuple" = false) : noB m nn d = false := by
  cases d <;> first | rfl | exact absurd h (by simp [isiD, tyN])
theorem validP_not {n : Nat} {d : PyData} (h : isiD d "tuple" = false) : validP n d = false := by
  cases d <;> first | rfl | exact absurd h (by simp [isiD, tyN])
theorem validP_len {n : Nat} {ps : List PyData} (h : ps.length ≠ 2) : validP n (.tuple ps) = false := by
  unfold validP
  split
  · rename_i e
    cases e
    exact absurd rfl h
  · rfl
theorem tok_in {x y : PyData} (h : Tok (.tuple [x, y])) : Shp 19 y := shp_in h.1 y (by simp)
theorem all_take {α : Type} {p : α → Bool} {xs : List α} {i : Nat} {x : α} (h : ∀ q ∈ xs.take i, p q = true) (hx : xs[i]? = some x) (hp : p x = true) : ∀ q ∈ xs.take (i + 1), p q = true := by
  intro q hq
  rw [List.take_succ, hx] at hq
  rcases List.mem_append.mp hq with h' | h'
  · exact h q h'
  · rw [List.mem_singleton.mp h']
    exact hp
theorem ok_judge_reset (T : Tx K mg a) (G_pair_behind : FnOk P w K mg base CX0 1 a.f6 a.d6 ["machine", "number", "pair"] (spB K)) (G_is_line : FnOk P w K mg base CX0 1 a.f10 a.d10 ["machine", "line"] (spL K)) : FnOk P w K mg base CX0 2 a.f9 a.d9 ["machine", "signs", "told"] (spJR K) := by
  refine fnI T.F_judge_reset sc_judge_reset (fun x => ⟨rfl, by decide⟩) fun cdv A outer s H E hr => ⟨_, (pss_cons (ps_if (PW.pt (pw_or (pt_not (kTRUTH K rfl (pe_callB (kISI K rfl) (by rfl) T.z_isinstance (by decide +kernel) (pa_cons (pv 2) (pa_cons (pe_bltn (v := .ty "tuple") (by rfl) T.z_tuple (by decide +kernel) rfl) pa_nil))) (by intro _; rfl))) (pw_or (pt_cmpR (kNE K rfl hr.units) (pe_callB (kLEN K rfl) (by rfl) T.z_len (by decide +kernel) (pa_cons (pv 2) pa_nil)) pe_int (nomark _)) (pw_or1 (pt_cmpR (kNI K rfl (hu65 hr)) (pe_ix (kIX K rfl) (pv 2) pe_int (fun _ _ => rfl)) (pe_tup (pa_cons (pe_strM [121, 101, 115] rfl) (pa_cons (pe_strM [110, 111] rfl) pa_nil))) (by rfl)))))) (pss_one (ps_ret pe_bl)) pss_nil) (pss_cons (ps_if (pt_cmpR (kEQ K rfl hr.units) (pe_ix (kIX K rfl) (pv 2) pe_int (fun _ _ => rfl)) (pe_strM [121, 101, 115] rfl) (nomark _)) (pss_cons (ps_if (PW.pt (pw_or (pt_not (kTRUTH K rfl (pe_callB (kISI K rfl) (by rfl) T.z_isinstance (by decide +kernel) (pa_cons (pe_ix (kIX K rfl) (pv 2) pe_int (fun _ _ => rfl)) (pa_cons (pe_bltn (v := .ty "str") (by rfl) T.z_str (by decide +kernel) rfl) pa_nil))) (by intro _; rfl))) (pw_or1 (pt_cmpR (kIN K rfl (hu65 hr)) pe_bl (pe_lc (own := [("sign", 4)]) (g := gName 4) (by rfl) sc_judge_reset.nd (kANY K rfl (pe_ix (kIX K rfl) (pv 2) pe_int (fun _ _ => rfl))) (blkOk_by (own := [("sign", 4)]) (N := ["machine", "signs", "told", "lines", "sign", "pair", "line", "number"]) (sc := defScope s_judge_reset) (by decide +kernel)) (fun _ _ _ _ _ => (pg_name (i := 4) sc_judge_reset.nd rfl (by first | exact Or.inl rfl | exact Or.inr rfl))) (fun _ _ _ _ _ => pts_nil) (fun _ _ _ _ _ => (pe_cmpR (kIN K rfl (hu65 hr)) (pv 4) (pv 1) (by rfl)))) (by rfl))))) (pss_one (ps_ret pe_bl)) pss_nil) (pss_cons (ps_set (i := 3) sc_judge_reset.nd rfl (Or.inl rfl) (pe_listRg rfl (by rfl) T.z_list (prg_1 (by rfl) T.z_range (pe_callB (kLEN K rfl) (by rfl) T.z_len (by decide +kernel) (pa_cons (pv 0) pa_nil))))) (pss_cons (ps_for PassesOwn.never rfl (kANY K rfl (pe_ix (kIX K rfl) (pv 2) pe_int (fun _ _ => rfl))) (pg_name (i := 4) sc_judge_reset.nd rfl (Or.inr rfl)) (pss_one (ps_set (i := 3) sc_judge_reset.nd rfl (Or.inl rfl) (pe_callB (kSORTSET w rfl rfl) (by rfl) T.z_sorted (by decide +kernel) (pa_cons (pe_callTy (kSET w K rfl rfl rfl) (by rfl) T.z_set (by decide +kernel) (pa_cons (pe_lc (own := [("line", 6)]) (g := gName 6) (by rfl) sc_judge_reset.nd (kANY K rfl (pv 3)) (blkOk_by (own := [("line", 6)]) (N := ["machine", "signs", "told", "lines", "sign", "pair", "line", "number"]) (sc := defScope s_judge_reset) (by decide +kernel)) (fun _ _ _ _ _ => (pg_name (i := 6) sc_judge_reset.nd rfl (by first | exact Or.inl rfl | exact Or.inr rfl))) (fun _ _ _ _ _ => pts_nil) (fun _ _ _ _ _ => (pe_ix (kIX K rfl) (pe_ix (kIX K rfl) (pe_ix (kIX K rfl) (pv 0) (pv 6) (fun _ _ => rfl)) pe_int (fun _ _ => rfl)) (kBM K rfl (pe_bm PySem.F.plainAttrs_str PySem.F.slot_str_index PySem.F.type_str_index mt_sindex (pv 1) (pa_cons (pv 4) pa_nil))) (fun _ _ => rfl)))) pa_nil)) pa_nil))))) (pss_one (ps_ret (pe_cmpR (kEQ K rfl hr.units) (pe_callB (kLEN K rfl) (by rfl) T.z_len (by decide +kernel) (pa_cons (pv 3) pa_nil)) pe_int (nomark _))))))) pss_nil) (pss_cons (ps_if (PW.pt (pw_or (pt_not (kTRUTH K rfl (pe_callB (kISI K rfl) (by rfl) T.z_isinstance (by decide +kernel) (pa_cons (pe_ix (kIX K rfl) (pv 2) pe_int (fun _ _ => rfl)) (pa_cons (pe_bltn (v := .ty "tuple") (by rfl) T.z_tuple (by decide +kernel) rfl) pa_nil))) (by intro _; rfl))) (pw_or1 (pt_cmpR (kEQ K rfl hr.units) (pe_callB (kLEN K rfl) (by rfl) T.z_len (by decide +kernel) (pa_cons (pe_ix (kIX K rfl) (pv 2) pe_int (fun _ _ => rfl)) pa_nil)) pe_int (nomark _))))) (pss_one (ps_ret pe_bl)) pss_nil) (pss_cons (ps_for PassesOwn.never rfl (kANY K rfl (pe_ix (kIX K rfl) (pv 2) pe_int (fun _ _ => rfl))) (pg_name (i := 5) sc_judge_reset.nd rfl (Or.inr rfl)) (pss_cons (ps_if (PW.pt (pw_or (pt_not (kTRUTH K rfl (pe_callB (kISI K rfl) (by rfl) T.z_isinstance (by decide +kernel) (pa_cons (pv 5) (pa_cons (pe_bltn (v := .ty "tuple") (by rfl) T.z_tuple (by decide +kernel) rfl) pa_nil))) (by intro _; rfl))) (pw_or1 (pt_cmpR (kNE K rfl hr.units) (pe_callB (kLEN K rfl) (by rfl) T.z_len (by decide +kernel) (pa_cons (pv 5) pa_nil)) pe_int (nomark _))))) (pss_one (ps_ret pe_bl)) pss_nil) (pss_one (ps_if (PW.pt (pw_or (pt_cmpR (kIN K rfl (hu65 hr)) pe_bl (pe_lc (own := [("line", 6)]) (g := gName 6) (by rfl) sc_judge_reset.nd (kANY K rfl (pv 5)) (blkOk_by (own := [("line", 6)]) (N := ["machine", "signs", "told", "lines", "sign", "pair", "line", "number"]) (sc := defScope s_judge_reset) (by decide +kernel)) (fun _ _ _ _ _ => (pg_name (i := 6) sc_judge_reset.nd rfl (by first | exact Or.inl rfl | exact Or.inr rfl))) (fun _ _ _ _ _ => pts_nil) (fun _ _ _ _ _ => (pe_call G_is_line hr (by rfl) T.m_is_line T.k_is_line T.b_is_line .nil pass0 (pa_cons (pv 0) (pa_cons (pv 6) pa_nil))))) (by rfl)) (pw_or1 (pt_cmpR op_ge (pe_ix (kIX K rfl) (pv 5) pe_int (fun _ _ => rfl)) (pe_ix (kIX K rfl) (pv 5) pe_int (fun _ _ => rfl)) (nomark _))))) (pss_one (ps_ret pe_bl)) pss_nil)))) (pss_cons (ps_for PassesOwn.never rfl (kANY K rfl (pe_ix (kIX K rfl) (pv 2) pe_int (fun _ _ => rfl))) (pg_name (i := 5) sc_judge_reset.nd rfl (Or.inr rfl)) (pss_one (ps_if (pt_cmpR (kIN K rfl (hu65 hr)) pe_bl (pe_lc (own := [("number", 7)]) (g := gName 7) (by rfl) sc_judge_reset.nd (pi_range1 (by rfl) T.z_range (pa_cons (pe_callB (kLEN K rfl) (by rfl) T.z_len (by decide +kernel) (pa_cons (pv 1) pa_nil)) pa_nil)) (blkOk_by (own := [("number", 7)]) (N := ["machine", "signs", "told", "lines", "sign", "pair", "line", "number"]) (sc := defScope s_judge_reset) (by decide +kernel)) (fun _ _ _ _ _ => (pg_name (i := 7) sc_judge_reset.nd rfl (by first | exact Or.inl rfl | exact Or.inr rfl))) (fun _ _ _ _ _ => pts_nil) (fun _ _ _ _ _ => (pe_cmpR (kIN K rfl (hu65 hr)) (pe_call G_pair_behind hr (by rfl) T.m_pair_behind T.k_pair_behind T.b_pair_behind .nil pass0 (pa_cons (pv 0) (pa_cons (pv 7) (pa_cons (pv 5) pa_nil)))) (pe_ix (kIX K rfl) (pv 2) pe_int (fun _ _ => rfl)) (by rfl)))) (by rfl)) (pss_one (ps_ret pe_bl)) pss_nil))) (pss_one (ps_ret pe_bl))))))), ?_⟩
  rintro ⟨m, z, told⟩ ⟨g, hm1, hm, hz, hc, ht⟩ B
  dsimp only [argJ] at *
  refine ds_mid' (fun G => ∃ s y, told = .tuple [zD s, y] ∧ (s = yesL ∨ s = noL) ∧ G = [.d (encM m), .d (zD z), .d told, .un, .un, .un, .un, .un]) ?_ ?_
  · walk_at "gs"
    refine ite_k (fun c => ?_) (fun c => ?_)
    · walk_at "gs"
      rw [accB_not (not_f c)]
    · obtain ⟨ps, rfl⟩ := isi_t (not_t c)
      walk_at "gs"
      refine ite_k (fun c => ?_) (fun c => ?_)
      · walk_at "gs"
        rw [accB_len fun e => by rw [e] at c; cases c]
      · have hl : ps.length = 2 := by
          have := of_decide_eq_true (not_t c)
          omega
        obtain ⟨x, y, rfl⟩ := len2 hl
        obtain ⟨⟨s, rfl, hsc⟩, hw⟩ := ht.2 x y rfl
        walk_at "gs"
        refine rw_niT rfl (shp_ok (shp_str 0 hsc) (by decide)) (shp_ok shp_yn (by decide)) ?_
        have e : ([zD yesL, zD noL].any fun d => PyData.eqv d (zD s)) = decide (s ∈ [yesL, noL]) := (any_inj (f := zD) eqv_zD [yesL, noL] s).trans (decide_eq_decide.mpr Iff.rfl)
        rw [e]
        walk_at "gs"
        refine ite_k (fun c => ?_) (fun c => ?_)
        · walk_at "gs"
          have c := of_decide_eq_false (not_f c)
          rw [accB_tup2, if_neg (fun e => c (by simp [e])), if_neg (fun e => c (by simp [e]))]
        · walk_at "gs"
          have c := of_decide_eq_true (not_t c)
          exact ⟨s, y, rfl, by simpa using c, rfl⟩
  · rintro G1 ⟨s, y, rfl, hs, rfl⟩
    obtain ⟨_, hw⟩ := ht.2 _ y rfl
    have hy := tok_in ht
    rw [accB_tup2]
    refine ds_seq' ?_
    walk_at "gs"
    refine ite_k (fun c => ?_) (fun c => ?_)
    · have c : s = yesL := mkS_inj.mp (of_decide_eq_true c)
      subst c
      rw [if_pos rfl]
      refine ds_mid' (fun G => ∃ w, y = zD w ∧ (∀ c ∈ w, c ∈ z) ∧ G = [.d (encM m), .d (zD z), .d (.tuple [zD yesL, y]), .un, .un, .un, .un, .un]) ?_ ?_
      · walk_at "gs"
        refine ite_k (fun c => ?_) (fun c => ?_)
        · walk_at "gs"
          rw [strB_not (not_f c)]
        · obtain ⟨w, rfl⟩ := isi_s (not_t c)
          have hwl := hw w rfl
          rw [strB_zD]
          walk_at "gs"
          refine dw_lcM w (fun c => zD [c]) (fun c => .bool (decide (c ∈ z))) ?_
          refine di_anyS (di_str ?_)
          walk_at "gs"
          refine ⟨szl hwl, fun B' c hc => ?_, ?_⟩
          · walk_at "gs"
            refine rw_inS ?_
            walk_at "gs"
          · walk_at "gs"
            refine rw_inL rfl rfl (shp_ok (shp_bool 0 _) (by decide)) (shp_ok (shp_list fun x hx => by
              obtain ⟨k, _, rfl⟩ := List.mem_map.mp hx
              exact shp_bool 0 _) (by decide)) ?_
            rw [any_false]
            walk_at "gs"
            refine ite_k (fun c => ?_) (fun c => ?_)
            · walk_at "gs"
              obtain ⟨x, hx, hn⟩ := List.any_eq_true.mp c
              have : yesB m z w = false := by
                unfold yesB
                rw [Bool.and_eq_false_iff]
                left
                rw [← Bool.not_eq_true, List.all_eq_true]
                intro q
                rw [q x hx] at hn
                cases hn
              rw [this]
            · walk_at "gs"
              refine ⟨fun c' hc' => ?_, rfl⟩
              refine Classical.byContradiction fun hn => ?_
              have : (w.any fun c => !decide (c ∈ z)) = true := List.any_eq_true.mpr ⟨c', hc', by simp [hn]⟩
              rw [this] at c
              cases c
      · rintro G1 ⟨w, rfl, hwz, rfl⟩
        have hwl := hw w rfl
        rw [strB_zD]
        walk_at "go"
        refine ⟨by rw [List.length_map]; omega, ?_⟩
        rw [List.length_map, rng_nD']
        walk_at "go"
        refine ds_forE' (ch := [4]) ?_
        refine di_anyS (di_str ?_)
        walk_at "go"
        refine ⟨fun i G => ∃ s4 s6, G = [.d (encM m), .d (zD z), .d (.tuple [zD yesL, zD w]), .o none ((itS m (List.range m.length) ((w.take i).map z.idxOf)).map nD), s4, .un, s6, .un], ⟨_, _, rfl⟩, fun i G2 d hd ⟨s4, s6, hG⟩ => ?_, fun G2 ⟨s4, s6, hG⟩ => ?_⟩
        · subst hG
          rw [List.getElem?_map] at hd
          obtain ⟨c, hcw, rfl⟩ := Option.map_eq_some_iff.mp hd
          have hcz := hwz c (List.mem_of_getElem? hcw)
          have hk := List.idxOf_lt_length_of_mem hcz
          have hsr := itS_srt g (srt_range m.length) (ks := (w.take i).map z.idxOf) fun k hk => by
            obtain ⟨c', hc', rfl⟩ := List.mem_map.mp hk
            exact List.idxOf_lt_length_of_mem (hwz c' (List.mem_of_mem_take hc'))
          obtain ⟨S, hS⟩ : ∃ S, S = itS m (List.range m.length) ((w.take i).map z.idxOf) := ⟨_, rfl⟩
          rw [← hS] at hsr ⊢
          have hel : S.length ≤ m.length := by
            have := nodup_le (k := List.range m.length) hsr.nodup fun x hx => List.mem_range.mpr (hsr.2 x hx)
            rwa [List.length_range] at this
          have hS2 : itS m (List.range m.length) ((w.take (i + 1)).map z.idxOf) = nextS m S (z.idxOf c) := by
            rw [List.take_succ, hcw, hS, List.map_append, itS_app]
            rfl
          refine dg_name (ds_freeze 3 rfl ?_)
          walk_at "go"
          refine dw_lcM S nD (fun l => nD (nxt m l (z.idxOf c))) ?_
          refine di_anyL (di_list ?_)
          walk_at "go"
          refine ⟨szl (by omega), fun B' l hl => ?_, ?_⟩
          · obtain ⟨x, x1, x2, _⟩ := g.at (hsr.2 l hl) hk
            walk_at "go"
            refine rw_ixT (ati x1) ?_
            walk_at "go"
            refine rm_sindex hcz ?_
            walk_at "go"
            refine rw_ixT (ati x2) ?_
            walk_at "go"
          · refine pw_o ?_
            refine ⟨S.map fun l => (nxt m l (z.idxOf c) : Int), by rw [List.map_map]; rfl, by rw [List.length_map]; omega, ?_⟩
            rw [nextS_int, List.map_map]
            walk_at "go"
            refine ⟨.d (zD [c]), .un, ?_⟩
            rw [hS2]
            rfl
        · subst hG
          rw [List.length_map, List.take_length]
          walk_at "go"
          refine rn_lenL rfl ?_
          walk_at "go"
          have : yesB m z w = decide (((((itS m (List.range m.length) (w.map z.idxOf)).map nD).length : Nat) : Int) = 1) := by
            unfold yesB
            rw [img_len g hwz, List.all_eq_true.mpr (fun c hc => decide_eq_true (hwz c hc)), Bool.true_and, List.length_map]
            exact decide_eq_decide.mpr ⟨fun h => by omega, fun h => by omega⟩
          rw [this]
    · have c : s = noL := by
        rcases hs with h | h
        · exact absurd (by rw [h]) (of_decide_eq_false c)
        · exact h
      subst c
      rw [if_neg (by decide), if_pos rfl]
      walk_at "gs"
      refine ds_mid' (fun G => ∃ ps, y = .tuple ps ∧ ps ≠ [] ∧ G = [.d (encM m), .d (zD z), .d (.tuple [zD noL, y]), .un, .un, .un, .un, .un]) ?_ ?_
      · walk_at "gs"
        refine ite_k (fun c => ?_) (fun c => ?_)
        · walk_at "gs"
          rw [noB_not (not_f c)]
        · obtain ⟨ps, rfl⟩ := isi_t (not_t c)
          walk_at "gs"
          refine ite_k (fun c => ?_) (fun c => ?_)
          · walk_at "gs"
            have : ps = [] := by
              have := of_decide_eq_true c
              exact List.length_eq_zero_iff.mp (by omega)
            subst this
            rfl
          · walk_at "gs"
            refine ⟨fun e => ?_, rfl⟩
            rw [e] at c
            cases c
      · rintro G1 ⟨ps, rfl, hne, rfl⟩
        have hps := shp_in hy
        have hB : noB m z.length (.tuple ps) = (ps.all (validP m.length) && ps.all (clsB m z.length ps)) := by
          show (!ps.isEmpty && ps.all (validP m.length) && ps.all (clsB m z.length ps)) = _
          cases ps with
          | nil => exact absurd rfl hne
          | cons _ _ => rfl
        rw [hB]
        refine ds_mid' (fun G => ∃ s5 s6, (∀ q ∈ ps, validP m.length q = true) ∧ G = [.d (encM m), .d (zD z), .d (.tuple [zD noL, .tuple ps]), .un, .un, s5, s6, .un]) ?_ ?_
        · refine ds_forE' (ch := [5]) ?_
          refine di_anyT (di_tup ?_)
          walk_at "go"
          refine ⟨fun i G => ∃ s5 s6, (∀ q ∈ ps.take i, validP m.length q = true) ∧ G = [.d (encM m), .d (zD z), .d (.tuple [zD noL, .tuple ps]), .un, .un, s5, s6, .un], ⟨_, _, (fun q h => nomatch h), rfl⟩, fun i G2 q hq ⟨s5, s6, hv, hG⟩ => ?_, fun G2 ⟨s5, s6, hv, hG⟩ => ?_⟩
          · subst hG
            have hqm := List.mem_of_getElem? hq
            have bad : validP m.length q = false → (ps.all (validP m.length) && ps.all (clsB m z.length ps)) = false := fun e => by
              rw [Bool.and_eq_false_iff]
              left
              rw [← Bool.not_eq_true, List.all_eq_true]
              intro h
              rw [h q hqm] at e
              cases e
            refine dg_name ?_
            refine ds_mid' (fun G => ∃ x y, q = .tuple [x, y] ∧ G = [.d (encM m), .d (zD z), .d (.tuple [zD noL, .tuple ps]), .un, .un, .d q, s6, .un]) ?_ ?_
            · walk_at "gs"
              refine ite_k (fun c => ?_) (fun c => ?_)
              · walk_at "gs"
                rw [bad (validP_not (not_f c))]
              · obtain ⟨qs, rfl⟩ := isi_t (not_t c)
                walk_at "gs"
                refine ite_k (fun c => ?_) (fun c => ?_)
                · walk_at "gs"
                  rw [bad (validP_len fun e => by rw [e] at c; cases c)]
                · walk_at "gs"
                  have hl : qs.length = 2 := by
                    have := of_decide_eq_true (not_t c)
                    omega
                  obtain ⟨x, y, rfl⟩ := len2 hl
                  exact ⟨x, y, rfl, rfl⟩
            · rintro G1 ⟨x, y, rfl, rfl⟩
              walk_at "go"
              refine dw_lcM [x, y] id (fun d => .bool (isLn m.length d)) ?_
              refine di_anyT (di_tup ?_)
              walk_at "go"
              refine ⟨fun B' d hd => ?_, ?_⟩
              · walk_at "go"
                refine ⟨(m, d), trivial, rfl, ?_⟩
                rintro _ rfl
                walk_at "go"
              · walk_at "go"
                refine rw_inL rfl rfl (shp_ok (shp_bool 0 _) (by decide)) (shp_ok (shp_list fun x hx => by
                  obtain ⟨k, _, rfl⟩ := List.mem_map.mp hx
                  exact shp_bool 0 _) (by decide)) ?_
                rw [any_false]
                walk_at "go"
                refine ite_k (fun c => ?_) (fun c => ?_)
                · walk_at "go"
                  rw [bad]
                  show (isLn m.length x && isLn m.length y && ltD x y) = false
                  simp only [List.any_cons, List.any_nil, Bool.or_false] at c
                  cases e1 : isLn m.length x
                  · rfl
                  · cases e2 : isLn m.length y
                    · rfl
                    · rw [e1, e2] at c
                      cases c
                · have e1 : isLn m.length x = true := by
                    cases e : isLn m.length x
                    · rw [List.any_cons, e] at c
                      cases c
                    · rfl
                  have e2 : isLn m.length y = true := by
                    cases e : isLn m.length y
                    · rw [List.any_cons, List.any_cons, e, e1] at c
                      cases c
                    · rfl
                  obtain ⟨i1, rfl, hi1⟩ := isLn_nat e1
                  obtain ⟨i2, rfl, hi2⟩ := isLn_nat e2
                  walk_at "go"
                  refine ite_k (fun c => ?_) (fun c => ?_)
                  · walk_at "go"
                    rw [bad]
                    have : ltD (nD i1) (nD i2) = false := by
                      have := of_decide_eq_true c
                      exact decide_eq_false (by omega)
                    show (isLn m.length (nD i1) && isLn m.length (nD i2) && ltD (nD i1) (nD i2)) = false
                    rw [this, Bool.and_false]
                  · walk_at "go"
                    refine ⟨_, _, all_take hv hq ?_, rfl⟩
                    have : ltD (nD i1) (nD i2) = true := by
                      have := of_decide_eq_false c
                      exact decide_eq_true (by omega)
                    show (isLn m.length (nD i1) && isLn m.length (nD i2) && ltD (nD i1) (nD i2)) = true
                    rw [this, e1, e2]
                    rfl
          · subst hG
            rw [List.take_length] at hv
            refine nx_nxt ?_
            exact ⟨_, _, hv, rfl⟩
        · rintro G1 ⟨s5, s6, hv, rfl⟩
          rw [List.all_eq_true.mpr hv, Bool.true_and]
          walk_at "go"
          refine ds_forE' (ch := [5]) ?_
          refine di_anyT (di_tup ?_)
          walk_at "go"
          refine ⟨fun i G => ∃ s5 s6 s7, (∀ q ∈ ps.take i, clsB m z.length ps q = true) ∧ G = [.d (encM m), .d (zD z), .d (.tuple [zD noL, .tuple ps]), .un, .un, s5, s6, s7], ⟨_, _, _, (fun q h => nomatch h), rfl⟩, fun i G2 q hq ⟨s5, s6, s7, hcl, hG⟩ => ?_, fun G2 ⟨s5, s6, s7, hcl, hG⟩ => ?_⟩
          · subst hG
            have hqm := List.mem_of_getElem? hq
            obtain ⟨p, rfl, hp1, hp2⟩ := validP_pN (hv q hqm)
            refine dg_name ?_
            walk_at "go"
            refine dw_lcM (List.range z.length) nD (fun k => .bool (ps.any fun d => PyData.eqv d (pN (bh m k p)))) ?_
            refine di_rng1 ?_
            walk_at "go"
            refine rn_lenS (szl (by omega)) ?_
            walk_at "go"
            refine ⟨by omega, by omega, rng_nD _, szl (by rw [List.length_range]; omega), fun B' k hk => ?_, ?_⟩
            · walk_at "go"
              refine ⟨(m, z.length, k, p), ⟨g, List.mem_range.mp hk, by show p.1 < m.length; omega, by show p.2 < m.length; omega⟩, rfl, ?_⟩
              rintro _ rfl
              walk_at "go"
              refine rw_inT rfl (shp_ok (shp_pN _) (by decide)) (shp_ok hy (by decide)) ?_
              walk_at "go"
            · walk_at "go"
              refine rw_inL rfl rfl (shp_ok (shp_bool 0 _) (by decide)) (shp_ok (shp_list fun x hx => by
                obtain ⟨k, _, rfl⟩ := List.mem_map.mp hx
                exact shp_bool 0 _) (by decide)) ?_
              rw [any_false]
              walk_at "go"
              refine ite_k (fun c => ?_) (fun c => ?_)
              · walk_at "go"
                have : ps.all (clsB m z.length ps) = false := by
                  rw [← Bool.not_eq_true, List.all_eq_true]
                  intro h
                  have h := h _ hqm
                  unfold clsB at h
                  rw [prOf_pN, List.all_eq_true] at h
                  obtain ⟨k, hk, hn⟩ := List.any_eq_true.mp c
                  rw [h k hk] at hn
                  cases hn
                rw [this]
              · walk_at "go"
                refine ⟨_, _, _, all_take hcl hq ?_, rfl⟩
                unfold clsB
                rw [prOf_pN, List.all_eq_true]
                intro k hk
                cases e : ps.any fun d => PyData.eqv d (pN (bh m k p))
                · have : ((List.range z.length).any fun k => !ps.any fun d => PyData.eqv d (pN (bh m k p))) = true := List.any_eq_true.mpr ⟨k, hk, by rw [e]; rfl⟩
                  rw [this] at c
                  cases c
                · rfl
          · subst hG
            rw [List.take_length] at hcl
            walk_at "go"
            rw [List.all_eq_true.mpr hcl]
end
end K66
namespace K66
open PySem PySem.Spec PyProof.Rows L2 DL
local macro_rules | `(tactic| walk_at "st") => `(tactic| with_reducible first
  | refine pw_p ?_ | refine pw_o ?_ | refine dw_op ?_ | refine dw_un ?_ | refine dw_int ?_ | refine dw_str ?_ | refine dw_bl ?_ | refine dw_non ?_ | refine dw_ty ?_ | refine da_nil' ?_ | refine da_cons' ?_ | refine dw_sortSet ?_ | refine dw_lenSet ?_ | refine dw_CB ?_ | refine dw_BM ?_ | refine dw_BM0 ?_
  | refine dw_tup ?_ | refine dw_lst ?_ | refine dw_notV ?_ | refine dw_and ?_ | refine dw_or ?_ | refine dw_if ?_ | refine dw_chain ?_ | refine dw_sl3 ?_ | refine dw_revT ?_ | refine dw_tupRg1 ?_ | refine dw_lstRg1 ?_ | refine dw_callI ?_ | refine dw_callJ ?_
  | refine dt_test ?_ | refine dt_B ?_ | refine dt_and ?_ | refine dt_or ?_ | refine dt_not ?_ | refine dt_yes ?_ | refine dt_truth ?_
  | refine ds_ret ?_ | refine ds_retN ?_ | refine ds_next ?_ | refine ds_break ?_ | refine ds_cont ?_ | refine ds_drop ?_ | refine ds_if ?_ | refine ds_set ?_
  | refine nx_nxt ?_ | refine rt_nxt ?_ | refine bk_nxt ?_ | refine ct_nxt ?_ | refine nx_lp ?_ | refine rt_lp ?_ | refine bk_lp ?_ | refine ct_lp ?_ | refine asn_d ?_ | refine asn_fr ?_ | refine rt_E0 ?_ | refine rt_E0o ?_ | refine nx_E0 ?_
  | refine dw_newT ?_ | refine dw_dIn ?_ | refine dw_dNotIn ?_ | refine dw_dGet ?_ | refine ds_dPut ?_
  | refine tr_b ?_ | refine tr_i ?_ | refine tr_n ?_ | refine tr_T ?_ | refine tr_L ?_
  | refine do_none ?_ | refine do_some ?_ | refine ite_t ?_ | refine ite_f ?_
  | refine rw_addI ?_ | refine rw_sub ?_ | refine rw_cmp ?_ | refine rw_eqI ?_ | refine rw_neI ?_ | refine rw_eqS ?_ | refine rw_neS ?_ | refine rw_eqB ?_ | refine rw_neB ?_ | refine isN_d ?_ | refine notN_d ?_ | refine rw_isB ?_ | refine rw_notB ?_
  | refine rn_intI ?_ | refine rn_intB ?_ | refine rn_max ?_ | refine rn_min ?_ | refine rn_lenT ?_ | refine rn_lenD ?_ | refine isi_int ?_ | refine isi_bool ?_ | refine isi_str ?_ | refine isi_tuple ?_ | refine isi_list ?_ | refine rn_tupT ?_ | refine rn_listT ?_
  | refine ⟨_, rfl, ?_⟩
  | fail)
local macro_rules | `(tactic| walk_at "va") => `(tactic| first
  | ((with_reducible apply dw_var); rfl) | ((with_reducible apply dw_sl); rfl) | ((with_reducible apply dw_slT); rfl)
  | ((with_reducible apply rw_ixL); rfl; rfl) | ((with_reducible apply rw_ixT); rfl)
  | ((with_reducible apply ite_T); rfl) | ((with_reducible apply ite_F); rfl) | ((with_reducible apply tr_o); rfl)
  | refine ⟨_, rfl, szl (Nat.le_of_ble_eq_true rfl), ?_⟩
  | (with_reducible refine rw_mod (by omega) ?_)
  | (with_reducible refine rw_fdiv (by unfold CDiv; omega) ?_)
  | (with_reducible refine rw_mul (by unfold CMul; omega) ?_)
  | refine ⟨szl (Nat.le_of_ble_eq_true rfl), ?_⟩
  | refine ⟨rfl, ?_⟩
  | rfl
  | fail)
local macro_rules | `(tactic| walk_at "go") => `(tactic| repeat' (first | walk_at "st" | (with_reducible refine ds_seq' ?_) | walk_at "va" | fail))
local macro_rules | `(tactic| walk_at "gs") => `(tactic| repeat' (first | walk_at "st" | walk_at "va" | fail))
section
variable {P : Program} {w : World} {K : PySem.W.Frag} {mg : Str → Option Value} {base : Heap} {a : Ad}
theorem ok_law_accepts (T : Tx K mg a) (G_law_line : FnOk P w K mg base CX0 1 a.f16 a.d16 ["machine", "signs", "line", "row"] (spR K)) (G_law_behind : FnOk P w K mg base CX0 1 a.f18 a.d18 ["machine", "k", "pair"] (spB K)) (G_law_is_line : FnOk P w K mg base CX0 1 a.f21 a.d21 ["machine", "value"] (spL K)) : FnOk P w K mg base CX0 2 a.f22 a.d22 ["machine", "signs", "told"] (spJR K) := by
  refine fnI T.F_law_accepts sc_law_accepts (fun x => ⟨rfl, by decide⟩) fun cdv A outer s H E hr => ⟨_, (pss_cons (ps_if (PW.pt (pw_or (pt_not (kTRUTH K rfl (pe_callB (kISI K rfl) (by rfl) T.z_isinstance (by decide +kernel) (pa_cons (pv 2) (pa_cons (pe_bltn (v := .ty "tuple") (by rfl) T.z_tuple (by decide +kernel) rfl) pa_nil))) (by intro _; rfl))) (pw_or (pt_cmpR (kNE K rfl hr.units) (pe_callB (kLEN K rfl) (by rfl) T.z_len (by decide +kernel) (pa_cons (pv 2) pa_nil)) pe_int (nomark _)) (pw_or1 (pt_cmpR (kNI K rfl (hu65 hr)) (pe_ix (kIX K rfl) (pv 2) pe_int (fun _ _ => rfl)) (pe_lst (pa_cons (pe_strM [121, 101, 115] rfl) (pa_cons (pe_strM [110, 111] rfl) pa_nil))) (by rfl)))))) (pss_one (ps_ret pe_bl)) pss_nil) (pss_cons (ps_set (i := 3) sc_law_accepts.nd rfl (Or.inr rfl) (pe_ix (kIX K rfl) (pv 2) pe_int (fun _ _ => rfl))) (pss_cons (ps_if (pt_cmpR (kEQ K rfl hr.units) (pe_ix (kIX K rfl) (pv 2) pe_int (fun _ _ => rfl)) (pe_strM [121, 101, 115] rfl) (nomark _)) (pss_cons (ps_if (PW.pt (pw_or (pt_not (kTRUTH K rfl (pe_callB (kISI K rfl) (by rfl) T.z_isinstance (by decide +kernel) (pa_cons (pv 3) (pa_cons (pe_bltn (v := .ty "str") (by rfl) T.z_str (by decide +kernel) rfl) pa_nil))) (by intro _; rfl))) (pw_or1 (pt_cmpR (kNE K rfl hr.units) (pe_lc (own := [("sign", 5)]) (g := gName 5) (by rfl) sc_law_accepts.nd (kANY K rfl (pv 3)) (blkOk_by (own := [("sign", 5)]) (N := ["machine", "signs", "told", "paper", "pair", "sign", "line", "k"]) (sc := defScope s_law_accepts) (by decide +kernel)) (fun _ _ _ _ _ => (pg_name (i := 5) sc_law_accepts.nd rfl (by first | exact Or.inl rfl | exact Or.inr rfl))) (fun _ _ _ _ _ => (pts_one (pt_cmpR (kNI K rfl (hu65 hr)) (pv 5) (pv 1) (by rfl)))) (fun _ _ _ _ _ => (pv 5))) (pe_lst pa_nil) (nomark _))))) (pss_one (ps_ret pe_bl)) pss_nil) (pss_one (ps_ret (pe_cmpR (kEQ K rfl hr.units) (pe_callB (kLENSET w rfl) (by rfl) T.z_len (by decide +kernel) (pa_cons (pe_callTy (kSET w K rfl rfl rfl) (by rfl) T.z_set (by decide +kernel) (pa_cons (pe_lc (own := [("line", 6)]) (g := gName 6) (by rfl) sc_law_accepts.nd (pi_range1 (by rfl) T.z_range (pa_cons (pe_callB (kLEN K rfl) (by rfl) T.z_len (by decide +kernel) (pa_cons (pv 0) pa_nil)) pa_nil)) (blkOk_by (own := [("line", 6)]) (N := ["machine", "signs", "told", "paper", "pair", "sign", "line", "k"]) (sc := defScope s_law_accepts) (by decide +kernel)) (fun _ _ _ _ _ => (pg_name (i := 6) sc_law_accepts.nd rfl (by first | exact Or.inl rfl | exact Or.inr rfl))) (fun _ _ _ _ _ => pts_nil) (fun _ _ _ _ _ => (pe_call G_law_line hr (by rfl) T.m_law_line T.k_law_line T.b_law_line .nil pass0 (pa_cons (pv 0) (pa_cons (pv 1) (pa_cons (pv 6) (pa_cons (pv 3) pa_nil))))))) pa_nil)) pa_nil)) pe_int (nomark _))))) pss_nil) (pss_cons (ps_if (PW.pt (pw_or (pt_not (kTRUTH K rfl (pe_callB (kISI K rfl) (by rfl) T.z_isinstance (by decide +kernel) (pa_cons (pv 3) (pa_cons (pe_bltn (v := .ty "tuple") (by rfl) T.z_tuple (by decide +kernel) rfl) pa_nil))) (by intro _; rfl))) (pw_or1 (pt_cmpR (kEQ K rfl hr.units) (pv 3) (pe_tup pa_nil) (nomark _))))) (pss_one (ps_ret pe_bl)) pss_nil) (pss_cons (ps_for PassesOwn.never rfl (kANY K rfl (pv 3)) (pg_name (i := 4) sc_law_accepts.nd rfl (Or.inr rfl)) (pss_cons (ps_if (PW.pt (pw_or (pt_not (kTRUTH K rfl (pe_callB (kISI K rfl) (by rfl) T.z_isinstance (by decide +kernel) (pa_cons (pv 4) (pa_cons (pe_bltn (v := .ty "tuple") (by rfl) T.z_tuple (by decide +kernel) rfl) pa_nil))) (by intro _; rfl))) (pw_or (pt_cmpR (kNE K rfl hr.units) (pe_callB (kLEN K rfl) (by rfl) T.z_len (by decide +kernel) (pa_cons (pv 4) pa_nil)) pe_int (nomark _)) (pw_or1 (pt_cmpR (kNE K rfl hr.units) (pe_lc (own := [("line", 6)]) (g := gName 6) (by rfl) sc_law_accepts.nd (kANY K rfl (pv 4)) (blkOk_by (own := [("line", 6)]) (N := ["machine", "signs", "told", "paper", "pair", "sign", "line", "k"]) (sc := defScope s_law_accepts) (by decide +kernel)) (fun _ _ _ _ _ => (pg_name (i := 6) sc_law_accepts.nd rfl (by first | exact Or.inl rfl | exact Or.inr rfl))) (fun _ _ _ _ _ => (pts_one (pt_not (kTRUTH K rfl (pe_call G_law_is_line hr (by rfl) T.m_law_is_line T.k_law_is_line T.b_law_is_line .nil pass0 (pa_cons (pv 0) (pa_cons (pv 6) pa_nil))) (by intro _; rfl))))) (fun _ _ _ _ _ => (pv 6))) (pe_lst pa_nil) (nomark _)))))) (pss_one (ps_ret pe_bl)) pss_nil) (pss_one (ps_if (pt_cmpR op_ge (pe_ix (kIX K rfl) (pv 4) pe_int (fun _ _ => rfl)) (pe_ix (kIX K rfl) (pv 4) pe_int (fun _ _ => rfl)) (nomark _)) (pss_one (ps_ret pe_bl)) pss_nil)))) (pss_cons (ps_for PassesOwn.never rfl (kANY K rfl (pv 3)) (pg_name (i := 4) sc_law_accepts.nd rfl (Or.inr rfl)) (pss_one (ps_if (pt_cmpR (kNE K rfl hr.units) (pe_lc (own := [("k", 7)]) (g := gName 7) (by rfl) sc_law_accepts.nd (pi_range1 (by rfl) T.z_range (pa_cons (pe_callB (kLEN K rfl) (by rfl) T.z_len (by decide +kernel) (pa_cons (pv 1) pa_nil)) pa_nil)) (blkOk_by (own := [("k", 7)]) (N := ["machine", "signs", "told", "paper", "pair", "sign", "line", "k"]) (sc := defScope s_law_accepts) (by decide +kernel)) (fun _ _ _ _ _ => (pg_name (i := 7) sc_law_accepts.nd rfl (by first | exact Or.inl rfl | exact Or.inr rfl))) (fun _ _ _ _ _ => (pts_one (pt_cmpR (kNI K rfl (hu65 hr)) (pe_call G_law_behind hr (by rfl) T.m_law_behind T.k_law_behind T.b_law_behind .nil pass0 (pa_cons (pv 0) (pa_cons (pv 7) (pa_cons (pv 4) pa_nil)))) (pv 3) (by rfl)))) (fun _ _ _ _ _ => (pv 7))) (pe_lst pa_nil) (nomark _)) (pss_one (ps_ret pe_bl)) pss_nil))) (pss_one (ps_ret pe_bl)))))))), ?_⟩
  rintro ⟨m, z, told⟩ ⟨g, hm1, hm, hz, hc, ht⟩ B
  dsimp only [argJ] at *
  refine ds_mid' (fun G => ∃ s y, told = .tuple [zD s, y] ∧ (s = yesL ∨ s = noL) ∧ G = [.d (encM m), .d (zD z), .d told, .un, .un, .un, .un, .un]) ?_ ?_
  · walk_at "gs"
    refine ite_k (fun c => ?_) (fun c => ?_)
    · walk_at "gs"
      rw [accB_not (not_f c)]
    · obtain ⟨ps, rfl⟩ := isi_t (not_t c)
      walk_at "gs"
      refine ite_k (fun c => ?_) (fun c => ?_)
      · walk_at "gs"
        rw [accB_len fun e => by rw [e] at c; cases c]
      · have hl : ps.length = 2 := by
          have := of_decide_eq_true (not_t c)
          omega
        obtain ⟨x, y, rfl⟩ := len2 hl
        obtain ⟨⟨s, rfl, hsc⟩, hw⟩ := ht.2 x y rfl
        walk_at "gs"
        refine rw_niL rfl rfl (shp_ok (shp_str 0 hsc) (by decide)) (shp_ok (shp_list (n := 0) fun x hx => by
          simp at hx
          rcases hx with rfl | rfl <;> exact shp_str 0 (by decide)) (by decide)) ?_
        have e : ([zD yesL, zD noL].any fun d => PyData.eqv d (zD s)) = decide (s ∈ [yesL, noL]) := (any_inj (f := zD) eqv_zD [yesL, noL] s).trans (decide_eq_decide.mpr Iff.rfl)
        rw [e]
        walk_at "gs"
        refine ite_k (fun c => ?_) (fun c => ?_)
        · walk_at "gs"
          have c := of_decide_eq_false (not_f c)
          rw [accB_tup2, if_neg (fun e => c (by simp [e])), if_neg (fun e => c (by simp [e]))]
        · walk_at "gs"
          have c := of_decide_eq_true (not_t c)
          exact ⟨s, y, rfl, by simpa using c, rfl⟩
  · rintro G1 ⟨s, y, rfl, hs, rfl⟩
    obtain ⟨_, hw⟩ := ht.2 _ y rfl
    have hy := tok_in ht
    rw [accB_tup2]
    refine ds_seq' ?_
    walk_at "gs"
    refine ds_seq' ?_
    walk_at "gs"
    refine ite_k (fun c => ?_) (fun c => ?_)
    · have c : s = yesL := mkS_inj.mp (of_decide_eq_true c)
      subst c
      rw [if_pos rfl]
      refine ds_mid' (fun G => ∃ w, y = zD w ∧ (∀ c ∈ w, c ∈ z) ∧ G = [.d (encM m), .d (zD z), .d (.tuple [zD yesL, y]), .d y, .un, .un, .un, .un]) ?_ ?_
      · walk_at "gs"
        refine ite_k (fun c => ?_) (fun c => ?_)
        · walk_at "gs"
          rw [strB_not (not_f c)]
        · obtain ⟨w, rfl⟩ := isi_s (not_t c)
          have hwl := hw w rfl
          rw [strB_zD]
          walk_at "gs"
          refine dw_lcF w (fun c => zD [c]) (fun c => !decide (c ∈ z)) (fun c => zD [c]) ?_
          refine di_anyS (di_str ?_)
          walk_at "gs"
          refine ⟨szl hwl, fun B' c hc => ?_, ?_⟩
          · walk_at "gs"
            refine rw_niS ?_
            walk_at "gs"
            intro _
            walk_at "gs"
          · walk_at "gs"
            refine rw_neF (fun x hx => ?_) ?_
            · have hcod := (tok_in ht).1
              simp only [PyData.canLay0, PyData.strOk, mkS] at hcod
              refine shp_str 60 fun c' hc' => ?_
              rw [List.mem_singleton.mp hc']
              simpa using (by simpa using hcod : ∀ c ∈ w, c < 1114112) x hx
            walk_at "gs"
            refine ite_k (fun c => ?_) (fun c => ?_)
            · walk_at "gs"
              obtain ⟨x, hx, hn⟩ := List.any_eq_true.mp c
              have : yesB m z w = false := by
                unfold yesB
                rw [Bool.and_eq_false_iff]
                left
                rw [← Bool.not_eq_true, List.all_eq_true]
                intro q
                rw [q x hx] at hn
                cases hn
              rw [this]
            · walk_at "gs"
              refine ⟨fun c' hc' => ?_, rfl⟩
              refine Classical.byContradiction fun hn => ?_
              have : (w.any fun c => !decide (c ∈ z)) = true := List.any_eq_true.mpr ⟨c', hc', by simp [hn]⟩
              rw [this] at c
              cases c
      · rintro G1 ⟨w, rfl, hwz, rfl⟩
        have hwl := hw w rfl
        rw [strB_zD]
        walk_at "go"
        refine dw_lcM (List.range m.length) nD (fun l => nD (run m z l w)) ?_
        refine di_rng1 ?_
        walk_at "go"
        rw [List.length_map]
        refine ⟨by omega, by omega, rng_nD _, szl (by rw [List.length_range]; omega), fun B' l hl => ?_, ?_⟩
        · walk_at "go"
          refine ⟨(m, z, l, w), ⟨g, List.mem_range.mp hl, hwz⟩, rfl, ?_⟩
          rintro _ rfl
          walk_at "go"
        · refine pw_o ?_
          refine ⟨(List.range m.length).map fun l => (run m z l w : Int), by rw [List.map_map]; rfl, by rw [List.length_map, List.length_range]; omega, ?_⟩
          walk_at "go"
          have : yesB m z w = decide ((((usrt ((List.range m.length).map fun l => (run m z l w : Int))).length : Nat) : Int) = 1) := by
            unfold yesB
            rw [List.all_eq_true.mpr (fun c hc => decide_eq_true (hwz c hc)), Bool.true_and]
            exact decide_eq_decide.mpr ⟨fun h => by omega, fun h => by omega⟩
          rw [this]
    · have c : s = noL := by
        rcases hs with h | h
        · exact absurd (by rw [h]) (of_decide_eq_false c)
        · exact h
      subst c
      rw [if_neg (by decide), if_pos rfl]
      walk_at "gs"
      refine ds_mid' (fun G => ∃ ps, y = .tuple ps ∧ ps ≠ [] ∧ G = [.d (encM m), .d (zD z), .d (.tuple [zD noL, y]), .d y, .un, .un, .un, .un]) ?_ ?_
      · walk_at "gs"
        refine ite_k (fun c => ?_) (fun c => ?_)
        · walk_at "gs"
          rw [noB_not (not_f c)]
        · obtain ⟨ps, rfl⟩ := isi_t (not_t c)
          walk_at "gs"
          refine rw_eqD rfl rfl (shp_ok hy (by decide)) (shp_ok (shp_tup (n := 0) fun x hx => nomatch hx) (by decide)) ?_
          rw [eqv_nilT]
          walk_at "gs"
          refine ite_k (fun c => ?_) (fun c => ?_)
          · walk_at "gs"
            have : ps = [] := by simpa using c
            subst this
            rfl
          · walk_at "gs"
            refine ⟨fun e => ?_, rfl⟩
            rw [e] at c
            cases c
      · rintro G1 ⟨ps, rfl, hne, rfl⟩
        have hps := shp_in hy
        have hB : noB m z.length (.tuple ps) = (ps.all (validP m.length) && ps.all (clsB m z.length ps)) := by
          show (!ps.isEmpty && ps.all (validP m.length) && ps.all (clsB m z.length ps)) = _
          cases ps with
          | nil => exact absurd rfl hne
          | cons _ _ => rfl
        rw [hB]
        refine ds_mid' (fun G => ∃ s4 s6, (∀ q ∈ ps, validP m.length q = true) ∧ G = [.d (encM m), .d (zD z), .d (.tuple [zD noL, .tuple ps]), .d (.tuple ps), s4, .un, s6, .un]) ?_ ?_
        · refine ds_forE' (ch := [4]) ?_
          refine di_anyT (di_tup ?_)
          walk_at "go"
          refine ⟨fun i G => ∃ s4 s6, (∀ q ∈ ps.take i, validP m.length q = true) ∧ G = [.d (encM m), .d (zD z), .d (.tuple [zD noL, .tuple ps]), .d (.tuple ps), s4, .un, s6, .un], ⟨_, _, (fun q h => nomatch h), rfl⟩, fun i G2 q hq ⟨s4, s6, hv, hG⟩ => ?_, fun G2 ⟨s4, s6, hv, hG⟩ => ?_⟩
          · subst hG
            have hqm := List.mem_of_getElem? hq
            have bad : validP m.length q = false → (ps.all (validP m.length) && ps.all (clsB m z.length ps)) = false := fun e => by
              rw [Bool.and_eq_false_iff]
              left
              rw [← Bool.not_eq_true, List.all_eq_true]
              intro h
              rw [h q hqm] at e
              cases e
            refine dg_name ?_
            refine ds_mid' (fun G => ∃ x y s6, q = .tuple [x, y] ∧ isLn m.length x = true ∧ isLn m.length y = true ∧ G = [.d (encM m), .d (zD z), .d (.tuple [zD noL, .tuple ps]), .d (.tuple ps), .d q, .un, s6, .un]) ?_ ?_
            · walk_at "gs"
              refine ite_k (fun c => ?_) (fun c => ?_)
              · walk_at "gs"
                rw [bad (validP_not (not_f c))]
              · obtain ⟨qs, rfl⟩ := isi_t (not_t c)
                walk_at "gs"
                refine ite_k (fun c => ?_) (fun c => ?_)
                · walk_at "gs"
                  rw [bad (validP_len fun e => by rw [e] at c; cases c)]
                · have hl : qs.length = 2 := by
                    have := of_decide_eq_true (not_t c)
                    omega
                  obtain ⟨x, y, rfl⟩ := len2 hl
                  walk_at "gs"
                  refine dw_lcF [x, y] id (fun d => !isLn m.length d) id ?_
                  refine di_anyT (di_tup ?_)
                  walk_at "gs"
                  refine ⟨fun B' d hd => ?_, ?_⟩
                  · walk_at "gs"
                    refine ⟨(m, d), trivial, rfl, ?_⟩
                    rintro _ rfl
                    walk_at "gs"
                    intro _
                    walk_at "gs"
                  · walk_at "gs"
                    refine rw_neF (fun d hd => shp_mono (shp_in (hps _ hqm) d hd) (by decide)) ?_
                    walk_at "gs"
                    refine ite_k (fun c => ?_) (fun c => ?_)
                    · walk_at "gs"
                      rw [bad]
                      show (isLn m.length x && isLn m.length y && ltD x y) = false
                      simp only [List.any_cons, List.any_nil, Bool.or_false] at c
                      cases e1 : isLn m.length x
                      · rfl
                      · cases e2 : isLn m.length y
                        · rfl
                        · rw [e1, e2] at c
                          cases c
                    · have e1 : isLn m.length x = true := by
                        cases e : isLn m.length x
                        · rw [List.any_cons, e] at c
                          cases c
                        · rfl
                      have e2 : isLn m.length y = true := by
                        cases e : isLn m.length y
                        · rw [List.any_cons, List.any_cons, e, e1] at c
                          cases c
                        · rfl
                      walk_at "gs"
                      exact ⟨x, y, _, rfl, e1, e2, rfl⟩
            · rintro G1 ⟨x, y, s6, rfl, e1, e2, rfl⟩
              obtain ⟨i1, rfl, hi1⟩ := isLn_nat e1
              obtain ⟨i2, rfl, hi2⟩ := isLn_nat e2
              walk_at "go"
              refine ite_k (fun c => ?_) (fun c => ?_)
              · walk_at "go"
                rw [bad]
                have : ltD (nD i1) (nD i2) = false := by
                  have := of_decide_eq_true c
                  exact decide_eq_false (by omega)
                show (isLn m.length (nD i1) && isLn m.length (nD i2) && ltD (nD i1) (nD i2)) = false
                rw [this, Bool.and_false]
              · walk_at "go"
                refine ⟨_, _, all_take hv hq ?_, rfl⟩
                have : ltD (nD i1) (nD i2) = true := by
                  have := of_decide_eq_false c
                  exact decide_eq_true (by omega)
                show (isLn m.length (nD i1) && isLn m.length (nD i2) && ltD (nD i1) (nD i2)) = true
                rw [this, e1, e2]
                rfl
          · subst hG
            rw [List.take_length] at hv
            refine nx_nxt ?_
            exact ⟨_, _, hv, rfl⟩
        · rintro G1 ⟨s4, s6, hv, rfl⟩
          rw [List.all_eq_true.mpr hv, Bool.true_and]
          walk_at "go"
          refine ds_forE' (ch := [4]) ?_
          refine di_anyT (di_tup ?_)
          walk_at "go"
          refine ⟨fun i G => ∃ s4 s6 s7, (∀ q ∈ ps.take i, clsB m z.length ps q = true) ∧ G = [.d (encM m), .d (zD z), .d (.tuple [zD noL, .tuple ps]), .d (.tuple ps), s4, .un, s6, s7], ⟨_, _, _, (fun q h => nomatch h), rfl⟩, fun i G2 q hq ⟨s4, s6, s7, hcl, hG⟩ => ?_, fun G2 ⟨s4, s6, s7, hcl, hG⟩ => ?_⟩
          · subst hG
            have hqm := List.mem_of_getElem? hq
            obtain ⟨p, rfl, hp1, hp2⟩ := validP_pN (hv q hqm)
            refine dg_name ?_
            walk_at "go"
            refine dw_lcF (List.range z.length) nD (fun k => !ps.any fun d => PyData.eqv d (pN (bh m k p))) nD ?_
            refine di_rng1 ?_
            walk_at "go"
            refine rn_lenS (szl (by omega)) ?_
            walk_at "go"
            refine ⟨by omega, by omega, rng_nD _, szl (by rw [List.length_range]; omega), fun B' k hk => ?_, ?_⟩
            · walk_at "go"
              refine ⟨(m, z.length, k, p), ⟨g, List.mem_range.mp hk, by show p.1 < m.length; omega, by show p.2 < m.length; omega⟩, rfl, ?_⟩
              rintro _ rfl
              walk_at "go"
              refine rw_niT rfl (shp_ok (shp_pN _) (by decide)) (shp_ok hy (by decide)) ?_
              walk_at "go"
              intro _
              walk_at "go"
            · walk_at "go"
              refine rw_neF (fun k hk => shp_int 60 _) ?_
              walk_at "go"
              refine ite_k (fun c => ?_) (fun c => ?_)
              · walk_at "go"
                have : ps.all (clsB m z.length ps) = false := by
                  rw [← Bool.not_eq_true, List.all_eq_true]
                  intro h
                  have h := h _ hqm
                  unfold clsB at h
                  rw [prOf_pN, List.all_eq_true] at h
                  obtain ⟨k, hk, hn⟩ := List.any_eq_true.mp c
                  rw [h k hk] at hn
                  cases hn
                rw [this]
              · walk_at "go"
                refine ⟨_, _, _, all_take hcl hq ?_, rfl⟩
                unfold clsB
                rw [prOf_pN, List.all_eq_true]
                intro k hk
                cases e : ps.any fun d => PyData.eqv d (pN (bh m k p))
                · have : ((List.range z.length).any fun k => !ps.any fun d => PyData.eqv d (pN (bh m k p))) = true := List.any_eq_true.mpr ⟨k, hk, by rw [e]; rfl⟩
                  rw [this] at c
                  cases c
                · rfl
          · subst hG
            rw [List.take_length] at hcl
            walk_at "go"
            rw [List.all_eq_true.mpr hcl]
end
end K66
namespace K66
open PySem PySem.Spec PyProof.Rows L2 DL
local macro_rules | `(tactic| walk_at "st") => `(tactic| with_reducible first
  | refine pw_p ?_ | refine pw_o ?_ | refine dw_op ?_ | refine dw_un ?_ | refine dw_int ?_ | refine dw_str ?_ | refine dw_bl ?_ | refine dw_non ?_ | refine dw_ty ?_ | refine da_nil' ?_ | refine da_cons' ?_ | refine dw_sortSet ?_ | refine dw_lenSet ?_ | refine dw_CB ?_ | refine dw_BM ?_ | refine dw_BM0 ?_
  | refine dw_tup ?_ | refine dw_lst ?_ | refine dw_notV ?_ | refine dw_and ?_ | refine dw_or ?_ | refine dw_if ?_ | refine dw_chain ?_ | refine dw_sl3 ?_ | refine dw_revT ?_ | refine dw_tupRg1 ?_ | refine dw_lstRg1 ?_ | refine dw_callI ?_ | refine dw_callJ ?_
  | refine dt_test ?_ | refine dt_B ?_ | refine dt_and ?_ | refine dt_or ?_ | refine dt_not ?_ | refine dt_yes ?_ | refine dt_truth ?_
  | refine ds_ret ?_ | refine ds_retN ?_ | refine ds_next ?_ | refine ds_break ?_ | refine ds_cont ?_ | refine ds_drop ?_ | refine ds_if ?_ | refine ds_set ?_
  | refine nx_nxt ?_ | refine rt_nxt ?_ | refine bk_nxt ?_ | refine ct_nxt ?_ | refine nx_lp ?_ | refine rt_lp ?_ | refine bk_lp ?_ | refine ct_lp ?_ | refine asn_d ?_ | refine asn_fr ?_ | refine rt_E0 ?_ | refine rt_E0o ?_ | refine nx_E0 ?_
  | refine dw_newT ?_ | refine dw_dIn ?_ | refine dw_dNotIn ?_ | refine dw_dGet ?_ | refine ds_dPut ?_
  | refine tr_b ?_ | refine tr_i ?_ | refine tr_n ?_ | refine tr_T ?_ | refine tr_L ?_
  | refine do_none ?_ | refine do_some ?_ | refine ite_t ?_ | refine ite_f ?_
  | refine rw_addI ?_ | refine rw_sub ?_ | refine rw_cmp ?_ | refine rw_eqI ?_ | refine rw_neI ?_ | refine rw_eqS ?_ | refine rw_neS ?_ | refine rw_eqB ?_ | refine rw_neB ?_ | refine isN_d ?_ | refine notN_d ?_ | refine rw_isB ?_ | refine rw_notB ?_
  | refine rn_intI ?_ | refine rn_intB ?_ | refine rn_max ?_ | refine rn_min ?_ | refine rn_lenT ?_ | refine rn_lenD ?_ | refine isi_int ?_ | refine isi_bool ?_ | refine isi_str ?_ | refine isi_tuple ?_ | refine isi_list ?_ | refine rn_tupT ?_ | refine rn_listT ?_
  | refine ⟨_, rfl, ?_⟩
  | fail)
local macro_rules | `(tactic| walk_at "va") => `(tactic| first
  | ((with_reducible apply dw_var); rfl) | ((with_reducible apply dw_sl); rfl) | ((with_reducible apply dw_slT); rfl)
  | ((with_reducible apply rw_ixL); rfl; rfl) | ((with_reducible apply rw_ixT); rfl)
  | ((with_reducible apply ite_T); rfl) | ((with_reducible apply ite_F); rfl) | ((with_reducible apply tr_o); rfl)
  | refine ⟨_, rfl, szl (Nat.le_of_ble_eq_true rfl), ?_⟩
  | (with_reducible refine rw_mod (by omega) ?_)
  | (with_reducible refine rw_fdiv (by unfold CDiv; omega) ?_)
  | (with_reducible refine rw_mul (by unfold CMul; omega) ?_)
  | refine ⟨szl (Nat.le_of_ble_eq_true rfl), ?_⟩
  | refine ⟨rfl, ?_⟩
  | rfl
  | fail)
local macro_rules | `(tactic| walk_at "go") => `(tactic| repeat' (first | walk_at "st" | (with_reducible refine ds_seq' ?_) | walk_at "va" | fail))
local macro_rules | `(tactic| walk_at "gs") => `(tactic| repeat' (first | walk_at "st" | walk_at "va" | fail))
theorem rw_neg {K : Fr} {B : Bs} {G : En} {P : Po} {i : Int} (q : P G (.p (.d (.int (-i))))) : RW1 K B G (rU fun i => .int (-i)) (.d (.int i)) P := fun S F H Q v1 I h1 k => ⟨i, dp_int h1, ct_d k I (.int _) q⟩
theorem cut_sub {α : Type} {xs : List α} {lo hi : Option Int} {x : α} (h : x ∈ DL.cutD xs lo hi) : x ∈ xs := by
  unfold DL.cutD at h
  exact List.mem_of_mem_drop (List.mem_of_mem_take h)
/-- what may stand as a paper -/
def Pap (d : PyData) : Prop := Shp 15 d ∧ ∀ w, d = zD w → w.length ≤ 1000000
theorem pap_z {w : List Nat} (h1 : ∀ c ∈ w, c < 0x110000) (h2 : w.length ≤ 1000000) : Pap (zD w) := ⟨shp_str 15 h1, fun w' e => by
  have : mkS w = mkS w' := PyData.str.inj e
  rw [← mkS_inj.mp this]
  exact h2⟩
theorem pap_t {ps : List PyData} (h : ∀ x ∈ ps, Shp 14 x) : Pap (.tuple ps) := ⟨shp_tup h, fun w e => by cases e⟩
theorem pap_o {d : PyData} (h : Shp 15 d) (h2 : isiD d "str" = false) : Pap d := ⟨h, fun w e => by rw [e] at h2; cases h2⟩
section
variable {P : Program} {w : World} {K : PySem.W.Frag} {mg : Str → Option Value} {base : Heap} {a : Ad}
abbrev argU (x : Stt × List Nat × PyData) : List PyData := [zD x.2.1, x.2.2]
def preU (x : Stt × List Nat × PyData) : Prop := x.1.ok ∧ 0 < x.2.1.length ∧ x.2.1.length ≤ 100 ∧ (∀ c ∈ x.2.1, c < 0x110000) ∧ ((∃ w, x.2.2 = zD w ∧ w.length ≤ 100000 ∧ ∀ c ∈ w, c < 0x110000) ∨ ∃ ps : List (Nat × Nat), x.2.2 = .tuple (ps.map pN) ∧ ps ≠ [] ∧ ps.length ≤ 100000)
def resU (_ : Stt × List Nat × PyData) (l : List PyData) (d : PyData) : Prop := ∃ st : Stt, st.ok ∧ l = encS st ∧ Pap d
abbrev spU (K : PySem.W.Frag) := spJ K (fun x : Stt × List Nat × PyData => encS x.1) argU preU resU
theorem ok_law_turned (T : Tx K mg a) (G_law_next : FnOk P w K mg base CX0 1 a.f12 a.d12 ["state", "limit"] (spN K)) : FnOk P w K mg base CX0 2 a.f23 a.d23 ["state", "signs", "paper"] (spU K) := by
  refine fnJ T.F_law_turned sc_law_turned (fun x => ⟨rfl, by decide⟩) fun cdv A outer s H E hr => ⟨_, (pss_cons (ps_set (i := 3) sc_law_turned.nd rfl (Or.inl rfl) (pe_call G_law_next hr (by rfl) T.m_law_next T.k_law_next T.b_law_next .nil pass0 (pa_cons (pv 0) (pa_cons pe_int pa_nil)))) (pss_cons (ps_if (kTRUTH K rfl (pe_callB (kISI K rfl) (by rfl) T.z_isinstance (by decide +kernel) (pa_cons (pv 2) (pa_cons (pe_bltn (v := .ty "str") (by rfl) T.z_str (by decide +kernel) rfl) pa_nil))) (by intro _; rfl)) (pss_cons (ps_set (i := 4) sc_law_turned.nd rfl (Or.inl rfl) (pe_ix (kIX K rfl) (pv 1) (pe_call G_law_next hr (by rfl) T.m_law_next T.k_law_next T.b_law_next .nil pass0 (pa_cons (pv 0) (pa_cons (pe_callB (kLEN K rfl) (by rfl) T.z_len (by decide +kernel) (pa_cons (pv 1) pa_nil)) pa_nil))) (fun _ _ => rfl))) (pss_one (ps_ret (pe_ix (kIX K rfl) (pe_lst (pa_cons (pe_op (kADD K rfl) (pv 2) (pv 4)) (pa_cons (pe_slice (kSLC K rfl) (pv 2) (po_some pe_int) po_none) (pa_cons (pe_op (kADD K rfl) (pv 4) (pv 2)) (pa_cons (pe_slice (kSLC K rfl) (pv 2) po_none (po_some (pe_un un_neg pe_int))) (pa_cons (pe_op (kADD K rfl) (pv 2) (pe_strM [113] rfl)) (pa_cons pe_int pa_nil))))))) (pv 3) (fun _ _ => rfl))))) pss_nil) (pss_cons (ps_set (i := 5) sc_law_turned.nd rfl (Or.inl rfl) (pe_call G_law_next hr (by rfl) T.m_law_next T.k_law_next T.b_law_next .nil pass0 (pa_cons (pv 0) (pa_cons (pe_callB (kLEN K rfl) (by rfl) T.z_len (by decide +kernel) (pa_cons (pv 2) pa_nil)) pa_nil)))) (pss_cons (ps_if (pt_cmpR (kEQ K rfl hr.units) (pv 3) pe_int (nomark _)) (pss_one (ps_ret (pe_op (kADD K rfl) (pv 2) (pe_tup (pa_cons (pe_tup (pa_cons pe_int (pa_cons pe_int pa_nil))) pa_nil))))) pss_nil) (pss_cons (ps_if (pt_cmpR (kEQ K rfl hr.units) (pv 3) pe_int (nomark _)) (pss_one (ps_ret (pe_op (kADD K rfl) (pe_slice (kSLC K rfl) (pv 2) po_none (po_some (pv 5))) (pe_slice (kSLC K rfl) (pv 2) (po_some (pe_op (kADD K rfl) (pv 5) pe_int)) po_none)))) pss_nil) (pss_cons (ps_if (pt_cmpR (kEQ K rfl hr.units) (pv 3) pe_int (nomark _)) (pss_one (ps_ret (kREVT K rfl (pe_revT (pv 2))))) pss_nil) (pss_one (ps_ret (pe_op (kADD K rfl) (pe_op (kADD K rfl) (pe_slice (kSLC K rfl) (pv 2) po_none (po_some (pv 5))) (pe_tup (pa_cons (pe_ix (kIX K rfl) (pe_lst (pa_cons (kREVT K rfl (pe_revT (pe_ix (kIX K rfl) (pv 2) (pv 5) (fun _ _ => rfl)))) (pa_cons (pe_tup (pa_cons (pe_ix (kIX K rfl) (pe_ix (kIX K rfl) (pv 2) (pv 5) (fun _ _ => rfl)) pe_int (fun _ _ => rfl)) (pa_cons (pe_ix (kIX K rfl) (pe_ix (kIX K rfl) (pv 2) (pv 5) (fun _ _ => rfl)) pe_int (fun _ _ => rfl)) pa_nil))) (pa_cons (pe_tup (pa_cons (pe_ix (kIX K rfl) (pe_ix (kIX K rfl) (pv 2) (pv 5) (fun _ _ => rfl)) pe_int (fun _ _ => rfl)) (pa_cons pe_int pa_nil))) pa_nil)))) (pe_op op_sub (pv 3) pe_int) (fun _ _ => rfl)) pa_nil))) (pe_slice (kSLC K rfl) (pv 2) (po_some (pe_op (kADD K rfl) (pv 5) pe_int)) po_none)))))))))), ?_⟩
  rintro ⟨st, z, paper⟩ ⟨hst, hz0, hz, hc, hp⟩ p B
  dsimp only [argU] at *
  walk_at "go"
  refine ⟨(st, 6), 0, some p, _, ⟨hst, by simp, by simp⟩, rfl, rfl, rfl, ?_⟩
  rintro _ _ ⟨st1, pick, hst1, rfl, rfl, hpick⟩
  have hpick : pick < 6 := hpick
  walk_at "go"
  rcases hp with ⟨w, rfl, hwl, hwc⟩ | ⟨ps, rfl, hne, hpl⟩
  · walk_at "go"
    refine rn_lenS (szl (by omega)) ?_
    walk_at "go"
    refine ⟨(st1, z.length), 0, some p, _, ⟨hst1, hz0, by show z.length < 1000000000; omega⟩, rfl, rfl, rfl, ?_⟩
    rintro _ _ ⟨st2, j, hst2, rfl, rfl, hj⟩
    have hj : j < z.length := hj
    walk_at "go"
    obtain ⟨c, hcz⟩ : ∃ c, z[j]? = some c := ⟨_, List.getElem?_eq_getElem hj⟩
    have hcc := hc c (List.mem_of_getElem? hcz)
    refine rw_ixS (szl (by omega)) (atn hcz) ?_
    walk_at "go"
    refine rw_addS (szl (by simp only [List.length_singleton]; omega)) ?_
    walk_at "go"
    refine rs_S (szl (by omega)) ?_
    walk_at "go"
    refine rw_addS (szl (by simp only [List.length_singleton]; omega)) ?_
    walk_at "go"
    refine rw_neg ?_
    walk_at "go"
    refine rs_S (szl (by omega)) ?_
    walk_at "go"
    refine rw_addS (szl (by simp only [List.length_singleton]; omega)) ?_
    walk_at "go"
    have key : ∀ d ∈ [zD (w ++ [c]), zD (DL.cutD w (some 1) none), zD ([c] ++ w), zD (DL.cutD w none (some (-1))), zD (w ++ [113]), PyData.int 5], Pap d := by
      have cw : ∀ lo hi, (DL.cutD w lo hi).length ≤ 100000 := fun lo hi => Nat.le_trans (cutD_len w lo hi) hwl
      intro d hd
      simp only [List.mem_cons, List.not_mem_nil, or_false] at hd
      rcases hd with rfl | rfl | rfl | rfl | rfl | rfl
      · exact pap_z (fun x hx => (List.mem_append.mp hx).elim (hwc x) fun h => by rw [List.mem_singleton.mp h]; exact hcc) (by rw [List.length_append, List.length_singleton]; omega)
      · exact pap_z (fun x hx => hwc x (cut_sub hx)) (Nat.le_trans (cw _ _) (by omega))
      · exact pap_z (fun x hx => (List.mem_append.mp hx).elim (fun h => by rw [List.mem_singleton.mp h]; exact hcc) (hwc x)) (by rw [List.length_append, List.length_singleton]; omega)
      · exact pap_z (fun x hx => hwc x (cut_sub hx)) (Nat.le_trans (cw _ _) (by omega))
      · exact pap_z (fun x hx => (List.mem_append.mp hx).elim (hwc x) fun h => by rw [List.mem_singleton.mp h]; decide) (by rw [List.length_append, List.length_singleton]; omega)
      · exact pap_o (shp_int _ _) rfl
    obtain ⟨d, hd⟩ : ∃ d, [zD (w ++ [c]), zD (DL.cutD w (some 1) none), zD ([c] ++ w), zD (DL.cutD w none (some (-1))), zD (w ++ [113]), PyData.int 5][pick]? = some d := ⟨_, List.getElem?_eq_getElem hpick⟩
    refine rw_ixL rfl (atn hd) ?_
    walk_at "go"
    exact rt_E1 rfl ⟨st2, hst2, rfl, key d (List.mem_of_getElem? hd)⟩
  · walk_at "go"
    refine ⟨(st1, ps.length), 0, some p, _, ⟨hst1, List.length_pos_iff.mpr hne, by show ps.length < 1000000000; omega⟩, by rw [List.length_map], rfl, rfl, ?_⟩
    rintro _ _ ⟨st2, k, hst2, rfl, rfl, hk⟩
    have hk : k < ps.length := hk
    obtain ⟨q, hq⟩ : ∃ q, ps[k]? = some q := ⟨_, List.getElem?_eq_getElem hk⟩
    have hcut : ∀ lo hi, (DL.cutD (ps.map pN) lo hi).length ≤ 100000 := fun lo hi => Nat.le_trans (cutD_len _ lo hi) (by rw [List.length_map]; exact hpl)
    have hsh : ∀ x ∈ ps.map pN, Shp 14 x := fun x hx => by
      obtain ⟨y, _, rfl⟩ := List.mem_map.mp hx
      exact shp_mono (shp_pN y) (by decide)
    walk_at "go"
    refine ite_k (fun c1 => ?_) (fun c1 => ?_)
    · walk_at "go"
      refine rw_addT (szl (by rw [List.length_map]; simp only [List.length_singleton]; omega)) ?_
      walk_at "go"
      refine rt_E1 rfl ⟨st2, hst2, rfl, pap_t fun x hx => (List.mem_append.mp hx).elim (hsh x) fun h => ?_⟩
      rw [List.mem_singleton.mp h]
      exact shp_mono (shp_pN (0, 1)) (by decide)
    · walk_at "go"
      refine ite_k (fun c2 => ?_) (fun c2 => ?_)
      · walk_at "go"
        refine rs_T ?_
        walk_at "go"
        refine rs_T ?_
        walk_at "go"
        refine rw_addT (szl (by have := hcut none (some (k : Int)); have := hcut (some ((k : Int) + 1)) none; omega)) ?_
        exact rt_E1 rfl ⟨st2, hst2, rfl, pap_t fun x hx => (List.mem_append.mp hx).elim (fun h => hsh x (cut_sub h)) fun h => hsh x (cut_sub h)⟩
      · walk_at "go"
        refine ite_k (fun c3 => ?_) (fun c3 => ?_)
        · walk_at "go"
          exact rt_E1 rfl ⟨st2, hst2, rfl, pap_t fun x hx => hsh x (List.mem_reverse.mp hx)⟩
        · have n1 := of_decide_eq_false c1
          have n2 := of_decide_eq_false c2
          have n3 := of_decide_eq_false c3
          walk_at "go"
          refine rs_T ?_
          walk_at "go"
          refine rw_ixT (ati hq) ?_
          walk_at "go"
          refine rw_ixT (ati hq) ?_
          walk_at "go"
          refine rw_ixT (ati hq) ?_
          walk_at "go"
          refine rw_ixT (ati hq) ?_
          walk_at "go"
          have key : ∀ d ∈ [PyData.tuple [nD q.1, nD q.2].reverse, PyData.tuple [nD q.1, nD q.1], PyData.tuple [nD q.1, PyData.int 99]], Shp 14 d := by
            intro d hd
            simp only [List.mem_cons, List.not_mem_nil, or_false] at hd
            rcases hd with rfl | rfl | rfl
            · exact shp_tup (n := 13) fun x hx => by
                simp at hx
                rcases hx with rfl | rfl <;> exact shp_int _ _
            · exact shp_tup (n := 13) fun x hx => by
                simp at hx
                rw [hx]
                exact shp_int _ _
            · exact shp_tup (n := 13) fun x hx => by
                simp at hx
                rcases hx with rfl | rfl <;> exact shp_int _ _
          have e3 : ((pick : Int) - 3) = ((pick - 3 : Nat) : Int) := by omega
          obtain ⟨d, hd⟩ : ∃ d, [PyData.tuple [nD q.1, nD q.2].reverse, PyData.tuple [nD q.1, nD q.1], PyData.tuple [nD q.1, PyData.int 99]][pick - 3]? = some d := ⟨_, List.getElem?_eq_getElem (by simp only [List.length_cons, List.length_nil]; omega)⟩
          rw [e3]
          refine rw_ixL rfl (atn hd) ?_
          walk_at "go"
          refine rw_addT (szl (by have := hcut none (some (k : Int)); simp only [List.length_singleton]; omega)) ?_
          walk_at "go"
          refine rs_T ?_
          walk_at "go"
          refine rw_addT (szl (by have := hcut none (some (k : Int)); have := hcut (some ((k : Int) + 1)) none; rw [List.length_append]; simp only [List.length_singleton]; omega)) ?_
          refine rt_E1 rfl ⟨st2, hst2, rfl, pap_t fun x hx => ?_⟩
          rcases List.mem_append.mp hx with h | h
          · rcases List.mem_append.mp h with h | h
            · exact hsh x (cut_sub h)
            · rw [List.mem_singleton.mp h]
              exact key d (List.mem_of_getElem? hd)
          · exact hsh x (cut_sub h)
end
end K66
namespace K66
open PySem PySem.Spec PyProof.Rows L2 DL
local macro_rules | `(tactic| walk_at "st") => `(tactic| with_reducible first
  | refine pw_p ?_ | refine pw_o ?_ | refine dw_op ?_ | refine dw_un ?_ | refine dw_int ?_ | refine dw_str ?_ | refine dw_bl ?_ | refine dw_non ?_ | refine dw_ty ?_ | refine da_nil' ?_ | refine da_cons' ?_ | refine dw_sortSet ?_ | refine dw_lenSet ?_ | refine dw_CB ?_ | refine dw_BM ?_ | refine dw_BM0 ?_
  | refine dw_tup ?_ | refine dw_lst ?_ | refine dw_notV ?_ | refine dw_and ?_ | refine dw_or ?_ | refine dw_if ?_ | refine dw_chain ?_ | refine dw_sl3 ?_ | refine dw_revT ?_ | refine dw_tupRg1 ?_ | refine dw_lstRg1 ?_ | refine dw_callI ?_ | refine dw_callJ ?_
  | refine dt_test ?_ | refine dt_B ?_ | refine dt_and ?_ | refine dt_or ?_ | refine dt_not ?_ | refine dt_yes ?_ | refine dt_truth ?_
  | refine ds_ret ?_ | refine ds_retN ?_ | refine ds_next ?_ | refine ds_break ?_ | refine ds_cont ?_ | refine ds_drop ?_ | refine ds_if ?_ | refine ds_set ?_
  | refine nx_nxt ?_ | refine rt_nxt ?_ | refine bk_nxt ?_ | refine ct_nxt ?_ | refine nx_lp ?_ | refine rt_lp ?_ | refine bk_lp ?_ | refine ct_lp ?_ | refine asn_d ?_ | refine asn_fr ?_ | refine rt_E0 ?_ | refine rt_E0o ?_ | refine nx_E0 ?_
  | refine dw_newT ?_ | refine dw_dIn ?_ | refine dw_dNotIn ?_ | refine dw_dGet ?_ | refine ds_dPut ?_
  | refine tr_b ?_ | refine tr_i ?_ | refine tr_n ?_ | refine tr_T ?_ | refine tr_L ?_
  | refine do_none ?_ | refine do_some ?_ | refine ite_t ?_ | refine ite_f ?_
  | refine rw_addI ?_ | refine rw_sub ?_ | refine rw_cmp ?_ | refine rw_eqI ?_ | refine rw_neI ?_ | refine rw_eqS ?_ | refine rw_neS ?_ | refine rw_eqB ?_ | refine rw_neB ?_ | refine isN_d ?_ | refine notN_d ?_ | refine rw_isB ?_ | refine rw_notB ?_
  | refine rn_intI ?_ | refine rn_intB ?_ | refine rn_max ?_ | refine rn_min ?_ | refine rn_lenT ?_ | refine rn_lenD ?_ | refine isi_int ?_ | refine isi_bool ?_ | refine isi_str ?_ | refine isi_tuple ?_ | refine isi_list ?_ | refine rn_tupT ?_ | refine rn_listT ?_
  | refine ⟨_, rfl, ?_⟩
  | fail)
local macro_rules | `(tactic| walk_at "va") => `(tactic| first
  | ((with_reducible apply dw_var); rfl) | ((with_reducible apply dw_sl); rfl) | ((with_reducible apply dw_slT); rfl)
  | ((with_reducible apply rw_ixL); rfl; rfl) | ((with_reducible apply rw_ixT); rfl)
  | ((with_reducible apply ite_T); rfl) | ((with_reducible apply ite_F); rfl) | ((with_reducible apply tr_o); rfl)
  | refine ⟨_, rfl, szl (Nat.le_of_ble_eq_true rfl), ?_⟩
  | (with_reducible refine rw_mod (by omega) ?_)
  | (with_reducible refine rw_fdiv (by unfold CDiv; omega) ?_)
  | (with_reducible refine rw_mul (by unfold CMul; omega) ?_)
  | refine ⟨szl (Nat.le_of_ble_eq_true rfl), ?_⟩
  | refine ⟨rfl, ?_⟩
  | rfl
  | fail)
local macro_rules | `(tactic| walk_at "go") => `(tactic| repeat' (first | walk_at "st" | (with_reducible refine ds_seq' ?_) | walk_at "va" | fail))
local macro_rules | `(tactic| walk_at "gs") => `(tactic| repeat' (first | walk_at "st" | walk_at "va" | fail))
/-! ### the chain and the ring -/
def chainM (n : Nat) : Mach := (List.range n).map fun (k : Nat) => (decide ((k : Int) = 0), [min (n - 1) (k + 1), min (n - 1) (k + 1)])
def ringM (n : Nat) : Mach := (List.range n).map fun (k : Nat) => (decide ((k : Int) = 0), [(k + 1) % n, k])
abbrev abL : List Nat := [97, 98]
def manyN : List Nat := [15, 16, 17, 18]
theorem chain_good : ∀ n ∈ manyN, Good (chainM n) 2 := by
  unfold Good
  decide +kernel
theorem ring_good : ∀ n ∈ manyN, Good (ringM n) 2 := by
  unfold Good
  decide +kernel
theorem chain_len (n : Nat) : (chainM n).length = n := by simp [chainM]
theorem ring_len (n : Nat) : (ringM n).length = n := by simp [ringM]
theorem mt_of_row {m : Mach} {nn : Nat} : ∀ {ks : List Nat} {p : Nat × Nat}, (∀ k ∈ ks, k < nn) → p.1 ≠ p.2 → runK m p.1 ks = runK m p.2 ks → Mt m nn p
  | [], p, _, h, e => absurd e h
  | k :: ks, p, hk, h, e => by
    have e : runK m (nxt m p.1 k) ks = runK m (nxt m p.2 k) ks := e
    have hk0 := hk k List.mem_cons_self
    by_cases q : nxt m p.1 k = nxt m p.2 k
    · refine .base hk0 ?_
      unfold bh
      simp [q]
    · refine .step hk0 (mt_of_row (ks := ks) (fun j hj => hk j (List.mem_cons_of_mem _ hj)) ?_ ?_)
      · unfold bh
        simp only
        omega
      · unfold bh
        simp only
        rcases Nat.le_total (nxt m p.1 k) (nxt m p.2 k) with h | h
        · rw [Nat.min_eq_left h, Nat.max_eq_right h]
          exact e
        · rw [Nat.min_eq_right h, Nat.max_eq_left h]
          exact e.symm
theorem chain_rows : ∀ n ∈ manyN, ∀ l ∈ List.range n, runK (chainM n) l (List.replicate n 0) = n - 1 := by decide +kernel
theorem chain_nv : ∀ n ∈ manyN, nv (chainM n) 2 = [] := fun n hn => by
  refine List.eq_nil_iff_forall_not_mem.mpr fun p hp => ?_
  obtain ⟨h1, h2⟩ := nv_mem.mp hp
  obtain ⟨h3, h4⟩ := mem_allP.mp h1
  rw [chain_len] at h4
  refine h2 (mt_of_row (ks := List.replicate n 0) (fun k hk => ?_) (by omega) ?_)
  · rw [(List.mem_replicate.mp hk).2]
    decide
  · rw [chain_rows n hn _ (List.mem_range.mpr (by omega)), chain_rows n hn _ (List.mem_range.mpr h4)]
theorem ring_inj : ∀ n ∈ manyN, ∀ k ∈ List.range 2, ∀ p ∈ List.range n, ∀ q ∈ List.range n, nxt (ringM n) p k = nxt (ringM n) q k → p = q := by decide +kernel
theorem ring_no {n : Nat} (hn : n ∈ manyN) {p : Nat × Nat} (h : Mt (ringM n) 2 p) : p ∈ allP (ringM n).length → False := by
  have inj : ∀ {p : Nat × Nat} {k : Nat}, k < 2 → p ∈ allP (ringM n).length → nxt (ringM n) p.1 k ≠ nxt (ringM n) p.2 k := by
    intro p k hk hp e
    obtain ⟨h1, h2⟩ := mem_allP.mp hp
    rw [ring_len] at h2
    have := ring_inj n hn k (List.mem_range.mpr hk) p.1 (List.mem_range.mpr (by omega)) p.2 (List.mem_range.mpr h2) e
    omega
  induction h with
  | @base p k hk e =>
    intro hp
    refine inj hk hp ?_
    unfold bh at e
    simp only at e
    omega
  | @step p k hk _ ih =>
    intro hp
    rcases bh_mem (ring_good n hn) hk hp with e | e
    · refine inj hk hp ?_
      unfold bh at e
      simp only at e
      omega
    · exact ih e
theorem ring_nv : ∀ n ∈ manyN, nv (ringM n) 2 ≠ [] := fun n hn e => by
  have h2 : 2 ≤ n := (by decide : ∀ n ∈ manyN, 2 ≤ n) n hn
  have : (0, 1) ∈ nv (ringM n) 2 := by
    have hp : (0, 1) ∈ allP (ringM n).length := mem_allP.mpr ⟨by decide, by rw [ring_len]; exact h2⟩
    exact nv_mem.mpr ⟨hp, fun h => ring_no hn h hp⟩
  rw [e] at this
  cases this
theorem chain_yes : ∀ n ∈ manyN, yesB (chainM n) abL (List.replicate (n - 1) 97) = true := by decide +kernel
/-- the search, run -/
def rfE (m : Mach) (z : List Nat) : Nat → List Qe → List (List Nat) → Option (Option (List Nat))
  | 0, _, _ => none
  | _ + 1, [], _ => some none
  | f + 1, e :: q, met => if e.1.length = 1 then some (some e.2) else if e.1 ∈ met then rfE m z f q met else rfE m z f (q ++ kids m z e) (met ++ [e.1])
theorem rfE_ok {m : Mach} {z : List Nat} : ∀ {f : Nat} {q : List Qe} {met : List (List Nat)} {res : Option (List Nat)}, rfE m z f q met = some res → Rf m z q met res
  | 0, _, _, _, h => by cases h
  | _ + 1, [], _, _, h => by
    cases h
    exact .nil
  | f + 1, e :: q, met, res, h => by
    unfold rfE at h
    by_cases h1 : e.1.length = 1
    · rw [if_pos h1] at h
      cases h
      exact .one h1
    · rw [if_neg h1] at h
      by_cases h2 : e.1 ∈ met
      · rw [if_pos h2] at h
        exact .skip h1 h2 (rfE_ok h)
      · rw [if_neg h2] at h
        exact .exp h1 h2 (rfE_ok h)
theorem chain_rf : ∀ n ∈ [15, 16], rfE (chainM n) abL 60 (q0 (chainM n)) [] = some (some (List.replicate (n - 1) 97)) := by decide +kernel
end K66
namespace K66
open PySem PySem.Spec PyProof.Rows L2 DL
local macro_rules | `(tactic| walk_at "st") => `(tactic| with_reducible first
  | refine pw_p ?_ | refine pw_o ?_ | refine dw_op ?_ | refine dw_un ?_ | refine dw_int ?_ | refine dw_str ?_ | refine dw_bl ?_ | refine dw_non ?_ | refine dw_ty ?_ | refine da_nil' ?_ | refine da_cons' ?_ | refine dw_sortSet ?_ | refine dw_lenSet ?_ | refine dw_CB ?_ | refine dw_BM ?_ | refine dw_BM0 ?_
  | refine dw_tup ?_ | refine dw_lst ?_ | refine dw_notV ?_ | refine dw_and ?_ | refine dw_or ?_ | refine dw_if ?_ | refine dw_chain ?_ | refine dw_sl3 ?_ | refine dw_revT ?_ | refine dw_tupRg1 ?_ | refine dw_lstRg1 ?_ | refine dw_callI ?_ | refine dw_callJ ?_
  | refine dt_test ?_ | refine dt_B ?_ | refine dt_and ?_ | refine dt_or ?_ | refine dt_not ?_ | refine dt_yes ?_ | refine dt_truth ?_
  | refine ds_ret ?_ | refine ds_retN ?_ | refine ds_next ?_ | refine ds_break ?_ | refine ds_cont ?_ | refine ds_drop ?_ | refine ds_if ?_ | refine ds_set ?_
  | refine nx_nxt ?_ | refine rt_nxt ?_ | refine bk_nxt ?_ | refine ct_nxt ?_ | refine nx_lp ?_ | refine rt_lp ?_ | refine bk_lp ?_ | refine ct_lp ?_ | refine asn_d ?_ | refine asn_fr ?_ | refine rt_E0 ?_ | refine rt_E0o ?_ | refine nx_E0 ?_
  | refine dw_newT ?_ | refine dw_dIn ?_ | refine dw_dNotIn ?_ | refine dw_dGet ?_ | refine ds_dPut ?_
  | refine tr_b ?_ | refine tr_i ?_ | refine tr_n ?_ | refine tr_T ?_ | refine tr_L ?_
  | refine do_none ?_ | refine do_some ?_ | refine ite_t ?_ | refine ite_f ?_
  | refine rw_addI ?_ | refine rw_sub ?_ | refine rw_cmp ?_ | refine rw_eqI ?_ | refine rw_neI ?_ | refine rw_eqS ?_ | refine rw_neS ?_ | refine rw_eqB ?_ | refine rw_neB ?_ | refine isN_d ?_ | refine notN_d ?_ | refine rw_isB ?_ | refine rw_notB ?_
  | refine rn_intI ?_ | refine rn_intB ?_ | refine rn_max ?_ | refine rn_min ?_ | refine rn_lenT ?_ | refine rn_lenD ?_ | refine isi_int ?_ | refine isi_bool ?_ | refine isi_str ?_ | refine isi_tuple ?_ | refine isi_list ?_ | refine rn_tupT ?_ | refine rn_listT ?_
  | refine ⟨_, rfl, ?_⟩
  | fail)
local macro_rules | `(tactic| walk_at "va") => `(tactic| first
  | ((with_reducible apply dw_var); rfl) | ((with_reducible apply dw_sl); rfl) | ((with_reducible apply dw_slT); rfl)
  | ((with_reducible apply rw_ixL); rfl; rfl) | ((with_reducible apply rw_ixT); rfl)
  | ((with_reducible apply ite_T); rfl) | ((with_reducible apply ite_F); rfl) | ((with_reducible apply tr_o); rfl)
  | refine ⟨_, rfl, szl (Nat.le_of_ble_eq_true rfl), ?_⟩
  | (with_reducible refine rw_mod (by omega) ?_)
  | (with_reducible refine rw_fdiv (by unfold CDiv; omega) ?_)
  | (with_reducible refine rw_mul (by unfold CMul; omega) ?_)
  | refine ⟨szl (Nat.le_of_ble_eq_true rfl), ?_⟩
  | refine ⟨rfl, ?_⟩
  | rfl
  | fail)
local macro_rules | `(tactic| walk_at "go") => `(tactic| repeat' (first | walk_at "st" | (with_reducible refine ds_seq' ?_) | walk_at "va" | fail))
local macro_rules | `(tactic| walk_at "gs") => `(tactic| repeat' (first | walk_at "st" | walk_at "va" | fail))
theorem Rf.len {m : Mach} {z : List Nat} (g : Good m z.length) {q : List Qe} {met : List (List Nat)} {res : Option (List Nat)} (h : Rf m z q met res) : ∀ {r}, res = some r → (∀ e ∈ q, Srt m.length e.1 ∧ e.2.length ≤ met.length) → met.Nodup → (∀ s ∈ met, Srt m.length s) → r.length ≤ 2 ^ m.length := by
  induction h with
  | nil => intro r h; cases h
  | @one e q met h =>
    intro r hr hq hn hm
    cases hr
    exact Nat.le_trans (hq e List.mem_cons_self).2 (srt_count hn hm)
  | @skip e q met res h1 h2 _ ih => exact fun hr hq hn hm => ih hr (fun e he => hq e (List.mem_cons_of_mem _ he)) hn hm
  | @exp e q met res h1 h2 _ ih =>
    intro r hr hq hn hm
    obtain ⟨e1, e2⟩ := hq e List.mem_cons_self
    refine ih hr (fun e' he => ?_) ?_ fun s hs => ?_
    · rw [List.length_append, List.length_singleton]
      rcases List.mem_append.mp he with h | h
      · obtain ⟨a, b⟩ := hq e' (List.mem_cons_of_mem _ h)
        exact ⟨a, by omega⟩
      · obtain ⟨k, hk, rfl⟩ := List.mem_map.mp h
        refine ⟨nextS_srt g e1 (List.mem_range.mp hk), ?_⟩
        show (e.2 ++ [z.getD k 0]).length ≤ _
        rw [List.length_append, List.length_singleton]
        omega
    · exact List.nodup_append.mpr ⟨hn, by simp, fun x hx y hy q => h2 (by rw [List.mem_singleton.mp hy] at q; exact q ▸ hx)⟩
    · rcases List.mem_append.mp hs with h | h
      · exact hm s h
      · rw [List.mem_singleton.mp h]
        exact e1
def Gd (p : PyData) : Prop := (∃ w, p = zD w ∧ w.length ≤ 100000 ∧ ∀ c ∈ w, c < 0x110000) ∨ ∃ ps : List (Nat × Nat), p = .tuple (ps.map pN) ∧ ps ≠ [] ∧ ps.length ≤ 100000
theorem Gd.pap {p : PyData} (h : Gd p) : Pap p := by
  rcases h with ⟨w, rfl, h1, h2⟩ | ⟨ps, rfl, _, _⟩
  · exact pap_z h2 (by omega)
  · exact pap_t fun x hx => by
      obtain ⟨q, _, rfl⟩ := List.mem_map.mp hx
      exact shp_mono (shp_pN q) (by decide)
theorem Gd.sd {p : PyData} (h : Gd p) : SD 3 p := by
  rcases h with ⟨w, rfl, h1, h2⟩ | ⟨ps, rfl, _, h1⟩
  · exact trivial
  · refine ⟨by rw [List.length_map]; omega, fun x hx => ?_⟩
    obtain ⟨q, _, rfl⟩ := List.mem_map.mp hx
    refine ⟨by simp, fun y hy => ?_⟩
    simp at hy
    rcases hy with rfl | rfl <;> exact trivial
theorem tok_two {s : List Nat} {p : PyData} (hs : ∀ c ∈ s, c < 0x110000) (hp : Pap p) : Tok (.tuple [zD s, p]) := by
  refine ⟨shp_mono (shp_tup (n := 15) fun x hx => ?_) (by decide), fun x y e => ?_⟩
  · simp at hx
    rcases hx with rfl | rfl
    · exact shp_str 15 hs
    · exact hp.1
  · cases e
    exact ⟨⟨s, rfl, hs⟩, hp.2⟩
theorem tok_o {d : PyData} (h : Shp 20 d) (h2 : ∀ x y, d ≠ .tuple [x, y]) : Tok d := ⟨h, fun x y e => absurd e (h2 x y)⟩
theorem acc_no {m : Mach} {z : List Nat} (g : Good m z.length) (h : nv m z.length ≠ []) : accB m z (.tuple [zD noL, .tuple ((nv m z.length).map pN)]) = true := by
  rw [accB_tup2, if_neg (by decide), if_pos rfl]
  show (!((nv m z.length).map pN).isEmpty && ((nv m z.length).map pN).all (validP m.length) && ((nv m z.length).map pN).all (clsB m z.length ((nv m z.length).map pN))) = true
  simp only [Bool.and_eq_true]
  refine ⟨⟨?_, ?_⟩, ?_⟩
  · cases e : nv m z.length with
    | nil => exact absurd e h
    | cons _ _ => rfl
  · refine List.all_eq_true.mpr fun x hx => ?_
    obtain ⟨p, hp, rfl⟩ := List.mem_map.mp hx
    obtain ⟨h1, h2⟩ := mem_allP.mp (nv_mem.mp hp).1
    show (isLn m.length (nD p.1) && isLn m.length (nD p.2) && ltD (nD p.1) (nD p.2)) = true
    simp only [isLn, ltD, Bool.and_eq_true, decide_eq_true_eq]
    omega
  · refine List.all_eq_true.mpr fun x hx => ?_
    obtain ⟨p, hp, rfl⟩ := List.mem_map.mp hx
    unfold clsB
    rw [prOf_pN]
    refine List.all_eq_true.mpr fun k hk => ?_
    rw [any_pN]
    have hk := List.mem_range.mp hk
    obtain ⟨h1, h2⟩ := nv_mem.mp hp
    refine decide_eq_true (nv_mem.mpr ⟨?_, fun q => h2 (.step hk q)⟩)
    rcases bh_mem g hk h1 with q | q
    · exact absurd (.base hk q) h2
    · exact q
theorem acc_yes {m : Mach} {z r : List Nat} (hm : 1 ≤ m.length) (h1 : ∀ c ∈ r, c ∈ z) {x : Nat} (h2 : ∀ l, l < m.length → run m z l r = x) : accB m z (.tuple [zD yesL, zD r]) = true := by
  rw [accB_tup2, if_pos rfl, strB_zD]
  unfold yesB
  rw [List.all_eq_true.mpr fun c hc => decide_eq_true (h1 c hc), Bool.true_and]
  refine decide_eq_true ?_
  have hx : ∀ v ∈ usrt ((List.range m.length).map fun l => (run m z l r : Int)), v = (x : Int) := fun v hv => by
    obtain ⟨l, hl, rfl⟩ := List.mem_map.mp (usrt_mem.mp hv)
    rw [h2 l (List.mem_range.mp hl)]
  have h3 := nodup_le (k := [(x : Int)]) (usrt_nodup _) fun v hv => List.mem_singleton.mpr (hx v hv)
  have h4 : (x : Int) ∈ usrt ((List.range m.length).map fun l => (run m z l r : Int)) := usrt_mem.mpr (List.mem_map.mpr ⟨0, List.mem_range.mpr (by omega), by rw [h2 0 (by omega)]⟩)
  have h5 := List.length_pos_of_mem h4
  rw [List.length_singleton] at h3
  omega
theorem sigs_small {z : List Nat} (h : z ∈ sigs) : ∀ c ∈ z, c < 0x110000 := (by decide : ∀ z ∈ sigs, ∀ c ∈ z, c < 0x110000) z h
abbrev mayL : List Nat := [109, 97, 121, 98, 101]
def asksL (s : List Nat) (p : PyData) : List PyData := [.none, .tuple [zD s], .list [zD s, p], .tuple [zD mayL, p], .tuple [zD yesL, p], .tuple [zD noL, p], .tuple [zD yesL, zD []], .tuple [zD noL, .tuple []], .tuple [zD noL, .tuple [.int 5]], .tuple [zD noL, .tuple [.tuple [.int 0, .int 1, .int 2]]],
  .tuple [zD noL, .list [.tuple [.int 0, .int 1]]], .tuple [zD noL, .tuple [.tuple [.bool true, .int 1]]], .tuple [zD yesL, .none], .tuple [zD noL, .tuple [.list [.int 0, .int 1]]], .tuple [zD noL, .tuple [.tuple [.list [.int 0], .int 1]]], .tuple [zD yesL, zD [113]], .tuple [zD yesL, .list [zD [97]]], .tuple [zD noL, .tuple [.tuple [.int (-1), .int 0]]]]
theorem pap_c {d : PyData} (h1 : d.canLay0 = true) (h2 : d.depth ≤ 15) (h3 : isiD d "str" = false) : Pap d := pap_o ⟨h1, h2⟩ h3
theorem asksL_tok {s : List Nat} {p : PyData} (hs : ∀ c ∈ s, c < 0x110000) (hp : Pap p) : ∀ d ∈ asksL s p, Tok d := by
  intro d hd
  simp only [asksL, List.mem_cons, List.not_mem_nil, or_false] at hd
  rcases hd with rfl | rfl | rfl | rfl | rfl | rfl | rfl | rfl | rfl | rfl | rfl | rfl | rfl | rfl | rfl | rfl | rfl | rfl
  · exact tok_o (shp_none 20) fun x y e => by cases e
  · exact tok_o (shp_mono (shp_tup (n := 15) fun x hx => by rw [List.mem_singleton.mp hx]; exact shp_str 15 hs) (by decide)) fun x y e => by cases e
  · exact tok_o (shp_mono (shp_list (n := 15) fun x hx => by
      simp at hx
      rcases hx with rfl | rfl
      · exact shp_str 15 hs
      · exact hp.1) (by decide)) fun x y e => by cases e
  · exact tok_two (by decide) hp
  · exact tok_two (by decide) hp
  · exact tok_two (by decide) hp
  · exact tok_two (by decide) (pap_z (by decide) (by decide))
  all_goals first
    | exact tok_two (by decide) (pap_z (by decide) (by decide))
    | exact tok_two (by decide) (pap_c (by simp [PyData.canLay0, PyData.canLayAll0, PyData.strOk, mkS]) (by simp [PyData.depth, PyData.depthAll]) rfl)
section
variable {P : Program} {w : World} {K : PySem.W.Frag} {mg : Str → Option Value} {base : Heap} {a : Ad}
theorem ok_law (T : Tx K mg a)
    (N1 : FnOk P w K mg base CX0 1 a.f12 a.d12 ["state", "limit"] (spN K))
    (N2 : ∀ n : Nat, FnOk P w K mg base CX0 (n + 1) a.f13 a.d13 ["actual", "expected"] (spQ K n))
    (N3 : FnOk P w K mg base CX0 2 a.f14 a.d14 ["state"] (spS K))
    (N4 : FnOk P w K mg base CX0 2 a.f15 a.d15 ["state", "signs"] (spM K))
    (N5 : FnOk P w K mg base CX0 2 a.f19 a.d19 ["machine", "signs"] (spI K argV preV fun x r => r = .fr (.o none ((nv x.1 x.2.length).map pN))))
    (N6 : FnOk P w K mg base CX0 1 a.f20 a.d20 ["machine", "signs"] (spI K argV preS fun x r => ∃ o, Rf x.1 x.2 (q0 x.1) [] o ∧ r = .p (.d (oD o))))
    (N7 : FnOk P w K mg base (L2.CX P w) 3 a.f8 a.d8 ["machine", "signs"] (spT K a))
    (N8 : FnOk P w K mg base CX0 2 a.f9 a.d9 ["machine", "signs", "told"] (spJR K))
    (N9 : FnOk P w K mg base CX0 2 a.f22 a.d22 ["machine", "signs", "told"] (spJR K))
    (N10 : FnOk P w K mg base CX0 2 a.f23 a.d23 ["state", "signs", "paper"] (spU K))
    (N11 : FnOk P w K mg base CX0 2 a.f17 a.d17 ["state", "signs", "most"] (spW K)) :
    FnOk P w K mg base CX0 6 a.f24 a.d24 ["script"] (spLaw K 63) := by
  have G_law_next := N1.mono (show 1 ≤ 5 by decide)
  have G_law_same := N2 4
  have G_law_signs := N3.mono (show 2 ≤ 5 by decide)
  have G_law_machine := N4.mono (show 2 ≤ 5 by decide)
  have G_law_meeting := N5.mono (show 2 ≤ 5 by decide)
  have G_law_least_reset := N6.mono (show 1 ≤ 5 by decide)
  have G_reset := N7.mono (show 3 ≤ 5 by decide)
  have G_judge_reset := N8.mono (show 2 ≤ 5 by decide)
  have G_law_accepts := N9.mono (show 2 ≤ 5 by decide)
  have G_law_turned := N10.mono (show 2 ≤ 5 by decide)
  have G_law_row := N11.mono (show 2 ≤ 5 by decide)
  refine fnLaw T.F_law sc_law (by decide) fun cdv A outer s H E hr => ⟨_, (pss_cons (ps_set (i := 1) sc_law.nd rfl (Or.inl rfl) (pe_lst (pa_cons (pe_callTy (kLIST K rfl) (by rfl) T.z_list (by decide +kernel) (pa_cons (pv 0) pa_nil)) (pa_cons pe_int (pa_cons pe_int (pa_cons pe_int pa_nil)))))) (pss_cons (ps_for PassesOwn.never rfl (pi_range1 (by rfl) T.z_range (pa_cons pe_int pa_nil)) (pg_name (i := 2) sc_law.nd rfl (Or.inl rfl)) (pss_cons (ps_set (i := 3) sc_law.nd rfl (Or.inl rfl) (pe_call G_law_signs hr (by rfl) T.m_law_signs T.k_law_signs T.b_law_signs .nil pass0 (pa_cons (pv 1) pa_nil))) (pss_cons (ps_set (i := 4) sc_law.nd rfl (Or.inl rfl) (pe_call G_law_machine hr (by rfl) T.m_law_machine T.k_law_machine T.b_law_machine .nil pass0 (pa_cons (pv 1) (pa_cons (pv 3) pa_nil)))) (pss_cons (ps_set (i := 5) sc_law.nd rfl (Or.inl rfl) (pe_call G_law_meeting hr (by rfl) T.m_law_meeting T.k_law_meeting T.b_law_meeting .nil pass0 (pa_cons (pv 4) (pa_cons (pv 3) pa_nil)))) (pss_cons (ps_set (i := 6) sc_law.nd rfl (Or.inl rfl) (pe_ifExp (pt_cmpR (kNE K rfl hr.units) (pv 5) (pe_lst pa_nil) (nomark _)) (pe_tup (pa_cons (pe_strM [110, 111] rfl) (pa_cons (pe_callTy (kTUP K rfl) (by rfl) T.z_tuple (by decide +kernel) (pa_cons (pv 5) pa_nil)) pa_nil))) (pe_tup (pa_cons (pe_strM [121, 101, 115] rfl) (pa_cons (pe_call G_law_least_reset hr (by rfl) T.m_law_least_reset T.k_law_least_reset T.b_law_least_reset .nil pass0 (pa_cons (pv 4) (pa_cons (pv 3) pa_nil))) pa_nil))))) (pss_cons (ps_set (i := 7) sc_law.nd rfl (Or.inl rfl) (pe_call G_reset hr (by rfl) T.m_reset T.k_reset T.b_reset .nil passL (pa_cons (pv 4) (pa_cons (pv 3) pa_nil)))) (pss_cons (ps_if (PW.pt (pw_or (pt_not (kTRUTH K rfl (pe_call G_law_same hr (by rfl) T.m_law_same T.k_law_same T.b_law_same .nil pass0 (pa_cons (pv 7) (pa_cons (pv 6) pa_nil))) (by intro _; rfl))) (pw_or1 (pt_cmpR op_notBl (pe_call G_judge_reset hr (by rfl) T.m_judge_reset T.k_judge_reset T.b_judge_reset .nil pass0 (pa_cons (pv 4) (pa_cons (pv 3) (pa_cons (pv 7) pa_nil)))) pe_bl (nomark _))))) (pss_one (ps_ret pe_bl)) pss_nil) (pss_cons (ps_set (i := 8) sc_law.nd rfl (Or.inl rfl) (pe_lst (pa_cons pe_non (pa_cons (pe_slice (kSLC K rfl) (pv 6) po_none (po_some pe_int)) (pa_cons (pe_callTy (kLIST K rfl) (by rfl) T.z_list (by decide +kernel) (pa_cons (pv 6) pa_nil)) (pa_cons (pe_tup (pa_cons (pe_strM [109, 97, 121, 98, 101] rfl) (pa_cons (pe_ix (kIX K rfl) (pv 6) pe_int (fun _ _ => rfl)) pa_nil))) (pa_cons (pe_tup (pa_cons (pe_strM [121, 101, 115] rfl) (pa_cons (pe_ix (kIX K rfl) (pv 6) pe_int (fun _ _ => rfl)) pa_nil))) (pa_cons (pe_tup (pa_cons (pe_strM [110, 111] rfl) (pa_cons (pe_ix (kIX K rfl) (pv 6) pe_int (fun _ _ => rfl)) pa_nil))) (pa_cons (pe_tup (pa_cons (pe_strM [121, 101, 115] rfl) (pa_cons (pe_strM [] rfl) pa_nil))) (pa_cons (pe_tup (pa_cons (pe_strM [110, 111] rfl) (pa_cons (pe_tup pa_nil) pa_nil))) (pa_cons (pe_tup (pa_cons (pe_strM [110, 111] rfl) (pa_cons (pe_tup (pa_cons pe_int pa_nil)) pa_nil))) (pa_cons (pe_tup (pa_cons (pe_strM [110, 111] rfl) (pa_cons (pe_tup (pa_cons (pe_tup (pa_cons pe_int (pa_cons pe_int (pa_cons pe_int pa_nil)))) pa_nil)) pa_nil))) pa_nil)))))))))))) (pss_cons (ps_set (i := 8) sc_law.nd rfl (Or.inl rfl) (pe_op (kADD K rfl) (pv 8) (pe_lst (pa_cons (pe_tup (pa_cons (pe_strM [110, 111] rfl) (pa_cons (pe_lst (pa_cons (pe_tup (pa_cons pe_int (pa_cons pe_int pa_nil))) pa_nil)) pa_nil))) (pa_cons (pe_tup (pa_cons (pe_strM [110, 111] rfl) (pa_cons (pe_tup (pa_cons (pe_tup (pa_cons pe_bl (pa_cons pe_int pa_nil))) pa_nil)) pa_nil))) (pa_cons (pe_tup (pa_cons (pe_strM [121, 101, 115] rfl) (pa_cons pe_non pa_nil))) (pa_cons (pe_tup (pa_cons (pe_strM [110, 111] rfl) (pa_cons (pe_tup (pa_cons (pe_lst (pa_cons pe_int (pa_cons pe_int pa_nil))) pa_nil)) pa_nil))) (pa_cons (pe_tup (pa_cons (pe_strM [110, 111] rfl) (pa_cons (pe_tup (pa_cons (pe_tup (pa_cons (pe_lst (pa_cons pe_int pa_nil)) (pa_cons pe_int pa_nil))) pa_nil)) pa_nil))) (pa_cons (pe_tup (pa_cons (pe_strM [121, 101, 115] rfl) (pa_cons (pe_strM [113] rfl) pa_nil))) (pa_cons (pe_tup (pa_cons (pe_strM [121, 101, 115] rfl) (pa_cons (pe_lst (pa_cons (pe_strM [97] rfl) pa_nil)) pa_nil))) (pa_cons (pe_tup (pa_cons (pe_strM [110, 111] rfl) (pa_cons (pe_tup (pa_cons (pe_tup (pa_cons (pe_un un_neg pe_int) (pa_cons pe_int pa_nil))) pa_nil)) pa_nil))) pa_nil))))))))))) (pss_cons (ps_for PassesOwn.never rfl (pi_range1 (by rfl) T.z_range (pa_cons pe_int pa_nil)) (pg_name (i := 9) sc_law.nd rfl (Or.inl rfl)) (pss_one (ps_expr (kBM K rfl (pe_bm PySem.F.plainAttrs_list PySem.F.slot_list_append PySem.F.type_list_append mt_append (pv 8) (pa_cons (pe_tup (pa_cons (pe_ix (kIX K rfl) (pv 6) pe_int (fun _ _ => rfl)) (pa_cons (pe_call G_law_turned hr (by rfl) T.m_law_turned T.k_law_turned T.b_law_turned .nil pass0 (pa_cons (pv 1) (pa_cons (pv 3) (pa_cons (pe_ix (kIX K rfl) (pv 6) pe_int (fun _ _ => rfl)) pa_nil)))) pa_nil))) pa_nil)))))) (pss_cons (ps_expr (kBM K rfl (pe_bm PySem.F.plainAttrs_list PySem.F.slot_list_append PySem.F.type_list_append mt_append (pv 8) (pa_cons (pe_tup (pa_cons (pe_strM [121, 101, 115] rfl) (pa_cons (pe_call G_law_row hr (by rfl) T.m_law_row T.k_law_row T.b_law_row .nil pass0 (pa_cons (pv 1) (pa_cons (pv 3) (pa_cons pe_int pa_nil)))) pa_nil))) pa_nil)))) (pss_cons (ps_expr (kBM K rfl (pe_bm PySem.F.plainAttrs_list PySem.F.slot_list_append PySem.F.type_list_append mt_append (pv 8) (pa_cons (pe_tup (pa_cons (pe_strM [110, 111] rfl) (pa_cons (pe_callTy (kTUP K rfl) (by rfl) T.z_tuple (by decide +kernel) (pa_cons (pe_lc (own := [("p", 15)]) (g := gName 15) (by rfl) sc_law.nd (pi_range1 (by rfl) T.z_range (pa_cons (pe_op op_sub (pe_callB (kLEN K rfl) (by rfl) T.z_len (by decide +kernel) (pa_cons (pv 4) pa_nil)) pe_int) pa_nil)) (blkOk_by (own := [("p", 15)]) (N := ["script", "state", "turn", "signs", "machine", "pairs", "due", "told", "asks", "k", "asked", "many", "chain", "ring", "error", "p"]) (sc := defScope s_law) (by decide +kernel)) (fun _ _ _ _ _ => (pg_name (i := 15) sc_law.nd rfl (by first | exact Or.inl rfl | exact Or.inr rfl))) (fun _ _ _ _ _ => pts_nil) (fun _ _ _ _ _ => (pe_tup (pa_cons (pv 15) (pa_cons (pe_op (kADD K rfl) (pv 15) pe_int) pa_nil))))) pa_nil)) pa_nil))) pa_nil)))) (pss_one (ps_for PassesOwn.never rfl (kANY K rfl (pv 8)) (pg_name (i := 10) sc_law.nd rfl (Or.inl rfl)) (pss_one (ps_if (pt_not (kTRUTH K rfl (pe_call G_law_same hr (by rfl) T.m_law_same T.k_law_same T.b_law_same .nil pass0 (pa_cons (pe_call G_judge_reset hr (by rfl) T.m_judge_reset T.k_judge_reset T.b_judge_reset .nil pass0 (pa_cons (pv 4) (pa_cons (pv 3) (pa_cons (pv 10) pa_nil)))) (pa_cons (pe_call G_law_accepts hr (by rfl) T.m_law_accepts T.k_law_accepts T.b_law_accepts .nil pass0 (pa_cons (pv 4) (pa_cons (pv 3) (pa_cons (pv 10) pa_nil)))) pa_nil))) (by intro _; rfl))) (pss_one (ps_ret pe_bl)) pss_nil)))))))))))))))) (pss_cons (ps_set (i := 11) sc_law.nd rfl (Or.inr rfl) (pe_op (kADD K rfl) pe_int (pe_call G_law_next hr (by rfl) T.m_law_next T.k_law_next T.b_law_next .nil pass0 (pa_cons (pv 1) (pa_cons pe_int pa_nil))))) (pss_cons (ps_set (i := 12) sc_law.nd rfl (Or.inl rfl) (pe_callTy (kTUP K rfl) (by rfl) T.z_tuple (by decide +kernel) (pa_cons (pe_lc (own := [("k", 9)]) (g := gName 9) (by rfl) sc_law.nd (pi_range1 (by rfl) T.z_range (pa_cons (pv 11) pa_nil)) (blkOk_by (own := [("k", 9)]) (N := ["script", "state", "turn", "signs", "machine", "pairs", "due", "told", "asks", "k", "asked", "many", "chain", "ring", "error", "p"]) (sc := defScope s_law) (by decide +kernel)) (fun _ _ _ _ _ => (pg_name (i := 9) sc_law.nd rfl (by first | exact Or.inl rfl | exact Or.inr rfl))) (fun _ _ _ _ _ => pts_nil) (fun _ _ _ _ _ => (pe_tup (pa_cons (pe_cmpR (kEQ K rfl hr.units) (pv 9) pe_int (nomark _)) (pa_cons (pe_tup (pa_cons (pe_callB (call_min2 rfl) (by rfl) T.z_min (by decide +kernel) (pa_cons (pe_op op_sub (pv 11) pe_int) (pa_cons (pe_op (kADD K rfl) (pv 9) pe_int) pa_nil))) (pa_cons (pe_callB (call_min2 rfl) (by rfl) T.z_min (by decide +kernel) (pa_cons (pe_op op_sub (pv 11) pe_int) (pa_cons (pe_op (kADD K rfl) (pv 9) pe_int) pa_nil))) pa_nil))) pa_nil))))) pa_nil))) (pss_cons (ps_set (i := 13) sc_law.nd rfl (Or.inl rfl) (pe_callTy (kTUP K rfl) (by rfl) T.z_tuple (by decide +kernel) (pa_cons (pe_lc (own := [("k", 9)]) (g := gName 9) (by rfl) sc_law.nd (pi_range1 (by rfl) T.z_range (pa_cons (pv 11) pa_nil)) (blkOk_by (own := [("k", 9)]) (N := ["script", "state", "turn", "signs", "machine", "pairs", "due", "told", "asks", "k", "asked", "many", "chain", "ring", "error", "p"]) (sc := defScope s_law) (by decide +kernel)) (fun _ _ _ _ _ => (pg_name (i := 9) sc_law.nd rfl (by first | exact Or.inl rfl | exact Or.inr rfl))) (fun _ _ _ _ _ => pts_nil) (fun _ _ _ _ _ => (pe_tup (pa_cons (pe_cmpR (kEQ K rfl hr.units) (pv 9) pe_int (nomark _)) (pa_cons (pe_tup (pa_cons (pe_op op_mod (pe_callTy call_int1 (by rfl) T.z_int (by decide +kernel) (pa_cons (pe_op (kADD K rfl) (pv 9) pe_int) pa_nil)) (pv 11)) (pa_cons (pv 9) pa_nil))) pa_nil))))) pa_nil))) (pss_cons (ps_if (PW.pt (pw_or (pt_cmpR (kNE K rfl hr.units) (pe_ix (kIX K rfl) (pe_call G_reset hr (by rfl) T.m_reset T.k_reset T.b_reset .nil passL (pa_cons (pv 13) (pa_cons (pe_strM [97, 98] rfl) pa_nil))) pe_int (fun _ _ => rfl)) (pe_strM [110, 111] rfl) (nomark _)) (pw_or1 (pt_cmpR op_notBl (pe_call G_judge_reset hr (by rfl) T.m_judge_reset T.k_judge_reset T.b_judge_reset .nil pass0 (pa_cons (pv 12) (pa_cons (pe_strM [97, 98] rfl) (pa_cons (pe_tup (pa_cons (pe_strM [121, 101, 115] rfl) (pa_cons (pe_op op_repS (pe_strM [97] rfl) (pe_op op_sub (pv 11) pe_int)) pa_nil))) pa_nil)))) pe_bl (nomark _))))) (pss_one (ps_ret pe_bl)) pss_nil) (pss_one (ps_try_as (i := 14) (Wout := fun _ _ _ _ => False) rfl rfl sc_law.nd rfl rfl ⟨by rfl, by decide, Or.inl T.x_TooWide.g⟩ takes0 (fun W pn xe tk _ => (pss_one (ps_ret (pe_and (pe_cmpR (kEQ K rfl hr.units) (pe_callS G_reset hr (by rfl) T.m_reset T.k_reset T.b_reset (fun σ => passAt tk σ) (pa_cons (pv 12) (pa_cons (pe_strM [97, 98] rfl) pa_nil))) (pe_tup (pa_cons (pe_strM [121, 101, 115] rfl) (pa_cons (pe_op op_repS (pe_strM [97] rfl) (pe_op op_sub (pv 11) pe_int)) pa_nil))) (nomark _)) (pe_one (pe_cmpR op_le (pv 11) pe_int (nomark _))))))) (fun a oe cls d pn hz hf => (pss_one (ps_ret (pe_and (pe_cmpR op_gt (pv 11) pe_int (nomark _)) (pe_one (pe_callB (kISE K rfl T.x_TooWide.e hz hf) (by rfl) T.z_isinstance (by decide +kernel) (pa_cons (pv 14) (pa_cons (pe_bltn (v := .ty "ValueError") (by rfl) T.z_ValueError (by decide +kernel) rfl) pa_nil)))))))))))))))), ?_⟩
  intro ns hns B
  refine ds_seq' (ds_set (dw_lst (da_cons' (dw_CB (da_cons' (dw_scr (ns := ns) rfl (pw_p (da_nil' (rn_listScr (ns := ns) rfl ?_)))))))))
  walk_at "gs"
  refine ds_mid' (fun G => ∃ (st : Stt) (s2 s3 s4 s5 s6 s7 s8 s9 s10 s11 s12 s13 s14 s15 : Sl), st.ok ∧ G = [.ow (scr K ns), .o none (encS st), s2, s3, s4, s5, s6, s7, s8, s9, s10, s11, s12, s13, s14, s15]) ?_ ?_
  · refine ds_forE' (ch := [2]) ?_
    refine di_rng1 ?_
    walk_at "go"
    refine ⟨by decide, by decide, fun i G => ∃ (st : Stt) (s2 s3 s4 s5 s6 s7 s8 s9 s10 s11 s12 s13 s14 s15 : Sl), st.ok ∧ G = [.ow (scr K ns), .o none (encS st), s2, s3, s4, s5, s6, s7, s8, s9, s10, s11, s12, s13, s14, s15], ⟨⟨ns, 0, 0, 1⟩, _, _, _, _, _, _, _, _, _, _, _, _, _, _, ⟨Int.le_refl 0, by show (0 : Int) ≤ 1; decide, by show (1 : Int) < 2147483647; decide, hns⟩, rfl⟩, fun i G2 d hd ⟨st, s2, s3, s4, s5, s6, s7, s8, s9, s10, s11, s12, s13, s14, s15, hst, hG⟩ => ?_, fun G2 ⟨st, s2, s3, s4, s5, s6, s7, s8, s9, s10, s11, s12, s13, s14, s15, hst, hG⟩ => ?_⟩
    · subst hG
      refine dg_name ?_
      walk_at "go"
      refine ⟨st, 1, none, _, hst, rfl, rfl, rfl, ?_⟩
      rintro _ _ ⟨st1, z, hst1, rfl, rfl, hz⟩
      obtain ⟨hz1, hz2, hz3⟩ := sigs_ok hz
      have hcz := sigs_small hz
      walk_at "go"
      refine ⟨(st1, z), 1, none, _, ⟨hst1, by show 0 < z.length; omega, by show z.length ≤ 1000; omega⟩, rfl, rfl, rfl, ?_⟩
      rintro _ _ ⟨st2, m, hst2, rfl, rfl, g, hm1, hm2⟩
      have g : Good m z.length := g
      walk_at "go"
      refine ⟨(m, z), ⟨g, by show m.length ≤ 100; omega, by show z.length ≤ 100; omega⟩, rfl, ?_⟩
      rintro _ rfl
      have hnvl : (nv m z.length).length ≤ 100 := by
        have h1 := allP_len m.length
        have h2 : m.length * m.length ≤ 100 := Nat.mul_le_mul hm2 hm2
        have h3 : (nv m z.length).length ≤ (allP m.length).length := by
          unfold nv
          rw [(srtN_perm _).length_eq]
          exact List.length_filter_le _ _
        omega
      walk_at "gs"
      refine ds_mid' (fun G => ∃ (s : List Nat) (p : PyData), accB m z (.tuple [zD s, p]) = true ∧ (s = yesL ∨ s = noL) ∧ Gd p ∧ (∀ r, resT (m, z) r → r = .p (.d (.tuple [zD s, p]))) ∧
        G = [.ow (scr K ns), .o none (encS st2), .d d, .d (zD z), .d (encM m), .o none ((nv m z.length).map pN), .d (.tuple [zD s, p]), s7, s8, s9, s10, s11, s12, s13, s14, s15]) ?_ ?_
      · walk_at "gs"
        refine rw_neD rfl rfl (shp_ok (shp_pNs _) (by decide)) (shp_ok (shp_list (n := 0) fun x hx => nomatch hx) (by decide)) ?_
        rw [eqv_nil]
        walk_at "gs"
        refine ite_k (fun c => ?_) (fun c => ?_)
        · have hne : nv m z.length ≠ [] := fun e => by
            have e : nv (m, z).1 (m, z).2.length = [] := e
            rw [e] at c
            cases c
          walk_at "gs"
          refine rn_tupL rfl ?_
          walk_at "gs"
          refine ⟨noL, .tuple ((nv m z.length).map pN), acc_no g hne, .inr rfl, .inr ⟨_, rfl, hne, by omega⟩, fun r hr => ?_, rfl⟩
          rcases hr with ⟨_, h⟩ | ⟨h, _⟩
          · exact h
          · exact absurd h hne
        · have he : nv m z.length = [] := by
            cases e : nv m z.length with
            | nil => rfl
            | cons _ _ =>
              have e : nv (m, z).1 (m, z).2.length = _ := e
              rw [e] at c
              cases c
          have hall : ∀ p ∈ allP m.length, Mt m z.length p := fun p hp => Classical.byContradiction fun hn => by
            have := nv_mem.mpr ⟨hp, hn⟩
            rw [he] at this
            cases this
          walk_at "gs"
          refine ⟨(m, z), ⟨g, hm1, hm2, by show z.length ≤ 100; omega, hcz⟩, rfl, ?_⟩
          rintro _ ⟨o, ho, rfl⟩
          have ho : Rf m z (q0 m) [] o := ho
          obtain ⟨r, rfl⟩ := ho.found g hm1 hall
          obtain ⟨r1, x, r2⟩ := ho.sound hz1 rfl (q0_v m z)
          have hrl := ho.len g rfl (fun e he => by
            rw [List.mem_singleton.mp he]
            exact ⟨srt_range _, Nat.le_refl _⟩) List.nodup_nil fun s hs => nomatch hs
          have h2 : 2 ^ m.length ≤ 1024 := Nat.pow_le_pow_right (by decide) hm2
          walk_at "gs"
          refine ⟨yesL, zD r, acc_yes hm1 r1 r2, .inl rfl, .inl ⟨r, rfl, by omega, fun c hc => hcz c (r1 c hc)⟩, fun q hq => ?_, rfl⟩
          rcases hq with ⟨h, _⟩ | ⟨_, _, o, ho2, rfl⟩
          · exact absurd he h
          · have := ho2.det ho
            subst this
            rfl
      · rintro G1 ⟨s, p, hacc, hs, hgd, hres, rfl⟩
        have hsc : ∀ c ∈ s, c < 0x110000 := by
          rcases hs with rfl | rfl <;> decide
        have htk : Tok (.tuple [zD s, p]) := tok_two hsc hgd.pap
        have hJ : ∀ d, Tok d → preJ (m, z, d) := fun d hd => ⟨g, hm1, by show m.length ≤ 63; omega, by show z.length ≤ 100; omega, hcz, hd⟩
        refine ds_seq' ?_
        walk_at "gs"
        refine dw_callNI ?_
        walk_at "gs"
        refine ⟨(m, z), ⟨g, hm1, by show m.length ≤ 100; omega, by show z.length ≤ 100; omega, hcz⟩, rfl, fun r hr => ?_, fun c h => ?_⟩
        rotate_left
        · have h16 : 16 < m.length := h.2.1
          omega
        rw [hres r hr]
        refine asn_d (nx_nxt ?_)
        refine ds_seq' ?_
        walk_at "gs"
        refine ⟨.tuple [zD s, p], ⟨by simp, fun x hx => by
          simp at hx
          rcases hx with rfl | rfl
          · exact trivial
          · exact hgd.sd⟩, rfl, ?_⟩
        rintro _ rfl
        walk_at "gs"
        refine ⟨(m, z, .tuple [zD s, p]), hJ _ htk, rfl, ?_⟩
        rintro _ rfl
        walk_at "gs"
        refine ite_F (by show (!decide (accB m z (.tuple [zD s, p]) = true)) = false; rw [hacc]; rfl) ?_
        walk_at "gs"
        refine ds_seq' ?_
        walk_at "gs"
        refine rs_T ?_
        walk_at "gs"
        refine ds_seq' ?_
        walk_at "gs"
        refine rw_neg ?_
        walk_at "gs"
        refine rw_addL rfl rfl (szl (Nat.le_of_ble_eq_true rfl)) ?_
        refine asn_fr (nx_nxt ?_)
        refine ds_mid' (fun G => ∃ (st : Stt) (asks : List PyData) (s9 : Sl), st.ok ∧ asks.length ≤ 23 ∧ (∀ d ∈ asks, Tok d) ∧ G = [.ow (scr K ns), .o none (encS st), .d d, .d (zD z), .d (encM m), .o none ((nv m z.length).map pN), .d (.tuple [zD s, p]), .d (.tuple [zD s, p]), .o none asks, s9, s10, s11, s12, s13, s14, s15]) ?_ ?_
        · refine ds_forE' (ch := [9]) ?_
          refine di_rng1 ?_
          walk_at "go"
          refine ⟨by decide, by decide, fun i G => ∃ (st : Stt) (asks : List PyData) (s9 : Sl), st.ok ∧ asks.length = 18 + i ∧ (∀ d ∈ asks, Tok d) ∧ G = [.ow (scr K ns), .o none (encS st), .d d, .d (zD z), .d (encM m), .o none ((nv m z.length).map pN), .d (.tuple [zD s, p]), .d (.tuple [zD s, p]), .o none asks, s9, s10, s11, s12, s13, s14, s15], ⟨st2, asksL s p, _, hst2, rfl, asksL_tok hsc hgd.pap, rfl⟩, fun i G2 d' hd' ⟨st, asks, s9, hst, hal, hat, hG⟩ => ?_, fun G2 ⟨st, asks, s9, hst, hal, hat, hG⟩ => ?_⟩
          · subst hG
            have hi : i < 5 := (rngD_get hd').1
            refine dg_name ?_
            walk_at "go"
            refine ⟨⟨rfl, _, _, rfl⟩, ?_⟩
            walk_at "go"
            refine ⟨(st, z, p), 1, none, _, ⟨hst, by show 0 < z.length; omega, by show z.length ≤ 100; omega, hcz, hgd⟩, rfl, rfl, rfl, ?_⟩
            rintro _ d2 ⟨st3, hst3, rfl, hpap⟩
            walk_at "go"
            refine rm_app rfl (szlt (by omega)) ?_
            walk_at "go"
            refine ⟨st3, asks ++ [.tuple [zD s, d2]], _, hst3, by rw [List.length_append, hal]; rfl, fun x hx => ?_, rfl⟩
            rcases List.mem_append.mp hx with h | h
            · exact hat x h
            · rw [List.mem_singleton.mp h]
              exact tok_two hsc hpap
          · subst hG
            refine nx_nxt ⟨st, asks, _, hst, ?_, hat, rfl⟩
            rw [hal, rngD_len]
            decide
        · rintro G1 ⟨st, asks, s9, hst, hal, hat, rfl⟩
          walk_at "go"
          refine ⟨⟨rfl, _, _, rfl⟩, ?_⟩
          walk_at "go"
          refine ⟨(st, z, 6), 1, none, _, ⟨hst, by show 0 < z.length; omega, by show z.length ≤ 1000; omega, by show 6 ≤ 1000; decide⟩, rfl, rfl, rfl, ?_⟩
          rintro _ _ ⟨st3, row, hst3, rfl, rfl, hrl, hrc⟩
          have hrl : row.length ≤ 6 := hrl
          walk_at "go"
          refine rm_app rfl (szlt (by omega)) ?_
          walk_at "go"
          refine ⟨⟨rfl, _, _, rfl⟩, ?_⟩
          walk_at "go"
          refine dw_lcM (List.range (m.length - 1)) nD (fun q => pN (q, q + 1)) ?_
          refine di_rng1 ?_
          walk_at "go"
          rw [List.length_map]
          have em : ((m.length : Int) - 1) = ((m.length - 1 : Nat) : Int) := by omega
          rw [em]
          refine ⟨by omega, by omega, rng_nD _, szl (by rw [List.length_range]; omega), fun B' q hq => ?_, ?_⟩
          · walk_at "go"
          · walk_at "go"
            refine rn_tupL rfl ?_
            walk_at "go"
            refine rm_app rfl (szlt (by rw [List.length_append]; simp only [List.length_singleton]; omega)) ?_
            refine nx_nxt ?_
            refine ds_freeze 8 rfl ?_
            have hat2 : ∀ x ∈ asks ++ [.tuple [zD yesL, zD row]] ++ [.tuple [zD noL, .tuple ((List.range (m.length - 1)).map fun q => pN (q, q + 1))]], Tok x := fun x hx => by
              rcases List.mem_append.mp hx with h | h
              · rcases List.mem_append.mp h with h | h
                · exact hat x h
                · rw [List.mem_singleton.mp h]
                  exact tok_two (by decide) (pap_z (fun c hc => hcz c (hrc c hc)) (by omega))
              · rw [List.mem_singleton.mp h]
                exact tok_two (by decide) (pap_t fun y hy => by
                  obtain ⟨q, _, rfl⟩ := List.mem_map.mp hy
                  exact shp_mono (shp_pN _) (by decide))
            refine ds_forE' (ch := [10]) ?_
            refine di_anyL (di_list ?_)
            walk_at "go"
            refine ⟨fun i G => ∃ s10, G = [.ow (scr K ns), .o none (encS st3), .d d, .d (zD z), .d (encM m), .o none ((nv m z.length).map pN), .d (.tuple [zD s, p]), .d (.tuple [zD s, p]), .d (.list (asks ++ [.tuple [zD yesL, zD row]] ++ [.tuple [zD noL, .tuple ((List.range (m.length - 1)).map fun q => pN (q, q + 1))]])), s9, s10, s11, s12, s13, s14, .un], ⟨_, rfl⟩, fun i G2 d' hd' ⟨s10, hG⟩ => ?_, fun G2 ⟨s10, hG⟩ => ?_⟩
            · subst hG
              have hk := hat2 d' (List.mem_of_getElem? hd')
              refine dg_name ?_
              walk_at "go"
              refine ⟨(m, z, d'), hJ d' hk, rfl, ?_⟩
              rintro _ rfl
              walk_at "go"
              refine ⟨(m, z, d'), hJ d' hk, rfl, ?_⟩
              rintro _ rfl
              walk_at "go"
              refine ⟨.bool (accB m z d'), trivial, rfl, ?_⟩
              rintro _ rfl
              walk_at "go"
              exact ⟨_, rfl⟩
            · subst hG
              walk_at "go"
              exact ⟨st3, _, _, _, _, _, _, _, _, _, _, _, _, _, _, hst3, rfl⟩
    · subst hG
      exact ⟨_, _, _, _, _, _, _, _, _, _, _, _, _, _, _, hst, rfl⟩
  · rintro G1 ⟨st, s2, s3, s4, s5, s6, s7, s8, s9, s10, s11, s12, s13, s14, s15, hst, rfl⟩
    walk_at "go"
    refine ⟨(st, 4), 1, none, _, ⟨hst, by simp, by simp⟩, rfl, rfl, rfl, ?_⟩
    rintro _ _ ⟨st1, k, hst1, rfl, rfl, hk⟩
    have hk : k < 4 := hk
    obtain ⟨n, hn⟩ : ∃ n : Nat, n = 15 + k := ⟨_, rfl⟩
    have em : (15 : Int) + (k : Int) = (n : Int) := by omega
    have hn15 : 15 ≤ n := by omega
    have hn18 : n ≤ 18 := by omega
    have hmn : n ∈ manyN := by
      have : n = 15 ∨ n = 16 ∨ n = 17 ∨ n = 18 := by omega
      rcases this with rfl | rfl | rfl | rfl <;> decide
    walk_at "go"
    rw [em]
    walk_at "go"
    refine dw_lcM (List.range n) nD (fun (k : Nat) => encL (decide ((k : Int) = 0), [min (n - 1) (k + 1), min (n - 1) (k + 1)])) ?_
    refine di_rng1 ?_
    walk_at "go"
    refine ⟨by omega, by omega, rng_nD _, szl (by rw [List.length_range]; omega), fun B' q hq => ?_, ?_⟩
    · have e : (if ((q : Int) + 1) < ((n : Int) - 1) then (q : Int) + 1 else (n : Int) - 1) = ((min (n - 1) (q + 1) : Nat) : Int) := by split <;> omega
      walk_at "go"
      rw [e]
      walk_at "go"
    · have hS : (List.range n).map (fun (k : Nat) => encL (decide ((k : Int) = 0), [min (n - 1) (k + 1), min (n - 1) (k + 1)])) = (chainM n).map encL := by
        rw [chainM, List.map_map]
        rfl
      rw [hS]
      walk_at "go"
      refine rn_tupL rfl ?_
      walk_at "go"
      refine dw_lcM (List.range n) nD (fun (k : Nat) => encL (decide ((k : Int) = 0), [(k + 1) % n, k])) ?_
      refine di_rng1 ?_
      walk_at "go"
      refine ⟨by omega, by omega, rng_nD _, szl (by rw [List.length_range]; omega), fun B' q hq => ?_, ?_⟩
      · walk_at "go"
      · have hS : (List.range n).map (fun (k : Nat) => encL (decide ((k : Int) = 0), [(k + 1) % n, k])) = (ringM n).map encL := by
          rw [ringM, List.map_map]
          rfl
        rw [hS]
        walk_at "go"
        refine rn_tupL rfl ?_
        walk_at "go"
        have hc97 : ∀ c ∈ abL, c < 0x110000 := by decide
        refine dw_callNI ?_
        walk_at "go"
        refine ⟨(ringM n, abL), ⟨ring_good n hmn, by show 1 ≤ (ringM n).length; rw [ring_len]; omega, by show (ringM n).length ≤ 100; rw [ring_len]; omega, by show (2 : Nat) ≤ 100; decide, hc97⟩, rfl, fun r hr => ?_, fun c h => ring_nv n hmn h.1⟩
        rcases hr with ⟨_, rfl⟩ | ⟨h, _⟩
        · walk_at "go"
          refine rw_repS (by omega) (by omega) ?_
          have e : ((n : Int) - 1).toNat = n - 1 := by omega
          rw [e]
          walk_at "go"
          have hrl : (List.replicate (n - 1) 97).length ≤ 1000000 := by
            rw [List.length_replicate]
            omega
          have htk : Tok (.tuple [zD yesL, zD (List.replicate (n - 1) 97)]) := tok_two (by decide) (pap_z (fun c hc => by rw [(List.mem_replicate.mp hc).2]; decide) hrl)
          have hacc : accB (chainM n) abL (.tuple [zD yesL, zD (List.replicate (n - 1) 97)]) = true := by
            rw [accB_tup2, if_pos rfl, strB_zD]
            exact chain_yes n hmn
          refine ⟨(chainM n, abL, .tuple [zD yesL, zD (List.replicate (n - 1) 97)]), ⟨chain_good n hmn, by show 1 ≤ (chainM n).length; rw [chain_len]; omega, by show (chainM n).length ≤ 63; rw [chain_len]; omega, by show (2 : Nat) ≤ 100; decide, hc97, htk⟩, rfl, ?_⟩
          rintro _ rfl
          walk_at "go"
          refine ite_F (by show (!decide (accB (chainM n) abL (.tuple [zD yesL, zD (List.replicate (n - 1) 97)]) = true)) = false; rw [hacc]; rfl) ?_
          walk_at "go"
          obtain ⟨Gx, hGx⟩ : ∃ Gx : En, Gx = [.ow (scr K ns), .o none (encS st1), s2, s3, s4, s5, s6, s7, s8, .un, s10, .d (nD n), .d (encM (chainM n)), .d (encM (ringM n)), s14, s15] := ⟨_, rfl⟩
          have tr : ∀ Bx, DS K Bx Gx _ _ := fun Bx => ds_tryAs (K := K) (B := Bx) (G := Gx) (c := .ref a.c_TooWide) (i := 14)
            (tb := fun W => tRet (tAndV (tOp (rEQ K) (tCallS (spT K a) (WE W) (tCons (tVar 12) (tCons (tC (.str (mkS [97, 98]))) tNil))) (tTup (tCons (tC (.str (mkS [121, 101, 115]))) (tCons (tOp rRepS (tC (.str (mkS [97]))) (tOp (rI0 fun i j => .int (i - j)) (tVar 11) (tC (.int 1)))) tNil)))) (tOp (rI0 fun i j => .bl (decide (i ≤ j))) (tVar 11) (tC (.int 16)))))
            (ts := fun a' cls d => tRet (tAndV (tOp (rI0 fun i j => .bl (decide (j < i))) (tVar 11) (tC (.int 16))) (tCB (rIsE' K a.c_TooWide a' cls d) (tCons (tVar 14) (tCons (tC (.ty "ValueError")) tNil)))))
            (Wout := fun _ _ _ _ => False) (E := DL.E0 fun r => r = .p (.d (.bool true))) (exc := fun cls G => cls = .ref a.c_TooWide ∧ 16 < n ∧ G = Gx) (by rw [hGx]; show 14 < 16; decide) (fun B' W hW => by
              rw [hGx]
              walk_at "go"
              refine dw_callSI hW ?_
              walk_at "go"
              refine ⟨(chainM n, abL), ⟨chain_good n hmn, by show 1 ≤ (chainM n).length; rw [chain_len]; omega, by show (chainM n).length ≤ 100; rw [chain_len]; omega, by show (2 : Nat) ≤ 100; decide, hc97⟩, rfl, fun r hr => ?_, fun c h => ⟨h.2.2, by have h := h.2.1; rw [chain_len] at h; exact h, hGx.symm⟩⟩
              rcases hr with ⟨h, _⟩ | ⟨_, h16, o, ho, rfl⟩
              · exact absurd (chain_nv n hmn) h
              · have h16 : n ≤ 16 := by
                  rw [chain_len] at h16
                  exact h16
                have h15 : n ∈ [15, 16] := by
                  have : n = 15 ∨ n = 16 := by omega
                  rcases this with rfl | rfl <;> decide
                have ho : Rf (chainM n) abL (q0 (chainM n)) [] o := ho
                have := ho.det (rfE_ok (chain_rf n h15))
                subst this
                walk_at "go"
                refine rw_repS (by omega) (by omega) ?_
                rw [e]
                walk_at "go"
                refine rw_eqD rfl rfl (shp_ok htk.1 (by decide)) (shp_ok htk.1 (by decide)) ?_
                have eq1 : PyData.eqv (.tuple [zD yesL, zD (List.replicate (n - 1) 97)]) (.tuple [zD yesL, zD (List.replicate (n - 1) 97)]) = true := by simp [PyData.eqv, PyData.eqvAll]
                refine pw_p ⟨true, by rw [← eq1]; rfl, ?_⟩
                walk_at "go"
                have : decide ((n : Int) ≤ 16) = true := decide_eq_true (by omega)
                rw [this]) (fun cls G1 ⟨h1, h2, h3⟩ => by
              subst h1
              refine ⟨T.x_TooWide.exm, fun B' a' => ?_⟩
              rw [h3, hGx]
              walk_at "go"
              have : decide ((16 : Int) < (n : Int)) = true := decide_eq_true (by omega)
              refine ite_T this ?_
              refine dw_CB (da_cons' (dw_slE (a := a') rfl (pw_p (da_cons' (dw_ty (pw_p (da_nil' (rn_isE' (a := a') rfl T.x_TooWide.v ?_))))))))
              walk_at "go")
          rw [hGx] at tr
          exact tr B
        · exact absurd h (ring_nv n hmn)
end
end K66
namespace K66
open PySem PySem.Spec PyProof.Rows L2 DL
theorem ok_all {P : Program} {w : World} {K : PySem.W.Frag} {mg : Str → Option Value} {base : Heap} {a : Ad} (T : Tx K mg a) : FnOk P w K mg base CX0 6 a.f24 a.d24 ["script"] (spLaw K 63) := by
  have n1 : FnOk P w K mg base CX0 1 a.f12 a.d12 ["state", "limit"] (spN K) := ok_law_next T
  have b1 : FnOk P w K mg base CX0 1 a.f6 a.d6 ["machine", "number", "pair"] (spB K) := ok_pair_behind T
  have b2 : FnOk P w K mg base CX0 1 a.f18 a.d18 ["machine", "k", "pair"] (spB K) := ok_law_behind T
  have i1 : FnOk P w K mg base CX0 1 a.f10 a.d10 ["machine", "line"] (spL K) := ok_is_line T
  have i2 : FnOk P w K mg base CX0 1 a.f21 a.d21 ["machine", "value"] (spL K) := ok_law_is_line T
  have r1 : FnOk P w K mg base CX0 1 a.f16 a.d16 ["machine", "signs", "line", "row"] (spR K) := ok_law_line T
  exact ok_law T n1 (ok_law_same T) (ok_law_signs T n1) (ok_law_machine T n1) (ok_law_meeting T b2) (ok_law_least_reset T) (ok_reset T (ok_never_meeting T b1) (ok_least_reset T)) (ok_judge_reset T b1 i1) (ok_law_accepts T r1 b2 i2) (ok_law_turned T n1) (ok_law_row T n1)
theorem kit_of {K : PySem.W.Frag} {C : Addr} {T : String} (hm : PySem.W.kitMeta T = true) (h : PySem.W.subIn K (.ref C) (.type T) = some true) : PySem.W.kitOne K (.ref C) (.type T) = some true := by
  show (if ((Value.ref C) == (Value.type T)) = true then some true else if PySem.W.kitMeta T = true then PySem.W.subIn K (.ref C) (.type T) else none) = some true
  rw [if_neg (by simp), if_pos hm]
  exact h
theorem all_mk {P : Program} {w : World} {K : PySem.W.Frag} {h : Heap} {mg : Str → Option Value} {fa f5 f6 f7 f8 f9 f10 f12 f13 f14 f15 f16 f17 f18 f19 f20 f21 f22 f23 f24 c0 : Addr} (X : K.In h) (G : h.Ns mainGlobals mg) (hfa : mg "law" = some (.ref fa))
    {od5 an5 : Option Addr} {sl5 : Array (Option Value)} {oc5 kV5 dc5 pm5 cd5 ct5 : Value}
    {od6 an6 : Option Addr} {sl6 : Array (Option Value)} {oc6 kV6 dc6 pm6 cd6 ct6 : Value}
    {od7 an7 : Option Addr} {sl7 : Array (Option Value)} {oc7 kV7 dc7 pm7 cd7 ct7 : Value}
    {od8 an8 : Option Addr} {sl8 : Array (Option Value)} {oc8 kV8 dc8 pm8 cd8 ct8 : Value}
    {od9 an9 : Option Addr} {sl9 : Array (Option Value)} {oc9 kV9 dc9 pm9 cd9 ct9 : Value}
    {od10 an10 : Option Addr} {sl10 : Array (Option Value)} {oc10 kV10 dc10 pm10 cd10 ct10 : Value}
    {od12 an12 : Option Addr} {sl12 : Array (Option Value)} {oc12 kV12 dc12 pm12 cd12 ct12 : Value}
    {od13 an13 : Option Addr} {sl13 : Array (Option Value)} {oc13 kV13 dc13 pm13 cd13 ct13 : Value}
    {od14 an14 : Option Addr} {sl14 : Array (Option Value)} {oc14 kV14 dc14 pm14 cd14 ct14 : Value}
    {od15 an15 : Option Addr} {sl15 : Array (Option Value)} {oc15 kV15 dc15 pm15 cd15 ct15 : Value}
    {od16 an16 : Option Addr} {sl16 : Array (Option Value)} {oc16 kV16 dc16 pm16 cd16 ct16 : Value}
    {od17 an17 : Option Addr} {sl17 : Array (Option Value)} {oc17 kV17 dc17 pm17 cd17 ct17 : Value}
    {od18 an18 : Option Addr} {sl18 : Array (Option Value)} {oc18 kV18 dc18 pm18 cd18 ct18 : Value}
    {od19 an19 : Option Addr} {sl19 : Array (Option Value)} {oc19 kV19 dc19 pm19 cd19 ct19 : Value}
    {od20 an20 : Option Addr} {sl20 : Array (Option Value)} {oc20 kV20 dc20 pm20 cd20 ct20 : Value}
    {od21 an21 : Option Addr} {sl21 : Array (Option Value)} {oc21 kV21 dc21 pm21 cd21 ct21 : Value}
    {od22 an22 : Option Addr} {sl22 : Array (Option Value)} {oc22 kV22 dc22 pm22 cd22 ct22 : Value}
    {od23 an23 : Option Addr} {sl23 : Array (Option Value)} {oc23 kV23 dc23 pm23 cd23 ct23 : Value}
    {od24 an24 : Option Addr} {sl24 : Array (Option Value)} {oc24 kV24 dc24 pm24 cd24 ct24 : Value}
    {t_MOST_RESET : PySem.Tok}
    (a5 : PySem.W.nsIn K mainGlobals "least_reset" = some (some (.ref f5))) (l5 : K.lookup f5 = some ⟨oc5, od5, .func (PySem.W.fnOf "least_reset" "least_reset" (defArgs s_least_reset) (defBody s_least_reset) (defScope s_least_reset) .none kV5 dc5 pm5 an5 cd5 ct5), sl5⟩) (e5 : PySem.W.codeIn K cd5 "least_reset" = true) (k5 : PySem.W.keepIn K (.ref f5) = true)
    (a6 : PySem.W.nsIn K mainGlobals "pair_behind" = some (some (.ref f6))) (l6 : K.lookup f6 = some ⟨oc6, od6, .func (PySem.W.fnOf "pair_behind" "pair_behind" (defArgs s_pair_behind) (defBody s_pair_behind) (defScope s_pair_behind) .none kV6 dc6 pm6 an6 cd6 ct6), sl6⟩) (e6 : PySem.W.codeIn K cd6 "pair_behind" = true) (k6 : PySem.W.keepIn K (.ref f6) = true)
    (a7 : PySem.W.nsIn K mainGlobals "never_meeting" = some (some (.ref f7))) (l7 : K.lookup f7 = some ⟨oc7, od7, .func (PySem.W.fnOf "never_meeting" "never_meeting" (defArgs s_never_meeting) (defBody s_never_meeting) (defScope s_never_meeting) .none kV7 dc7 pm7 an7 cd7 ct7), sl7⟩) (e7 : PySem.W.codeIn K cd7 "never_meeting" = true) (k7 : PySem.W.keepIn K (.ref f7) = true)
    (a8 : PySem.W.nsIn K mainGlobals "reset" = some (some (.ref f8))) (l8 : K.lookup f8 = some ⟨oc8, od8, .func (PySem.W.fnOf "reset" "reset" (defArgs s_reset) (defBody s_reset) (defScope s_reset) .none kV8 dc8 pm8 an8 cd8 ct8), sl8⟩) (e8 : PySem.W.codeIn K cd8 "reset" = true) (k8 : PySem.W.keepIn K (.ref f8) = true)
    (a9 : PySem.W.nsIn K mainGlobals "judge_reset" = some (some (.ref f9))) (l9 : K.lookup f9 = some ⟨oc9, od9, .func (PySem.W.fnOf "judge_reset" "judge_reset" (defArgs s_judge_reset) (defBody s_judge_reset) (defScope s_judge_reset) .none kV9 dc9 pm9 an9 cd9 ct9), sl9⟩) (e9 : PySem.W.codeIn K cd9 "judge_reset" = true) (k9 : PySem.W.keepIn K (.ref f9) = true)
    (a10 : PySem.W.nsIn K mainGlobals "is_line" = some (some (.ref f10))) (l10 : K.lookup f10 = some ⟨oc10, od10, .func (PySem.W.fnOf "is_line" "is_line" (defArgs s_is_line) (defBody s_is_line) (defScope s_is_line) .none kV10 dc10 pm10 an10 cd10 ct10), sl10⟩) (e10 : PySem.W.codeIn K cd10 "is_line" = true) (k10 : PySem.W.keepIn K (.ref f10) = true)
    (a12 : PySem.W.nsIn K mainGlobals "_law_next" = some (some (.ref f12))) (l12 : K.lookup f12 = some ⟨oc12, od12, .func (PySem.W.fnOf "_law_next" "_law_next" (defArgs s_law_next) (defBody s_law_next) (defScope s_law_next) .none kV12 dc12 pm12 an12 cd12 ct12), sl12⟩) (e12 : PySem.W.codeIn K cd12 "_law_next" = true) (k12 : PySem.W.keepIn K (.ref f12) = true)
    (a13 : PySem.W.nsIn K mainGlobals "_law_same" = some (some (.ref f13))) (l13 : K.lookup f13 = some ⟨oc13, od13, .func (PySem.W.fnOf "_law_same" "_law_same" (defArgs s_law_same) (defBody s_law_same) (defScope s_law_same) .none kV13 dc13 pm13 an13 cd13 ct13), sl13⟩) (e13 : PySem.W.codeIn K cd13 "_law_same" = true) (k13 : PySem.W.keepIn K (.ref f13) = true)
    (a14 : PySem.W.nsIn K mainGlobals "_law_signs" = some (some (.ref f14))) (l14 : K.lookup f14 = some ⟨oc14, od14, .func (PySem.W.fnOf "_law_signs" "_law_signs" (defArgs s_law_signs) (defBody s_law_signs) (defScope s_law_signs) .none kV14 dc14 pm14 an14 cd14 ct14), sl14⟩) (e14 : PySem.W.codeIn K cd14 "_law_signs" = true) (k14 : PySem.W.keepIn K (.ref f14) = true)
    (a15 : PySem.W.nsIn K mainGlobals "_law_machine" = some (some (.ref f15))) (l15 : K.lookup f15 = some ⟨oc15, od15, .func (PySem.W.fnOf "_law_machine" "_law_machine" (defArgs s_law_machine) (defBody s_law_machine) (defScope s_law_machine) .none kV15 dc15 pm15 an15 cd15 ct15), sl15⟩) (e15 : PySem.W.codeIn K cd15 "_law_machine" = true) (k15 : PySem.W.keepIn K (.ref f15) = true)
    (a16 : PySem.W.nsIn K mainGlobals "_law_line" = some (some (.ref f16))) (l16 : K.lookup f16 = some ⟨oc16, od16, .func (PySem.W.fnOf "_law_line" "_law_line" (defArgs s_law_line) (defBody s_law_line) (defScope s_law_line) .none kV16 dc16 pm16 an16 cd16 ct16), sl16⟩) (e16 : PySem.W.codeIn K cd16 "_law_line" = true) (k16 : PySem.W.keepIn K (.ref f16) = true)
    (a17 : PySem.W.nsIn K mainGlobals "_law_row" = some (some (.ref f17))) (l17 : K.lookup f17 = some ⟨oc17, od17, .func (PySem.W.fnOf "_law_row" "_law_row" (defArgs s_law_row) (defBody s_law_row) (defScope s_law_row) .none kV17 dc17 pm17 an17 cd17 ct17), sl17⟩) (e17 : PySem.W.codeIn K cd17 "_law_row" = true) (k17 : PySem.W.keepIn K (.ref f17) = true)
    (a18 : PySem.W.nsIn K mainGlobals "_law_behind" = some (some (.ref f18))) (l18 : K.lookup f18 = some ⟨oc18, od18, .func (PySem.W.fnOf "_law_behind" "_law_behind" (defArgs s_law_behind) (defBody s_law_behind) (defScope s_law_behind) .none kV18 dc18 pm18 an18 cd18 ct18), sl18⟩) (e18 : PySem.W.codeIn K cd18 "_law_behind" = true) (k18 : PySem.W.keepIn K (.ref f18) = true)
    (a19 : PySem.W.nsIn K mainGlobals "_law_meeting" = some (some (.ref f19))) (l19 : K.lookup f19 = some ⟨oc19, od19, .func (PySem.W.fnOf "_law_meeting" "_law_meeting" (defArgs s_law_meeting) (defBody s_law_meeting) (defScope s_law_meeting) .none kV19 dc19 pm19 an19 cd19 ct19), sl19⟩) (e19 : PySem.W.codeIn K cd19 "_law_meeting" = true) (k19 : PySem.W.keepIn K (.ref f19) = true)
    (a20 : PySem.W.nsIn K mainGlobals "_law_least_reset" = some (some (.ref f20))) (l20 : K.lookup f20 = some ⟨oc20, od20, .func (PySem.W.fnOf "_law_least_reset" "_law_least_reset" (defArgs s_law_least_reset) (defBody s_law_least_reset) (defScope s_law_least_reset) .none kV20 dc20 pm20 an20 cd20 ct20), sl20⟩) (e20 : PySem.W.codeIn K cd20 "_law_least_reset" = true) (k20 : PySem.W.keepIn K (.ref f20) = true)
    (a21 : PySem.W.nsIn K mainGlobals "_law_is_line" = some (some (.ref f21))) (l21 : K.lookup f21 = some ⟨oc21, od21, .func (PySem.W.fnOf "_law_is_line" "_law_is_line" (defArgs s_law_is_line) (defBody s_law_is_line) (defScope s_law_is_line) .none kV21 dc21 pm21 an21 cd21 ct21), sl21⟩) (e21 : PySem.W.codeIn K cd21 "_law_is_line" = true) (k21 : PySem.W.keepIn K (.ref f21) = true)
    (a22 : PySem.W.nsIn K mainGlobals "_law_accepts" = some (some (.ref f22))) (l22 : K.lookup f22 = some ⟨oc22, od22, .func (PySem.W.fnOf "_law_accepts" "_law_accepts" (defArgs s_law_accepts) (defBody s_law_accepts) (defScope s_law_accepts) .none kV22 dc22 pm22 an22 cd22 ct22), sl22⟩) (e22 : PySem.W.codeIn K cd22 "_law_accepts" = true) (k22 : PySem.W.keepIn K (.ref f22) = true)
    (a23 : PySem.W.nsIn K mainGlobals "_law_turned" = some (some (.ref f23))) (l23 : K.lookup f23 = some ⟨oc23, od23, .func (PySem.W.fnOf "_law_turned" "_law_turned" (defArgs s_law_turned) (defBody s_law_turned) (defScope s_law_turned) .none kV23 dc23 pm23 an23 cd23 ct23), sl23⟩) (e23 : PySem.W.codeIn K cd23 "_law_turned" = true) (k23 : PySem.W.keepIn K (.ref f23) = true)
    (a24 : PySem.W.nsIn K mainGlobals "law" = some (some (.ref f24))) (l24 : K.lookup f24 = some ⟨oc24, od24, .func (PySem.W.fnOf "law" "law" (defArgs s_law) (defBody s_law) (defScope s_law) .none kV24 dc24 pm24 an24 cd24 ct24), sl24⟩) (e24 : PySem.W.codeIn K cd24 "law" = true) (k24 : PySem.W.keepIn K (.ref f24) = true)
    (z_ValueError : PySem.W.nsIn K mainGlobals "ValueError" = some none)
    (z_bool : PySem.W.nsIn K mainGlobals "bool" = some none)
    (z_enumerate : PySem.W.nsIn K mainGlobals "enumerate" = some none)
    (z_int : PySem.W.nsIn K mainGlobals "int" = some none)
    (z_isinstance : PySem.W.nsIn K mainGlobals "isinstance" = some none)
    (z_len : PySem.W.nsIn K mainGlobals "len" = some none)
    (z_list : PySem.W.nsIn K mainGlobals "list" = some none)
    (z_max : PySem.W.nsIn K mainGlobals "max" = some none)
    (z_min : PySem.W.nsIn K mainGlobals "min" = some none)
    (z_range : PySem.W.nsIn K mainGlobals "range" = some none)
    (z_set : PySem.W.nsIn K mainGlobals "set" = some none)
    (z_sorted : PySem.W.nsIn K mainGlobals "sorted" = some none)
    (z_str : PySem.W.nsIn K mainGlobals "str" = some none)
    (z_tuple : PySem.W.nsIn K mainGlobals "tuple" = some none)
    (g_MOST_RESET : PySem.W.nsIn K mainGlobals "MOST_RESET" = some (some (.int 16 t_MOST_RESET)))
    (xa0 : PySem.W.nsIn K mainGlobals "TooWide" = some (some (.ref c0)))
    (xy0 : PySem.W.excIn K c0 [.type "ValueError", .type "Exception", .type "BaseException", .type "object"] "ValueError.__new__" = true)
    (xk0 : PySem.W.keepIn K (.ref c0) = true)
    (xb0 : PySem.W.subIn K (.ref c0) (.type "BaseException") = some true)
    (xt0 : PySem.W.typeIn K (.ref c0) = some (.type "type"))
    (xs0 : PySem.W.subIn K (.ref c0) (.ref c0) = some true)
    (xg0 : PySem.W.findIn K (.ref c0) "__getattribute__" = some (some (.builtin "BaseException.__getattribute__")))
    (xh0 : PySem.W.findIn K (.ref c0) "__getattr__" = some none)
    (xd0 : PySem.W.hasDictIn K c0 = true)
    (xc0 : PySem.W.findIn K (.ref c0) "__class__" = some (some (.builtin "object.__class__")))
    (xn0 : PySem.W.specialIn K (.builtin "object.__class__") "__get__" = some (some (.builtin "getset_descriptor.__get__")))
    (xm0 : PySem.W.takesIn K (.builtin "object.__class__") = some true)
    (xo0 : PySem.W.mroIn K c0 (.type "object") = some true)
    (xv0 : PySem.W.subIn K (.ref c0) (.type "ValueError") = some true)
    : ∃ fd : FuncData, (∀ (s : Shared) (u : Value), BindsTo s fd ⟨[u], []⟩ [("script", u)]) ∧ ∀ base : Heap, K.In base → base.Ns mainGlobals mg → FnOk P w K mg base CX0 6 fa fd ["script"] (spLaw K 63) := by
  have e := hfa.symm.trans (PySem.W.mg_of X G a24)
  cases e
  have F5 := fun_mk (st := s_least_reset) l5 e5 k5
  have b5 := F5.binds (ps := ["machine", "signs"]) fun _ _ _ _ _ _ us hl => match us, hl with | [_, _], _ => rfl
  have F6 := fun_mk (st := s_pair_behind) l6 e6 k6
  have b6 := F6.binds (ps := ["machine", "number", "pair"]) fun _ _ _ _ _ _ us hl => match us, hl with | [_, _, _], _ => rfl
  have F7 := fun_mk (st := s_never_meeting) l7 e7 k7
  have b7 := F7.binds (ps := ["machine", "signs"]) fun _ _ _ _ _ _ us hl => match us, hl with | [_, _], _ => rfl
  have F8 := fun_mk (st := s_reset) l8 e8 k8
  have b8 := F8.binds (ps := ["machine", "signs"]) fun _ _ _ _ _ _ us hl => match us, hl with | [_, _], _ => rfl
  have F9 := fun_mk (st := s_judge_reset) l9 e9 k9
  have b9 := F9.binds (ps := ["machine", "signs", "told"]) fun _ _ _ _ _ _ us hl => match us, hl with | [_, _, _], _ => rfl
  have F10 := fun_mk (st := s_is_line) l10 e10 k10
  have b10 := F10.binds (ps := ["machine", "line"]) fun _ _ _ _ _ _ us hl => match us, hl with | [_, _], _ => rfl
  have F12 := fun_mk (st := s_law_next) l12 e12 k12
  have b12 := F12.binds (ps := ["state", "limit"]) fun _ _ _ _ _ _ us hl => match us, hl with | [_, _], _ => rfl
  have F13 := fun_mk (st := s_law_same) l13 e13 k13
  have b13 := F13.binds (ps := ["actual", "expected"]) fun _ _ _ _ _ _ us hl => match us, hl with | [_, _], _ => rfl
  have F14 := fun_mk (st := s_law_signs) l14 e14 k14
  have b14 := F14.binds (ps := ["state"]) fun _ _ _ _ _ _ us hl => match us, hl with | [_], _ => rfl
  have F15 := fun_mk (st := s_law_machine) l15 e15 k15
  have b15 := F15.binds (ps := ["state", "signs"]) fun _ _ _ _ _ _ us hl => match us, hl with | [_, _], _ => rfl
  have F16 := fun_mk (st := s_law_line) l16 e16 k16
  have b16 := F16.binds (ps := ["machine", "signs", "line", "row"]) fun _ _ _ _ _ _ us hl => match us, hl with | [_, _, _, _], _ => rfl
  have F17 := fun_mk (st := s_law_row) l17 e17 k17
  have b17 := F17.binds (ps := ["state", "signs", "most"]) fun _ _ _ _ _ _ us hl => match us, hl with | [_, _, _], _ => rfl
  have F18 := fun_mk (st := s_law_behind) l18 e18 k18
  have b18 := F18.binds (ps := ["machine", "k", "pair"]) fun _ _ _ _ _ _ us hl => match us, hl with | [_, _, _], _ => rfl
  have F19 := fun_mk (st := s_law_meeting) l19 e19 k19
  have b19 := F19.binds (ps := ["machine", "signs"]) fun _ _ _ _ _ _ us hl => match us, hl with | [_, _], _ => rfl
  have F20 := fun_mk (st := s_law_least_reset) l20 e20 k20
  have b20 := F20.binds (ps := ["machine", "signs"]) fun _ _ _ _ _ _ us hl => match us, hl with | [_, _], _ => rfl
  have F21 := fun_mk (st := s_law_is_line) l21 e21 k21
  have b21 := F21.binds (ps := ["machine", "value"]) fun _ _ _ _ _ _ us hl => match us, hl with | [_, _], _ => rfl
  have F22 := fun_mk (st := s_law_accepts) l22 e22 k22
  have b22 := F22.binds (ps := ["machine", "signs", "told"]) fun _ _ _ _ _ _ us hl => match us, hl with | [_, _, _], _ => rfl
  have F23 := fun_mk (st := s_law_turned) l23 e23 k23
  have b23 := F23.binds (ps := ["state", "signs", "paper"]) fun _ _ _ _ _ _ us hl => match us, hl with | [_, _, _], _ => rfl
  have F24 := fun_mk (st := s_law) l24 e24 k24
  have b24 := F24.binds (ps := ["script"]) fun _ _ _ _ _ _ us hl => match us, hl with | [_], _ => rfl
  have T : Tx K mg (⟨f5, f6, f7, f8, f9, f10, f12, f13, f14, f15, f16, f17, f18, f19, f20, f21, f22, f23, fa, PySem.W.fnOf "least_reset" "least_reset" (defArgs s_least_reset) (defBody s_least_reset) (defScope s_least_reset) .none kV5 dc5 pm5 an5 cd5 ct5, PySem.W.fnOf "pair_behind" "pair_behind" (defArgs s_pair_behind) (defBody s_pair_behind) (defScope s_pair_behind) .none kV6 dc6 pm6 an6 cd6 ct6, PySem.W.fnOf "never_meeting" "never_meeting" (defArgs s_never_meeting) (defBody s_never_meeting) (defScope s_never_meeting) .none kV7 dc7 pm7 an7 cd7 ct7, PySem.W.fnOf "reset" "reset" (defArgs s_reset) (defBody s_reset) (defScope s_reset) .none kV8 dc8 pm8 an8 cd8 ct8, PySem.W.fnOf "judge_reset" "judge_reset" (defArgs s_judge_reset) (defBody s_judge_reset) (defScope s_judge_reset) .none kV9 dc9 pm9 an9 cd9 ct9, PySem.W.fnOf "is_line" "is_line" (defArgs s_is_line) (defBody s_is_line) (defScope s_is_line) .none kV10 dc10 pm10 an10 cd10 ct10, PySem.W.fnOf "_law_next" "_law_next" (defArgs s_law_next) (defBody s_law_next) (defScope s_law_next) .none kV12 dc12 pm12 an12 cd12 ct12, PySem.W.fnOf "_law_same" "_law_same" (defArgs s_law_same) (defBody s_law_same) (defScope s_law_same) .none kV13 dc13 pm13 an13 cd13 ct13, PySem.W.fnOf "_law_signs" "_law_signs" (defArgs s_law_signs) (defBody s_law_signs) (defScope s_law_signs) .none kV14 dc14 pm14 an14 cd14 ct14, PySem.W.fnOf "_law_machine" "_law_machine" (defArgs s_law_machine) (defBody s_law_machine) (defScope s_law_machine) .none kV15 dc15 pm15 an15 cd15 ct15, PySem.W.fnOf "_law_line" "_law_line" (defArgs s_law_line) (defBody s_law_line) (defScope s_law_line) .none kV16 dc16 pm16 an16 cd16 ct16, PySem.W.fnOf "_law_row" "_law_row" (defArgs s_law_row) (defBody s_law_row) (defScope s_law_row) .none kV17 dc17 pm17 an17 cd17 ct17, PySem.W.fnOf "_law_behind" "_law_behind" (defArgs s_law_behind) (defBody s_law_behind) (defScope s_law_behind) .none kV18 dc18 pm18 an18 cd18 ct18, PySem.W.fnOf "_law_meeting" "_law_meeting" (defArgs s_law_meeting) (defBody s_law_meeting) (defScope s_law_meeting) .none kV19 dc19 pm19 an19 cd19 ct19, PySem.W.fnOf "_law_least_reset" "_law_least_reset" (defArgs s_law_least_reset) (defBody s_law_least_reset) (defScope s_law_least_reset) .none kV20 dc20 pm20 an20 cd20 ct20, PySem.W.fnOf "_law_is_line" "_law_is_line" (defArgs s_law_is_line) (defBody s_law_is_line) (defScope s_law_is_line) .none kV21 dc21 pm21 an21 cd21 ct21, PySem.W.fnOf "_law_accepts" "_law_accepts" (defArgs s_law_accepts) (defBody s_law_accepts) (defScope s_law_accepts) .none kV22 dc22 pm22 an22 cd22 ct22, PySem.W.fnOf "_law_turned" "_law_turned" (defArgs s_law_turned) (defBody s_law_turned) (defScope s_law_turned) .none kV23 dc23 pm23 an23 cd23 ct23, PySem.W.fnOf "law" "law" (defArgs s_law) (defBody s_law) (defScope s_law) .none kV24 dc24 pm24 an24 cd24 ct24, 0, c0⟩ : Ad) := {
    z_ValueError := PySem.W.mg_none_of X G z_ValueError,
    z_bool := PySem.W.mg_none_of X G z_bool,
    z_enumerate := PySem.W.mg_none_of X G z_enumerate,
    z_int := PySem.W.mg_none_of X G z_int,
    z_isinstance := PySem.W.mg_none_of X G z_isinstance,
    z_len := PySem.W.mg_none_of X G z_len,
    z_list := PySem.W.mg_none_of X G z_list,
    z_max := PySem.W.mg_none_of X G z_max,
    z_min := PySem.W.mg_none_of X G z_min,
    z_range := PySem.W.mg_none_of X G z_range,
    z_set := PySem.W.mg_none_of X G z_set,
    z_sorted := PySem.W.mg_none_of X G z_sorted,
    z_str := PySem.W.mg_none_of X G z_str,
    z_tuple := PySem.W.mg_none_of X G z_tuple,
    g_MOST_RESET := ⟨_, PySem.W.mg_of X G g_MOST_RESET⟩,
    x_TooWide := ⟨xy0, PySem.W.mg_of X G xa0, xk0, xb0, xt0, xs0, ⟨xg0, xh0, xb0, xd0, xc0, xn0, xm0, xo0⟩, kit_of (by decide +kernel) xv0⟩,
    m_least_reset := PySem.W.mg_of X G a5, k_least_reset := k5, b_least_reset := b5, F_least_reset := F5,
    m_pair_behind := PySem.W.mg_of X G a6, k_pair_behind := k6, b_pair_behind := b6, F_pair_behind := F6,
    m_never_meeting := PySem.W.mg_of X G a7, k_never_meeting := k7, b_never_meeting := b7, F_never_meeting := F7,
    m_reset := PySem.W.mg_of X G a8, k_reset := k8, b_reset := b8, F_reset := F8,
    m_judge_reset := PySem.W.mg_of X G a9, k_judge_reset := k9, b_judge_reset := b9, F_judge_reset := F9,
    m_is_line := PySem.W.mg_of X G a10, k_is_line := k10, b_is_line := b10, F_is_line := F10,
    m_law_next := PySem.W.mg_of X G a12, k_law_next := k12, b_law_next := b12, F_law_next := F12,
    m_law_same := PySem.W.mg_of X G a13, k_law_same := k13, b_law_same := b13, F_law_same := F13,
    m_law_signs := PySem.W.mg_of X G a14, k_law_signs := k14, b_law_signs := b14, F_law_signs := F14,
    m_law_machine := PySem.W.mg_of X G a15, k_law_machine := k15, b_law_machine := b15, F_law_machine := F15,
    m_law_line := PySem.W.mg_of X G a16, k_law_line := k16, b_law_line := b16, F_law_line := F16,
    m_law_row := PySem.W.mg_of X G a17, k_law_row := k17, b_law_row := b17, F_law_row := F17,
    m_law_behind := PySem.W.mg_of X G a18, k_law_behind := k18, b_law_behind := b18, F_law_behind := F18,
    m_law_meeting := PySem.W.mg_of X G a19, k_law_meeting := k19, b_law_meeting := b19, F_law_meeting := F19,
    m_law_least_reset := PySem.W.mg_of X G a20, k_law_least_reset := k20, b_law_least_reset := b20, F_law_least_reset := F20,
    m_law_is_line := PySem.W.mg_of X G a21, k_law_is_line := k21, b_law_is_line := b21, F_law_is_line := F21,
    m_law_accepts := PySem.W.mg_of X G a22, k_law_accepts := k22, b_law_accepts := b22, F_law_accepts := F22,
    m_law_turned := PySem.W.mg_of X G a23, k_law_turned := k23, b_law_turned := b23, F_law_turned := F23,
    m_law := PySem.W.mg_of X G a24, k_law := k24, b_law := b24, F_law := F24 }
  exact ⟨PySem.W.fnOf "law" "law" (defArgs s_law) (defBody s_law) (defScope s_law) .none kV24 dc24 pm24 an24 cd24 ct24, fun s u => .of_eq rfl, fun base _ _ => ok_all T⟩
end K66
open PySem PySem.W PyProof.Rows
set_option maxRecDepth 100000 in
set_option maxHeartbeats 0 in
theorem PySem.Challenge.cw_chipgate_k66_resets_and_pairs_that_never_holds : PySem.Challenge.rw_chipgate_k66_resets_and_pairs_that_never.Holds := by
  w_on; o_law; k_head; (case hw => w_witness2)
  k_fill
  refine L2.walk_ofK (l := PySem.Challenge.rw_chipgate_k66_resets_and_pairs_that_never) (n := 63) (k := 6) (CX := L2.CX0) (x := "script") (sp := fun K => DL.spLaw K 63) rfl (by decide) rfl ⟨rfl, by decide, by decide⟩ (fun w h Y => PySem.W.kIn_of Y) ?F ?S (fun _ _ _ _ z => z)
  case F =>
    intro w mg fa h KX G hmg
    refine' K66.all_mk KX G hmg ?a5 ?l5 ?e5 ?k5 ?a6 ?l6 ?e6 ?k6 ?a7 ?l7 ?e7 ?k7 ?a8 ?l8 ?e8 ?k8 ?a9 ?l9 ?e9 ?k9 ?a10 ?l10 ?e10 ?k10 ?a12 ?l12 ?e12 ?k12 ?a13 ?l13 ?e13 ?k13 ?a14 ?l14 ?e14 ?k14 ?a15 ?l15 ?e15 ?k15 ?a16 ?l16 ?e16 ?k16 ?a17 ?l17 ?e17 ?k17 ?a18 ?l18 ?e18 ?k18 ?a19 ?l19 ?e19 ?k19 ?a20 ?l20 ?e20 ?k20 ?a21 ?l21 ?e21 ?k21 ?a22 ?l22 ?e22 ?k22 ?a23 ?l23 ?e23 ?k23 ?a24 ?l24 ?e24 ?k24 ?z_ValueError ?z_bool ?z_enumerate ?z_int ?z_isinstance ?z_len ?z_list ?z_max ?z_min ?z_range ?z_set ?z_sorted ?z_str ?z_tuple ?g_MOST_RESET ?xa0 ?xy0 ?xk0 ?xb0 ?xt0 ?xs0 ?xg0 ?xh0 ?xd0 ?xc0 ?xn0 ?xm0 ?xo0 ?xv0
    (case a5 => k_is)
    (case l5 => k_is)
    (case e5 => k_is)
    (case k5 => k_is)
    (case a6 => k_is)
    (case l6 => k_is)
    (case e6 => k_is)
    (case k6 => k_is)
    (case a7 => k_is)
    (case l7 => k_is)
    (case e7 => k_is)
    (case k7 => k_is)
    (case a8 => k_is)
    (case l8 => k_is)
    (case e8 => k_is)
    (case k8 => k_is)
    (case a9 => k_is)
    (case l9 => k_is)
    (case e9 => k_is)
    (case k9 => k_is)
    (case a10 => k_is)
    (case l10 => k_is)
    (case e10 => k_is)
    (case k10 => k_is)
    (case a12 => k_is)
    (case l12 => k_is)
    (case e12 => k_is)
    (case k12 => k_is)
    (case a13 => k_is)
    (case l13 => k_is)
    (case e13 => k_is)
    (case k13 => k_is)
    (case a14 => k_is)
    (case l14 => k_is)
    (case e14 => k_is)
    (case k14 => k_is)
    (case a15 => k_is)
    (case l15 => k_is)
    (case e15 => k_is)
    (case k15 => k_is)
    (case a16 => k_is)
    (case l16 => k_is)
    (case e16 => k_is)
    (case k16 => k_is)
    (case a17 => k_is)
    (case l17 => k_is)
    (case e17 => k_is)
    (case k17 => k_is)
    (case a18 => k_is)
    (case l18 => k_is)
    (case e18 => k_is)
    (case k18 => k_is)
    (case a19 => k_is)
    (case l19 => k_is)
    (case e19 => k_is)
    (case k19 => k_is)
    (case a20 => k_is)
    (case l20 => k_is)
    (case e20 => k_is)
    (case k20 => k_is)
    (case a21 => k_is)
    (case l21 => k_is)
    (case e21 => k_is)
    (case k21 => k_is)
    (case a22 => k_is)
    (case l22 => k_is)
    (case e22 => k_is)
    (case k22 => k_is)
    (case a23 => k_is)
    (case l23 => k_is)
    (case e23 => k_is)
    (case k23 => k_is)
    (case a24 => k_is)
    (case l24 => k_is)
    (case e24 => k_is)
    (case k24 => k_is)
    (case z_ValueError => k_is)
    (case z_bool => k_is)
    (case z_enumerate => k_is)
    (case z_int => k_is)
    (case z_isinstance => k_is)
    (case z_len => k_is)
    (case z_list => k_is)
    (case z_max => k_is)
    (case z_min => k_is)
    (case z_range => k_is)
    (case z_set => k_is)
    (case z_sorted => k_is)
    (case z_str => k_is)
    (case z_tuple => k_is)
    (case g_MOST_RESET => k_is)
    (case xa0 => k_is)
    (case xy0 => k_exc)
    (case xk0 => k_is)
    (case xb0 => k_is)
    (case xt0 => k_is)
    (case xs0 => first | rfl | k_is)
    (case xg0 => k_is)
    (case xh0 => k_is)
    (case xd0 => k_is)
    (case xc0 => k_is)
    (case xn0 => k_is)
    (case xm0 => k_is)
    (case xo0 => k_is)
    (case xv0 => k_is)
  case S => exact fun K H a ns hl _ hs => ⟨a, ns, rfl, hl, hs, fun _ => rfl⟩
