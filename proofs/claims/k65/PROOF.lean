import PyProof.Rows.All
import Wide.All
import OpenK.AllK
import Wide.FinOn
import HandS.ForMost
import HandS.Deep
import HandS.TupAny
import HandS.Style
import HandS.IsInst
import HandS.SortInts
import HandS.SortRule
import HandS.Replace
import HandS.Strs
import HandS.SetFor
import HandS.Zip
import HandS.Conv
import HandS.DictTup
import KE.GoesMore
import KE.GoesEnum
import HandS.ExcIs
import HandS.WordsExc
import HandS.TryOnly
import KE.KDictDisplayH
import PyProof.StrOps2
import KE.SortData
import KE.DataMinMax
import KE.DataCmp
import HandS.StrMore
import HandS.RevRange
import HandS.Text
import PySem.Challenge.RW_chipgate_k65_codes_by_what_is_left_over
set_option Elab.async false
set_option linter.all false
set_option maxRecDepth 100000
set_option maxHeartbeats 4000000
/-! DL: a calculus over plain data (PyData) on top of the hand layer: what an expression, a statement does, told without addresses -/
namespace DL
open PySem L2
abbrev Fr := PySem.W.Frag

/-! ### heaps -/
def Ex (H H' : Hp) : Prop := ∀ b o, H b = some o → H' b = some o
theorem Ex.refl (H : Hp) : Ex H H := fun _ _ h => h
theorem Ex.trans {H H1 H2 : Hp} (a : Ex H H1) (b : Ex H1 H2) : Ex H H2 := fun c o h => b c o (a c o h)
theorem Ex.new {H : Hp} {p : Addr} {o : HO} (h : H p = none) : Ex H (upd H p o) := fun a u e => by
  rw [upd_ne (ne_of_none e h)]
  exact e
theorem Ex.free {H H' : Hp} (e : Ex H H') {l : Addr} (h : H' l = none) : H l = none := by
  cases q : H l with
  | none => rfl
  | some o =>
    rw [e l o q] at h
    cases h
/-- both grow by the same -/
theorem Ex.both {F H : Hp} (e : Ex F H) (p : Addr) (o : HO) : Ex (upd F p o) (upd H p o) := fun a u h => by
  by_cases ha : a = p
  · subst ha
    rw [upd_same] at h
    rw [upd_same, h]
  · rw [upd_ne ha] at h
    rw [upd_ne ha]
    exact e a u h
/-- what is not frozen changes -/
theorem Ex.mut {F H : Hp} (e : Ex F H) {p : Addr} (h : F p = none) (o : HO) : Ex F (upd H p o) := fun a u q => by
  rw [upd_ne (ne_of_none q h)]
  exact e a u q
/-- what stands is frozen -/
theorem Ex.frz {F H : Hp} (e : Ex F H) {p : Addr} {o : HO} (h : H p = some o) : Ex (upd F p o) H := fun a u q => by
  by_cases ha : a = p
  · subst ha
    rw [upd_same] at q
    rw [h, q]
  · rw [upd_ne ha] at q
    exact e a u q
theorem rd_mono {H H' : Hp} {a : Addr} {u : HO} (e : Ex H H') (h : Rd H a u) : Rd H' a u := by
  rcases h with h | ⟨o, h⟩
  · exact .inl (e a _ h)
  · exact .inr ⟨o, e a _ h⟩
theorem sl_mono {K : Fr} {H H' : Hp} {a : Addr} {xs : List V} (e : Ex H H') (h : SqL K H a xs) : SqL K H' a xs := by
  rcases h with h | h
  · exact .inl (rd_mono e h)
  · exact .inr h
theorem st_mono {K : Fr} {H H' : Hp} {a : Addr} {xs : List V} (e : Ex H H') (h : SqT K H a xs) : SqT K H' a xs := by
  rcases h with h | h
  · exact .inl (rd_mono e h)
  · exact .inr h
mutual
/-- v is the data d: its lists and tuples stand in H themselves -/
inductive Dq (K : Fr) (H : Hp) : V → PyData → Prop
  | non : Dq K H .non .none
  | bl (b : Bool) : Dq K H (.bl b) (.bool b)
  | int (i : Int) : Dq K H (.int i) (.int i)
  | str (x : Str) : Dq K H (.str x) (.str x)
  | lst {a : Addr} {xs : List V} {ds : List PyData} : H a = some (.lst xs) → DqAll K H xs ds → Dq K H (.ref a) (.list ds)
  | tup {a : Addr} {xs : List V} {ds : List PyData} : H a = some (.tup xs) → DqAll K H xs ds → Dq K H (.ref a) (.tuple ds)
inductive DqAll (K : Fr) (H : Hp) : List V → List PyData → Prop
  | nil : DqAll K H [] []
  | cons {v : V} {vs : List V} {d : PyData} {ds : List PyData} : Dq K H v d → DqAll K H vs ds → DqAll K H (v :: vs) (d :: ds)
end
mutual
theorem dq_dp {K : Fr} {H : Hp} : ∀ {v : V} {d : PyData}, Dq K H v d → L2.Dp K H v d
  | _, _, .non => .non
  | _, _, .bl b => .bl b
  | _, _, .int i => .int i
  | _, _, .str x => .str x
  | _, _, .lst h a => .lst (SqL.of h) (dqa_dp a)
  | _, _, .tup h a => .tup (SqT.of h) (dqa_dp a)
theorem dqa_dp {K : Fr} {H : Hp} : ∀ {vs : List V} {ds : List PyData}, DqAll K H vs ds → L2.DpAll K H vs ds
  | _, _, .nil => .nil
  | _, _, .cons h a => .cons (dq_dp h) (dqa_dp a)
end
mutual
theorem dp_mono {K : Fr} {H H' : Hp} (e : Ex H H') : ∀ {v : V} {d : PyData}, Dq K H v d → Dq K H' v d
  | _, _, .non => .non
  | _, _, .bl b => .bl b
  | _, _, .int i => .int i
  | _, _, .str x => .str x
  | _, _, .lst h a => .lst (e _ _ h) (da_mono e a)
  | _, _, .tup h a => .tup (e _ _ h) (da_mono e a)
theorem da_mono {K : Fr} {H H' : Hp} (e : Ex H H') : ∀ {vs : List V} {ds : List PyData}, DqAll K H vs ds → DqAll K H' vs ds
  | _, _, .nil => .nil
  | _, _, .cons h a => .cons (dp_mono e h) (da_mono e a)
end
section
variable {K : Fr} {H : Hp}
theorem da_len : ∀ {vs : List V} {ds : List PyData}, DqAll K H vs ds → vs.length = ds.length
  | _, _, .nil => rfl
  | _, _, .cons _ a => congrArg (· + 1) (da_len a)
theorem da_app : ∀ {vs ws : List V} {ds es : List PyData}, DqAll K H vs ds → DqAll K H ws es → DqAll K H (vs ++ ws) (ds ++ es)
  | _, _, _, _, .nil, b => b
  | _, _, _, _, .cons h a, b => .cons h (da_app a b)
theorem da_get : ∀ {vs : List V} {ds : List PyData} {i : Nat} {d : PyData}, DqAll K H vs ds → ds[i]? = some d → ∃ v, vs[i]? = some v ∧ Dq K H v d
  | _, _, _, _, .nil, e => by simp at e
  | _, _, 0, _, .cons h _, e => by
    simp at e
    subst e
    exact ⟨_, rfl, h⟩
  | _, _, i + 1, _, .cons _ a, e => by
    obtain ⟨v, h1, h2⟩ := da_get (i := i) a (by simpa using e)
    exact ⟨v, by simpa using h1, h2⟩
theorem da_get' : ∀ {vs : List V} {ds : List PyData} {i : Nat} {v : V}, DqAll K H vs ds → vs[i]? = some v → ∃ d, ds[i]? = some d ∧ Dq K H v d
  | _, _, _, _, .nil, e => by simp at e
  | _, _, 0, _, .cons h _, e => by
    simp at e
    subst e
    exact ⟨_, rfl, h⟩
  | _, _, i + 1, _, .cons _ a, e => by
    obtain ⟨v, h1, h2⟩ := da_get' (i := i) a (by simpa using e)
    exact ⟨v, by simpa using h1, h2⟩
theorem da_set : ∀ {vs : List V} {ds : List PyData} (i : Nat) {v : V} {d : PyData}, DqAll K H vs ds → Dq K H v d → DqAll K H (vs.set i v) (ds.set i d)
  | _, _, _, _, _, .nil, _ => .nil
  | _, _, 0, _, _, .cons _ a, h => .cons h a
  | _, _, i + 1, _, _, .cons h a, h' => .cons h (da_set i a h')
theorem da_take : ∀ {vs : List V} {ds : List PyData} (n : Nat), DqAll K H vs ds → DqAll K H (vs.take n) (ds.take n)
  | _, _, 0, _ => .nil
  | _, _, _ + 1, .nil => .nil
  | _, _, n + 1, .cons h a => .cons h (da_take n a)
theorem da_drop : ∀ {vs : List V} {ds : List PyData} (n : Nat), DqAll K H vs ds → DqAll K H (vs.drop n) (ds.drop n)
  | _, _, 0, a => a
  | _, _, _ + 1, .nil => .nil
  | _, _, n + 1, .cons _ a => da_drop n a
theorem da_erase : ∀ {vs : List V} {ds : List PyData} (i : Nat), DqAll K H vs ds → DqAll K H (vs.eraseIdx i) (ds.eraseIdx i)
  | _, _, _, .nil => .nil
  | _, _, 0, .cons _ a => a
  | _, _, i + 1, .cons h a => .cons h (da_erase i a)
theorem da_rev : ∀ {vs : List V} {ds : List PyData}, DqAll K H vs ds → DqAll K H vs.reverse ds.reverse
  | _, _, .nil => .nil
  | _, _, .cons h a => by
    rw [List.reverse_cons, List.reverse_cons]
    exact da_app (da_rev a) (.cons h .nil)
theorem da_ints : ∀ ns : List Int, DqAll K H (ns.map V.int) (ns.map PyData.int)
  | [] => .nil
  | n :: r => .cons (.int n) (da_ints r)
theorem da_strs : ∀ ns : List Str, DqAll K H (ns.map V.str) (ns.map PyData.str)
  | [] => .nil
  | n :: r => .cons (.str n) (da_strs r)
theorem da_bls : ∀ ns : List Bool, DqAll K H (ns.map V.bl) (ns.map PyData.bool)
  | [] => .nil
  | n :: r => .cons (.bl n) (da_bls r)
theorem da_ints_eq : ∀ {vs : List V} {ns : List Int}, DqAll K H vs (ns.map PyData.int) → vs = ns.map V.int
  | _, [], .nil => rfl
  | _, n :: r, .cons h a => by
    cases h
    rw [da_ints_eq a]
    rfl
theorem da_strs_eq : ∀ {vs : List V} {ns : List Str}, DqAll K H vs (ns.map PyData.str) → vs = ns.map V.str
  | _, [], .nil => rfl
  | _, n :: r, .cons h a => by
    cases h
    rw [da_strs_eq a]
    rfl
theorem da_bls_eq : ∀ {vs : List V} {ns : List Bool}, DqAll K H vs (ns.map PyData.bool) → vs = ns.map V.bl
  | _, [], .nil => rfl
  | _, n :: r, .cons h a => by
    cases h
    rw [da_bls_eq a]
    rfl
theorem dp_int {v : V} {i : Int} (h : Dq K H v (.int i)) : v = .int i := by cases h; rfl
theorem dp_str {v : V} {i : Str} (h : Dq K H v (.str i)) : v = .str i := by cases h; rfl
theorem dp_bl {v : V} {i : Bool} (h : Dq K H v (.bool i)) : v = .bl i := by cases h; rfl
theorem dp_non {v : V} (h : Dq K H v .none) : v = .non := by cases h; rfl
theorem dp_lst {v : V} {ds : List PyData} (h : Dq K H v (.list ds)) : ∃ a vs, v = .ref a ∧ H a = some (.lst vs) ∧ DqAll K H vs ds := by
  cases h with
  | lst s a => exact ⟨_, _, rfl, s, a⟩
theorem dp_tup {v : V} {ds : List PyData} (h : Dq K H v (.tuple ds)) : ∃ a vs, v = .ref a ∧ H a = some (.tup vs) ∧ DqAll K H vs ds := by
  cases h with
  | tup s a => exact ⟨_, _, rfl, s, a⟩
end

/-! ### what a slot holds -/
structure Orel where
  rel : Hp → Hp → V → (Addr → Prop) → Prop
  stab : ∀ {F H F' H' : Hp} {v : V} {A : Addr → Prop}, rel F H v A → Ex F F' → (∀ a, A a → H' a = H a) → rel F' H' v A
/-- d: frozen data; o: a list that this def alone has (q: its address, where it is told); t: a dict (keys are tuples) that it alone has; k: keys are ints, texts; ow: anything else that it alone has -/
inductive Sl where
  | un
  | d (d : PyData)
  | o (q : Option Addr) (ds : List PyData)
  | t (kvs : List (List Key × PyData))
  | k (q : Option Addr) (kvs : List (Key × PyData))
  | ow (R : Orel)
abbrev En := List Sl
def SvR (K : Fr) (F H : Hp) (v : V) (A : Addr → Prop) : Sl → Prop
  | .un => True
  | .d d => Dq K F v d
  | .o q ds => ∃ p vs, v = .ref p ∧ H p = some (.lst vs) ∧ DqAll K F vs ds ∧ A p ∧ ∀ a, q = some a → p = a
  | .t kvs => ∃ p kws, v = .ref p ∧ H p = some (.dT kws) ∧ kws.map (·.1) = kvs.map (·.1) ∧ DqAll K F (kws.map (·.2)) (kvs.map (·.2)) ∧ A p
  | .k q kvs => ∃ p kws, v = .ref p ∧ H p = some (.dK kws) ∧ kws.map (·.1) = kvs.map (·.1) ∧ DqAll K F (kws.map (·.2)) (kvs.map (·.2)) ∧ A p ∧ ∀ a, q = some a → p = a
  | .ow R => R.rel F H v A
theorem slr_stab {K : Fr} {F H F' H' : Hp} {v : V} {A : Addr → Prop} : ∀ {s : Sl}, SvR K F H v A s → Ex F F' → (∀ a, A a → H' a = H a) → SvR K F' H' v A s
  | .un, _, _, _ => trivial
  | .d _, h, e, _ => dp_mono e h
  | .o _ _, ⟨p, vs, h1, h2, h3, h4, h5⟩, e, k => ⟨p, vs, h1, by rw [k p h4]; exact h2, da_mono e h3, h4, h5⟩
  | .t _, ⟨p, vs, h1, h2, h3, h5, h4⟩, e, k => ⟨p, vs, h1, by rw [k p h4]; exact h2, h3, da_mono e h5, h4⟩
  | .k _ _, ⟨p, vs, h1, h2, h3, h5, h4, h6⟩, e, k => ⟨p, vs, h1, by rw [k p h4]; exact h2, h3, da_mono e h5, h4, h6⟩
  | .ow R, h, e, k => R.stab h e k

/-- F0, H0: what was frozen, what stood at the def's entry; mu: what it may change of it -/
structure Bs where
  F0 : Hp
  H0 : Hp
  mu : Addr → Prop
structure Iv (K : Fr) (B : Bs) (G : En) (S : St) (F H : Hp) : Prop where
  ex : Ex F H
  f0 : Ex B.F0 F
  fr : ∀ b o, B.H0 b = some o → ¬ B.mu b → H b = some o
  nw : ∀ b o, F b = some o → B.H0 b ≠ none → B.F0 b ≠ none ∨ B.mu b
  st : ∀ b, B.H0 b ≠ none → H b ≠ none
  len : S.length = G.length
  own : ∃ A : Nat → Addr → Prop, (∀ i s, G[i]? = some s → s = .un ∨ ∃ v, S[i]? = some (some v) ∧ SvR K F H v (A i) s) ∧ (∀ i j a, A i a → A j a → i = j) ∧
    (∀ i a, A i a → F a = none ∧ H a ≠ none ∧ (B.H0 a = none ∨ B.mu a))
section
variable {K : Fr} {B : Bs} {G : En} {S : St} {F H F' H' : Hp} {v : V} {d : PyData} {p : Addr}
theorem Iv.dat (I : Iv K B G S F H) {i : Nat} (h : G[i]? = some (.d d)) : ∃ v, S[i]? = some (some v) ∧ Dq K F v d := by
  obtain ⟨A, h1, _, _⟩ := I.own
  rcases h1 i _ h with e | h1
  · cases e
  · exact h1
theorem Iv.lst (I : Iv K B G S F H) {i : Nat} {q : Option Addr} {ds : List PyData} (h : G[i]? = some (.o q ds)) : ∃ p vs, S[i]? = some (some (.ref p)) ∧ H p = some (.lst vs) ∧ F p = none ∧ DqAll K F vs ds := by
  obtain ⟨A, h1, _, h3⟩ := I.own
  rcases h1 i _ h with e | ⟨v, h1, p, vs, rfl, h5, h6, h7, _⟩
  · cases e
  · exact ⟨p, vs, h1, h5, (h3 i p h7).1, h6⟩
theorem Iv.new0 (I : Iv K B G S F H) (hp : H p = none) : B.H0 p = none := by
  cases q : B.H0 p with
  | none => rfl
  | some o => exact absurd hp (I.st p (by rw [q]; intro z; cases z))
theorem Iv.fnone (I : Iv K B G S F H) (hp : H p = none) : F p = none := I.ex.free hp
theorem set_same {G : En} {s s' : Sl} {i : Nat} (hj : (G.set i s)[i]? = some s') : s' = s ∧ i < G.length := by
  have hl : i < G.length := by
    have := (List.getElem?_eq_some_iff.mp hj).1
    simpa using this
  rw [List.getElem?_set_self hl] at hj
  exact ⟨(Option.some.inj hj).symm, hl⟩
/-- a slot gets data -/
theorem Iv.set_d (I : Iv K B G S F H) (i : Nat) (h : Dq K F v d) : Iv K B (G.set i (.d d)) (S.set i (some v)) F H := by
  obtain ⟨A, h1, h2, h3⟩ := I.own
  refine ⟨I.ex, I.f0, I.fr, I.nw, I.st, by simpa using I.len, A, fun j s hj => ?_, h2, h3⟩
  by_cases e : i = j
  · subst e
    obtain ⟨rfl, hl⟩ := set_same hj
    exact .inr ⟨v, List.getElem?_set_self (by rw [I.len]; exact hl), h⟩
  · rw [List.getElem?_set_ne e] at hj
    rw [List.getElem?_set_ne e]
    exact h1 j s hj
/-- a slot is forgotten -/
theorem Iv.set_un (I : Iv K B G S F H) (i : Nat) (x : Option V) : Iv K B (G.set i .un) (S.set i x) F H := by
  obtain ⟨A, h1, h2, h3⟩ := I.own
  refine ⟨I.ex, I.f0, I.fr, I.nw, I.st, by simpa using I.len, A, fun j s hj => ?_, h2, h3⟩
  by_cases e : i = j
  · subst e
    exact .inl (set_same hj).1
  · rw [List.getElem?_set_ne e] at hj
    rw [List.getElem?_set_ne e]
    exact h1 j s hj
/-- F grows by objects that no slot has -/
theorem Iv.grow (I : Iv K B G S F H) (eF : Ex F F') (eH : Ex H H') (ex : Ex F' H') (nw : ∀ b o, F' b = some o → F b = none → H b = none) : Iv K B G S F' H' := by
  obtain ⟨A, h1, h2, h3⟩ := I.own
  have hs : ∀ i a, A i a → F' a = none ∧ H' a = H a := fun i a ha => by
    obtain ⟨x, y, _⟩ := h3 i a ha
    refine ⟨?_, ?_⟩
    · cases q : F' a with
      | none => rfl
      | some o => exact absurd (nw a o q x) y
    · cases q : H a with
      | none => exact absurd q y
      | some o => exact eH a o q
  refine ⟨ex, I.f0.trans eF, fun b o h m => eH b o (I.fr b o h m), fun b o h n => ?_, fun b h => ?_, I.len, A, fun i s hi => ?_, h2, fun i a ha => ?_⟩
  · cases q : F b with
    | some u => exact I.nw b u q n
    | none => exact absurd (I.new0 (nw b o h q)) n
  · intro z
    exact I.st b h (Ex.free eH z)
  · rcases h1 i s hi with z | ⟨u, z1, z2⟩
    · exact .inl z
    · exact .inr ⟨u, z1, slr_stab z2 eF fun a ha => (hs i a ha).2⟩
  · refine ⟨(hs i a ha).1, ?_, (h3 i a ha).2.2⟩
    rw [(hs i a ha).2]
    exact (h3 i a ha).2.1
/-- a new object, frozen -/
theorem Iv.newF (I : Iv K B G S F H) (hp : H p = none) (o : HO) : Iv K B G S (upd F p o) (upd H p o) := by
  refine I.grow (Ex.new (I.fnone hp)) (Ex.new hp) (I.ex.both p o) fun b u h n => ?_
  by_cases e : b = p
  · subst e
    exact hp
  · rw [upd_ne e] at h
    rw [h] at n
    cases n
/-- a new object that nobody has -/
theorem Iv.newH (I : Iv K B G S F H) (hp : H p = none) (o : HO) : Iv K B G S F (upd H p o) := by
  refine I.grow (Ex.refl F) (Ex.new hp) (I.ex.trans (Ex.new hp)) fun b u h n => ?_
  rw [h] at n
  cases n
theorem app_get {α : Type} {G : List α} {s s' : α} {i : Nat} (h : (G ++ [s])[i]? = some s') : (i < G.length ∧ G[i]? = some s') ∨ (i = G.length ∧ s' = s) := by
  by_cases hi : i < G.length
  · rw [List.getElem?_append_left hi] at h
    exact .inl ⟨hi, h⟩
  · rw [List.getElem?_append_right (by omega)] at h
    have h2 : i - G.length < 1 := by
      have := (List.getElem?_eq_some_iff.mp h).1
      simpa using this
    have e : i - G.length = 0 := by omega
    rw [e] at h
    exact .inr ⟨by omega, (Option.some.inj h).symm⟩
/-- the last slot is dropped -/
theorem Iv.drop {s : Sl} {x : Option V} (I : Iv K B (G ++ [s]) (S ++ [x]) F H) : Iv K B G S F H := by
  obtain ⟨A, h1, h2, h3⟩ := I.own
  have hl : S.length = G.length := by
    have := I.len
    simpa using this
  refine ⟨I.ex, I.f0, I.fr, I.nw, I.st, hl, A, fun i s hi => ?_, h2, h3⟩
  have hlt := (List.getElem?_eq_some_iff.mp hi).1
  rcases h1 i s (by rw [List.getElem?_append_left hlt]; exact hi) with z | ⟨u, z1, z2⟩
  · exact .inl z
  · exact .inr ⟨u, by rw [List.getElem?_append_left (by omega)] at z1; exact z1, z2⟩
/-- the last slot's thing goes to slot i -/
theorem Iv.move {s : Sl} {x : Option V} (I : Iv K B (G ++ [s]) (S ++ [x]) F H) (i : Nat) : Iv K B (G.set i s) (S.set i x) F H := by
  obtain ⟨A, h1, h2, h3⟩ := I.own
  have hl : S.length = G.length := by
    have := I.len
    simpa using this
  refine ⟨I.ex, I.f0, I.fr, I.nw, I.st, by simpa using hl, fun j a => (j = i ∧ A G.length a) ∨ (j ≠ i ∧ j < G.length ∧ A j a), fun j s' hj => ?_, fun j k a ha hb => ?_, fun j a ha => ?_⟩
  · by_cases e : i = j
    · subst e
      obtain ⟨rfl, hl2⟩ := set_same hj
      rcases h1 G.length s' (by simp) with z | ⟨u, z1, z2⟩
      · exact .inl z
      · refine .inr ⟨u, ?_, ?_⟩
        · rw [← hl] at z1
          have : (S ++ [x])[S.length]? = some x := by simp
          rw [this] at z1
          rw [List.getElem?_set_self (by omega)]
          exact z1
        · have ea : (fun a => (i = i ∧ A G.length a) ∨ (i ≠ i ∧ i < G.length ∧ A i a)) = A G.length := by
            funext a
            exact propext ⟨fun z => z.elim (fun z => z.2) fun z => absurd rfl z.1, fun z => .inl ⟨rfl, z⟩⟩
          show SvR K F H u (fun a => (i = i ∧ A G.length a) ∨ (i ≠ i ∧ i < G.length ∧ A i a)) s'
          rw [ea]
          exact z2
    · rw [List.getElem?_set_ne e] at hj
      have hlt := (List.getElem?_eq_some_iff.mp hj).1
      rcases h1 j s' (by rw [List.getElem?_append_left hlt]; exact hj) with z | ⟨u, z1, z2⟩
      · exact .inl z
      · refine .inr ⟨u, ?_, ?_⟩
        · rw [List.getElem?_append_left (by omega)] at z1
          rw [List.getElem?_set_ne e]
          exact z1
        · have ea : (fun a => (j = i ∧ A G.length a) ∨ (j ≠ i ∧ j < G.length ∧ A j a)) = A j := by
            funext a
            exact propext ⟨fun z => z.elim (fun z => absurd z.1 (Ne.symm e)) fun z => z.2.2, fun z => .inr ⟨Ne.symm e, hlt, z⟩⟩
          show SvR K F H u (fun a => (j = i ∧ A G.length a) ∨ (j ≠ i ∧ j < G.length ∧ A j a)) s'
          rw [ea]
          exact z2
  · rcases ha with ⟨e1, q1⟩ | ⟨e1, l1, q1⟩ <;> rcases hb with ⟨e2, q2⟩ | ⟨e2, l2, q2⟩
    · rw [e1, e2]
    · have := h2 _ _ _ q1 q2
      omega
    · have := h2 _ _ _ q1 q2
      omega
    · exact h2 _ _ _ q1 q2
  · rcases ha with ⟨e1, q1⟩ | ⟨e1, l1, q1⟩
    · exact h3 _ _ q1
    · exact h3 _ _ q1
/-- what stands grows; a new thing is the last slot's -/
theorem Iv.add {s : Sl} (I : Iv K B G S F H) (eF : Ex F F') (eH : Ex H H') (ex : Ex F' H') (nw : ∀ b o, F' b = some o → F b = none → H b = none) (x : Option V) (A0 : Addr → Prop) (hr : s = .un ∨ ∃ v, x = some v ∧ SvR K F' H' v A0 s)
    (hn : ∀ a, A0 a → H a = none ∧ F' a = none ∧ H' a ≠ none) : Iv K B (G ++ [s]) (S ++ [x]) F' H' := by
  obtain ⟨A, h1, h2, h3⟩ := I.own
  have hs : ∀ i a, A i a → F' a = none ∧ H' a = H a := fun i a ha => by
    obtain ⟨x, y, _⟩ := h3 i a ha
    refine ⟨?_, ?_⟩
    · cases q : F' a with
      | none => rfl
      | some o => exact absurd (nw a o q x) y
    · cases q : H a with
      | none => exact absurd q y
      | some o => exact eH a o q
  have Ig := I.grow eF eH ex nw
  refine ⟨ex, Ig.f0, Ig.fr, Ig.nw, Ig.st, by simp [I.len], fun j a => (j < G.length ∧ A j a) ∨ (j = G.length ∧ A0 a), fun i s' hi => ?_, fun j k a ha hb => ?_, fun i a ha => ?_⟩
  · rcases app_get hi with ⟨hl, h⟩ | ⟨hl, e⟩
    · rcases h1 i s' h with z | ⟨u, z1, z2⟩
      · exact .inl z
      · refine .inr ⟨u, by rw [List.getElem?_append_left (by rw [I.len]; exact hl)]; exact z1, ?_⟩
        have ea : (fun a => (i < G.length ∧ A i a) ∨ (i = G.length ∧ A0 a)) = A i := by
          funext a
          exact propext ⟨fun z => z.elim (fun z => z.2) fun z => by omega, fun z => .inl ⟨hl, z⟩⟩
        show SvR K F' H' u (fun a => (i < G.length ∧ A i a) ∨ (i = G.length ∧ A0 a)) s'
        rw [ea]
        exact slr_stab z2 eF fun a ha => (hs i a ha).2
    · subst e hl
      rcases hr with z | ⟨v, e, z⟩
      · exact .inl z
      · refine .inr ⟨v, ?_, ?_⟩
        · rw [← I.len, e]
          simp
        · have ea : (fun a => (G.length < G.length ∧ A G.length a) ∨ (G.length = G.length ∧ A0 a)) = A0 := by
            funext a
            exact propext ⟨fun z => z.elim (fun z => by omega) fun z => z.2, fun z => .inr ⟨rfl, z⟩⟩
          show SvR K F' H' v (fun a => (G.length < G.length ∧ A G.length a) ∨ (G.length = G.length ∧ A0 a)) s'
          rw [ea]
          exact z
  · rcases ha with ⟨l1, q1⟩ | ⟨e1, q1⟩ <;> rcases hb with ⟨l2, q2⟩ | ⟨e2, q2⟩
    · exact h2 _ _ _ q1 q2
    · exact absurd (hn a q2).1 (h3 _ _ q1).2.1
    · exact absurd (hn a q1).1 (h3 _ _ q2).2.1
    · rw [e1, e2]
  · rcases ha with ⟨l1, q1⟩ | ⟨e1, q1⟩
    · refine ⟨(hs i a q1).1, ?_, (h3 i a q1).2.2⟩
      rw [(hs i a q1).2]
      exact (h3 i a q1).2.1
    · exact ⟨(hn a q1).2.1, (hn a q1).2.2, .inl (I.new0 (hn a q1).1)⟩
/-- a new list, this def's own -/
theorem Iv.newL {vs : List V} {ds : List PyData} (I : Iv K B G S F H) (hp : H p = none) (h : DqAll K F vs ds) : Iv K B (G ++ [.o none ds]) (S ++ [some (.ref p)]) F (upd H p (.lst vs)) := by
  refine I.add (Ex.refl F) (Ex.new hp) (I.ex.trans (Ex.new hp)) (fun b o h n => ?_) _ (fun a => a = p) (.inr ⟨_, rfl, p, vs, rfl, upd_same, h, rfl, fun a z => by cases z⟩) fun a e => ?_
  · rw [h] at n
    cases n
  · have e : a = p := e
    subst e
    exact ⟨hp, I.fnone hp, by rw [upd_same]; exact fun z => (by cases z)⟩
/-- slot i's list (this def's own) is another one now -/
theorem Iv.mut {i : Nat} {q : Option Addr} {ds ds' : List PyData} {vs' : List V} (I : Iv K B G S F H) (hi : G[i]? = some (.o q ds)) (hS : S[i]? = some (some (.ref p))) (h : DqAll K F vs' ds') : Iv K B (G.set i (.o q ds')) S F (upd H p (.lst vs')) := by
  obtain ⟨A, h1, h2, h3⟩ := I.own
  obtain ⟨u, e1, p', vs, e2, e3, e4, e5, e6⟩ : ∃ v, S[i]? = some (some v) ∧ SvR K F H v (A i) (.o q ds) := (h1 i _ hi).elim (fun z => by cases z) id
  rw [hS] at e1
  cases e1
  cases e2
  obtain ⟨k1, k2, k3⟩ := h3 i p e5
  refine ⟨I.ex.mut k1 _, I.f0, fun b o hb hm => ?_, I.nw, fun b hb => ?_, by simpa using I.len, A, fun j s hj => ?_, h2, fun j a ha => ?_⟩
  · have nb : b ≠ p := fun z => by
      subst z
      rcases k3 with z | z
      · rw [hb] at z
        cases z
      · exact hm z
    rw [upd_ne nb]
    exact I.fr b o hb hm
  · by_cases nb : b = p
    · rw [nb, upd_same]
      exact fun z => by cases z
    · rw [upd_ne nb]
      exact I.st b hb
  · by_cases e : i = j
    · subst e
      obtain ⟨rfl, _⟩ := set_same hj
      exact .inr ⟨_, hS, p, vs', rfl, upd_same, h, e5, e6⟩
    · rw [List.getElem?_set_ne e] at hj
      rcases h1 j s hj with z | ⟨u, z1, z2⟩
      · exact .inl z
      · refine .inr ⟨u, z1, slr_stab z2 (Ex.refl F) fun a ha => ?_⟩
        rw [upd_ne]
        intro z
        subst z
        exact e (h2 _ _ _ e5 ha)
  · obtain ⟨x, y, z⟩ := h3 j a ha
    refine ⟨x, ?_, z⟩
    by_cases na : a = p
    · rw [na, upd_same]
      exact fun z => by cases z
    · rw [upd_ne na]
      exact y
/-- slot i's list is frozen from now on -/
theorem Iv.freeze {i : Nat} {q : Option Addr} {ds : List PyData} (I : Iv K B G S F H) (hi : G[i]? = some (.o q ds)) : ∃ p vs, S[i]? = some (some (.ref p)) ∧ H p = some (.lst vs) ∧ F p = none ∧ Iv K B (G.set i (.d (.list ds))) S (upd F p (.lst vs)) H ∧ Dq K (upd F p (.lst vs)) (.ref p) (.list ds) := by
  obtain ⟨A, h1, h2, h3⟩ := I.own
  obtain ⟨u, e1, p, vs, rfl, e3, e4, e5, _⟩ : ∃ v, S[i]? = some (some v) ∧ SvR K F H v (A i) (.o q ds) := (h1 i _ hi).elim (fun z => by cases z) id
  obtain ⟨k1, k2, k3⟩ := h3 i p e5
  have eF : Ex F (upd F p (.lst vs)) := Ex.new k1
  have hd : Dq K (upd F p (.lst vs)) (.ref p) (.list ds) := .lst upd_same (da_mono eF e4)
  refine ⟨p, vs, e1, e3, k1, ⟨I.ex.frz e3, I.f0.trans eF, I.fr, fun b o hb hn => ?_, I.st, by simpa using I.len, fun j a => j ≠ i ∧ A j a, fun j s hj => ?_, fun j k a ha hb => h2 j k a ha.2 hb.2, fun j a ha => ?_⟩, hd⟩
  · by_cases nb : b = p
    · subst nb
      rcases k3 with z | z
      · exact absurd z hn
      · exact .inr z
    · rw [upd_ne nb] at hb
      exact I.nw b o hb hn
  · by_cases e : i = j
    · subst e
      obtain ⟨rfl, _⟩ := set_same hj
      exact .inr ⟨_, e1, hd⟩
    · rw [List.getElem?_set_ne e] at hj
      rcases h1 j s hj with z | ⟨u, z1, z2⟩
      · exact .inl z
      · refine .inr ⟨u, z1, ?_⟩
        have ea : (fun a => j ≠ i ∧ A j a) = A j := by
          funext a
          exact propext ⟨fun z => z.2, fun z => ⟨Ne.symm e, z⟩⟩
        show SvR K _ H u (fun a => j ≠ i ∧ A j a) s
        rw [ea]
        exact slr_stab z2 eF fun _ _ => rfl
  · obtain ⟨x, y, z⟩ := h3 j a ha.2
    refine ⟨?_, y, z⟩
    rw [upd_ne]
    · exact x
    · intro q
      subst q
      exact ha.1 (h2 _ _ _ ha.2 e5)
/-- the last slot's list is frozen, and the slot is dropped -/
theorem Iv.freezeL {q : Option Addr} {ds : List PyData} (I : Iv K B (G ++ [.o q ds]) (S ++ [some v]) F H) : ∃ F', Ex F F' ∧ Iv K B G S F' H ∧ Dq K F' v (.list ds) := by
  obtain ⟨p, vs, h1, h2, h3, I2, h4⟩ := I.freeze (i := G.length) (q := q) (ds := ds) (by simp)
  have hl : S.length = G.length := by
    have := I.len
    simpa using this
  have hv : v = .ref p := by
    rw [← hl] at h1
    have : (S ++ [some v])[S.length]? = some (some v) := by simp
    rw [this] at h1
    exact Option.some.inj (Option.some.inj h1)
  subst hv
  refine ⟨_, Ex.new h3, ?_, h4⟩
  have e : (G ++ [Sl.o q ds]).set G.length (.d (.list ds)) = G ++ [.d (.list ds)] := by simp
  rw [e] at I2
  exact I2.drop
end

/-! ### what an expression gives: data, or slot i's own thing; or a new thing that nobody has yet -/
inductive W where
  | d (d : PyData)
  | sl (i : Nat)
  | ty (n : String)
inductive Rs where
  | p (w : W)
  | fr (s : Sl)
def Vw (K : Fr) (S : St) (F : Hp) (v : V) : W → Prop
  | .d d => Dq K F v d
  | .sl i => S[i]? = some (some v)
  | .ty n => v = .ty n
theorem Vw.mono {K : Fr} {S : St} {F F' : Hp} {v : V} : ∀ {w : W}, Vw K S F v w → Ex F F' → Vw K S F' v w
  | .d _, h, e => dp_mono e h
  | .sl _, h, _ => h
  | .ty _, h, _ => h
def Vr (K : Fr) (B : Bs) (G : En) (S : St) (F H : Hp) (v : V) : Rs → Prop
  | .p w => Iv K B G S F H ∧ Vw K S F v w
  | .fr s => Iv K B (G ++ [s]) (S ++ [some v]) F H
theorem Vr.iv {K : Fr} {B : Bs} {G : En} {S : St} {F H : Hp} {v : V} : ∀ {r : Rs}, Vr K B G S F H v r → Iv K B G S F H
  | .p _, h => h.1
  | .fr _, h => h.drop
/-- a result that is to last: a new list is frozen -/
def PW : Rs → (W → Prop) → Prop
  | .p w, k => k w
  | .fr (.o _ ds), k => k (.d (.list ds))
  | _, _ => False
theorem pw_ok {K : Fr} {B : Bs} {G : En} {S : St} {F H : Hp} {v : V} {k : W → Prop} : ∀ {r : Rs}, Vr K B G S F H v r → PW r k → ∃ F' w, Ex F F' ∧ Iv K B G S F' H ∧ Vw K S F' v w ∧ k w
  | .p w, h, q => ⟨F, w, Ex.refl F, h.1, h.2, q⟩
  | .fr (.o _ ds), h, q => by
    obtain ⟨F', e, I, r⟩ := Iv.freezeL h
    exact ⟨F', .d (.list ds), e, I, r, q⟩
  | .fr .un, _, q => q.elim
  | .fr (.d _), _, q => q.elim
  | .fr (.t _), _, q => q.elim
  | .fr (.k _ _), _, q => q.elim
  | .fr (.ow _), _, q => q.elim
abbrev Po := En → Rs → Prop
def Ct (K : Fr) (B : Bs) (S : St) (F : Hp) (P : Po) (Q : VK) : Prop := ∀ v F' H' G' r, Ex F F' → Vr K B G' S F' H' v r → P G' r → Q v H'
theorem Ct.mono {K : Fr} {B : Bs} {S : St} {F F' : Hp} {P : Po} {Q : VK} (k : Ct K B S F P Q) (e : Ex F F') : Ct K B S F' P Q := fun v F1 H1 G1 r e1 I q => k v F1 H1 G1 r (e.trans e1) I q
/-- an expression; a test; arguments -/
def DW (K : Fr) (B : Bs) (G : En) (te : TE) (P : Po) : Prop := ∀ S F H Q, Iv K B G S F H → Ct K B S F P Q → te S H Q
def DT (K : Fr) (B : Bs) (G : En) (tt : TT) (P : En → Bool → Prop) : Prop := ∀ S F H (Q : Bool → Hp → Prop), Iv K B G S F H → (∀ b F' H' G', Ex F F' → Iv K B G' S F' H' → P G' b → Q b H') → tt S H Q
def Vws (K : Fr) (S : St) (F : Hp) : List V → List W → Prop := Paired (Vw K S F)
theorem Vws.mono {K : Fr} {S : St} {F F' : Hp} (e : Ex F F') : ∀ {vs : List V} {ws : List W}, Vws K S F vs ws → Vws K S F' vs ws
  | _, _, .nil => .nil
  | _, _, .cons h t => .cons (h.mono e) (Vws.mono e t)
def DA (K : Fr) (B : Bs) (G : En) (ta : TA) (P : En → List W → Prop) : Prop := ∀ S F H (Q : List V → Hp → Prop), Iv K B G S F H → (∀ vs F' H' G' ws, Ex F F' → Iv K B G' S F' H' → Vws K S F' vs ws → P G' ws → Q vs H') → ta S H Q
/-- operations by values -/
def RW2 (K : Fr) (B : Bs) (G : En) (r : R2) (w1 w2 : W) (P : Po) : Prop := ∀ S F H Q v1 v2, Iv K B G S F H → Vw K S F v1 w1 → Vw K S F v2 w2 → Ct K B S F P Q → r v1 v2 H Q
def RW1 (K : Fr) (B : Bs) (G : En) (r : V → Hp → VK → Prop) (w1 : W) (P : Po) : Prop := ∀ S F H Q v1, Iv K B G S F H → Vw K S F v1 w1 → Ct K B S F P Q → r v1 H Q
def RWn (K : Fr) (B : Bs) (G : En) (r : List V → Hp → VK → Prop) (ws : List W) (P : Po) : Prop := ∀ S F H Q vs, Iv K B G S F H → Vws K S F vs ws → Ct K B S F P Q → r vs H Q
def RWm (K : Fr) (B : Bs) (G : En) (r : V → List V → Hp → VK → Prop) (w : W) (ws : List W) (P : Po) : Prop := ∀ S F H Q v vs, Iv K B G S F H → Vw K S F v w → Vws K S F vs ws → Ct K B S F P Q → r v vs H Q
section
variable {K : Fr} {B : Bs} {G : En} {ta tb te : TE} {P : Po} {r : R2}
/-- the end of a rule: a value that is data, no heap changed -/
theorem ct_d {S : St} {F H : Hp} {Q : VK} {v : V} {d : PyData} (k : Ct K B S F P Q) (I : Iv K B G S F H) (h : Dq K F v d) (p : P G (.p (.d d))) : Q v H := k v F H G (.p (.d d)) (Ex.refl F) ⟨I, h⟩ p
theorem ct_L {S : St} {F H : Hp} {Q : VK} {p : Addr} {vs : List V} {ds : List PyData} (k : Ct K B S F P Q) (I : Iv K B G S F H) (hp : H p = none) (h : DqAll K F vs ds) (q : P G (.fr (.o none ds))) : Q (.ref p) (upd H p (.lst vs)) :=
  k _ F _ G (.fr (.o none ds)) (Ex.refl F) (I.newL hp h) q
theorem ct_T {S : St} {F H : Hp} {Q : VK} {p : Addr} {vs : List V} {ds : List PyData} (k : Ct K B S F P Q) (I : Iv K B G S F H) (hp : H p = none) (h : DqAll K F vs ds) (q : P G (.p (.d (.tuple ds)))) : Q (.ref p) (upd H p (.tup vs)) :=
  k _ (upd F p (.tup vs)) _ G (.p (.d (.tuple ds))) (Ex.new (I.fnone hp)) ⟨I.newF hp _, .tup upd_same (da_mono (Ex.new (I.fnone hp)) h)⟩ q
theorem dw_var {i : Nat} {d : PyData} (h : G[i]? = some (.d d)) (q : P G (.p (.d d))) : DW K B G (tVar i) P := fun S F H Q I k => by
  obtain ⟨v, e, r⟩ := I.dat h
  exact ⟨v, e, ct_d k I r q⟩
/-- a name of an own thing -/
theorem dw_sl {i : Nat} {a : Option Addr} {ds : List PyData} (h : G[i]? = some (.o a ds)) (q : P G (.p (.sl i))) : DW K B G (tVar i) P := fun S F H Q I k => by
  obtain ⟨p, vs, e, _⟩ := I.lst h
  exact ⟨_, e, k _ F H G (.p (.sl i)) (Ex.refl F) ⟨I, e⟩ q⟩
theorem dw_int {i : Int} (q : P G (.p (.d (.int i)))) : DW K B G (tC (.int i)) P := fun S F H Q I k => ct_d k I (.int i) q
theorem dw_str {x : Str} (q : P G (.p (.d (.str x)))) : DW K B G (tC (.str x)) P := fun S F H Q I k => ct_d k I (.str x) q
theorem dw_bl {b : Bool} (q : P G (.p (.d (.bool b)))) : DW K B G (tC (.bl b)) P := fun S F H Q I k => ct_d k I (.bl b) q
theorem dw_ty {n : String} (q : P G (.p (.ty n))) : DW K B G (tC (.ty n)) P := fun S F H Q I k => k _ F H G (.p (.ty n)) (Ex.refl F) ⟨I, rfl⟩ q
theorem dw_non (q : P G (.p (.d .none))) : DW K B G (tC .non) P := fun S F H Q I k => ct_d k I .non q
/-- run a part, its result to last -/
theorem dw_run {k' : En → W → Prop} {S : St} {F H : Hp} {Q : VK} (h : DW K B G te fun G1 r1 => PW r1 (k' G1)) (I : Iv K B G S F H) (k : ∀ v F1 H1 G1 w, Ex F F1 → Iv K B G1 S F1 H1 → Vw K S F1 v w → k' G1 w → Q v H1) : te S H Q :=
  h S F H _ I fun v F1 H1 G1 r e1 hr q => by
    obtain ⟨F2, w, e2, I2, hv, q2⟩ := pw_ok hr q
    exact k v F2 H1 G1 w (e1.trans e2) I2 hv q2
theorem dw_op (h : DW K B G ta fun G1 r1 => PW r1 fun w1 => DW K B G1 tb fun G2 r2 => PW r2 fun w2 => RW2 K B G2 r w1 w2 P) : DW K B G (tOp r ta tb) P := fun S F H Q I k => by
  show ta S H fun x H1 => tb S H1 fun y H2 => r x y H2 Q
  refine dw_run (k' := fun G1 w1 => DW K B G1 tb fun G2 r2 => PW r2 fun w2 => RW2 K B G2 r w1 w2 P) h I fun v1 F1 H1 G1 w1 e1 I1 r1 q1 => ?_
  refine dw_run (k' := fun G2 w2 => RW2 K B G2 r w1 w2 P) q1 I1 fun v2 F2 H2 G2 w2 e2 I2 r2 q2 => ?_
  exact q2 S F2 H2 Q v1 v2 I2 (r1.mono e2) r2 (k.mono (e1.trans e2))
theorem dw_un {r : V → Hp → VK → Prop} (h : DW K B G ta fun G1 r1 => PW r1 fun w1 => RW1 K B G1 r w1 P) : DW K B G (tUn r ta) P := fun S F H Q I k => by
  show ta S H fun x H1 => r x H1 Q
  refine dw_run (k' := fun G1 w1 => RW1 K B G1 r w1 P) h I fun v1 F1 H1 G1 w1 e1 I1 r1 q1 => ?_
  exact q1 S F1 H1 Q v1 I1 r1 (k.mono e1)
theorem dw_if {tA : TT} (h : DT K B G tA fun G1 b => if b = true then DW K B G1 ta P else DW K B G1 tb P) : DW K B G (tIf tA ta tb) P := fun S F H Q I k =>
  h S F H _ I fun b F1 H1 G1 e1 I1 q => by
    cases b with
    | true =>
      show ta S H1 Q
      exact q S F1 H1 Q I1 (k.mono e1)
    | false =>
      show tb S H1 Q
      exact q S F1 H1 Q I1 (k.mono e1)
theorem da_nil' {P : En → List W → Prop} (q : P G []) : DA K B G tNil P := fun S F H Q I k => k [] F H G [] (Ex.refl F) I .nil q
theorem da_cons' {tr : TA} {P : En → List W → Prop} (h : DW K B G te fun G1 r1 => PW r1 fun w1 => DA K B G1 tr fun G2 ws => P G2 (w1 :: ws)) : DA K B G (tCons te tr) P := fun S F H Q I k => by
  show te S H fun x H1 => tr S H1 fun xs H2 => Q (x :: xs) H2
  refine dw_run (k' := fun G1 w1 => DA K B G1 tr fun G2 ws => P G2 (w1 :: ws)) h I fun v1 F1 H1 G1 w1 e1 I1 r1 q1 => ?_
  refine q1 S F1 H1 _ I1 fun vs F2 H2 G2 ws e2 I2 r2 q2 => ?_
  exact k _ F2 H2 G2 _ (e1.trans e2) I2 (.cons (r1.mono e2) r2) q2
theorem dw_CB {t : TA} {r : List V → Hp → VK → Prop} (h : DA K B G t fun G1 ws => RWn K B G1 r ws P) : DW K B G (tCB r t) P := fun S F H Q I k =>
  h S F H _ I fun vs F1 H1 G1 ws e1 I1 hv q => q S F1 H1 Q vs I1 hv (k.mono e1)
/-- all the arguments are data -/
def allD : List W → Option (List PyData)
  | [] => some []
  | .d d :: r => (allD r).map (d :: ·)
  | .sl _ :: _ => none
  | .ty _ :: _ => none
theorem allD_ok {S : St} {F : Hp} : ∀ {ws : List W} {ds : List PyData} {vs : List V}, allD ws = some ds → Vws K S F vs ws → DqAll K F vs ds
  | [], _, _, e, .nil => by
    cases e
    exact .nil
  | .d d :: r, _, _, e, .cons h t => by
    simp only [allD, Option.map_eq_some_iff] at e
    obtain ⟨es, e1, rfl⟩ := e
    exact .cons h (allD_ok e1 t)
theorem dw_tup {t : TA} (h : DA K B G t fun G1 ws => ∃ ds, allD ws = some ds ∧ ds.length ≤ sizeLine ∧ P G1 (.p (.d (.tuple ds)))) : DW K B G (tTup t) P := fun S F H Q I k =>
  h S F H _ I fun vs F1 H1 G1 ws e1 I1 hv ⟨ds, e, hl, q⟩ => ⟨by rw [da_len (allD_ok e hv)]; exact hl, fun p hp => ct_T (k.mono e1) I1 hp (allD_ok e hv) q⟩
theorem dw_lst {t : TA} (h : DA K B G t fun G1 ws => ∃ ds, allD ws = some ds ∧ ds.length ≤ sizeLine ∧ P G1 (.fr (.o none ds))) : DW K B G (tLst t) P := fun S F H Q I k =>
  h S F H _ I fun vs F1 H1 G1 ws e1 I1 hv ⟨ds, e, hl, q⟩ => ⟨by rw [da_len (allD_ok e hv)]; exact hl, fun p hp => ct_L (k.mono e1) I1 hp (allD_ok e hv) q⟩
end
end DL
namespace DL
open PySem L2
/-! ### statements -/
structure De where
  nx : En → Prop
  rt : En → Rs → Prop
  bk : En → Prop := fun _ => False
  ct : En → Prop := fun _ => False
structure Cov (K : Fr) (B : Bs) (F0 : Hp) (E : De) (D : Ends) : Prop where
  nx : ∀ S F H G, Ex F0 F → Iv K B G S F H → E.nx G → D.nx S H
  rt : ∀ S F H G v r, Ex F0 F → Vr K B G S F H v r → E.rt G r → D.rt v H
  bk : ∀ S F H G, Ex F0 F → Iv K B G S F H → E.bk G → D.bk S H
  ct : ∀ S F H G, Ex F0 F → Iv K B G S F H → E.ct G → D.ct S H
theorem Cov.mono {K : Fr} {B : Bs} {F0 F1 : Hp} {E : De} {D : Ends} (c : Cov K B F0 E D) (e : Ex F0 F1) : Cov K B F1 E D :=
  ⟨fun S F H G e1 => c.nx S F H G (e.trans e1), fun S F H G v r e1 => c.rt S F H G v r (e.trans e1), fun S F H G e1 => c.bk S F H G (e.trans e1), fun S F H G e1 => c.ct S F H G (e.trans e1)⟩
def DS (K : Fr) (B : Bs) (G : En) (t : TS) (E : De) : Prop := ∀ S F H D, Iv K B G S F H → Cov K B F E D → t D S H
/-- a target; ch: the slots that it may change -/
def DG (K : Fr) (B : Bs) (G : En) (g : TG) (ch : List Nat) (w : W) (P : En → Prop) : Prop := ∀ S F H v (Q : St → Hp → Prop), Iv K B G S F H → Vw K S F v w →
  (∀ S' F' H' G', Ex F F' → Iv K B G' S' F' H' → S'.length = S.length → (∀ k, k ∉ ch → S'[k]? = S[k]?) → P G' → Q S' H') → g v S H Q
def DGs (K : Fr) (B : Bs) (G : En) (g : TGs) (ch : List Nat) (ds : List PyData) (P : En → Prop) : Prop := ∀ S F H vs (Q : St → Hp → Prop), Iv K B G S F H → DqAll K F vs ds →
  (∀ S' F' H' G', Ex F F' → Iv K B G' S' F' H' → S'.length = S.length → (∀ k, k ∉ ch → S'[k]? = S[k]?) → P G' → Q S' H') → g vs S H Q
section
variable {K : Fr} {B : Bs} {G : En} {ta tb te : TE} {P : Po} {r : R2} {E : De} {t u : TS} {tt : TT}
theorem ds_seq (h : DS K B G t { E with nx := fun G1 => DS K B G1 u E }) : DS K B G (tSeq t u) E := fun S F H D I c => by
  show t { D with nx := u D } S H
  exact h S F H _ I ⟨fun S F H G1 e I1 q => q S F H D I1 (c.mono e), c.rt, c.bk, c.ct⟩
theorem ds_next (h : E.nx G) : DS K B G tNext E := fun S F H D I c => c.nx S F H G (Ex.refl F) I h
theorem ds_break (h : E.bk G) : DS K B G tBreak E := fun S F H D I c => c.bk S F H G (Ex.refl F) I h
theorem ds_cont (h : E.ct G) : DS K B G tCont E := fun S F H D I c => c.ct S F H G (Ex.refl F) I h
theorem ds_ret (h : DW K B G te fun G1 r1 => E.rt G1 r1) : DS K B G (tRet te) E := fun S F H D I c => h S F H _ I fun v F1 H1 G1 r1 e1 i1 q => c.rt S F1 H1 G1 v r1 e1 i1 q
theorem ds_retN (h : E.rt G (.p (.d .none))) : DS K B G tRetN E := fun S F H D I c => c.rt S F H G _ (.p (.d .none)) (Ex.refl F) ⟨I, .non⟩ h
theorem ds_drop (h : DW K B G te fun G1 _ => E.nx G1) : DS K B G (tDrop te) E := fun S F H D I c => by
  show te S H fun _ H1 => D.nx S H1
  exact h S F H _ I fun v F1 H1 G1 r1 e1 i1 q => c.nx S F1 H1 G1 e1 i1.iv q
theorem ds_if (h : DT K B G tt fun G1 b => if b = true then DS K B G1 t E else DS K B G1 u E) : DS K B G (tIfS tt t u) E := fun S F H D I c => by
  show tt S H fun b H1 => if b = true then t D S H1 else u D S H1
  refine h S F H _ I fun b F1 H1 G1 e1 I1 q => ?_
  cases b with
  | true =>
    show t D S H1
    exact q S F1 H1 D I1 (c.mono e1)
  | false =>
    show u D S H1
    exact q S F1 H1 D I1 (c.mono e1)
/-- x = e: data; e's own new thing goes to x -/
def AsN (E : De) (G1 : En) (i : Nat) : Rs → Prop
  | .p (.d d) => E.nx (G1.set i (.d d))
  | .p (.sl _) => False
  | .p (.ty _) => False
  | .fr s => E.nx (G1.set i s)
theorem ds_set {i : Nat} (h : DW K B G te fun G1 r1 => AsN E G1 i r1) : DS K B G (tAsg te (gName i)) E := fun S F H D I c => by
  show te S H fun x H1 => D.nx (S.set i (some x)) H1
  refine h S F H _ I fun v F1 H1 G1 r1 e1 i1 q => ?_
  match r1, i1, q with
  | .p (.d d), i1, q => exact c.nx _ F1 H1 _ e1 (i1.1.set_d i i1.2) q
  | .fr s, i1, q => exact c.nx _ F1 H1 _ e1 (i1.move i) q
/-- .. as data from now on -/
theorem ds_setF {i : Nat} (h : DW K B G te fun G1 r1 => PW r1 fun w => ∃ d, w = .d d ∧ E.nx (G1.set i (.d d))) : DS K B G (tAsg te (gName i)) E := fun S F H D I c => by
  show te S H fun x H1 => D.nx (S.set i (some x)) H1
  refine dw_run (k' := fun G1 w => ∃ d, w = .d d ∧ E.nx (G1.set i (.d d))) h I fun v F1 H1 G1 w e1 I1 hv q => ?_
  obtain ⟨d, rfl, q⟩ := q
  exact c.nx _ F1 H1 _ e1 (I1.set_d i hv) q
/-- slot i's own list is data from now on -/
theorem ds_freeze (i : Nat) {a : Option Addr} {ds : List PyData} (hi : G[i]? = some (.o a ds)) (h : DS K B (G.set i (.d (.list ds))) t E) : DS K B G t E := fun S F H D I c => by
  obtain ⟨p, vs, _, _, hp, I2, _⟩ := I.freeze hi
  exact h S _ H D I2 (c.mono (Ex.new hp))
theorem ds_forget (i : Nat) (h : DS K B (G.set i .un) t E) : DS K B G t E := fun S F H D I c => by
  have I2 := I.set_un i ((S[i]?).getD none)
  have e : S.set i ((S[i]?).getD none) = S := by
    apply List.ext_getElem?
    intro k
    by_cases hk : i = k
    · subst hk
      by_cases hl : i < S.length
      · rw [List.getElem?_set_self hl, List.getElem?_eq_getElem hl]
        rfl
      · rw [List.getElem?_eq_none (by simpa using hl), List.getElem?_eq_none (by simpa using hl)]
    · rw [List.getElem?_set_ne hk]
  rw [e] at I2
  exact h S F H D I2 c
/-! ### tests -/
variable {PT : En → Bool → Prop}
theorem dt_test (h : DW K B G te fun G1 r1 => PW r1 fun w => ∃ b, w = .d (.bool b) ∧ PT G1 b) : DT K B G (tTest te) PT := fun S F H Q I k => by
  show te S H fun x H' => ∃ b, x = .bl b ∧ Q b H'
  refine dw_run (k' := fun G1 w => ∃ b, w = .d (.bool b) ∧ PT G1 b) h I fun v F1 H1 G1 w e1 I1 hv q => ?_
  obtain ⟨b, rfl, q⟩ := q
  exact ⟨b, dp_bl hv, k b F1 H1 G1 e1 I1 q⟩
theorem dt_B (h : DW K B G te fun G1 r1 => PW r1 fun w => ∃ b, w = .d (.bool b) ∧ PT G1 b) : DT K B G (tB te) PT := dt_test h
theorem dt_and {tu : TT} (h : DT K B G tt fun G1 b => if b = true then DT K B G1 tu PT else PT G1 false) : DT K B G (tAnd tt tu) PT := fun S F H Q I k => by
  show tt S H fun c H1 => if c = true then tu S H1 Q else Q false H1
  refine h S F H _ I fun b F1 H1 G1 e1 I1 q => ?_
  cases b with
  | true =>
    show tu S H1 Q
    exact q S F1 H1 Q I1 fun b F2 H2 G2 e2 I2 p => k b F2 H2 G2 (e1.trans e2) I2 p
  | false =>
    show Q false H1
    exact k false F1 H1 G1 e1 I1 q
theorem dt_or {tu : TT} (h : DT K B G tt fun G1 b => if b = true then PT G1 true else DT K B G1 tu PT) : DT K B G (tOr tt tu) PT := fun S F H Q I k => by
  show tt S H fun c H1 => if c = true then Q true H1 else tu S H1 Q
  refine h S F H _ I fun b F1 H1 G1 e1 I1 q => ?_
  cases b with
  | true =>
    show Q true H1
    exact k true F1 H1 G1 e1 I1 q
  | false =>
    show tu S H1 Q
    exact q S F1 H1 Q I1 fun b F2 H2 G2 e2 I2 p => k b F2 H2 G2 (e1.trans e2) I2 p
theorem dt_not (h : DT K B G tt fun G1 b => PT G1 (!b)) : DT K B G (tNot tt) PT := fun S F H Q I k => by
  show tt S H fun c H1 => Q (!c) H1
  exact h S F H _ I fun b F1 H1 G1 e1 I1 q => k (!b) F1 H1 G1 e1 I1 q
theorem dt_yes (h : PT G true) : DT K B G tYes PT := fun S F H Q I k => k true F H G (Ex.refl F) I h
/-- what a value is as a test -/
def truD : PyData → Option Bool
  | .none => some false
  | .bool b => some b
  | .int i => some (i != 0)
  | .list ds => some (!ds.isEmpty)
  | .tuple ds => some (!ds.isEmpty)
  | _ => none
theorem emp_eq {α β : Type} {xs : List α} {ys : List β} (h : xs.length = ys.length) : xs.isEmpty = ys.isEmpty := by
  cases xs <;> cases ys <;> simp_all
theorem tru_dp {F H : Hp} {v : V} {d : PyData} {b : Bool} (e : Ex F H) (h : Dq K F v d) (ht : truD d = some b) : TruV K v H b := by
  cases h with
  | non => exact (Option.some.inj ht).symm
  | bl _ => exact (Option.some.inj ht).symm
  | int _ => exact (Option.some.inj ht).symm
  | str _ => cases ht
  | lst s a => exact .inl ⟨_, SqL.of (e _ _ s), by rw [← Option.some.inj ht, emp_eq (da_len a)]⟩
  | tup s a => exact .inr (.inl ⟨_, SqT.of (e _ _ s), by rw [← Option.some.inj ht, emp_eq (da_len a)]⟩)
def TrW (G : En) (PT : En → Bool → Prop) : W → Prop
  | .d (.str x) => x.length ≤ sizeLine ∧ PT G ((x.length : Int) != 0)
  | .d d => ∃ b, truD d = some b ∧ PT G b
  | .sl i => ∃ a ds, G[i]? = some (.o a ds) ∧ PT G (!ds.isEmpty)
  | .ty _ => False
theorem dt_truth (h : DW K B G te fun G1 r1 => PW r1 fun w => TrW G1 PT w) : DT K B G (fun S H Q => te S H fun x H' => ∃ k, TruV K x H' k ∧ Q k H') PT := fun S F H Q I k => by
  refine dw_run (k' := fun G1 w => TrW G1 PT w) h I fun v F1 H1 G1 w e1 I1 hv q => ?_
  match w, hv, q with
  | .sl i, hv, ⟨_, ds, hi, q⟩ =>
    obtain ⟨p, vs, e, h1, h2, h3⟩ := I1.lst hi
    have hv : S[i]? = some (some v) := hv
    rw [e] at hv
    cases hv
    exact ⟨_, .inl ⟨_, SqL.of h1, rfl⟩, k _ F1 H1 G1 e1 I1 (by rw [emp_eq (da_len h3)]; exact q)⟩
  | .d (.str x), hv, ⟨hl, q⟩ =>
    obtain rfl := dp_str hv
    exact ⟨_, ⟨hl, rfl⟩, k _ F1 H1 G1 e1 I1 q⟩
  | .d .none, hv, ⟨b, ht, q⟩ => exact ⟨b, tru_dp I1.ex hv ht, k b F1 H1 G1 e1 I1 q⟩
  | .d (.bool _), hv, ⟨b, ht, q⟩ => exact ⟨b, tru_dp I1.ex hv ht, k b F1 H1 G1 e1 I1 q⟩
  | .d (.int _), hv, ⟨b, ht, q⟩ => exact ⟨b, tru_dp I1.ex hv ht, k b F1 H1 G1 e1 I1 q⟩
  | .d (.list _), hv, ⟨b, ht, q⟩ => exact ⟨b, tru_dp I1.ex hv ht, k b F1 H1 G1 e1 I1 q⟩
  | .d (.tuple _), hv, ⟨b, ht, q⟩ => exact ⟨b, tru_dp I1.ex hv ht, k b F1 H1 G1 e1 I1 q⟩
  | .d (.dict _), hv, _ => exact nomatch hv
/-! ### and, or, not as values (of bools) -/
theorem dw_and (h : DW K B G ta fun G1 r1 => PW r1 fun w => ∃ b, w = .d (.bool b) ∧ if b = true then DW K B G1 tb P else P G1 (.p (.d (.bool false)))) : DW K B G (tAndV ta tb) P := fun S F H Q I k => by
  show ta S H fun x H1 => ∃ c, x = .bl c ∧ if c = true then tb S H1 Q else Q (.bl false) H1
  refine dw_run (k' := fun G1 w => ∃ b, w = .d (.bool b) ∧ if b = true then DW K B G1 tb P else P G1 (.p (.d (.bool false)))) h I fun v F1 H1 G1 w e1 I1 hv q => ?_
  obtain ⟨b, rfl, q⟩ := q
  refine ⟨b, dp_bl hv, ?_⟩
  cases b with
  | true =>
    show tb S H1 Q
    exact q S F1 H1 Q I1 (k.mono e1)
  | false =>
    show Q (.bl false) H1
    exact ct_d (k.mono e1) I1 (.bl false) q
theorem dw_or (h : DW K B G ta fun G1 r1 => PW r1 fun w => ∃ b, w = .d (.bool b) ∧ if b = true then P G1 (.p (.d (.bool true))) else DW K B G1 tb P) : DW K B G (tOrV ta tb) P := fun S F H Q I k => by
  show ta S H fun x H1 => ∃ c, x = .bl c ∧ if c = true then Q (.bl true) H1 else tb S H1 Q
  refine dw_run (k' := fun G1 w => ∃ b, w = .d (.bool b) ∧ if b = true then P G1 (.p (.d (.bool true))) else DW K B G1 tb P) h I fun v F1 H1 G1 w e1 I1 hv q => ?_
  obtain ⟨b, rfl, q⟩ := q
  refine ⟨b, dp_bl hv, ?_⟩
  cases b with
  | true =>
    show Q (.bl true) H1
    exact ct_d (k.mono e1) I1 (.bl true) q
  | false =>
    show tb S H1 Q
    exact q S F1 H1 Q I1 (k.mono e1)
theorem dw_notV (h : DW K B G ta fun G1 r1 => PW r1 fun w => ∃ b, w = .d (.bool b) ∧ P G1 (.p (.d (.bool (!b))))) : DW K B G (tNotV ta) P := fun S F H Q I k => by
  show ta S H fun x H1 => ∃ c, x = .bl c ∧ Q (.bl (!c)) H1
  refine dw_run (k' := fun G1 w => ∃ b, w = .d (.bool b) ∧ P G1 (.p (.d (.bool (!b))))) h I fun v F1 H1 G1 w e1 I1 hv q => ?_
  obtain ⟨b, rfl, q⟩ := q
  exact ⟨b, dp_bl hv, ct_d (k.mono e1) I1 (.bl (!b)) q⟩
/-! ### targets -/
theorem dg_name {i : Nat} {d : PyData} {Pe : En → Prop} (h : Pe (G.set i (.d d))) : DG K B G (gName i) [i] (.d d) Pe := fun S F H v Q I hv k =>
  k _ F H _ (Ex.refl F) (I.set_d i hv) (by simp) (fun j hj => by rw [List.getElem?_set_ne]; simpa [eq_comm] using hj) h
theorem dgs_nil {Pe : En → Prop} (h : Pe G) : DGs K B G gNil [] [] Pe := fun S F H vs Q I hv k => by
  cases hv
  exact ⟨rfl, k S F H G (Ex.refl F) I rfl (fun _ _ => rfl) h⟩
theorem dgs_cons {g : TG} {gs : TGs} {c cs : List Nat} {d : PyData} {ds : List PyData} {Pe : En → Prop} (h : DG K B G g c (.d d) fun G1 => DGs K B G1 gs cs ds Pe) : DGs K B G (gCons g gs) (c ++ cs) (d :: ds) Pe := fun S F H vs Q I hv k => by
  cases hv with
  | cons h1 h2 =>
    refine ⟨_, _, rfl, h S F H _ _ I h1 fun S1 F1 H1 G1 e1 I1 l1 u1 q => ?_⟩
    refine q S1 F1 H1 _ Q I1 (da_mono e1 h2) fun S2 F2 H2 G2 e2 I2 l2 u2 q2 => ?_
    exact k S2 F2 H2 G2 (e1.trans e2) I2 (l2.trans l1) (fun j hj => (u2 j fun z => hj (List.mem_append_right _ z)).trans (u1 j fun z => hj (List.mem_append_left _ z))) q2
theorem dg_tup {n : Nat} {gs : TGs} {cs : List Nat} {ds : List PyData} {Pe : En → Prop} (hn : ds.length = n) (h : DGs K B G gs cs ds Pe) : DG K B G (gTup K n gs) cs (.d (.tuple ds)) Pe := fun S F H v Q I hv k => by
  obtain ⟨a, vs, rfl, hs, ha⟩ := dp_tup hv
  exact ⟨a, vs, rfl, SqT.of (I.ex _ _ hs), by rw [da_len ha]; exact hn, h S F H vs Q I ha k⟩
theorem ds_asg {g : TG} {cs : List Nat} (h : DW K B G te fun G1 r1 => PW r1 fun w => DG K B G1 g cs w E.nx) : DS K B G (tAsg te g) E := fun S F H D I c => by
  show te S H fun x H1 => g x S H1 D.nx
  refine dw_run (k' := fun G1 w => DG K B G1 g cs w E.nx) h I fun v F1 H1 G1 w e1 I1 hv q => ?_
  exact q S F1 H1 v D.nx I1 hv fun S2 F2 H2 G2 e2 I2 _ _ p => c.nx S2 F2 H2 G2 (e1.trans e2) I2 p
/-- x op= e of ints -/
theorem ds_augI {i : Nat} {f : Int → Int → Int} {a : Int} (hi : G[i]? = some (.d (.int a))) (h : DW K B G te fun G1 r1 => PW r1 fun w => ∃ b, w = .d (.int b) ∧ E.nx (G1.set i (.d (.int (f a b))))) : DS K B G (tAug i te (ipI f)) E := fun S F H D I c => by
  obtain ⟨v, e, hv⟩ := I.dat hi
  obtain rfl := dp_int hv
  refine ⟨_, e, ?_⟩
  refine dw_run (k' := fun G1 w => ∃ b, w = .d (.int b) ∧ E.nx (G1.set i (.d (.int (f a b))))) h I fun v F1 H1 G1 w e1 I1 hv q => ?_
  obtain ⟨b, rfl, q⟩ := q
  exact ⟨a, b, rfl, dp_int hv, c.nx _ F1 H1 _ e1 (I1.set_d i (.int _)) q⟩
/-! ### loops -/
/-- an iterator's items, as data -/
def Yields (K : Fr) (F : Hp) (J : It) (ds : List PyData) : Prop := ∀ i H F2, Ex F F2 → Ex F2 H → (∀ d, ds[i]? = some d → J.go i H ∧ ∀ x H', J.yld i H x H' → ∃ F', Ex F2 F' ∧ Ex H H' ∧ Ex F' H' ∧ (∀ b o, F' b = some o → F2 b = none → H b = none) ∧ Dq K F' x d) ∧ (i = ds.length → J.stop i H)
def DI (K : Fr) (B : Bs) (G : En) (wi : TI) (PI : En → List PyData → Prop) : Prop := ∀ S F H (R : It → Hp → Prop), Iv K B G S F H → (∀ J F1 H1 G1 ds, Ex F F1 → Iv K B G1 S F1 H1 → Yields K F1 J ds → PI G1 ds → R J H1) → wi S H R
theorem di_list {tl : TE} {PI : En → List PyData → Prop} (h : DW K B G tl fun G1 r1 => PW r1 fun w => ∃ ds, w = .d (.list ds) ∧ PI G1 ds) : DI K B G (iList K tl) PI := fun S F H R I k => by
  show tl S H fun x H1 => ∃ a, x = .ref a ∧ (∃ xs, SqL K H1 a xs) ∧ R (Itl K a) H1
  refine dw_run (k' := fun G1 w => ∃ ds, w = .d (.list ds) ∧ PI G1 ds) h I fun v F1 H1 G1 w e1 I1 hv q => ?_
  obtain ⟨ds, rfl, q⟩ := q
  obtain ⟨a, vs, rfl, hs, ha⟩ := dp_lst hv
  refine ⟨a, rfl, ⟨vs, SqL.of (I1.ex _ _ hs)⟩, k _ F1 H1 G1 ds e1 I1 (fun i H2 F2 eF eH => ⟨fun d hd => ?_, fun e => ?_⟩) q⟩
  · obtain ⟨v, h1, h2⟩ := da_get ha hd
    refine ⟨⟨vs, v, SqL.of ((eF.trans eH) _ _ hs), h1⟩, fun x H' y => ?_⟩
    obtain ⟨e, y⟩ := y
    subst e
    have hx := y vs (SqL.of ((eF.trans eH) _ _ hs))
    rw [h1] at hx
    cases hx
    exact ⟨F2, Ex.refl _, Ex.refl _, eH, (fun b o z n => by rw [z] at n; cases n), dp_mono eF h2⟩
  · refine ⟨vs, SqL.of ((eF.trans eH) _ _ hs), ?_⟩
    rw [e, da_len ha]
    exact Nat.le_refl _
theorem di_tup {tl : TE} {PI : En → List PyData → Prop} (h : DW K B G tl fun G1 r1 => PW r1 fun w => ∃ ds, w = .d (.tuple ds) ∧ PI G1 ds) : DI K B G (iTup K tl) PI := fun S F H R I k => by
  show tl S H fun x H1 => ∃ a, x = .ref a ∧ (∃ xs, SqT K H1 a xs) ∧ R (Itt K a) H1
  refine dw_run (k' := fun G1 w => ∃ ds, w = .d (.tuple ds) ∧ PI G1 ds) h I fun v F1 H1 G1 w e1 I1 hv q => ?_
  obtain ⟨ds, rfl, q⟩ := q
  obtain ⟨a, vs, rfl, hs, ha⟩ := dp_tup hv
  refine ⟨a, rfl, ⟨vs, SqT.of (I1.ex _ _ hs)⟩, k _ F1 H1 G1 ds e1 I1 (fun i H2 F2 eF eH => ⟨fun d hd => ?_, fun e => ?_⟩) q⟩
  · obtain ⟨v, h1, h2⟩ := da_get ha hd
    refine ⟨⟨vs, v, SqT.of ((eF.trans eH) _ _ hs), h1⟩, fun x H' y => ?_⟩
    obtain ⟨e, y⟩ := y
    subst e
    have hx := y vs (SqT.of ((eF.trans eH) _ _ hs))
    rw [h1] at hx
    cases hx
    exact ⟨F2, Ex.refl _, Ex.refl _, eH, (fun b o z n => by rw [z] at n; cases n), dp_mono eF h2⟩
  · refine ⟨vs, SqT.of ((eF.trans eH) _ _ hs), ?_⟩
    rw [e, da_len ha]
    exact Nat.le_refl _
theorem di_or {w1 w2 : TI} {PI : En → List PyData → Prop} (h : DI K B G w1 PI ∨ DI K B G w2 PI) : DI K B G (fun S H R => w1 S H R ∨ w2 S H R) PI := fun S F H R I k =>
  h.elim (fun h => .inl (h S F H R I k)) fun h => .inr (h S F H R I k)
/-- 0, 1, .. -/
def rngD (lo : Int) (n : Nat) : List PyData := (List.range n).map fun (i : Nat) => PyData.int (lo + (i : Int))
theorem rngD_get {lo : Int} {n i : Nat} {d : PyData} (h : (rngD lo n)[i]? = some d) : i < n ∧ d = .int (lo + (i : Int)) := by
  unfold rngD at h
  rw [List.getElem?_map] at h
  by_cases hi : i < n
  · rw [List.getElem?_range hi] at h
    exact ⟨hi, (Option.some.inj h).symm⟩
  · rw [List.getElem?_eq_none (by simpa using hi)] at h
    cases h
theorem rngD_len (lo : Int) (n : Nat) : (rngD lo n).length = n := by simp [rngD]
theorem yields_rng {F : Hp} {lo : Int} {n : Nat} : Yields K F (Itr lo n) (rngD lo n) := fun i H F2 eF eH => ⟨fun d hd => by
  obtain ⟨hi, rfl⟩ := rngD_get hd
  refine ⟨hi, fun x H' y => ?_⟩
  obtain ⟨e, y⟩ := y
  subst e y
  exact ⟨F2, Ex.refl _, Ex.refl _, eH, (fun b o z n => by rw [z] at n; cases n), .int _⟩, fun e => by
  rw [rngD_len] at e
  exact Nat.le_of_eq e.symm⟩
theorem di_rng1 {ta : TA} {PI : En → List PyData → Prop} (h : DA K B G ta fun G1 ws => ∃ j : Int, ws = [.d (.int j)] ∧ -(2 ^ 62) ≤ j ∧ j < 2 ^ 62 ∧ PI G1 (rngD 0 j.toNat)) : DI K B G (iRng1 ta) PI := fun S F H R I k => by
  show ta S H fun vs H1 => ∃ j : Int, vs = [.int j] ∧ -(2 ^ 62) ≤ j ∧ j < 2 ^ 62 ∧ R (Itr 0 j.toNat) H1
  refine h S F H _ I fun vs F1 H1 G1 ws e1 I1 hv q => ?_
  obtain ⟨j, rfl, h1, h2, q⟩ := q
  cases hv with
  | cons a t =>
    cases t
    obtain rfl := dp_int a
    exact ⟨j, rfl, h1, h2, k _ F1 H1 G1 _ e1 I1 yields_rng q⟩
theorem di_rng2 {ta : TA} {PI : En → List PyData → Prop} (h : DA K B G ta fun G1 ws => ∃ i j : Int, ws = [.d (.int i), .d (.int j)] ∧ (-(2 ^ 62) ≤ i ∧ i < 2 ^ 62 ∧ -(2 ^ 62) ≤ j ∧ j < 2 ^ 62) ∧ PI G1 (rngD i (j - i).toNat)) : DI K B G (iRng2 ta) PI := fun S F H R I k => by
  show ta S H fun vs H1 => ∃ i j : Int, vs = [.int i, .int j] ∧ (-(2 ^ 62) ≤ i ∧ i < 2 ^ 62 ∧ -(2 ^ 62) ≤ j ∧ j < 2 ^ 62) ∧ R (Itr i (j - i).toNat) H1
  refine h S F H _ I fun vs F1 H1 G1 ws e1 I1 hv q => ?_
  obtain ⟨i, j, rfl, h1, q⟩ := q
  cases hv with
  | cons a t =>
    cases t with
    | cons b t =>
      cases t
      obtain rfl := dp_int a
      obtain rfl := dp_int b
      exact ⟨i, j, rfl, h1, k _ F1 H1 G1 _ e1 I1 yields_rng q⟩
/-- what a turn's yield leaves -/
theorem Yields.turn {F1 F2 H H' : Hp} {J : It} {ds : List PyData} {i : Nat} {d : PyData} {x : V} {S : St} (Y : Yields K F1 J ds) (e : Ex F1 F2) (I : Iv K B G S F2 H) (hd : ds[i]? = some d) (y : J.yld i H x H') : ∃ F', Ex F2 F' ∧ Iv K B G S F' H' ∧ Dq K F' x d := by
  obtain ⟨F', k1, k2, k3, k4, k5⟩ := ((Y i H F2 e I.ex).1 d hd).2 x H' y
  exact ⟨F', k1, I.grow k1 k2 k3 k4, k5⟩
theorem ds_for {wi : TI} {g : TG} {ch : List Nat} (J : List PyData → Nat → En → Prop) (h : DI K B G wi fun G1 ds => J ds 0 G1 ∧ (∀ i G2 d, ds[i]? = some d → J ds i G2 → DG K B G2 g ch (.d d) fun G3 => DS K B G3 t { E with nx := J ds (i + 1), ct := J ds (i + 1), bk := E.nx }) ∧ ∀ G2, J ds ds.length G2 → E.nx G2) :
    DS K B G (tFor wi g t) E := fun S F H D I c => by
  refine h S F H _ I fun It F1 H1 G1 ds e1 I1 Y ⟨j0, hs, hd⟩ => ?_
  refine ⟨fun i m S H => m = ds.length - i ∧ i ≤ ds.length ∧ ∃ F2 G2, Ex F1 F2 ∧ Iv K B G2 S F2 H ∧ J ds i G2, ⟨_, rfl, Nat.zero_le _, F1, G1, Ex.refl _, I1, j0⟩, ?_⟩
  rintro i m S2 H2 ⟨rfl, hi, F2, G2, e2, I2, j2⟩
  by_cases hlt : i < ds.length
  · obtain ⟨d, hd'⟩ : ∃ d, ds[i]? = some d := ⟨_, List.getElem?_eq_getElem hlt⟩
    refine .inr ⟨((Y i H2 F2 e2 I2.ex).1 d hd').1, fun S H => ∃ F2 G2, Ex F1 F2 ∧ Iv K B G2 S F2 H ∧ J ds (i + 1) G2, fun S' H' p => ⟨ds.length - (i + 1), by omega, rfl, hlt, p⟩, fun x H3 y => ?_⟩
    obtain ⟨F3, e3, I3, hx⟩ := Y.turn e2 I2 hd' y
    refine hs i G2 d hd' j2 S2 F3 H3 x _ I3 hx fun S4 F4 H4 G4 e4 I4 _ _ q => ?_
    have e5 := (e2.trans e3).trans e4
    exact q S4 F4 H4 _ I4 ⟨fun S F H G e I j => ⟨F, G, e5.trans e, I, j⟩, fun S F H G v r e => c.rt S F H G v r ((e1.trans e5).trans e), fun S F H G e I p => c.nx S F H G ((e1.trans e5).trans e) I p, fun S F H G e I j => ⟨F, G, e5.trans e, I, j⟩⟩
  · have e : i = ds.length := by omega
    subst e
    exact .inl ⟨(Y _ H2 F2 e2 I2.ex).2 rfl, c.nx S2 F2 H2 G2 (e1.trans e2) I2 (hd G2 j2)⟩
theorem ds_while (J : Nat → En → Prop) (m : Nat) (h0 : J m G) (hs : ∀ m G1, J m G1 → DT K B G1 tt fun G2 b => if b = true then DS K B G2 t { E with nx := fun G3 => ∃ m', m' < m ∧ J m' G3, ct := fun G3 => ∃ m', m' < m ∧ J m' G3, bk := E.nx } else E.nx G2) : DS K B G (tWhile tt t) E := fun S F H D I c => by
  refine ⟨fun m S H => ∃ F1 G1, Ex F F1 ∧ Iv K B G1 S F1 H ∧ J m G1, ⟨m, F, G, Ex.refl _, I, h0⟩, ?_⟩
  rintro m S1 H1 ⟨F1, G1, e1, I1, j1⟩
  refine hs m G1 j1 S1 F1 H1 _ I1 fun b F2 H2 G2 e2 I2 q => ?_
  have e3 := e1.trans e2
  cases b with
  | true =>
    show ∃ N : St → Hp → Prop, (∀ S' H', N S' H' → ∃ m', m' < m ∧ ∃ F1 G1, Ex F F1 ∧ Iv K B G1 S' F1 H' ∧ J m' G1) ∧ t { D with nx := N, ct := N, bk := D.nx } S1 H2
    refine ⟨fun S' H' => ∃ m', m' < m ∧ ∃ F1 G1, Ex F F1 ∧ Iv K B G1 S' F1 H' ∧ J m' G1, fun S' H' p => p, ?_⟩
    exact q S1 F2 H2 _ I2 ⟨fun S F H G e I ⟨m', hm, j⟩ => ⟨m', hm, F, G, e3.trans e, I, j⟩, fun S F H G v r e => c.rt S F H G v r (e3.trans e), fun S F H G e I p => c.nx S F H G (e3.trans e) I p, fun S F H G e I ⟨m', hm, j⟩ => ⟨m', hm, F, G, e3.trans e, I, j⟩⟩
  | false =>
    show D.nx S1 H2
    exact c.nx S1 F2 H2 G2 e3 I2 q
end
end DL
namespace DL
open PySem L2
theorem nn {H : Hp} {b : Addr} {o : HO} (h : H b = some o) : H b ≠ none := fun z => by
  rw [h] at z
  cases z
/-! ### another base -/
section
variable {K : Fr} {B : Bs} {G G1 : En} {S S1 : St} {F H F1 H1 : Hp}
/-- the state as a base of its own: the slots' own things may change, nothing else -/
theorem Iv.rebase (I : Iv K B G S F H) : ∃ mu : Addr → Prop, Iv K B G S F H ∧ Iv K ⟨F, H, mu⟩ G S F H ∧ (∀ G1 S1 F1 H1, Iv K ⟨F, H, mu⟩ G1 S1 F1 H1 → Iv K B G1 S1 F1 H1) ∧ (∀ a, mu a → F a = none ∧ H a ≠ none ∧ (B.H0 a = none ∨ B.mu a)) := by
  obtain ⟨A, h1, h2, h3⟩ := I.own
  have hm : ∀ a, (∃ i, A i a) → F a = none ∧ H a ≠ none ∧ (B.H0 a = none ∨ B.mu a) := fun a ⟨i, h⟩ => h3 i a h
  refine ⟨fun a => ∃ i, A i a, I, ⟨I.ex, Ex.refl _, fun b o h _ => h, fun b o h _ => .inl (nn h), fun b h => h, I.len, A, h1, h2, fun i a h => ⟨(h3 i a h).1, (h3 i a h).2.1, .inr ⟨i, h⟩⟩⟩, fun G1 S1 F1 H1 J => ?_, hm⟩
  have back : ∀ a, (H a = none ∨ ∃ i, A i a) → B.H0 a = none ∨ B.mu a := fun a h => h.elim (fun h => .inl (I.new0 h)) fun h => (hm a h).2.2
  refine ⟨J.ex, I.f0.trans J.f0, fun b o h m => ?_, fun b o h n => ?_, fun b h => J.st b (I.st b h), J.len, ?_⟩
  · refine J.fr b o (I.fr b o h m) fun ⟨i, z⟩ => ?_
    rcases (h3 i b z).2.2 with q | q
    · rw [h] at q
      cases q
    · exact m q
  · rcases J.nw b o h (I.st b n) with z | z
    · obtain ⟨u, hu⟩ : ∃ u, F b = some u := by
        cases q : F b with
        | none => exact absurd q z
        | some u => exact ⟨u, rfl⟩
      exact I.nw b u hu n
    · rcases (hm b z).2.2 with q | q
      · exact absurd q n
      · exact .inr q
  · obtain ⟨A', k1, k2, k3⟩ := J.own
    exact ⟨A', k1, k2, fun i a h => ⟨(k3 i a h).1, (k3 i a h).2.1, back a (k3 i a h).2.2⟩⟩
/-- a list that nobody touches meanwhile: the last slot's, aside while the rest runs -/
theorem Iv.aside {o : Option Addr} {ds : List PyData} {x : V} (I : Iv K B (G ++ [.o o ds]) (S ++ [some x]) F H) : ∃ D vs mu, x = .ref D ∧ H D = some (.lst vs) ∧ DqAll K F vs ds ∧ Iv K ⟨F, H, mu⟩ G S F H ∧
    ∀ G1 S1 F1 H1, Iv K ⟨F, H, mu⟩ G1 S1 F1 H1 → H1 D = some (.lst vs) ∧ Iv K B (G1 ++ [.o o ds]) (S1 ++ [some x]) F1 H1 := by
  obtain ⟨A, h1, h2, h3⟩ := I.own
  have hl : S.length = G.length := by
    have := I.len
    simpa using this
  obtain ⟨u, e1, D, vs, rfl, e3, e4, e5, e6⟩ : ∃ v, (S ++ [some x])[G.length]? = some (some v) ∧ SvR K F H v (A G.length) (.o o ds) := (h1 G.length (.o o ds) (by simp)).elim (fun z => by cases z) id
  have ex : x = .ref D := by
    rw [← hl] at e1
    have : (S ++ [some x])[S.length]? = some (some x) := by simp
    rw [this] at e1
    exact Option.some.inj (Option.some.inj e1)
  subst ex
  obtain ⟨d1, d2, d3⟩ := h3 _ _ e5
  have I0 := I.drop
  have hm : ∀ a, (∃ i, i < G.length ∧ A i a) → F a = none ∧ H a ≠ none ∧ (B.H0 a = none ∨ B.mu a) := fun a ⟨i, _, h⟩ => h3 i a h
  have nD : ¬ ∃ i, i < G.length ∧ A i D := fun ⟨i, hi, h⟩ => by
    have := h2 _ _ _ h e5
    omega
  refine ⟨D, vs, fun a => ∃ i, i < G.length ∧ A i a, rfl, e3, e4, ⟨I.ex, Ex.refl _, fun b o h _ => h, fun b o h _ => .inl (nn h), fun b h => h, hl, fun i a => i < G.length ∧ A i a, fun i s hi => ?_, fun i j a p q => h2 i j a p.2 q.2, fun i a h => ⟨(h3 i a h.2).1, (h3 i a h.2).2.1, .inr ⟨i, h⟩⟩⟩, fun G1 S1 F1 H1 J => ?_⟩
  · have hlt := (List.getElem?_eq_some_iff.mp hi).1
    rcases h1 i s (by rw [List.getElem?_append_left hlt]; exact hi) with z | ⟨u, z1, z2⟩
    · exact .inl z
    · refine .inr ⟨u, by rw [List.getElem?_append_left (by omega)] at z1; exact z1, ?_⟩
      have ea : (fun a => i < G.length ∧ A i a) = A i := by
        funext a
        exact propext ⟨fun z => z.2, fun z => ⟨hlt, z⟩⟩
      show SvR K F H u (fun a => i < G.length ∧ A i a) s
      rw [ea]
      exact z2
  · have hD : H1 D = some (.lst vs) := J.fr D _ e3 nD
    have fD : F1 D = none := by
      cases q : F1 D with
      | none => rfl
      | some o =>
        rcases J.nw D o q d2 with z | z
        · exact absurd d1 z
        · exact absurd z nD
    obtain ⟨A', k1, k2, k3⟩ := J.own
    have nA : ∀ i, ¬ A' i D := fun i z => by
      rcases (k3 i D z).2.2 with q | q
      · exact d2 q
      · exact nD q
    refine ⟨hD, J.ex, I.f0.trans J.f0, fun b o h m => ?_, fun b o h n => ?_, fun b h => J.st b (I.st b h), by simp [J.len], fun i a => (i < G1.length ∧ A' i a) ∨ (i = G1.length ∧ a = D), fun i s hi => ?_, fun i j a p q => ?_, fun i a h => ?_⟩
    · refine J.fr b o (I.fr b o h m) fun ⟨i, _, z⟩ => ?_
      rcases (h3 i b z).2.2 with q | q
      · rw [h] at q
        cases q
      · exact m q
    · rcases J.nw b o h (I.st b n) with z | z
      · obtain ⟨u, hu⟩ : ∃ u, F b = some u := by
          cases q : F b with
          | none => exact absurd q z
          | some u => exact ⟨u, rfl⟩
        exact I.nw b u hu n
      · rcases (hm b z).2.2 with q | q
        · exact absurd q n
        · exact .inr q
    · rcases app_get hi with ⟨hlt, h⟩ | ⟨hlt, e⟩
      · rcases k1 i s h with z | ⟨u, z1, z2⟩
        · exact .inl z
        · refine .inr ⟨u, by rw [List.getElem?_append_left (by rw [J.len]; exact hlt)]; exact z1, ?_⟩
          have ea : (fun a => (i < G1.length ∧ A' i a) ∨ (i = G1.length ∧ a = D)) = A' i := by
            funext a
            exact propext ⟨fun z => z.elim (fun z => z.2) fun z => by omega, fun z => .inl ⟨hlt, z⟩⟩
          show SvR K F1 H1 u (fun a => (i < G1.length ∧ A' i a) ∨ (i = G1.length ∧ a = D)) s
          rw [ea]
          exact z2
      · subst e hlt
        refine .inr ⟨.ref D, by rw [← J.len]; simp, D, vs, rfl, hD, da_mono J.f0 e4, .inr ⟨rfl, rfl⟩, e6⟩
    · rcases p with ⟨p1, p2⟩ | ⟨p1, p2⟩ <;> rcases q with ⟨q1, q2⟩ | ⟨q1, q2⟩
      · exact k2 _ _ _ p2 q2
      · subst q2
        exact absurd p2 (nA i)
      · subst p2
        exact absurd q2 (nA j)
      · omega
    · rcases h with ⟨_, h⟩ | ⟨_, h⟩
      · refine ⟨(k3 i a h).1, (k3 i a h).2.1, ?_⟩
        rcases (k3 i a h).2.2 with q | q
        · exact .inl (I.new0 q)
        · exact (hm a q).2.2
      · subst h
        exact ⟨fD, (by rw [hD]; exact fun z => by cases z), d3⟩
end

/-! ### list comprehensions -/
def wipeG (G : En) : List Nat → En
  | [] => G
  | v :: vs => (wipeG G vs).set v .un
theorem wipeG_len (G : En) : ∀ vs : List Nat, (wipeG G vs).length = G.length
  | [] => rfl
  | v :: vs => by
    unfold wipeG
    rw [List.length_set, wipeG_len G vs]
theorem Iv.wipe {K : Fr} {B : Bs} {G : En} {S : St} {F H : Hp} (I : Iv K B G S F H) : ∀ vs : List Nat, Iv K B (wipeG G vs) (L2.wipe S vs) F H
  | [] => I
  | v :: vs => (I.wipe vs).set_un v none
theorem wipeG_app (G : En) (s : Sl) : ∀ vs : List Nat, (∀ v ∈ vs, v < G.length) → wipeG (G ++ [s]) vs = wipeG G vs ++ [s]
  | [], _ => rfl
  | v :: vs, h => by
    unfold wipeG
    rw [wipeG_app G s vs (fun v hv => h v (List.mem_cons_of_mem _ hv)), List.set_append, if_pos]
    rw [wipeG_len]
    exact h v (List.mem_cons_self)
/-- names of the block are forgotten: whatever they hold -/
theorem Iv.wiped {K : Fr} {B : Bs} {G : En} {S S' : St} {F H : Hp} {vs : List Nat} (I : Iv K B (wipeG G vs) S' F H) (hl : S.length = S'.length) (he : ∀ k, k ∉ vs → S[k]? = S'[k]?) : Iv K B (wipeG G vs) S F H := by
  obtain ⟨A, h1, h2, h3⟩ := I.own
  have un : ∀ (vs : List Nat) i s, i ∈ vs → (wipeG G vs)[i]? = some s → s = .un := by
    intro vs
    induction vs with
    | nil => intro i s h _; cases h
    | cons v vs ih =>
      intro i s h e
      unfold wipeG at e
      by_cases hi : v = i
      · subst hi
        exact (set_same e).1
      · rw [List.getElem?_set_ne hi] at e
        rcases List.mem_cons.mp h with z | z
        · exact absurd z.symm hi
        · exact ih i s z e
  refine ⟨I.ex, I.f0, I.fr, I.nw, I.st, hl.trans I.len, A, fun i s hi => ?_, h2, h3⟩
  by_cases hv : i ∈ vs
  · exact .inl (un vs i s hv hi)
  · rw [he i hv]
    exact h1 i s hi
theorem wipe_ne {S : St} {k : Nat} : ∀ {vs : List Nat}, k ∉ vs → (L2.wipe S vs)[k]? = S[k]?
  | [], _ => rfl
  | v :: vs, h => by
    unfold L2.wipe
    rw [List.getElem?_set_ne (fun z => h (by rw [z]; exact List.mem_cons_self)), wipe_ne fun z => h (List.mem_cons_of_mem _ z)]
theorem wipe_in {S : St} {k : Nat} : ∀ {vs : List Nat}, k ∈ vs → k < S.length → (L2.wipe S vs)[k]? = some none
  | v :: vs, h, hk => by
    unfold L2.wipe
    by_cases e : v = k
    · subst e
      rw [List.getElem?_set_self (by rw [wipe_length]; exact hk)]
    · rw [List.getElem?_set_ne e]
      rcases List.mem_cons.mp h with z | z
      · exact absurd z.symm e
      · exact wipe_in z hk
theorem wipe_ext {S S' : St} {vs : List Nat} (hl : S'.length = S.length) (he : ∀ k, k ∉ vs → S'[k]? = S[k]?) : L2.wipe S' vs = L2.wipe S vs := by
  apply List.ext_getElem?
  intro k
  by_cases hk : k ∈ vs
  · by_cases h2 : k < S.length
    · rw [wipe_in hk h2, wipe_in hk (by omega)]
    · rw [List.getElem?_eq_none (by rw [wipe_length]; omega), List.getElem?_eq_none (by rw [wipe_length]; omega)]
  · rw [wipe_ne hk, wipe_ne hk, he k hk]
section
variable {K : Fr} {B : Bs} {G : En} {te : TE} {P : Po} {tt : TT}
/-- [e for g in ..]: J by the items, the turn, what is made so far, the slots -/
theorem dw_lc {wi : TI} {g : TG} {ch : List Nat} {vs : List Nat} (J : List PyData → Nat → List PyData → En → Prop) (hsub : ∀ k ∈ ch, k ∈ vs)
    (h : DI K B G wi fun G1 ds => J ds 0 [] (wipeG G1 vs) ∧ (∀ (B' : Bs) i acc G2 d, ds[i]? = some d → J ds i acc G2 → DG K B' G2 g ch (.d d) fun G3 => DT K B' G3 tt fun G4 b => if b = true then DW K B' G4 te fun G5 r => PW r fun w => ∃ y, w = .d y ∧ acc.length < sizeLine ∧ J ds (i + 1) (acc ++ [y]) (wipeG G5 vs) else J ds (i + 1) acc (wipeG G4 vs)) ∧ ∀ acc G2, J ds ds.length acc G2 → P (wipeG G2 vs) (.fr (.o none acc))) :
    DW K B G (tLc wi g tt te vs) P := fun S F H Q I k => by
  refine h S F H _ I fun It F1 H1 G1 ds e1 I1 Y ⟨j0, hs, hd⟩ => ?_
  intro D hD
  refine ⟨fun i m H => m = ds.length - i ∧ i ≤ ds.length ∧ ∃ F2 G2 acc, Ex F1 F2 ∧ Iv K B (G2 ++ [.o none acc]) (L2.wipe S vs ++ [some (.ref D)]) F2 H ∧ J ds i acc G2, ⟨_, rfl, Nat.zero_le _, F1, _, [], Ex.refl _, (I1.wipe vs).newL hD .nil, j0⟩, ?_⟩
  rintro i m H2 ⟨rfl, hi, F2, G2, acc, e2, I2, j2⟩
  by_cases hlt : i < ds.length
  · obtain ⟨d, hd'⟩ : ∃ d, ds[i]? = some d := ⟨_, List.getElem?_eq_getElem hlt⟩
    refine .inr ⟨((Y i H2 F2 e2 I2.ex).1 d hd').1, fun H => ∃ F2 G2 acc, Ex F1 F2 ∧ Iv K B (G2 ++ [.o none acc]) (L2.wipe S vs ++ [some (.ref D)]) F2 H ∧ J ds (i + 1) acc G2, fun H' p => ⟨ds.length - (i + 1), by omega, rfl, hlt, p⟩, fun x H3 y => ?_⟩
    obtain ⟨F3, e3, I3, hx⟩ := Y.turn e2 I2 hd' y
    obtain ⟨D', accv, mu, eD, hD3, ha3, Ia, back⟩ := I3.aside
    cases eD
    refine hs _ i acc G2 d hd' j2 _ F3 H3 x _ Ia hx fun S4 F4 H4 G4 e4 I4 l4 u4 q => ?_
    have ew : L2.wipe S4 vs = L2.wipe S vs := by
      rw [wipe_ext l4 fun k hk => u4 k fun z => hk (hsub k z)]
      exact wipe_ext (wipe_length S vs) fun k hk => wipe_ne hk
    refine ⟨ew, q S4 F4 H4 _ I4 fun b F5 H5 G5 e5 I5 q5 => ?_⟩
    cases b with
    | false =>
      show ∃ F2 G2 acc, Ex F1 F2 ∧ Iv K B (G2 ++ [.o none acc]) (L2.wipe S vs ++ [some (.ref D)]) F2 H5 ∧ J ds (i + 1) acc G2
      obtain ⟨_, I6⟩ := back _ _ _ _ (I5.wipe vs)
      rw [ew] at I6
      exact ⟨F5, _, acc, ((e2.trans e3).trans e4).trans e5, I6, q5⟩
    | true =>
      show te S4 H5 fun y H4 => ∃ acc, H4 D = some (.lst acc) ∧ acc.length < sizeLine ∧ (∃ F2 G2 acc', Ex F1 F2 ∧ Iv K B (G2 ++ [.o none acc']) (L2.wipe S vs ++ [some (.ref D)]) F2 (upd H4 D (.lst (acc ++ [y]))) ∧ J ds (i + 1) acc' G2)
      refine dw_run (k' := fun G5 w => ∃ y, w = .d y ∧ acc.length < sizeLine ∧ J ds (i + 1) (acc ++ [y]) (wipeG G5 vs)) q5 I5 fun v F6 H6 G6 w e6 I6 hv q6 => ?_
      obtain ⟨y, rfl, hz, j6⟩ := q6
      obtain ⟨hD6, I7⟩ := back _ _ _ _ (I6.wipe vs)
      rw [ew] at I7
      refine ⟨accv, hD6, by rw [da_len ha3]; exact hz, F6, _, acc ++ [y], (((e2.trans e3).trans e4).trans e5).trans e6, ?_, j6⟩
      have hl : (L2.wipe S vs).length = (wipeG G6 vs).length := by
        have := I7.len
        simpa using this
      have I8 := I7.mut (i := (wipeG G6 vs).length) (p := D) (q := none) (ds := acc) (ds' := acc ++ [y]) (vs' := accv ++ [v]) (by simp) (by rw [← hl]; simp) (da_app (da_mono ((e4.trans e5).trans e6) ha3) (.cons hv .nil))
      have eg : (wipeG G6 vs ++ [Sl.o none acc]).set (wipeG G6 vs).length (.o none (acc ++ [y])) = wipeG G6 vs ++ [.o none (acc ++ [y])] := by simp
      rw [eg] at I8
      exact I8
  · have e : i = ds.length := by omega
    subst e
    refine .inl ⟨(Y _ H2 F2 e2 I2.ex).2 rfl, ?_⟩
    have I3 : Iv K B (wipeG G2 vs ++ [.o none acc]) (S ++ [some (.ref D)]) F2 H2 := by
      obtain ⟨D', accv, mu, eD, hD3, ha3, Ia, back⟩ := I2.aside
      exact (back _ _ _ _ ((Ia.wipe vs).wiped (S := S) (by rw [wipe_length, wipe_length]) fun k hk => by rw [wipe_ne hk, wipe_ne hk])).2
    exact k (.ref D) F2 H2 (wipeG G2 vs) (.fr (.o none acc)) (e1.trans e2) I3 (hd acc G2 j2)
end
end DL
namespace DL
open PySem L2
/-! ### calls -/
def Rr (K : Fr) (ok : Addr → Prop) (F' H' : Hp) (v : V) : Rs → Prop
  | .p (.d d) => Dq K F' v d
  | .p (.sl _) => False
  | .p (.ty _) => False
  | .fr s => ∃ A, SvR K F' H' v A s ∧ ∀ a, A a → F' a = none ∧ H' a ≠ none ∧ ok a
/-- a def whose arguments are data -/
def sp0 (K : Fr) (pre : List PyData → Prop) (post : List PyData → Rs → Prop) : Sp := fun vs H Q _ => ∃ F ds, Ex F H ∧ DqAll K F vs ds ∧ pre ds ∧
  ∀ v F' H' r, Ex F F' → Ex F' H' → Ex H H' → (∀ b o, F' b = some o → F b = none → H b = none) → Rr K (fun a => H a = none) F' H' v r → post ds r → Q v H'
/-- .. whose first argument is an own list of the caller's, which it may change; the others are data; it gives data -/
def sp1 (K : Fr) (pre : List PyData → List PyData → Prop) (post : List PyData → List PyData → List PyData → PyData → Prop) : Sp := fun vs H Q _ => ∃ F p vs0 vr ls ds, vs = .ref p :: vr ∧ Ex F H ∧ F p = none ∧ H p = some (.lst vs0) ∧ DqAll K F vs0 ls ∧ DqAll K F vr ds ∧ pre ls ds ∧
  ∀ v F' H' vs' ls' d, Ex F F' → Ex F' H' → (∀ b o, H b = some o → b ≠ p → H' b = some o) → (∀ b o, F' b = some o → F b = none → H b = none) → F' p = none → H' p = some (.lst vs') → DqAll K F' vs' ls' → Dq K F' v d → post ls ds ls' d → Q v H'
section
variable {K : Fr} {B : Bs} {G : En} {P : Po} {t : TA} {E : XK}
theorem dw_call0 {pre : List PyData → Prop} {post : List PyData → Rs → Prop} (h : DA K B G t fun G1 ws => ∃ ds, allD ws = some ds ∧ pre ds ∧ ∀ r, post ds r → P G1 r) : DW K B G (tCall (sp0 K pre post) [] E t) P := fun S F H Q I k => by
  show t S H fun vs H1 => sp0 K pre post (vs ++ []) H1 Q E
  refine h S F H _ I fun vs F1 H1 G1 ws e1 I1 hv ⟨ds, hd, hp, q⟩ => ?_
  rw [List.append_nil]
  refine ⟨F1, ds, I1.ex, allD_ok hd hv, hp, fun v F2 H2 r a1 a2 a3 a4 a5 a6 => ?_⟩
  match r, a5, a6 with
  | .p (.d d), a5, a6 => exact k v F2 H2 G1 (.p (.d d)) (e1.trans a1) ⟨I1.grow a1 a3 a2 a4, a5⟩ (q _ a6)
  | .fr s, ⟨A, b1, b2⟩, a6 =>
    refine k v F2 H2 G1 (.fr s) (e1.trans a1) ?_ (q _ a6)
    exact I1.add a1 a3 a2 a4 (some v) A (.inr ⟨v, rfl, b1⟩) fun a ha => ⟨(b2 a ha).2.2, (b2 a ha).1, (b2 a ha).2.1⟩
theorem dw_call1 {pre : List PyData → List PyData → Prop} {post : List PyData → List PyData → List PyData → PyData → Prop} (h : DA K B G t fun G1 ws => ∃ i a ls wr ds, ws = .sl i :: wr ∧ allD wr = some ds ∧ G1[i]? = some (.o a ls) ∧ pre ls ds ∧ ∀ ls' d, post ls ds ls' d → P (G1.set i (.o a ls')) (.p (.d d))) :
    DW K B G (tCall (sp1 K pre post) [] E t) P := fun S F H Q I k => by
  show t S H fun vs H1 => sp1 K pre post (vs ++ []) H1 Q E
  refine h S F H _ I fun vs F1 H1 G1 ws e1 I1 hv ⟨i, a, ls, wr, ds, hw, hd, hi, hp, q⟩ => ?_
  subst hw
  rw [List.append_nil]
  cases hv with
  | @cons v0 _ vr _ hv0 hvr =>
  obtain ⟨A, h1, h2, h3⟩ := I1.own
  obtain ⟨u, z1, p, vs0, rfl, z2, z3, z4, z5⟩ : ∃ v, S[i]? = some (some v) ∧ SvR K F1 H1 v (A i) (.o a ls) := (h1 i _ hi).elim (fun z => by cases z) id
  have hv0 : S[i]? = some (some v0) := hv0
  rw [hv0] at z1
  cases z1
  obtain ⟨y1, y2, y3⟩ := h3 i p z4
  refine ⟨F1, p, vs0, vr, ls, ds, rfl, I1.ex, y1, z2, z3, allD_ok hd hvr, hp, fun v F2 H2 vs' ls' d a1 a2 a3 a4 a5 a6 a7 a8 a9 => ?_⟩
  refine k v F2 H2 (G1.set i (.o a ls')) (.p (.d d)) (e1.trans a1) ⟨?_, a8⟩ (q ls' d a9)
  have own : ∀ j b, A j b → F2 b = none ∧ H2 b ≠ none ∧ (j ≠ i → H2 b = H1 b) := fun j b hb => by
    obtain ⟨x, y, z⟩ := h3 j b hb
    refine ⟨?_, ?_, fun hj => ?_⟩
    · cases q : F2 b with
      | none => rfl
      | some o => exact absurd (a4 b o q x) y
    · by_cases hbp : b = p
      · rw [hbp, a6]
        exact fun z => by cases z
      · cases q : H1 b with
        | none => exact absurd q y
        | some o =>
          rw [a3 b o q hbp]
          exact fun z => by cases z
    · cases q : H1 b with
      | none => exact absurd q y
      | some o =>
        refine a3 b o q fun e => ?_
        subst e
        exact hj (h2 _ _ _ hb z4)
  refine ⟨a2, I1.f0.trans a1, fun b o hb hm => ?_, fun b o hb hn => ?_, fun b hb => ?_, by simpa using I1.len, A, fun j s2 hj => ?_, h2, fun j b hb => ⟨(own j b hb).1, (own j b hb).2.1, (h3 j b hb).2.2⟩⟩
  · refine a3 b o (I1.fr b o hb hm) fun e => ?_
    subst e
    rcases y3 with z | z
    · rw [hb] at z
      cases z
    · exact hm z
  · cases q : F1 b with
    | some u => exact I1.nw b u q hn
    | none => exact absurd (I1.new0 (a4 b o hb q)) hn
  · have := I1.st b hb
    by_cases hbp : b = p
    · rw [hbp, a6]
      exact fun z => by cases z
    · cases q : H1 b with
      | none => exact absurd q this
      | some o =>
        rw [a3 b o q hbp]
        exact fun z => by cases z
  · by_cases e : i = j
    · subst e
      obtain ⟨rfl, _⟩ := set_same hj
      exact .inr ⟨_, hv0, p, vs', rfl, a6, a7, z4, z5⟩
    · rw [List.getElem?_set_ne e] at hj
      rcases h1 j s2 hj with z | ⟨u, x1, x2⟩
      · exact .inl z
      · exact .inr ⟨u, x1, slr_stab x2 a1 fun b hb => (own j b hb).2.2 (Ne.symm e)⟩
end

/-! ### a def's body -/
def G0 (N : List Str) (ds : List PyData) : En := ds.map Sl.d ++ List.replicate (N.length - ds.length) .un
def G1 (N : List Str) (p : Addr) (ls ds : List PyData) : En := .o (some p) ls :: (ds.map Sl.d ++ List.replicate (N.length - (ds.length + 1)) .un)
def Ret0 (p : Rs → Prop) (G : En) : Rs → Prop
  | .p (.d d) => p (.p (.d d))
  | .p (.sl i) => ∃ a ds, G[i]? = some (.o a ds) ∧ p (.fr (.o none ds))
  | .p (.ty _) => False
  | .fr s => s ≠ .un ∧ p (.fr s)
def E0 (p : Rs → Prop) : De := { nx := fun _ => p (.p (.d .none)), rt := fun G r => Ret0 p G r }
def E1 (a : Addr) (p : List PyData → PyData → Prop) : De := { nx := fun G => ∃ ls, G[0]? = some (.o (some a) ls) ∧ p ls .none, rt := fun G r => PW r fun w => ∃ d ls, w = .d d ∧ G[0]? = some (.o (some a) ls) ∧ p ls d }
theorem start_iv {K : Fr} {F H : Hp} {N : List Str} {vs : List V} {ds : List PyData} (ex : Ex F H) (h : DqAll K F vs ds) (hl : ds.length ≤ N.length) : Iv K ⟨F, H, fun _ => False⟩ (G0 N ds) (L2.start N vs) F H := by
  refine ⟨ex, Ex.refl _, fun b o h _ => h, fun b o h _ => .inl (nn h), fun b h => h, by simp [L2.start, G0, da_len h], fun _ _ => False, fun i s hi => ?_, fun _ _ _ x => x.elim, fun _ _ x => x.elim⟩
  have hd := da_len h
  by_cases hlt : i < ds.length
  · have e : s = .d ds[i] := by
      unfold G0 at hi
      rw [List.getElem?_append_left (by simpa using hlt), List.getElem?_map, List.getElem?_eq_getElem hlt] at hi
      exact (Option.some.inj hi).symm
    obtain ⟨v, h1, h2⟩ := da_get h (List.getElem?_eq_getElem hlt)
    subst e
    refine .inr ⟨v, ?_, h2⟩
    unfold L2.start
    rw [List.getElem?_append_left (by rw [List.length_map, hd]; exact hlt), List.getElem?_map, h1]
    rfl
  · refine .inl ?_
    unfold G0 at hi
    rw [List.getElem?_append_right (by simpa using Nat.le_of_not_lt hlt)] at hi
    simp only [List.getElem?_replicate] at hi
    split at hi
    · exact (Option.some.inj hi).symm
    · cases hi
section
variable {P : Program} {w : World} {K : Fr} {mg : Str → Option Value} {base : Heap} {x qual : Str} {st : Stmt} {f : Addr} {fd : FuncData} {N ps : List Str} {k : Nat}
theorem fn0 {pre : List PyData → Prop} {post : List PyData → Rs → Prop} (F : Fun K x qual st f fd) (S : FnScope N ps (defScope st)) (hl : ∀ ds, pre ds → ds.length = ps.length ∧ ds.length ≤ N.length)
    (hb : ∀ (cdv : Value) (A : Around) (outer : List Env) (s : Shared) (H : Hp) (E : XK), Room k (A.deeper (PyProof.Rows.envOfC qual (defScope st) s.heap.objs.size f cdv)) → ∃ t, PSs (cxOf CX0 P w K mg base N qual (defScope st) f cdv A outer s H E).nox (defBody st) t ∧
      ∀ ds, pre ds → ∀ B, DS K B (G0 N ds) t (E0 (post ds))) : FnOk P w K mg base CX0 (k + 1) f fd ps (sp0 K pre post) := by
  refine F.ok S (fun vs H Q E h => ?_) (fun cdv A outer s H vs Q E hr h => ?_)
  · obtain ⟨F, ds, _, h1, h2, _⟩ := h
    rw [da_len h1]
    exact (hl ds h2).1
  · obtain ⟨F0, ds, ex, h1, h2, q⟩ := h
    obtain ⟨t, ht, hs⟩ := hb cdv A outer s H E hr
    refine ⟨t, ht, ?_⟩
    have I0 := start_iv (N := N) ex h1 (hl ds h2).2
    have out : ∀ {G' : En} {S' : St} {F' H' : Hp}, Iv K ⟨F0, H, fun _ => False⟩ G' S' F' H' → Ex H H' ∧ ∀ b o, F' b = some o → F0 b = none → H b = none := fun {G' S' F' H'} J => ⟨fun b o h => J.fr b o h id, fun b o h n => by
      cases z : H b with
      | none => rfl
      | some u =>
        rcases J.nw b o h (nn z) with y | y
        · exact absurd n y
        · exact y.elim⟩
    refine hs ds h2 _ _ F0 H _ I0 ⟨fun S F H' G e J p => ?_, fun S F H' G v r e J p => ?_, fun _ _ _ _ _ _ z => z.elim, fun _ _ _ _ _ _ z => z.elim⟩
    · exact q .non F H' (.p (.d .none)) e J.ex (out J).1 (out J).2 .non p
    · match r, J, p with
      | .p (.d d), J, p => exact q v F H' (.p (.d d)) e J.1.ex (out J.1).1 (out J.1).2 J.2 p
      | .p (.sl i), J, ⟨a, ds', hi, p⟩ =>
        obtain ⟨A, a1, a2, a3⟩ := J.1.own
        obtain ⟨u, z1, c, vs', z2, z3, z4, z5, _⟩ : ∃ v, S[i]? = some (some v) ∧ SvR K F H' v (A i) (.o a ds') := (a1 i _ hi).elim (fun z => by cases z) id
        have hv : S[i]? = some (some v) := J.2
        rw [hv] at z1
        cases z1
        exact q v F H' (.fr (.o none ds')) e J.1.ex (out J.1).1 (out J.1).2 ⟨A i, ⟨c, vs', z2, z3, z4, z5, fun _ z => by cases z⟩, fun a ha => ⟨(a3 i a ha).1, (a3 i a ha).2.1, (a3 i a ha).2.2.elim id False.elim⟩⟩ p
      | .fr s, J, ⟨hu, p⟩ =>
        obtain ⟨A, a1, a2, a3⟩ := J.own
        have J' := Iv.drop J
        obtain ⟨u, z1, z2⟩ : ∃ v', (S ++ [some v])[G.length]? = some (some v') ∧ SvR K F H' v' (A G.length) s := (a1 G.length s (by simp)).elim (fun z => absurd z hu) id
        have hv : (S ++ [some v])[G.length]? = some (some v) := by
          rw [← J'.len]
          simp
        rw [hv] at z1
        cases z1
        exact q v F H' (.fr s) e J'.ex (out J').1 (out J').2 ⟨_, z2, fun a ha => ⟨(a3 _ a ha).1, (a3 _ a ha).2.1, (a3 _ a ha).2.2.elim id False.elim⟩⟩ p
theorem fn1 {pre : List PyData → List PyData → Prop} {post : List PyData → List PyData → List PyData → PyData → Prop} (F : Fun K x qual st f fd) (S : FnScope N ps (defScope st)) (hl : ∀ ls ds, pre ls ds → ds.length + 1 = ps.length ∧ ds.length + 1 ≤ N.length)
    (hb : ∀ (cdv : Value) (A : Around) (outer : List Env) (s : Shared) (H : Hp) (E : XK), Room k (A.deeper (PyProof.Rows.envOfC qual (defScope st) s.heap.objs.size f cdv)) → ∃ t, PSs (cxOf CX0 P w K mg base N qual (defScope st) f cdv A outer s H E).nox (defBody st) t ∧
      ∀ p ls ds, pre ls ds → ∀ B, DS K B (G1 N p ls ds) t (E1 p (post ls ds))) : FnOk P w K mg base CX0 (k + 1) f fd ps (sp1 K pre post) := by
  refine F.ok S (fun vs H Q E h => ?_) (fun cdv A outer s H vs Q E hr h => ?_)
  · obtain ⟨F, p, vs0, vr, ls, ds, rfl, _, _, _, _, h1, h2, _⟩ := h
    rw [List.length_cons, da_len h1]
    exact (hl ls ds h2).1
  · obtain ⟨F0, p, vs0, vr, ls, ds, rfl, ex, hF, hH, h0, h1, h2, q⟩ := h
    obtain ⟨t, ht, hs⟩ := hb cdv A outer s H E hr
    refine ⟨t, ht, ?_⟩
    obtain ⟨_, hN⟩ := hl ls ds h2
    have I0 : Iv K ⟨F0, H, fun a => a = p⟩ (G1 N p ls ds) (L2.start N (.ref p :: vr)) F0 H := by
      have J := start_iv (N := N.drop 1) ex h1 (by rw [List.length_drop]; omega)
      have eG : G1 N p ls ds = .o (some p) ls :: G0 (N.drop 1) ds := by
        unfold G1 G0
        rw [List.length_drop, show N.length - 1 - ds.length = N.length - (ds.length + 1) by omega]
      have eS : L2.start N (.ref p :: vr) = some (.ref p) :: L2.start (N.drop 1) vr := by
        unfold L2.start
        rw [List.length_drop, List.length_cons, show N.length - 1 - vr.length = N.length - (vr.length + 1) by omega]
        rfl
      rw [eG, eS]
      obtain ⟨A, a1, a2, a3⟩ := J.own
      refine ⟨ex, Ex.refl _, fun b o h _ => h, fun b o h _ => .inl (nn h), fun b h => h, congrArg (· + 1) J.len, fun j a => j = 0 ∧ a = p, fun i s hi => ?_, fun i j a x y => by rw [x.1, y.1], fun i a x => ?_⟩
      · cases i with
        | zero =>
          simp at hi
          subst hi
          exact .inr ⟨.ref p, rfl, p, vs0, rfl, hH, h0, ⟨rfl, rfl⟩, fun a z => Option.some.inj z⟩
        | succ i =>
          have hi' : (G0 (N.drop 1) ds)[i]? = some s := by simpa using hi
          by_cases hlt : i < ds.length
          · have e : s = .d ds[i] := by
              unfold G0 at hi'
              rw [List.getElem?_append_left (by simpa using hlt), List.getElem?_map, List.getElem?_eq_getElem hlt] at hi'
              exact (Option.some.inj hi').symm
            subst e
            rcases a1 i _ hi' with z | ⟨u, z1, z2⟩
            · cases z
            · exact .inr ⟨u, by simpa using z1, z2⟩
          · refine .inl ?_
            unfold G0 at hi'
            rw [List.getElem?_append_right (by simpa using Nat.le_of_not_lt hlt)] at hi'
            simp only [List.getElem?_replicate] at hi'
            split at hi'
            · exact (Option.some.inj hi').symm
            · cases hi'
      · obtain ⟨_, rfl⟩ := x
        exact ⟨hF, (by rw [hH]; exact fun z => by cases z), .inr rfl⟩
    have fin : ∀ {G' : En} {S' : St} {F' H' : Hp} {v : V} {d : PyData} {ls' : List PyData}, Iv K ⟨F0, H, fun a => a = p⟩ G' S' F' H' → Ex F0 F' → Dq K F' v d → G'[0]? = some (.o (some p) ls') → post ls ds ls' d → Q v H' := fun {G' S' F' H' v d ls'} J e hd hi p1 => by
      obtain ⟨A, a1, a2, a3⟩ := J.own
      obtain ⟨u, z1, c, vs', z2, z3, z4, z5, z6⟩ : ∃ v, S'[0]? = some (some v) ∧ SvR K F' H' v (A 0) (.o (some p) ls') := (a1 0 _ hi).elim (fun z => by cases z) id
      have ec : c = p := z6 p rfl
      subst ec
      refine q v F' H' vs' ls' d e J.ex (fun b o hb hn => J.fr b o hb hn) (fun b o hb hn => ?_) (a3 0 c z5).1 z3 z4 hd p1
      cases z : H b with
      | none => rfl
      | some u =>
        rcases J.nw b o hb (nn z) with y | y
        · exact absurd hn y
        · have y : b = c := y
          subst y
          rw [(a3 0 b z5).1] at hb
          cases hb
    refine hs p ls ds h2 _ _ F0 H _ I0 ⟨fun S F H' G e J p => ?_, fun S F H' G v r e J p => ?_, fun _ _ _ _ _ _ z => z.elim, fun _ _ _ _ _ _ z => z.elim⟩
    · obtain ⟨ls', hi, p1⟩ := p
      exact fin J e .non hi p1
    · obtain ⟨F', w, e', I', hv, d, ls', rfl, hi, p1⟩ := pw_ok J p
      exact fin I' (e.trans e') hv hi p1
end
end DL
namespace DL
open PySem L2
/-! ### what a view tells, read only -/
def slD : Option Sl → Option PyData
  | some (.o _ ds) => some (.list ds)
  | _ => none
theorem slD_of : ∀ {s : Option Sl} {d : PyData}, slD s = some d → ∃ a ds, s = some (.o a ds) ∧ d = .list ds
  | some (.o a ds), _, h => ⟨a, ds, rfl, (Option.some.inj h).symm⟩
def wd (G : En) : W → Option PyData
  | .d d => some d
  | .sl i => slD G[i]?
  | .ty _ => none
section
variable {K : Fr} {B : Bs} {G : En} {S : St} {F H : Hp} {v : V} {w : W} {d : PyData}
theorem wd_sl {i : Nat} {a : Option Addr} {ds : List PyData} (h : G[i]? = some (.o a ds)) : wd G (.sl i) = some (.list ds) := by
  show slD G[i]? = _
  rw [h]
  rfl
/-- a list (own, or data): where it stands, its items frozen -/
theorem wd_list {ds : List PyData} (I : Iv K B G S F H) (hv : Vw K S F v w) (h : wd G w = some (.list ds)) : ∃ p vs, v = .ref p ∧ H p = some (.lst vs) ∧ DqAll K F vs ds := by
  match w, hv, h with
  | .d e, hv, h =>
    cases h
    obtain ⟨p, vs, e, h1, h2⟩ := dp_lst hv
    exact ⟨p, vs, e, I.ex _ _ h1, h2⟩
  | .sl i, hv, h =>
    obtain ⟨a, ds', hi, e⟩ := slD_of h
    cases e
    obtain ⟨p, vs, e, h1, h2, h3⟩ := I.lst hi
    have hv : S[i]? = some (some v) := hv
    rw [e] at hv
    cases hv
    exact ⟨p, vs, rfl, h1, h3⟩
theorem wd_dq (I : Iv K B G S F H) (hv : Vw K S F v w) (h : wd G w = some d) : Dq K H v d := by
  match w, hv, h with
  | .d e, hv, h =>
    cases h
    exact dp_mono I.ex hv
  | .sl i, hv, h =>
    obtain ⟨a, ds', hi, e⟩ := slD_of h
    subst e
    obtain ⟨p, vs, rfl, h1, h3⟩ := wd_list I hv h
    exact .lst h1 (da_mono I.ex h3)
end
/-! ### operators -/
section
variable {X : Cx}
abbrev rEQ (K : Fr) : R2 := fun x y H Q => rEqD K x y H Q ∨ rEq x y H Q
abbrev rNE (K : Fr) : R2 := fun x y H Q => rNeD K x y H Q ∨ rNe x y H Q
theorem opEQ (hu : X.A.units + 64 < cLine) : OpR X (compareOp .Eq) (rEQ X.K) := (op_eqD hu).or op_eq
theorem opNE (hu : X.A.units + 64 < cLine) : OpR X (compareOp .NotEq) (rNE X.K) := (op_neD hu).or op_ne
abbrev rStrCat : R2 := fun x y H Q => ∃ i j, x = .str i ∧ y = .str j ∧ i.length + j.length ≤ sizeLine ∧ Q (.str (i ++ j)) H
abbrev rADD (K : Fr) : R2 := fun x y H Q => rI0 (fun i j => .int (i + j)) x y H Q ∨ rStrCat x y H Q ∨ rCat x y H Q ∨ rCatA K x y H Q
theorem opADD : OpR X (binaryOp .Add) (rADD X.K) := op_add.or (op_add_str.or (op_cat.or op_catA))
/-- x in t: a tuple of data -/
def rInT (K : Fr) : R2 := fun x y H Q => ∃ d ds, L2.Dp K H x d ∧ L2.Dp K H y (.tuple ds) ∧ SeqAt.shaped d = true ∧ SeqAt.shaped (.tuple ds) = true ∧ Q (.bl (ds.any fun z => PyData.eqv z d)) H
def rNotInT (K : Fr) : R2 := fun x y H Q => ∃ d ds, L2.Dp K H x d ∧ L2.Dp K H y (.tuple ds) ∧ SeqAt.shaped d = true ∧ SeqAt.shaped (.tuple ds) = true ∧ Q (.bl (!ds.any fun z => PyData.eqv z d)) H
theorem op_inT (hu : X.A.units + 65 < cLine) : OpR X (compareOp .In) (rInT X.K) := by
  intro pins s σ H x y v u Q I rx ry h
  obtain ⟨d, ds, hd, he, sd, se, q⟩ := h
  obtain ⟨as, r1⟩ := L2.Dp.reads I d x v hd rx
  obtain ⟨bs, r2⟩ := L2.Dp.reads I (.tuple ds) y u he ry
  exact SeqAt.in_tuple_reads r2 r1 (SeqAt.canLay_of_shaped se) (SeqAt.canLay_of_shaped sd) (PyProof.Rows.room_in_shaped sd hu) ⟨.bl _, H, I, rfl, q⟩
theorem op_notInT (hu : X.A.units + 65 < cLine) : OpR X (compareOp .NotIn) (rNotInT X.K) := by
  intro pins s σ H x y v u Q I rx ry h
  obtain ⟨d, ds, hd, he, sd, se, q⟩ := h
  obtain ⟨as, r1⟩ := L2.Dp.reads I d x v hd rx
  obtain ⟨bs, r2⟩ := L2.Dp.reads I (.tuple ds) y u he ry
  exact SeqAt.notIn_tuple_reads r2 r1 (SeqAt.canLay_of_shaped se) (SeqAt.canLay_of_shaped sd) (PyProof.Rows.room_in_shaped sd hu) ⟨.bl _, H, I, rfl, q⟩
abbrev rInS : R2 := fun x y H Q => ∃ (c : Nat) (z : Str), x = .str ⟨#[c]⟩ ∧ y = .str z ∧ Q (.bl (decide (c ∈ z.cps.toList))) H
abbrev rNotInS : R2 := fun x y H Q => ∃ (c : Nat) (z : Str), x = .str ⟨#[c]⟩ ∧ y = .str z ∧ Q (.bl (!decide (c ∈ z.cps.toList))) H
abbrev rIN (K : Fr) : R2 := fun x y H Q => rInD K x y H Q ∨ rInT K x y H Q ∨ rInS x y H Q
abbrev rNI (K : Fr) : R2 := fun x y H Q => rNotInD K x y H Q ∨ rNotInT K x y H Q ∨ rNotInS x y H Q
theorem opIN (hu : X.A.units + 65 < cLine) : OpR X (compareOp .In) (rIN X.K) := (op_inD hu).or ((op_inT hu).or op_in_sign)
theorem opNI (hu : X.A.units + 65 < cLine) : OpR X (compareOp .NotIn) (rNI X.K) := (op_notInD hu).or ((op_notInT hu).or op_notIn_sign)
abbrev rSLC (K : Fr) : V → Option Int → Option Int → Hp → VK → Prop := fun x lo hi H Q => rSlL K x lo hi H Q ∨ rSlA K x lo hi H Q ∨ rSlS x lo hi H Q
theorem slANY : L2.SlR X (rSLC X.K) := sl_list.or (sl_tupA.or sl_str)
end
def mkS (l : List Nat) : Str := ⟨l.toArray⟩
theorem mkS_cat (a b : List Nat) : mkS a ++ mkS b = mkS (a ++ b) := by
  show (⟨a.toArray ++ b.toArray⟩ : Str) = ⟨(a ++ b).toArray⟩
  simp
theorem mkS_len (a : List Nat) : (mkS a).length = a.length := by simp [mkS, Str.length]
theorem mkS_inj {a b : List Nat} : mkS a = mkS b ↔ a = b := by
  refine ⟨fun h => ?_, fun h => by rw [h]⟩
  have : a.toArray = b.toArray := congrArg Str.cps h
  simpa using congrArg Array.toList this
theorem mkS_of (x : Str) : mkS x.cps.toList = x := by
  cases x
  simp [mkS]
section
variable {K : Fr} {B : Bs} {G : En} {P : Po} {w1 w2 : W}
theorem rw_addI {i j : Int} (q : P G (.p (.d (.int (i + j))))) : RW2 K B G (rADD K) (.d (.int i)) (.d (.int j)) P := fun S F H Q v1 v2 I h1 h2 k => .inl ⟨i, j, dp_int h1, dp_int h2, ct_d k I (.int _) q⟩
theorem rw_addS {a b : List Nat} (hz : a.length + b.length ≤ sizeLine) (q : P G (.p (.d (.str (mkS (a ++ b)))))) : RW2 K B G (rADD K) (.d (.str (mkS a))) (.d (.str (mkS b))) P := fun S F H Q v1 v2 I h1 h2 k => .inr (.inl ⟨mkS a, mkS b, dp_str h1, dp_str h2, by rw [mkS_len, mkS_len]; exact hz, by rw [mkS_cat]; exact ct_d k I (.str _) q⟩)
theorem rw_addL {ds es : List PyData} (e1 : wd G w1 = some (.list ds)) (e2 : wd G w2 = some (.list es)) (hz : ds.length + es.length ≤ sizeLine) (q : P G (.fr (.o none (ds ++ es)))) : RW2 K B G (rADD K) w1 w2 P := fun S F H Q v1 v2 I h1 h2 k => by
  obtain ⟨p, vs, rfl, hp, ha⟩ := wd_list I h1 e1
  obtain ⟨p', vs', rfl, hp', ha'⟩ := wd_list I h2 e2
  exact .inr (.inr (.inl ⟨p, p', vs, vs', rfl, rfl, hp, hp', by rw [da_len ha, da_len ha']; exact hz, fun c hc => ct_L k I hc (da_app ha ha') q⟩))
theorem rw_addT {ds es : List PyData} (hz : ds.length + es.length ≤ sizeLine) (q : P G (.p (.d (.tuple (ds ++ es))))) : RW2 K B G (rADD K) (.d (.tuple ds)) (.d (.tuple es)) P := fun S F H Q v1 v2 I h1 h2 k => by
  obtain ⟨p, vs, rfl, hp, ha⟩ := dp_tup h1
  obtain ⟨p', vs', rfl, hp', ha'⟩ := dp_tup h2
  refine .inr (.inr (.inr ⟨p, p', vs, vs', rfl, rfl, SqT.of (I.ex _ _ hp), SqT.of (I.ex _ _ hp'), by rw [da_len ha, da_len ha']; exact hz, fun e => ?_, fun e1 e2 => ?_, fun e1 e2 c hc => ct_T k I hc (da_app ha ha') q⟩))
  · subst e
    cases ha
    exact ct_d k I (.tup hp' ha') q
  · subst e2
    cases ha'
    rw [List.append_nil] at q
    exact ct_d k I (.tup hp ha) q
theorem rw_sub {i j : Int} (q : P G (.p (.d (.int (i - j))))) : RW2 K B G (rI0 fun i j => .int (i - j)) (.d (.int i)) (.d (.int j)) P := fun S F H Q v1 v2 I h1 h2 k => ⟨i, j, dp_int h1, dp_int h2, ct_d k I (.int _) q⟩
theorem rw_mul {i j : Int} (hc : CMul i j) (q : P G (.p (.d (.int (i * j))))) : RW2 K B G (rI CMul fun i j => .int (i * j)) (.d (.int i)) (.d (.int j)) P := fun S F H Q v1 v2 I h1 h2 k => ⟨i, j, dp_int h1, dp_int h2, hc, ct_d k I (.int _) q⟩
theorem rw_fdiv {i j : Int} (hc : CDiv i j) (q : P G (.p (.d (.int (i / j))))) : RW2 K B G (rI CDiv fun i j => .int (i / j)) (.d (.int i)) (.d (.int j)) P := fun S F H Q v1 v2 I h1 h2 k => ⟨i, j, dp_int h1, dp_int h2, hc, ct_d k I (.int _) q⟩
theorem rw_mod {i j : Int} (hc : 0 < j) (q : P G (.p (.d (.int (i % j))))) : RW2 K B G (rI (fun _ j => 0 < j) fun i j => .int (i % j)) (.d (.int i)) (.d (.int j)) P := fun S F H Q v1 v2 I h1 h2 k => ⟨i, j, dp_int h1, dp_int h2, hc, ct_d k I (.int _) q⟩
theorem rw_pow {i j : Int} (hc : CPow i j) (q : P G (.p (.d (.int (i ^ j.toNat))))) : RW2 K B G (rI CPow fun i j => .int (i ^ j.toNat)) (.d (.int i)) (.d (.int j)) P := fun S F H Q v1 v2 I h1 h2 k => ⟨i, j, dp_int h1, dp_int h2, hc, ct_d k I (.int _) q⟩
theorem rw_cmp {i j : Int} {g : Int → Int → Bool} (q : P G (.p (.d (.bool (g i j))))) : RW2 K B G (rI0 fun i j => .bl (g i j)) (.d (.int i)) (.d (.int j)) P := fun S F H Q v1 v2 I h1 h2 k => ⟨i, j, dp_int h1, dp_int h2, ct_d k I (.bl _) q⟩
theorem rw_eqI {i j : Int} (q : P G (.p (.d (.bool (decide (i = j)))))) : RW2 K B G (rEQ K) (.d (.int i)) (.d (.int j)) P := fun S F H Q v1 v2 I h1 h2 k => by
  obtain rfl := dp_int h1
  obtain rfl := dp_int h2
  refine .inr ⟨rfl, ct_d k I (.bl _) ?_⟩
  rw [show decide (V.int i = V.int j) = decide (i = j) from decide_eq_decide.mpr ⟨fun z => V.int.inj z, fun z => by rw [z]⟩]
  exact q
theorem rw_neI {i j : Int} (q : P G (.p (.d (.bool (!decide (i = j)))))) : RW2 K B G (rNE K) (.d (.int i)) (.d (.int j)) P := fun S F H Q v1 v2 I h1 h2 k => by
  obtain rfl := dp_int h1
  obtain rfl := dp_int h2
  refine .inr ⟨rfl, ct_d k I (.bl _) ?_⟩
  rw [show decide (V.int i = V.int j) = decide (i = j) from decide_eq_decide.mpr ⟨fun z => V.int.inj z, fun z => by rw [z]⟩]
  exact q
theorem rw_eqS {i j : Str} (q : P G (.p (.d (.bool (decide (i = j)))))) : RW2 K B G (rEQ K) (.d (.str i)) (.d (.str j)) P := fun S F H Q v1 v2 I h1 h2 k => by
  obtain rfl := dp_str h1
  obtain rfl := dp_str h2
  refine .inr ⟨rfl, ct_d k I (.bl _) ?_⟩
  rw [show decide (V.str i = V.str j) = decide (i = j) from decide_eq_decide.mpr ⟨fun z => V.str.inj z, fun z => by rw [z]⟩]
  exact q
theorem rw_neS {i j : Str} (q : P G (.p (.d (.bool (!decide (i = j)))))) : RW2 K B G (rNE K) (.d (.str i)) (.d (.str j)) P := fun S F H Q v1 v2 I h1 h2 k => by
  obtain rfl := dp_str h1
  obtain rfl := dp_str h2
  refine .inr ⟨rfl, ct_d k I (.bl _) ?_⟩
  rw [show decide (V.str i = V.str j) = decide (i = j) from decide_eq_decide.mpr ⟨fun z => V.str.inj z, fun z => by rw [z]⟩]
  exact q
theorem rw_eqB {i j : Bool} (q : P G (.p (.d (.bool (decide (i = j)))))) : RW2 K B G (rEQ K) (.d (.bool i)) (.d (.bool j)) P := fun S F H Q v1 v2 I h1 h2 k => by
  obtain rfl := dp_bl h1
  obtain rfl := dp_bl h2
  refine .inr ⟨rfl, ct_d k I (.bl _) ?_⟩
  rw [show decide (V.bl i = V.bl j) = decide (i = j) from decide_eq_decide.mpr ⟨fun z => V.bl.inj z, fun z => by rw [z]⟩]
  exact q
theorem rw_neB {i j : Bool} (q : P G (.p (.d (.bool (!decide (i = j)))))) : RW2 K B G (rNE K) (.d (.bool i)) (.d (.bool j)) P := fun S F H Q v1 v2 I h1 h2 k => by
  obtain rfl := dp_bl h1
  obtain rfl := dp_bl h2
  refine .inr ⟨rfl, ct_d k I (.bl _) ?_⟩
  rw [show decide (V.bl i = V.bl j) = decide (i = j) from decide_eq_decide.mpr ⟨fun z => V.bl.inj z, fun z => by rw [z]⟩]
  exact q
theorem rw_eqD {d e : PyData} (e1 : wd G w1 = some d) (e2 : wd G w2 = some e) (s1 : SeqAt.shaped d = true) (s2 : SeqAt.shaped e = true) (q : P G (.p (.d (.bool (PyData.eqv d e))))) : RW2 K B G (rEQ K) w1 w2 P := fun S F H Q v1 v2 I h1 h2 k =>
  .inl ⟨d, e, dq_dp (wd_dq I h1 e1), dq_dp (wd_dq I h2 e2), s1, s2, ct_d k I (.bl _) q⟩
theorem rw_neD {d e : PyData} (e1 : wd G w1 = some d) (e2 : wd G w2 = some e) (s1 : SeqAt.shaped d = true) (s2 : SeqAt.shaped e = true) (q : P G (.p (.d (.bool (!PyData.eqv d e))))) : RW2 K B G (rNE K) w1 w2 P := fun S F H Q v1 v2 I h1 h2 k =>
  .inl ⟨d, e, dq_dp (wd_dq I h1 e1), dq_dp (wd_dq I h2 e2), s1, s2, ct_d k I (.bl _) q⟩
theorem rw_inL {d : PyData} {ds : List PyData} (e1 : wd G w1 = some d) (e2 : wd G w2 = some (.list ds)) (s1 : SeqAt.shaped d = true) (s2 : SeqAt.shaped (.list ds) = true) (q : P G (.p (.d (.bool (ds.any fun z => PyData.eqv z d))))) : RW2 K B G (rIN K) w1 w2 P := fun S F H Q v1 v2 I h1 h2 k =>
  .inl ⟨d, ds, dq_dp (wd_dq I h1 e1), dq_dp (wd_dq I h2 e2), s1, s2, ct_d k I (.bl _) q⟩
theorem rw_niL {d : PyData} {ds : List PyData} (e1 : wd G w1 = some d) (e2 : wd G w2 = some (.list ds)) (s1 : SeqAt.shaped d = true) (s2 : SeqAt.shaped (.list ds) = true) (q : P G (.p (.d (.bool (!ds.any fun z => PyData.eqv z d))))) : RW2 K B G (rNI K) w1 w2 P := fun S F H Q v1 v2 I h1 h2 k =>
  .inl ⟨d, ds, dq_dp (wd_dq I h1 e1), dq_dp (wd_dq I h2 e2), s1, s2, ct_d k I (.bl _) q⟩
theorem rw_inT {d : PyData} {ds : List PyData} (e1 : wd G w1 = some d) (s1 : SeqAt.shaped d = true) (s2 : SeqAt.shaped (.tuple ds) = true) (q : P G (.p (.d (.bool (ds.any fun z => PyData.eqv z d))))) : RW2 K B G (rIN K) w1 (.d (.tuple ds)) P := fun S F H Q v1 v2 I h1 h2 k =>
  .inr (.inl ⟨d, ds, dq_dp (wd_dq I h1 e1), dq_dp (dp_mono I.ex h2), s1, s2, ct_d k I (.bl _) q⟩)
theorem rw_niT {d : PyData} {ds : List PyData} (e1 : wd G w1 = some d) (s1 : SeqAt.shaped d = true) (s2 : SeqAt.shaped (.tuple ds) = true) (q : P G (.p (.d (.bool (!ds.any fun z => PyData.eqv z d))))) : RW2 K B G (rNI K) w1 (.d (.tuple ds)) P := fun S F H Q v1 v2 I h1 h2 k =>
  .inr (.inl ⟨d, ds, dq_dp (wd_dq I h1 e1), dq_dp (dp_mono I.ex h2), s1, s2, ct_d k I (.bl _) q⟩)
theorem rw_inS {c : Nat} {z : List Nat} (q : P G (.p (.d (.bool (decide (c ∈ z)))))) : RW2 K B G (rIN K) (.d (.str (mkS [c]))) (.d (.str (mkS z))) P := fun S F H Q v1 v2 I h1 h2 k =>
  .inr (.inr ⟨c, mkS z, dp_str h1, dp_str h2, ct_d k I (.bl _) q⟩)
theorem rw_niS {c : Nat} {z : List Nat} (q : P G (.p (.d (.bool (!decide (c ∈ z)))))) : RW2 K B G (rNI K) (.d (.str (mkS [c]))) (.d (.str (mkS z))) P := fun S F H Q v1 v2 I h1 h2 k =>
  .inr (.inr ⟨c, mkS z, dp_str h1, dp_str h2, ct_d k I (.bl _) q⟩)
/-! is -/
def isNone : PyData → Bool
  | .none => true
  | _ => false
theorem dq_isN {H : Hp} {v : V} {d : PyData} (h : Dq K H v d) : decide (v = .non) = isNone d := by
  cases h <;> rfl
theorem rw_isN {d : PyData} (e1 : wd G w1 = some d) (q : P G (.p (.d (.bool (isNone d))))) : RW2 K B G (fun x y H Q => y = .non ∧ Q (.bl (decide (x = .non))) H) w1 (.d .none) P := fun S F H Q v1 v2 I h1 h2 k =>
  ⟨dp_non h2, by rw [dq_isN (wd_dq I h1 e1)]; exact ct_d k I (.bl _) q⟩
theorem rw_notN {d : PyData} (e1 : wd G w1 = some d) (q : P G (.p (.d (.bool (!isNone d))))) : RW2 K B G (fun x y H Q => y = .non ∧ Q (.bl (!decide (x = .non))) H) w1 (.d .none) P := fun S F H Q v1 v2 I h1 h2 k =>
  ⟨dp_non h2, by rw [dq_isN (wd_dq I h1 e1)]; exact ct_d k I (.bl _) q⟩
theorem rw_isB {a b : Bool} (q : P G (.p (.d (.bool (decide (a = b)))))) : RW2 K B G rIsB (.d (.bool a)) (.d (.bool b)) P := fun S F H Q v1 v2 I h1 h2 k => ⟨a, b, dp_bl h1, dp_bl h2, ct_d k I (.bl _) q⟩
theorem rw_notB {a b : Bool} (q : P G (.p (.d (.bool (!decide (a = b)))))) : RW2 K B G rNotB (.d (.bool a)) (.d (.bool b)) P := fun S F H Q v1 v2 I h1 h2 k => ⟨a, b, dp_bl h1, dp_bl h2, ct_d k I (.bl _) q⟩
/-! items -/
theorem ixN_map {n m : Nat} (e : n = m) (i : Int) : ixN n i = ixN m i := by rw [e]
theorem atI_da {F : Hp} {vs : List V} {ds : List PyData} {i : Int} {d : PyData} (h : DqAll K F vs ds) (e : atI ds i = some d) : ∃ v, atI vs i = some v ∧ Dq K F v d := by
  unfold atI at e ⊢
  rw [da_len h]
  cases q : ixN ds.length i with
  | none =>
    rw [q] at e
    cases e
  | some j =>
    rw [q] at e
    exact da_get h e
theorem rw_ixL {ds : List PyData} {i : Int} {d : PyData} (e1 : wd G w1 = some (.list ds)) (e : atI ds i = some d) (q : P G (.p (.d d))) : RW2 K B G (rIx K) w1 (.d (.int i)) P := fun S F H Q v1 v2 I h1 h2 k => by
  obtain ⟨p, vs, rfl, hp, ha⟩ := wd_list I h1 e1
  obtain ⟨v, hv, hd⟩ := atI_da ha e
  exact .inl ⟨p, vs, i, v, rfl, dp_int h2, SqL.of hp, hv, ct_d k I hd q⟩
theorem rw_ixT {ds : List PyData} {i : Int} {d : PyData} (e : atI ds i = some d) (q : P G (.p (.d d))) : RW2 K B G (rIx K) (.d (.tuple ds)) (.d (.int i)) P := fun S F H Q v1 v2 I h1 h2 k => by
  obtain ⟨p, vs, rfl, hp, ha⟩ := dp_tup h1
  obtain ⟨v, hv, hd⟩ := atI_da ha e
  exact .inr (.inl ⟨p, vs, i, v, rfl, dp_int h2, SqT.of (I.ex _ _ hp), hv, ct_d k I hd q⟩)
theorem rw_ixS {z : List Nat} {i : Int} {c : Nat} (hz : z.length ≤ sizeLine) (e : atI z i = some c) (q : P G (.p (.d (.str (mkS [c]))))) : RW2 K B G (rIx K) (.d (.str (mkS z))) (.d (.int i)) P := fun S F H Q v1 v2 I h1 h2 k =>
  .inr (.inr ⟨mkS z, i, c, dp_str h1, dp_int h2, by rw [mkS_len]; exact hz, e, ct_d k I (.str _) q⟩)
/-! slices -/
def DO (K : Fr) (B : Bs) (G : En) (to : TO) (PO : En → Option Int → Prop) : Prop := ∀ S F H (Q : Option Int → Hp → Prop), Iv K B G S F H → (∀ o F' H' G', Ex F F' → Iv K B G' S F' H' → PO G' o → Q o H') → to S H Q
theorem do_none {PO : En → Option Int → Prop} (h : PO G none) : DO K B G tNoPart PO := fun S F H Q I k => k none F H G (Ex.refl F) I h
theorem do_some {te : TE} {PO : En → Option Int → Prop} (h : DW K B G te fun G1 r => PW r fun w => ∃ i, w = .d (.int i) ∧ PO G1 (some i)) : DO K B G (tPart te) PO := fun S F H Q I k => by
  show te S H fun x H1 => ∃ i, x = .int i ∧ Q (some i) H1
  refine dw_run (k' := fun G1 w => ∃ i, w = .d (.int i) ∧ PO G1 (some i)) h I fun v F1 H1 G1 w e1 I1 hv q => ?_
  obtain ⟨i, rfl, q⟩ := q
  exact ⟨i, dp_int hv, k _ F1 H1 G1 e1 I1 q⟩
def cutD {α : Type} (xs : List α) (lo hi : Option Int) : List α := (xs.drop (HT.sIx xs.length 0 lo)).take (HT.sIx xs.length xs.length hi - HT.sIx xs.length 0 lo)
theorem da_cut {F : Hp} {vs : List V} {ds : List PyData} (h : DqAll K F vs ds) (lo hi : Option Int) : DqAll K F (cutV vs lo hi) (cutD ds lo hi) := by
  unfold cutV cutD
  rw [da_len h]
  exact da_take _ (da_drop _ h)
theorem cutD_len {α : Type} (xs : List α) (lo hi : Option Int) : (cutD xs lo hi).length ≤ xs.length := by
  unfold cutD
  rw [List.length_take, List.length_drop]
  omega
def RWs (K : Fr) (B : Bs) (G : En) (r : V → Option Int → Option Int → Hp → VK → Prop) (w1 : W) (lo hi : Option Int) (P : Po) : Prop := ∀ S F H Q v1, Iv K B G S F H → Vw K S F v1 w1 → Ct K B S F P Q → r v1 lo hi H Q
theorem dw_sl3 {te : TE} {tl th : TO} {r : V → Option Int → Option Int → Hp → VK → Prop} (h : DW K B G te fun G1 r1 => PW r1 fun w1 => DO K B G1 tl fun G2 lo => DO K B G2 th fun G3 hi => RWs K B G3 r w1 lo hi P) : DW K B G (tSl r te tl th) P := fun S F H Q I k => by
  show te S H fun x H1 => tl S H1 fun l H2 => th S H2 fun u H3 => r x l u H3 Q
  refine dw_run (k' := fun G1 w1 => DO K B G1 tl fun G2 lo => DO K B G2 th fun G3 hi => RWs K B G3 r w1 lo hi P) h I fun v1 F1 H1 G1 w1 e1 I1 r1 q1 => ?_
  refine q1 S F1 H1 _ I1 fun lo F2 H2 G2 e2 I2 q2 => ?_
  refine q2 S F2 H2 _ I2 fun hi F3 H3 G3 e3 I3 q3 => ?_
  exact q3 S F3 H3 Q v1 I3 (r1.mono (e2.trans e3)) (k.mono ((e1.trans e2).trans e3))
theorem rs_L {ds : List PyData} {lo hi : Option Int} (e1 : wd G w1 = some (.list ds)) (q : P G (.fr (.o none (cutD ds lo hi)))) : RWs K B G (rSLC K) w1 lo hi P := fun S F H Q v1 I h1 k => by
  obtain ⟨p, vs, rfl, hp, ha⟩ := wd_list I h1 e1
  exact .inl ⟨p, vs, rfl, SqL.of hp, fun c hc => ct_L k I hc (da_cut ha lo hi) q⟩
theorem rs_T {ds : List PyData} {lo hi : Option Int} (q : P G (.p (.d (.tuple (cutD ds lo hi))))) : RWs K B G (rSLC K) (.d (.tuple ds)) lo hi P := fun S F H Q v1 I h1 k => by
  obtain ⟨p, vs, rfl, hp, ha⟩ := dp_tup h1
  refine .inr (.inl ⟨p, vs, rfl, SqT.of (I.ex _ _ hp), fun ⟨z1, z2⟩ => ?_, fun _ c hc => ct_T k I hc (da_cut ha lo hi) q⟩)
  have e : cutD ds lo hi = ds := by
    unfold cutD
    rw [← da_len ha, z1, z2]
    simp [da_len ha]
  rw [e] at q
  exact ct_d k I h1 q
theorem rs_S {z : List Nat} {lo hi : Option Int} (hz : z.length ≤ sizeLine) (q : P G (.p (.d (.str (mkS (cutD z lo hi)))))) : RWs K B G (rSLC K) (.d (.str (mkS z))) lo hi P := fun S F H Q v1 I h1 k => by
  refine .inr (.inr ⟨mkS z, dp_str h1, by rw [mkS_len]; exact hz, ?_⟩)
  have e : cutS (mkS z) lo hi = mkS (cutD z lo hi) := by
    unfold cutS cutD
    rw [mkS_len]
    rfl
  rw [e]
  exact ct_d k I (.str _) q
end
end DL
namespace DL
open PySem L2
section
variable {K : Fr} {B : Bs} {G : En} {P : Po} {w1 w2 : W}
theorem vws1 {S : St} {F : Hp} {vs : List V} {w : W} (h : Vws K S F vs [w]) : ∃ v, vs = [v] ∧ Vw K S F v w := by
  cases h with
  | cons a t =>
    cases t
    exact ⟨_, rfl, a⟩
theorem vws2 {S : St} {F : Hp} {vs : List V} {w w' : W} (h : Vws K S F vs [w, w']) : ∃ v v', vs = [v, v'] ∧ Vw K S F v w ∧ Vw K S F v' w' := by
  cases h with
  | cons a t =>
    cases t with
    | cons b t =>
      cases t
      exact ⟨_, _, rfl, a, b⟩
/-! ### calls of built-ins -/
abbrev rLEN (K : Fr) : List V → Hp → VK → Prop := fun xs H Q => ∃ x n, xs = [x] ∧ LenV K x H n ∧ Q (.int (n : Nat)) H
def lenD : PyData → Option Nat
  | .list ds => some ds.length
  | .tuple ds => some ds.length
  | _ => none
theorem len_dq {H : Hp} {v : V} {d : PyData} {n : Nat} (h : Dq K H v d) (e : lenD d = some n) : LenV K v H n := by
  cases h with
  | lst h a =>
    cases e
    exact .inl ⟨_, SqL.of h, (da_len a).symm⟩
  | tup h a =>
    cases e
    exact .inr ⟨_, SqT.of h, (da_len a).symm⟩
  | str x => cases e
  | non => cases e
  | bl _ => cases e
  | int _ => cases e
theorem rn_len {d : PyData} {n : Nat} (e1 : wd G w1 = some d) (e : lenD d = some n) (q : P G (.p (.d (.int (n : Int))))) : RWn K B G (rLEN K) [w1] P := fun S F H Q vs I hv k => by
  obtain ⟨v, rfl, h1⟩ := vws1 hv
  exact ⟨v, n, rfl, len_dq (wd_dq I h1 e1) e, ct_d k I (.int _) q⟩
theorem rn_lenL {ds : List PyData} (e1 : wd G w1 = some (.list ds)) (q : P G (.p (.d (.int (ds.length : Int))))) : RWn K B G (rLEN K) [w1] P := rn_len e1 rfl q
theorem rn_lenT {ds : List PyData} (q : P G (.p (.d (.int (ds.length : Int))))) : RWn K B G (rLEN K) [.d (.tuple ds)] P := rn_len (w1 := .d (.tuple ds)) rfl rfl q
theorem rn_lenS {z : List Nat} (hz : z.length ≤ sizeLine) (q : P G (.p (.d (.int (z.length : Int))))) : RWn K B G (rLEN K) [.d (.str (mkS z))] P := fun S F H Q vs I hv k => by
  obtain ⟨v, rfl, h1⟩ := vws1 hv
  obtain rfl := dp_str h1
  refine ⟨_, z.length, rfl, ⟨by rw [mkS_len]; exact hz, (mkS_len z).symm⟩, ct_d k I (.int _) q⟩
abbrev rINT : List V → Hp → VK → Prop := fun xs H Q => (∃ i, xs = [.int i] ∧ Q (.int i) H) ∨ ∃ k, xs = [.bl k] ∧ Q (.int (if k then 1 else 0)) H
theorem rn_intI {i : Int} (q : P G (.p (.d (.int i)))) : RWn K B G rINT [.d (.int i)] P := fun S F H Q vs I hv k => by
  obtain ⟨v, rfl, h1⟩ := vws1 hv
  exact .inl ⟨i, by rw [dp_int h1], ct_d k I (.int _) q⟩
theorem rn_intB {b : Bool} (q : P G (.p (.d (.int (if b then 1 else 0))))) : RWn K B G rINT [.d (.bool b)] P := fun S F H Q vs I hv k => by
  obtain ⟨v, rfl, h1⟩ := vws1 hv
  exact .inr ⟨b, by rw [dp_bl h1], ct_d k I (.int _) q⟩
theorem rn_max {i j : Int} (q : P G (.p (.d (.int (if j > i then j else i))))) : RWn K B G (fun xs H Q => ∃ i j, xs = [.int i, .int j] ∧ Q (.int (if j > i then j else i)) H) [.d (.int i), .d (.int j)] P := fun S F H Q vs I hv k => by
  obtain ⟨v, v', rfl, h1, h2⟩ := vws2 hv
  exact ⟨i, j, by rw [dp_int h1, dp_int h2], ct_d k I (.int _) q⟩
theorem rn_min {i j : Int} (q : P G (.p (.d (.int (if j < i then j else i))))) : RWn K B G (fun xs H Q => ∃ i j, xs = [.int i, .int j] ∧ Q (.int (if j < i then j else i)) H) [.d (.int i), .d (.int j)] P := fun S F H Q vs I hv k => by
  obtain ⟨v, v', rfl, h1, h2⟩ := vws2 hv
  exact ⟨i, j, by rw [dp_int h1, dp_int h2], ct_d k I (.int _) q⟩
abbrev rLIST (K : Fr) : List V → Hp → VK → Prop := fun xs H Q => ∃ p ys, xs = [.ref p] ∧ (SqL K H p ys ∨ SqT K H p ys) ∧ ∀ l, H l = none → Q (.ref l) (upd H l (.lst ys))
theorem rn_listL {ds : List PyData} (e1 : wd G w1 = some (.list ds)) (q : P G (.fr (.o none ds))) : RWn K B G (rLIST K) [w1] P := fun S F H Q vs I hv k => by
  obtain ⟨v, rfl, h1⟩ := vws1 hv
  obtain ⟨p, us, rfl, hp, ha⟩ := wd_list I h1 e1
  exact ⟨p, us, rfl, .inl (SqL.of hp), fun c hc => ct_L k I hc ha q⟩
theorem rn_listT {ds : List PyData} (q : P G (.fr (.o none ds))) : RWn K B G (rLIST K) [.d (.tuple ds)] P := fun S F H Q vs I hv k => by
  obtain ⟨v, rfl, h1⟩ := vws1 hv
  obtain ⟨p, us, rfl, hp, ha⟩ := dp_tup h1
  exact ⟨p, us, rfl, .inr (SqT.of (I.ex _ _ hp)), fun c hc => ct_L k I hc ha q⟩
abbrev rTUP (K : Fr) : List V → Hp → VK → Prop := fun xs H Q => ∃ p ys, xs = [.ref p] ∧ ((SqL K H p ys ∧ ∀ l, H l = none → Q (.ref l) (upd H l (.tup ys))) ∨ (SqT K H p ys ∧ Q (.ref p) H))
theorem rn_tupL {ds : List PyData} (e1 : wd G w1 = some (.list ds)) (q : P G (.p (.d (.tuple ds)))) : RWn K B G (rTUP K) [w1] P := fun S F H Q vs I hv k => by
  obtain ⟨v, rfl, h1⟩ := vws1 hv
  obtain ⟨p, us, rfl, hp, ha⟩ := wd_list I h1 e1
  exact ⟨p, us, rfl, .inl ⟨SqL.of hp, fun c hc => ct_T k I hc ha q⟩⟩
theorem rn_tupT {ds : List PyData} (q : P G (.p (.d (.tuple ds)))) : RWn K B G (rTUP K) [.d (.tuple ds)] P := fun S F H Q vs I hv k => by
  obtain ⟨v, rfl, h1⟩ := vws1 hv
  obtain ⟨p, us, rfl, hp, ha⟩ := dp_tup h1
  exact ⟨p, us, rfl, .inr ⟨SqT.of (I.ex _ _ hp), ct_d k I h1 q⟩⟩
theorem rn_str {i : Int} (hi : i.natAbs.log2 < 1920) (q : P G (.p (.d (.str (toString i))))) : RWn K B G (fun xs H Q => ∃ i, xs = [.int i] ∧ i.natAbs.log2 < 1920 ∧ Q (.str (toString i)) H) [.d (.int i)] P := fun S F H Q vs I hv k => by
  obtain ⟨v, rfl, h1⟩ := vws1 hv
  exact ⟨i, by rw [dp_int h1], hi, ct_d k I (.str _) q⟩
end
/-! sorted of ints -/
def srtI (ns : List Int) : List Int := ns.mergeSort (fun a b => decide (a ≤ b))
theorem srtI_perm (ns : List Int) : (srtI ns).Perm ns := List.mergeSort_perm _ _
theorem srtI_len (ns : List Int) : (srtI ns).length = ns.length := (srtI_perm ns).length_eq
theorem srtI_mem {ns : List Int} {x : Int} : x ∈ srtI ns ↔ x ∈ ns := (srtI_perm ns).mem_iff
theorem srtI_pw (ns : List Int) : (srtI ns).Pairwise (· ≤ ·) := by
  have h := List.pairwise_mergeSort (le := fun a b : Int => decide (a ≤ b)) (fun a b c h1 h2 => by simp at *; omega) (fun a b => by simp; omega) ns
  exact h.imp fun h => by simpa using h
theorem pw_perm_eq : ∀ {l m : List Int}, l.Pairwise (· ≤ ·) → m.Pairwise (· ≤ ·) → l.Perm m → l = m
  | [], m, _, _, h => (List.nil_perm.mp h).symm ▸ rfl
  | x :: l, [], _, _, h => by simpa using h.length_eq
  | x :: l, y :: m, h1, h2, h => by
    have hx : x ∈ y :: m := h.mem_iff.mp List.mem_cons_self
    have hy : y ∈ x :: l := h.mem_iff.mpr List.mem_cons_self
    have a1 := List.pairwise_cons.mp h1
    have a2 := List.pairwise_cons.mp h2
    have e : x = y := by
      rcases List.mem_cons.mp hx with z | z
      · exact z
      · rcases List.mem_cons.mp hy with z' | z'
        · exact z'.symm
        · have b1 : x ≤ y := a1.1 y z'
          have b2 : y ≤ x := a2.1 x z
          omega
    subst e
    rw [pw_perm_eq a1.2 a2.2 h.cons_inv]
theorem srtI_eq {ns ms : List Int} (h1 : ms.Perm ns) (h2 : ms.Pairwise (· ≤ ·)) : ms = srtI ns := pw_perm_eq h2 (srtI_pw ns) (h1.trans (srtI_perm ns).symm)
section
variable {K : Fr} {B : Bs} {G : En} {P : Po} {w1 w2 : W}
theorem rn_sortI {ns : List Int} (e1 : wd G w1 = some (.list (ns.map .int))) (q : P G (.fr (.o none ((srtI ns).map .int)))) : RWn K B G (rSortedI K) [w1] P := fun S F H Q vs I hv k => by
  obtain ⟨v, rfl, h1⟩ := vws1 hv
  obtain ⟨p, us, rfl, hp, ha⟩ := wd_list I h1 e1
  obtain rfl := da_ints_eq ha
  refine ⟨p, ns, rfl, SqL.of hp, fun ns' c hp hw hc => ?_⟩
  rw [srtI_eq hp hw]
  exact ct_L k I hc (da_ints _) q
/-! ### methods -/
/-- the receiver's type, by its view -/
def tyW (G : En) (T : String) : W → Prop
  | .d (.str _) => T = "str"
  | .d (.list _) => T = "list"
  | .sl i => T = "list" ∧ ∃ a ds, G[i]? = some (.o a ds)
  | _ => False
theorem tyW_ok {S : St} {F H : Hp} {v : V} {T : String} {w : W} (I : Iv K B G S F H) (hv : Vw K S F v w) (h : tyW G T w) : tyV K T v H := by
  match w, hv, h with
  | .d (.str _), hv, h =>
    obtain rfl := dp_str hv
    exact h
  | .d (.list _), hv, h =>
    obtain ⟨p, vs, rfl, h1, h2⟩ := dp_lst hv
    exact .inl ⟨h, vs, SqL.of (I.ex _ _ h1)⟩
  | .sl i, hv, ⟨h, a, ds, hi⟩ =>
    obtain ⟨p, vs, rfl, h1, h2⟩ := wd_list I hv (wd_sl hi)
    exact .inl ⟨h, vs, SqL.of h1⟩
theorem dw_BM {T : String} {r : V → List V → Hp → VK → Prop} {to : TE} {t : TA} (h : DW K B G to fun G1 r1 => PW r1 fun w1 => tyW G1 T w1 ∧ DA K B G1 t fun G2 ws => RWm K B G2 r w1 ws P) : DW K B G (tBM K T r to t) P := fun S F H Q I k => by
  show to S H fun x H1 => tyV K T x H1 ∧ t S H1 fun xs H2 => r x xs H2 Q
  refine dw_run (k' := fun G1 w1 => tyW G1 T w1 ∧ DA K B G1 t fun G2 ws => RWm K B G2 r w1 ws P) h I fun v1 F1 H1 G1 w1 e1 I1 r1 q1 => ⟨tyW_ok I1 r1 q1.1, ?_⟩
  exact q1.2 S F1 H1 _ I1 fun vs F2 H2 G2 ws e2 I2 r2 q2 => q2 S F2 H2 Q v1 vs I2 (r1.mono e2) r2 (k.mono (e1.trans e2))
theorem dw_BM0 {T : String} {r : V → List V → Hp → VK → Prop} {to : TE} (h : DW K B G to fun G1 r1 => PW r1 fun w1 => tyW G1 T w1 ∧ RWm K B G1 r w1 [] P) : DW K B G (tBM0 K T r to) P := fun S F H Q I k => by
  show to S H fun x H1 => tyV K T x H1 ∧ r x [] H1 Q
  refine dw_run (k' := fun G1 w1 => tyW G1 T w1 ∧ RWm K B G1 r w1 [] P) h I fun v1 F1 H1 G1 w1 e1 I1 r1 q1 => ⟨tyW_ok I1 r1 q1.1, ?_⟩
  exact q1.2 S F1 H1 Q v1 [] I1 r1 .nil (k.mono e1)
/-- xs.append(e) -/
theorem rm_app {i : Nat} {a : Option Addr} {ds : List PyData} {d : PyData} (hi : G[i]? = some (.o a ds)) (hz : ds.length < sizeLine) (q : P (G.set i (.o a (ds ++ [d]))) (.p (.d .none))) : RWm K B G rAppend (.sl i) [.d d] P := fun S F H Q v vs I hv hs k => by
  obtain ⟨y, rfl, hy⟩ := vws1 hs
  obtain ⟨p, us, e, hp, hF, ha⟩ := I.lst hi
  have hv : S[i]? = some (some v) := hv
  rw [e] at hv
  cases hv
  refine ⟨p, us, y, rfl, rfl, hp, by rw [da_len ha]; exact hz, ?_⟩
  exact k .non F _ _ (.p (.d .none)) (Ex.refl F) ⟨I.mut hi e (da_app ha (.cons hy .nil)), .non⟩ q
/-- xs.extend(ys) -/
theorem rm_ext {i : Nat} {a : Option Addr} {ds es : List PyData} (hi : G[i]? = some (.o a ds)) (e2 : wd G w2 = some (.list es)) (hz : ds.length + es.length ≤ sizeLine) (q : P (G.set i (.o a (ds ++ es))) (.p (.d .none))) : RWm K B G rExtend (.sl i) [w2] P := fun S F H Q v vs I hv hs k => by
  obtain ⟨y, rfl, hy⟩ := vws1 hs
  obtain ⟨p, us, e, hp, hF, ha⟩ := I.lst hi
  have hv : S[i]? = some (some v) := hv
  rw [e] at hv
  cases hv
  obtain ⟨p', us', rfl, hp', ha'⟩ := wd_list I hy e2
  refine ⟨p, p', us, us', rfl, rfl, hp, hp', by rw [da_len ha, da_len ha']; exact hz, ?_⟩
  exact k .non F _ _ (.p (.d .none)) (Ex.refl F) ⟨I.mut hi e (da_app ha ha'), .non⟩ q
/-- xs.pop(0) -/
theorem rm_pop0 {i : Nat} {a : Option Addr} {d : PyData} {ds : List PyData} (hi : G[i]? = some (.o a (d :: ds))) (q : P (G.set i (.o a ds)) (.p (.d d))) : RWm K B G rPopAt (.sl i) [.d (.int 0)] P := fun S F H Q v vs I hv hs k => by
  obtain ⟨y, rfl, hy⟩ := vws1 hs
  obtain rfl := dp_int hy
  obtain ⟨p, us, e, hp, hF, ha⟩ := I.lst hi
  have hv : S[i]? = some (some v) := hv
  rw [e] at hv
  cases hv
  cases ha with
  | @cons u ur _ _ hu hr =>
    refine ⟨p, u :: ur, 0, 0, u, rfl, rfl, hp, by decide, by decide, ?_, rfl, ?_⟩
    · exact PySem.seqIndex_of (by decide) (by simp)
    · exact k u F _ _ (.p (.d d)) (Ex.refl F) ⟨I.mut hi e hr, hu⟩ q
/-- xs.pop() -/
theorem rm_pop {i : Nat} {a : Option Addr} {d : PyData} {ds : List PyData} (hi : G[i]? = some (.o a (ds ++ [d]))) (q : P (G.set i (.o a ds)) (.p (.d d))) : RWm K B G rPop (.sl i) [] P := fun S F H Q v vs I hv hs k => by
  cases hs
  obtain ⟨p, us, e, hp, hF, ha⟩ := I.lst hi
  have hv : S[i]? = some (some v) := hv
  rw [e] at hv
  cases hv
  have hl := da_len ha
  simp only [List.length_append, List.length_singleton] at hl
  obtain ⟨y, hy, hd⟩ := da_get ha (i := ds.length) (d := d) (by simp)
  refine ⟨p, us, y, rfl, rfl, hp, by rw [hl]; exact hy, ?_⟩
  have e2 : DqAll K F us.dropLast ds := by
    have := da_take ds.length ha
    rw [List.take_left' rfl] at this
    rw [List.dropLast_eq_take, hl]
    exact this
  exact k y F _ _ (.p (.d d)) (Ex.refl F) ⟨I.mut hi e e2, hd⟩ q
theorem idx_le : ∀ {z : List Nat} {c i : Nat}, z[i]? = some c → z.idxOf c ≤ i
  | [], _, _, h => by simp at h
  | x :: z, c, 0, h => by
    simp at h
    subst h
    simp
  | x :: z, c, i + 1, h => by
    have := idx_le (z := z) (c := c) (i := i) (by simpa using h)
    rw [List.idxOf_cons]
    cases (x == c)
    · show z.idxOf c + 1 ≤ i + 1
      omega
    · exact Nat.zero_le _
/-- t.index(sign) -/
theorem occ_ix (z : List Nat) (c : Nat) (h : c ∈ z) : ∃ rest, Builtin.Str.occurrences (mkS z) (mkS [c]) 0 (mkS z).length 1 = (z.idxOf c) :: rest := by
  have at_ : ∀ i, PySem.StrLaws.At (mkS z) (mkS [c]) (mkS z).length i ↔ z[i]? = some c := fun i => PySem.StrLaws.subAt_one (mkS z) c i
  have hi : z[z.idxOf c]? = some c := by
    have hl := List.idxOf_lt_length_of_mem h
    rw [List.getElem?_eq_getElem hl, List.getElem_idxOf hl]
  rcases PySem.StrLaws.occ_head (mkS z) (mkS [c]) 1 (Nat.le_refl 1) with ⟨_, hn⟩ | ⟨i, r, e, ha, hn⟩
  · exact absurd ((at_ _).mpr hi) (hn _)
  · refine ⟨r, ?_⟩
    have h1 := (at_ i).mp ha
    have e2 : i = z.idxOf c := by
      rcases Nat.lt_trichotomy i (z.idxOf c) with q | q | q
      · exact absurd (idx_le h1) (by omega)
      · exact q
      · exact absurd ((at_ _).mpr hi) (hn _ q)
    rw [e, e2]
theorem rm_sindex {z : List Nat} {c : Nat} (h : c ∈ z) (q : P G (.p (.d (.int ((z.idxOf c : Nat) : Int))))) : RWm K B G (fun x xs H Q => ∃ a b i rest, x = .str a ∧ xs = [.str b] ∧ Builtin.Str.occurrences a b 0 a.length 1 = i :: rest ∧ Q (.int (i : Nat)) H) (.d (.str (mkS z))) [.d (.str (mkS [c]))] P := fun S F H Q v vs I hv hs k => by
  obtain ⟨y, rfl, hy⟩ := vws1 hs
  obtain rfl := dp_str hv
  obtain rfl := dp_str hy
  obtain ⟨rest, e⟩ := occ_ix z c h
  exact ⟨_, _, _, rest, rfl, rfl, e, ct_d k I (.int _) q⟩
end
end DL
namespace L2
open PySem PySem.Spec PyProof.Rows
section
variable {P : Program} {w : World} {A : Around} {E : Value → Shared → Prop} {s : Shared}
theorem call_set_lstI {l : Addr} {items : Array Value} (ns : List Int) {Q : Value → Shared → Prop} (hh : A.handled = none) (hl : s.heap.IsList l items) (hit : IntsAre items.toList ns) (hb : ns.length + 1 < scanBound)
    (h : ∀ (h' : Heap) (tk c : Nat), SetR w h' s.heap.objs.size (fun j => decide (j ∈ ns)) c → c ≤ ns.length → (∀ b o, s.heap.get? b = some o → h'.get? b = some o) → Q (.ref s.heap.objs.size) { s with heap := h', toks := tk }) :
    wpAny (model P w) A (call (.type "set") [.ref l]) Q E s := by
  have hisz : items.size = ns.length := by
    have q := IntsAre.length hit
    rw [Array.length_toList] at q
    exact q
  obtain ⟨c, tl, hmro⟩ := F.called_set.mro
  have hmade := F.called_set.made
  have hsub := F.called_set.sub
  refine wpAny_call (codeAny_of_tree ?_)
  show wpAny _ _ (callAny (.type "set") _) _ _ _
  refine wpAny_pure ⟨Code.quiet_builtin _ (by decide +kernel), codeAny_builtin F.entry_type_call ?_⟩
  rw [Around.under_plain (weight_type_call_type "set" [.ref l] []) rfl]
  have h1 := F.called_set.notType
  have h2 := F.called_set.canCreate
  have hct := F.typeCall_set_1 (.ref l)
  repeat (any_goals (first | assumption | wp_step))

  refine codeAny_mono (code_set_led1 (.ref l) (E := E) (Q₁ := fun obj s₁ => obj = .ref s.heap.objs.size ∧ s₁ = { s with heap := s.heap.push { cls := .type "set", dict := none, data := .set #[] 0 (.fresh 0 0 (!w.params.followText "set-order")) } }) ⟨rfl, rfl⟩) fun r s₁ hr => ?_
  cases r with
  | error e => exact hr
  | ok fl =>
    cases fl with
    | ret obj =>
      obtain ⟨rfl, rfl⟩ := hr
      have hS : (s.heap.push { cls := .type "set", dict := none, data := .set #[] 0 (.fresh 0 0 (!w.params.followText "set-order")) }).get? s.heap.objs.size = some { cls := .type "set", dict := none, data := .set #[] 0 (.fresh 0 0 (!w.params.followText "set-order")) } := Heap.get?_push_size _ rfl
      have hT : Shared.TypeIs { s with heap := s.heap.push { cls := .type "set", dict := none, data := .set #[] 0 (.fresh 0 0 (!w.params.followText "set-order")) } } (.ref s.heap.objs.size) "set" := ⟨_, hS, rfl⟩
      have hli := F.called_set.init.lookup
      have hbi := F.called_set.init.bind (.ref s.heap.objs.size)
      repeat (any_goals (first | assumption | wp_step))

      refine codeAny_mono (codeAny_call_builtin (R := wants (fun r s₂ => r = .none ∧ ∃ h' tk c, s₂ = { s with heap := h', toks := tk } ∧ SetR w h' s.heap.objs.size (fun j => decide (j ∈ ns)) c ∧ c ≤ ns.length ∧
          (∀ b o, s.heap.get? b = some o → h'.get? b = some o)) E) F.called_set.init.plain F.entry_set_init (check_set_init_1 hT ?_)) fun r₂ s₂ hr₂ => ?_
      · obtain ⟨ol, hol, hcl, nl, hdl⟩ := hl
        obtain ⟨ocls, odict, odata, oslots⟩ := ol
        simp only at hcl hdl
        subst hcl; subst hdl
        have hol' : (s.heap.push { cls := .type "set", dict := none, data := .set #[] 0 (.fresh 0 0 (!w.params.followText "set-order")) }).get? l = some { cls := .type "list", dict := odict, data := .seq items nl, slots := oslots } := Heap.get?_push_of_some _ hol
        have hsls := F.sub_list_set
        have hslf := F.sub_list_frozenset
        have hne : (Value.type "list" == Value.type "dict") = false := by decide
        have hl1 : (s.heap.push { cls := .type "set", dict := none, data := .set #[] 0 (.fresh 0 0 (!w.params.followText "set-order")) }).IsList l items := ⟨_, hol', rfl, nl, rfl⟩
        unfold Builtin.«set.__init__» noKeywords Builtin.Frozenset.updateFrom
        generalize hPI : pyIter = PI
        wp_walk
        subst hPI

        refine wpAny_pyIter_list hl1 ?_
        refine wpAny_bind (wpAny_runValue ?_)
        have hlS : l < s.heap.objs.size := Heap.lt_size hol
        have hh3 : A.in1.in1.in1.handled = none := by simp [hh]
        have hz1 : (s.heap.push { cls := .type "set", dict := none, data := .set #[] 0 (.fresh 0 0 (!w.params.followText "set-order")) }).objs.size = s.heap.objs.size + 1 := Heap.size_push ..
        have hneI : l ≠ (s.heap.push { cls := .type "set", dict := none, data := .set #[] 0 (.fresh 0 0 (!w.params.followText "set-order")) }).objs.size := by
          rw [Heap.size_push]; exact Nat.ne_of_lt (Nat.lt_succ_of_lt hlS)
        have hSf : s.heap.objs.size ∉ [(s.heap.push { cls := .type "set", dict := none, data := .set #[] 0 (.fresh 0 0 (!w.params.followText "set-order")) }).objs.size, l] := by
          rw [Heap.size_push]; simp only [List.mem_cons, List.mem_singleton, List.not_mem_nil, or_false, not_or]
          exact ⟨Nat.ne_of_lt (Nat.lt_succ_self _), Nat.ne_of_gt hlS⟩
        have hval : ∀ (i : Nat) (v : Value), items[i]? = some v → ∃ k t, ns[i]? = some k ∧ v = .int k t := fun i v hv => by
          have hi : i < ns.length := by rw [← hisz]; exact (Array.getElem?_eq_some_iff.mp hv).1
          obtain ⟨t, e⟩ := PyProof.Rows.IntsAre.int_at hit i v (by rw [Array.getElem?_toList]; exact hv)
          refine ⟨ns[i], t, List.getElem?_eq_getElem hi, ?_⟩
          rw [e, List.getD_eq_getElem?_getD, List.getElem?_eq_getElem hi] <;> rfl
        refine set_update_ints ((Walks.list hh3 _ l hneI items).toS) s.heap.objs.size
          hSf ns hisz hb hval (items.size - 0) 0 _ (by omega) (Nat.zero_le _)
          ⟨⟨_, Heap.get?_push_size _ rfl, rfl, rfl⟩, (hl1.push _)⟩ ?hS0 ?hR
        case hS0 =>
          have hget : ((s.heap.push { cls := .type "set", dict := none, data := .set #[] 0 (.fresh 0 0 (!w.params.followText "set-order")) }).push { cls := .type "list_iterator", data := .fields #[.ref l, .int 0 0] }).get? s.heap.objs.size
              = some { cls := .type "set", dict := none, data := .set #[] 0 (.fresh 0 0 (!w.params.followText "set-order")) } := Heap.get?_push_of_some _ hS
          exact ⟨0, Nat.le_refl 0, setR_new_at hget⟩
        case hR =>
          intro s' c' hm hc' hS'
          obtain ⟨h', g2, d', tk', os'⟩ := s'
          have eg : g2 = s.gens := hm.gens
          have ed : d' = s.drawn := hm.drawn
          have eo : os' = s.os := hm.os
          subst eg; subst ed; subst eo
          show wpAny _ _ _ _ _ _
          refine wpAny_pure ?_
          show wpAny _ _ (ret Value.none) _ _ _
          rw [hisz] at hc'
          refine wpAny_pure ⟨rfl, h', tk', c', rfl, hS', hc', fun b o e => ?_⟩
          have hb0 : b < s.heap.objs.size := Heap.lt_size e
          have hb1 : b ≠ s.heap.objs.size := Nat.ne_of_lt hb0
          have hb2 : b ≠ (s.heap.push { cls := .type "set", dict := none, data := .set #[] 0 (.fresh 0 0 (!w.params.followText "set-order")) }).objs.size := by
            rw [Heap.size_push]; exact Nat.ne_of_lt (Nat.lt_succ_of_lt hb0)
          exact hm.heap b o (by simp only [List.mem_cons, List.mem_singleton, List.not_mem_nil, or_false, not_or]; exact ⟨hb1, hb2⟩) (Heap.get?_push_of_some _ (Heap.get?_push_of_some _ e))

      · cases r₂ with
        | error e => exact hr₂
        | ok fl₂ =>
          cases fl₂ with
          | ret r =>
            obtain ⟨rfl, h', tk, c', rfl, hS', hc', hk'⟩ := hr₂
            repeat (any_goals (first | assumption | wp_step))
            exact h _ _ _ hS' hc' hk'
          | _ => exact hr₂.elim
    | _ => exact hr.elim

end
end L2
namespace DL
open PySem L2
/-! ### the increasing list of a list's ints -/
def insU (x : Int) : List Int → List Int
  | [] => [x]
  | y :: r => if x < y then x :: y :: r else if x = y then y :: r else y :: insU x r
def usrt : List Int → List Int
  | [] => []
  | x :: r => insU x (usrt r)
theorem insU_mem {x z : Int} : ∀ {l : List Int}, z ∈ insU x l ↔ z = x ∨ z ∈ l
  | [] => by simp [insU]
  | y :: r => by
    unfold insU
    split
    · simp
    · split
      · rename_i e
        subst e
        simp
      · rw [List.mem_cons, insU_mem (l := r), List.mem_cons]
        constructor
        · rintro (h | h | h)
          · exact .inr (.inl h)
          · exact .inl h
          · exact .inr (.inr h)
        · rintro (h | h | h)
          · exact .inr (.inl h)
          · exact .inl h
          · exact .inr (.inr h)
theorem insU_pw {x : Int} : ∀ {l : List Int}, l.Pairwise (· < ·) → (insU x l).Pairwise (· < ·)
  | [], _ => by simp [insU]
  | y :: r, h => by
    have h1 := List.pairwise_cons.mp h
    unfold insU
    split
    · rename_i c
      refine List.pairwise_cons.mpr ⟨fun z hz => ?_, h⟩
      rcases List.mem_cons.mp hz with e | hz
      · omega
      · have := h1.1 z hz
        omega
    · split
      · exact h
      · refine List.pairwise_cons.mpr ⟨fun z hz => ?_, insU_pw h1.2⟩
        rcases insU_mem.mp hz with e | hz
        · omega
        · exact h1.1 z hz
theorem usrt_mem {z : Int} : ∀ {l : List Int}, z ∈ usrt l ↔ z ∈ l
  | [] => by simp [usrt]
  | y :: r => by
    unfold usrt
    rw [insU_mem, usrt_mem (l := r), List.mem_cons]
theorem usrt_pw : ∀ l : List Int, (usrt l).Pairwise (· < ·)
  | [] => List.Pairwise.nil
  | y :: r => insU_pw (usrt_pw r)
theorem insU_len (x : Int) : ∀ l : List Int, (insU x l).length ≤ l.length + 1
  | [] => by simp [insU]
  | y :: r => by
    have := insU_len x r
    unfold insU
    split
    · simp
    · split
      · simp
      · simp only [List.length_cons]
        omega
theorem usrt_len : ∀ l : List Int, (usrt l).length ≤ l.length
  | [] => Nat.le_refl _
  | y :: r => by
    have h1 := usrt_len r
    have h2 := insU_len y (usrt r)
    show (insU y (usrt r)).length ≤ r.length + 1
    omega
theorem pwlt_eq : ∀ {l m : List Int}, l.Pairwise (· < ·) → m.Pairwise (· < ·) → (∀ z, z ∈ l ↔ z ∈ m) → l = m
  | [], [], _, _, _ => rfl
  | [], y :: m, _, _, h => by simpa using (h y).mpr List.mem_cons_self
  | x :: l, [], _, _, h => by simpa using (h x).mp List.mem_cons_self
  | x :: l, y :: m, h1, h2, h => by
    have a1 := List.pairwise_cons.mp h1
    have a2 := List.pairwise_cons.mp h2
    have e : x = y := by
      rcases List.mem_cons.mp ((h x).mp List.mem_cons_self) with z | z
      · exact z
      · rcases List.mem_cons.mp ((h y).mpr List.mem_cons_self) with z' | z'
        · exact z'.symm
        · have b1 := a1.1 y z'
          have b2 := a2.1 x z
          omega
    subst e
    congr 1
    refine pwlt_eq a1.2 a2.2 fun z => ⟨fun hz => ?_, fun hz => ?_⟩
    · rcases List.mem_cons.mp ((h z).mp (List.mem_cons_of_mem _ hz)) with e | k
      · have := a1.1 z hz
        omega
      · exact k
    · rcases List.mem_cons.mp ((h z).mpr (List.mem_cons_of_mem _ hz)) with e | k
      · have := a2.1 z hz
        omega
      · exact k
theorem nodup_len {l m : List Int} (h1 : l.Nodup) (h2 : m.Nodup) (h : ∀ z, z ∈ l ↔ z ∈ m) : l.length = m.length := by
  have a := (List.perm_ext_iff_of_nodup h1 h2).mpr h
  exact a.length_eq
theorem usrt_nodup (l : List Int) : (usrt l).Nodup := (usrt_pw l).imp fun h => by omega
/-! ### sets of ints, made and used at once -/
def rMkSet (w : World) (K : Fr) : List V → Hp → VK → Prop := fun xs H Q => ∃ (l : Addr) (ns : List Int), xs = [.ref l] ∧ SqL K H l (ns.map V.int) ∧ ns.length ≤ 1000 ∧ ∀ p, H p = none → Q (.ref p) (upd H p (SetO w p (fun j => decide (j ∈ ns)) (usrt ns).length))
section
variable {X : Cx}
theorem setR_count {w : World} {h : Heap} {a : Addr} {ns : List Int} {c : Nat} (R : SetR w h a (fun j => decide (j ∈ ns)) c) : c = (usrt ns).length := by
  obtain ⟨o, es, ep, t, h1, h2, h3, h4, h5, h6, h7, h8, h9, h10⟩ := R
  rw [← h9, ← Array.length_toList, ← List.length_map (f := keyOf)]
  refine nodup_len h5 (usrt_nodup ns) fun z => ?_
  rw [usrt_mem, ← h6 z]
  simp
theorem cr_setL (hc : X.calm = true) : CallR X (.type "set") (rMkSet X.w X.K) := by
  intro pins s σ H xs us Q I r h
  obtain ⟨l, ns, rfl, hs, hl, q⟩ := h
  rw [Vals.ref1 r]
  obtain ⟨its, rv, pl, hz⟩ := I.list hs
  refine call_set_lstI ns (I.ok.hd hc) pl.isList (by simpa using rv.ints) (by unfold scanBound; omega) fun h' tk c R hcl hk => ?_
  have ec := setR_count R
  subst ec
  exact ⟨.ref _, upd H s.heap.objs.size (SetO X.w s.heap.objs.size (fun j => decide (j ∈ ns)) (usrt ns).length), I.laid (t' := tk) hk (Nat.le_refl _) (setO_new R), rfl, q _ (I.hok.fresh (Nat.le_refl _))⟩
def rLenSet (w : World) : List V → Hp → VK → Prop := fun xs H Q => ∃ (a : Addr) (S : Int → Bool) (n : Nat), xs = [.ref a] ∧ H a = some (SetO w a S n) ∧ n ≤ 100000 ∧ Q (.int (n : Nat)) H
theorem call_lenSet : CallR X (.builtin "len") (rLenSet X.w) := by
  intro pins s σ H xs us Q I r h
  obtain ⟨a, S, n, rfl, ha, hn, q⟩ := h
  rw [Vals.ref1 r]
  obtain ⟨o, es, ep, t, h1, h2, h3, h4, h5, h6, h7, h8, h9, h10⟩ := setO_get I ha
  exact call_len_set h1 h2 h3 h8 (by rw [h9]; omega) ⟨.int n, H, I.tok _, ⟨_, by rw [h9]⟩, q⟩
end
section
variable {K : Fr} {B : Bs} {G : En} {P : Po} {te : TE} {w : World}
theorem dw_sortSet (h : DW K B G te fun G1 r1 => PW r1 fun w1 => ∃ ns : List Int, wd G1 w1 = some (.list (ns.map .int)) ∧ ns.length < 64 ∧ P G1 (.fr (.o none ((usrt ns).map .int)))) : DW K B G (tCB (rSortedSet w) (tCons (tCB (rMkSet w K) (tCons te tNil)) tNil)) P := fun S F H Q I k => by
  show te S H fun x H1 => rMkSet w K [x] H1 fun y H2 => rSortedSet w [y] H2 Q
  refine dw_run (k' := fun G1 w1 => ∃ ns : List Int, wd G1 w1 = some (.list (ns.map .int)) ∧ ns.length < 64 ∧ P G1 (.fr (.o none ((usrt ns).map .int)))) h I fun v1 F1 H1 G1 w1 e1 I1 r1 ⟨ns, hd, hl, q⟩ => ?_
  obtain ⟨l, us, rfl, hp, ha⟩ := wd_list I1 r1 hd
  obtain rfl := da_ints_eq ha
  refine ⟨l, ns, rfl, SqL.of hp, by omega, fun p hp => ⟨p, _, _, rfl, upd_same, Nat.lt_of_le_of_lt (usrt_len ns) hl, fun ms c hw hm _ hc => ?_⟩⟩
  have e : ms = usrt ns := pwlt_eq hw (usrt_pw ns) fun z => by
    rw [hm z, usrt_mem]
    simp
  subst e
  exact ct_L (k.mono e1) (I1.newH hp _) hc (da_ints _) q
theorem dw_lenSet (h : DW K B G te fun G1 r1 => PW r1 fun w1 => ∃ ns : List Int, wd G1 w1 = some (.list (ns.map .int)) ∧ ns.length ≤ 1000 ∧ P G1 (.p (.d (.int ((usrt ns).length : Int))))) : DW K B G (tCB (rLenSet w) (tCons (tCB (rMkSet w K) (tCons te tNil)) tNil)) P := fun S F H Q I k => by
  show te S H fun x H1 => rMkSet w K [x] H1 fun y H2 => rLenSet w [y] H2 Q
  refine dw_run (k' := fun G1 w1 => ∃ ns : List Int, wd G1 w1 = some (.list (ns.map .int)) ∧ ns.length ≤ 1000 ∧ P G1 (.p (.d (.int ((usrt ns).length : Int))))) h I fun v1 F1 H1 G1 w1 e1 I1 r1 ⟨ns, hd, hl, q⟩ => ?_
  obtain ⟨l, us, rfl, hp, ha⟩ := wd_list I1 r1 hd
  obtain rfl := da_ints_eq ha
  refine ⟨l, ns, rfl, SqL.of hp, hl, fun p hp => ⟨p, _, _, rfl, upd_same, Nat.le_trans (usrt_len ns) (by omega), ?_⟩⟩
  exact ct_d (k.mono e1) (I1.newH hp _) (.int _) q
end
/-! ### in short -/
section
variable {X : Cx} {pos : Pos}
theorem hu65 {k : Nat} {A : Around} (hr : Room k A) : A.units + 65 < cLine := by
  have := hr.un
  omega
theorem pe_strM {x : Str} {j pos} (l : List Nat) (h : x = mkS l) : PE X (.Constant (.str x) j pos) (tC (.str (mkS l))) := by
  subst h
  exact pe_str
/-- what stands in a for's head, whatever its kind -/
def iANY (K : Fr) (te : TE) : TI := fun S H R => iList K te S H R ∨ iTup K te S H R ∨ iStr te S H R
theorem PI.or {tg e : Expr} {w1 w2 : TI} (h1 : PI X tg e w1) (h2 : PI X tg e w2) : PI X tg e (fun S H R => w1 S H R ∨ w2 S H R) :=
  ⟨fun pins s σ H R I h => h.elim (h1.run pins s σ H R I) (h2.run pins s σ H R I)⟩
theorem pi_any {tg e : Expr} {te : TE} (h : PE X e te) : PI X tg e (iANY X.K te) := PI.or (pi_list h) (PI.or (pi_tup h) (pi_str h))
end
section
variable {K : Fr} {B : Bs} {G : En} {P : Po} {te : TE} {PI : En → List PyData → Prop}
theorem di_str (h : DW K B G te fun G1 r1 => PW r1 fun w => ∃ z : List Nat, w = .d (.str (mkS z)) ∧ PI G1 (z.map fun c => .str (mkS [c]))) : DI K B G (iStr te) PI := fun S F H R I k => by
  show te S H fun v H1 => ∃ x, v = .str x ∧ R (Its x) H1
  refine dw_run (k' := fun G1 w => ∃ z : List Nat, w = .d (.str (mkS z)) ∧ PI G1 (z.map fun c => .str (mkS [c]))) h I fun v F1 H1 G1 w e1 I1 hv q => ?_
  obtain ⟨z, rfl, q⟩ := q
  refine ⟨mkS z, dp_str hv, k _ F1 H1 G1 _ e1 I1 (fun i H2 F2 eF eH => ⟨fun d hd => ?_, fun e => ?_⟩) q⟩
  · rw [List.getElem?_map] at hd
    obtain ⟨c, hc, rfl⟩ := Option.map_eq_some_iff.mp hd
    have hl := (List.getElem?_eq_some_iff.mp hc).1
    refine ⟨(show i < (mkS z).cps.size by simpa [mkS] using hl), fun x H' y => ?_⟩
    obtain ⟨e, c', hc', rfl⟩ := y
    subst e
    have : c' = c := by
      have : z[i]? = some c' := by simpa [mkS] using hc'
      rw [hc] at this
      exact (Option.some.inj this).symm
    subst this
    exact ⟨F2, Ex.refl _, Ex.refl _, eH, (fun b o z n => by rw [z] at n; cases n), .str _⟩
  · show (mkS z).cps.size ≤ i
    rw [List.length_map] at e
    simp [mkS, e]
theorem di_anyL (h : DI K B G (iList K te) PI) : DI K B G (iANY K te) PI := fun S F H R I k => .inl (h S F H R I k)
theorem di_anyT (h : DI K B G (iTup K te) PI) : DI K B G (iANY K te) PI := fun S F H R I k => .inr (.inl (h S F H R I k))
theorem di_anyS (h : DI K B G (iStr te) PI) : DI K B G (iANY K te) PI := fun S F H R I k => .inr (.inr (h S F H R I k))
end
end DL
namespace DL
open PySem L2
/-! ### the rules with the written part named (so that a comprehension's block can bear them) -/
section
variable {X : Cx} {k : Nat} {A : Around} {pos : Pos}
theorem kEQ (K : Fr) (h : X.K = K) (hu : X.A.units + 64 < cLine) : OpR X (compareOp .Eq) (rEQ K) := h ▸ opEQ hu
theorem kNE (K : Fr) (h : X.K = K) (hu : X.A.units + 64 < cLine) : OpR X (compareOp .NotEq) (rNE K) := h ▸ opNE hu
theorem kIN (K : Fr) (h : X.K = K) (hu : X.A.units + 65 < cLine) : OpR X (compareOp .In) (rIN K) := h ▸ opIN hu
theorem kNI (K : Fr) (h : X.K = K) (hu : X.A.units + 65 < cLine) : OpR X (compareOp .NotIn) (rNI K) := h ▸ opNI hu
theorem kADD (K : Fr) (h : X.K = K) : OpR X (binaryOp .Add) (rADD K) := h ▸ opADD
theorem kIX (K : Fr) (h : X.K = K) : IxR X (rIx K) := h ▸ ix_seq
theorem kSLC (K : Fr) (h : X.K = K) : L2.SlR X (rSLC K) := h ▸ slANY
theorem kLEN (K : Fr) (h : X.K = K) : CallR X (.builtin "len") (rLEN K) := h ▸ call_len
theorem kLIST (K : Fr) (h : X.K = K) : CallR X (.type "list") (rLIST K) := h ▸ call_list_of
theorem kTUP (K : Fr) (h : X.K = K) : CallR X (.type "tuple") (rTUP K) := h ▸ call_tuple_of
theorem kSORT (K : Fr) (h : X.K = K) : CallR X (.builtin "sorted") (rSortedI K) := h ▸ cr_sortedI
theorem kSORTP (K : Fr) (h : X.K = K) : CallR X (.builtin "sorted") (rSortedPO K) := h ▸ cr_sortedPO
theorem kISI (K : Fr) (h : X.K = K) : CallR X (.builtin "isinstance") (rIsi K) := h ▸ call_isi
theorem kSET (w : World) (K : Fr) (hw : X.w = w) (h : X.K = K) (hc : X.calm = true) : CallR X (.type "set") (rMkSet w K) := h ▸ hw ▸ cr_setL hc
theorem kSORTSET (w : World) (hw : X.w = w) (hc : X.calm = true) : CallR X (.builtin "sorted") (rSortedSet w) := hw ▸ cr_sortedSet hc
theorem kLENSET (w : World) (hw : X.w = w) : CallR X (.builtin "len") (rLenSet w) := hw ▸ call_lenSet
theorem kANY (K : Fr) (h : X.K = K) {tg e : Expr} {te : TE} (he : PE X e te) : PI X tg e (iANY K te) := h ▸ pi_any he
theorem kTG (K : Fr) (h : X.K = K) {es : List Expr} {j : Nat} {t : TGs} {n : Nat} (hc : X.calm = true) (ht : PGs X es t)
    (hn : (assignEach es X.env).length = n := by rfl) (hst : (assignEach es X.env).findIdx? (·.1) = none := by rfl) : PG X (.Tuple es j pos) (gTup K n t) := h ▸ pg_tup hc ht hn hst
theorem kTRUTH (K : Fr) (h : X.K = K) {a : Expr} {ta : TE} (ha : PE X a ta) (he : ∀ whole, isTrue a X.env whole = (do let v ← whole; standAt a.pos; holding [v] (truthy v))) :
    PT X a (fun S H Q => ta S H fun x H' => ∃ k, TruV K x H' k ∧ Q k H') := h ▸ pt_truth ha he
theorem kBM (K : Fr) (h : X.K = K) {T : String} {r : V → List V → Hp → VK → Prop} {e : Expr} {to : TE} {t : TA} (he : PE X e (tBM X.K T r to t)) : PE X e (tBM K T r to t) := h ▸ he
theorem kBM0 (K : Fr) (h : X.K = K) {T : String} {r : V → List V → Hp → VK → Prop} {e : Expr} {to : TE} (he : PE X e (tBM0 X.K T r to)) : PE X e (tBM0 K T r to) := h ▸ he
abbrev rJOIN (K : Fr) : V → List V → Hp → VK → Prop := fun x xs H Q => ∃ a p, ∃ ys : List Str, x = .str a ∧ xs = [.ref p] ∧ (SqL K H p (ys.map V.str) ∨ SqT K H p (ys.map V.str)) ∧ (ys.map (·.length)).sum + ys.length * a.length ≤ 16777216 ∧ Q (.str (Txt.join a ys)) H
theorem kJOIN (K : Fr) (h : X.K = K) : MtR X "str.join" (rJOIN K) := h ▸ mt_join
end
/-! ### xs[i] op= e of a list of ints -/
section
variable {X : Cx}
def rGetL (K : Fr) : V → V → Hp → VK → Prop := fun x y H Q => ∃ p xs i v, x = .ref p ∧ y = .int i ∧ 0 ≤ i ∧ SqL K H p xs ∧ atI xs i = some v ∧ Q v H
theorem get_list : PGet X (rGetL X.K) := by
  intro pins s S H o i ov iv Q I ro ri h
  obtain ⟨p, xs, j, v, rfl, rfl, h0, hq, ha, q⟩ := h
  cases ro
  obtain ⟨t, rfl⟩ := ri
  obtain ⟨its, r, pl, hz⟩ := I.list hq
  obtain ⟨m, h1, h2, h3, h4, h5⟩ := atI_get ha
  obtain ⟨u, hu, ru⟩ := r.get h2
  have hn := line63
  have hj : j.toNat = m := by
    rw [PySem.seqIndex_of h0 h5] at h1
    exact Option.some.inj h1
  exact wpAny_getItem_list pl.isList h0 (by omega) (by rw [hj]; simpa using hu) ⟨v, H, I, ru, q⟩
theorem kGET (K : Fr) (h : X.K = K) : PGet X (rGetL K) := h ▸ get_list
end
section
variable {K : Fr} {B : Bs} {G : En} {to ti te : TE} {E : De}
/-- xs[j] op= e, xs this def's own -/
theorem ds_augL {i : Nat} {a : Option Addr} {ds : List PyData} {j : Nat} {x : Int} {f : Int → Int → Int} (h : DW K B G to fun G1 r1 => PW r1 fun w => w = .sl i ∧ DW K B G1 ti fun G2 r2 => PW r2 fun w2 => w2 = .d (.int (j : Int)) ∧ G2[i]? = some (.o a ds) ∧ ds[j]? = some (.int x) ∧
    DW K B G2 te fun G3 r3 => PW r3 fun w3 => ∃ y, w3 = .d (.int y) ∧ G3[i]? = some (.o a ds) ∧ E.nx (G3.set i (.o a (ds.set j (.int (f x y)))))) : DS K B G (tAugS to ti te (rGetL K) (ipI f) rSetL) E := fun S F H D I c => by
  show to S H fun o H1 => ti S H1 fun i H2 => rGetL K o i H2 fun x H3 => te S H3 fun y H4 => ipI f x y H4 fun z H5 => rSetL o i z H5 fun H6 => D.nx S H6
  refine dw_run (k' := fun G1 w => w = .sl i ∧ DW K B G1 ti fun G2 r2 => PW r2 fun w2 => w2 = .d (.int (j : Int)) ∧ G2[i]? = some (.o a ds) ∧ ds[j]? = some (.int x) ∧
    DW K B G2 te fun G3 r3 => PW r3 fun w3 => ∃ y, w3 = .d (.int y) ∧ G3[i]? = some (.o a ds) ∧ E.nx (G3.set i (.o a (ds.set j (.int (f x y)))))) h I fun v1 F1 H1 G1 w1 e1 I1 hv1 ⟨hw1, q1⟩ => ?_
  subst hw1
  refine dw_run (k' := fun G2 w2 => w2 = .d (.int (j : Int)) ∧ G2[i]? = some (.o a ds) ∧ ds[j]? = some (.int x) ∧
    DW K B G2 te fun G3 r3 => PW r3 fun w3 => ∃ y, w3 = .d (.int y) ∧ G3[i]? = some (.o a ds) ∧ E.nx (G3.set i (.o a (ds.set j (.int (f x y)))))) q1 I1 fun v2 F2 H2 G2 w2 e2 I2 hv2 ⟨hw2, hi, hj, q2⟩ => ?_
  subst hw2
  obtain rfl := dp_int hv2
  obtain ⟨p, vs, e, hp, hF, ha⟩ := I2.lst hi
  have hv1 : S[i]? = some (some v1) := hv1
  rw [e] at hv1
  cases hv1
  obtain ⟨u, hu, hd⟩ := da_get ha hj
  obtain rfl := dp_int hd
  refine ⟨p, vs, j, _, rfl, rfl, Int.natCast_nonneg j, SqL.of hp, atI_nat hu, ?_⟩
  refine dw_run (k' := fun G3 w3 => ∃ y, w3 = .d (.int y) ∧ G3[i]? = some (.o a ds) ∧ E.nx (G3.set i (.o a (ds.set j (.int (f x y)))))) q2 I2 fun v3 F3 H3 G3 w3 e3 I3 hv3 ⟨y, hw3, hi3, q3⟩ => ?_
  subst hw3
  obtain rfl := dp_int hv3
  obtain ⟨p', vs', e', hp', hF', ha'⟩ := I3.lst hi3
  rw [e] at e'
  cases e'
  have hl := (List.getElem?_eq_some_iff.mp hj).1
  refine ⟨x, y, rfl, rfl, p, vs', (j : Int), j, rfl, rfl, hp', ?_, ?_⟩
  · unfold ixN
    rw [if_pos (by omega), if_pos (by rw [da_len ha']; omega)]
    simp
  · exact c.nx S F3 _ _ ((e1.trans e2).trans e3) (I3.mut hi3 e (da_set j ha' (.int _))) q3
/-- xs[j] = e, xs this def's own -/
theorem ds_setL {i : Nat} {a : Option Addr} {ds : List PyData} {j : Nat} {d : PyData} (h : DW K B G te fun G1 r1 => PW r1 fun w => w = .d d ∧ DW K B G1 to fun G2 r2 => PW r2 fun w2 => w2 = .sl i ∧ DW K B G2 ti fun G3 r3 => PW r3 fun w3 => w3 = .d (.int (j : Int)) ∧ G3[i]? = some (.o a ds) ∧ j < ds.length ∧ E.nx (G3.set i (.o a (ds.set j d)))) :
    DS K B G (tAsg te (gSub to ti rSetL)) E := fun S F H D I c => by
  show te S H fun v H0 => to S H0 fun o H1 => ti S H1 fun i H2 => rSetL o i v H2 fun H3 => D.nx S H3
  refine dw_run (k' := fun G1 w => w = .d d ∧ DW K B G1 to fun G2 r2 => PW r2 fun w2 => w2 = .sl i ∧ DW K B G2 ti fun G3 r3 => PW r3 fun w3 => w3 = .d (.int (j : Int)) ∧ G3[i]? = some (.o a ds) ∧ j < ds.length ∧ E.nx (G3.set i (.o a (ds.set j d)))) h I fun v1 F1 H1 G1 w1 e1 I1 hv1 ⟨hw1, q1⟩ => ?_
  subst hw1
  refine dw_run (k' := fun G2 w2 => w2 = .sl i ∧ DW K B G2 ti fun G3 r3 => PW r3 fun w3 => w3 = .d (.int (j : Int)) ∧ G3[i]? = some (.o a ds) ∧ j < ds.length ∧ E.nx (G3.set i (.o a (ds.set j d)))) q1 I1 fun v2 F2 H2 G2 w2 e2 I2 hv2 ⟨hw2, q2⟩ => ?_
  subst hw2
  refine dw_run (k' := fun G3 w3 => w3 = .d (.int (j : Int)) ∧ G3[i]? = some (.o a ds) ∧ j < ds.length ∧ E.nx (G3.set i (.o a (ds.set j d)))) q2 I2 fun v3 F3 H3 G3 w3 e3 I3 hv3 ⟨hw3, hi, hl, q3⟩ => ?_
  subst hw3
  obtain rfl := dp_int hv3
  obtain ⟨p, vs, e, hp, hF, ha⟩ := I3.lst hi
  have hv2 : S[i]? = some (some v2) := hv2
  rw [e] at hv2
  cases hv2
  refine ⟨p, vs, (j : Int), j, rfl, rfl, hp, ?_, ?_⟩
  · unfold ixN
    rw [if_pos (by omega), if_pos (by rw [da_len ha]; omega)]
    simp
  · exact c.nx S F3 _ _ ((e1.trans e2).trans e3) (I3.mut hi e (da_set j ha (dp_mono (e2.trans e3) hv1))) q3
end
end DL
namespace DL
open PySem L2
/-! ### enumerate of a text -/
def IteS (z : Str) : It := ⟨fun i _ => i < z.cps.size, fun i H v H' => ∃ (T : Addr) (c : Nat), v = .ref T ∧ H T = none ∧ H' = upd H T (.tup [.int (i : Nat), .str ⟨#[c]⟩]) ∧ z.cps[i]? = some c, fun i _ => z.cps.size ≤ i⟩
theorem turn_enumS {P : Program} {w : World} {K : Fr} {elts : List Expr} {kk : Nat} {tpos : Pos} (z : Str) (t : Tok) (e it : Addr) :
    Turn P w K (.Tuple elts kk tpos) (IteS z) [e, it] e (fun i h => (∃ old, IsEnum h e it ((i : Nat) : Int) old) ∧ h.IsStrIter it (strIterType z) z t i ∧ e ≠ it ∧ i ≤ z.cps.size) where
  mem := by simp
  obj := fun i h st b hb => by
    obtain ⟨⟨old, he⟩, ⟨o, ho, hc, hd⟩, _⟩ := st
    have hb2 : b = e ∨ b = it := by simpa using hb
    rcases hb2 with q | q
    · rw [q]
      exact ⟨_, he, fun v z => nomatch z⟩
    · rw [q]
      exact ⟨o, ho, fun v z => by rw [hd] at z; cases z⟩
  keep := fun i h h' st k => by
    obtain ⟨⟨old, he⟩, ⟨o, ho, hr⟩, hne, hz⟩ := st
    exact ⟨⟨old, k e (by simp) _ he⟩, ⟨o, k it (by simp) _ ho, hr⟩, hne, hz⟩
  item := by
    intro X hP hw hK hc i pins s S H E I hf st hg
    subst hP hw hK
    obtain ⟨⟨old, he⟩, hit, hne, hz⟩ := st
    have hel : e < s.heap.objs.size := Heap.lt_size he
    have hil : it < s.heap.objs.size := by
      obtain ⟨_, q, _⟩ := hit
      exact Heap.lt_size q
    have D := PySem.Draws.text (prog := X.prog) (w := X.w) (A := X.A.in1) (I.ok.hd hc) it z t
    refine wpAny_pyNext_enum_itemC D he hit hg hne (by simpa using hne) fun x h' tk hx ho hit' hT hsz hk => ?_
    obtain ⟨c, u, hcx, rfl⟩ := hx
    refine ⟨_, rfl, wpAny_letOwnedTupleGo_enum (s := { s with heap := h', toks := tk + 1 }) ho fun h2 he' sb => ?_⟩
    have hT2 : h2.get? s.heap.objs.size = some { cls := .type "tuple", data := .seq #[.int i tk, .str ⟨#[c]⟩ u] } := (sb.2 _ (Nat.ne_of_gt hel)).trans hT
    have new : ObjOk X.prog X.w (upd H s.heap.objs.size (.tup [.int (i : Nat), .str ⟨#[c]⟩])) h2 s.heap.objs.size (.tup [.int (i : Nat), .str ⟨#[c]⟩]) :=
      ⟨by show 2 ≤ sizeLine; decide, [.int i tk, .str ⟨#[c]⟩ u], .cons ⟨_, rfl⟩ (.cons ⟨_, rfl⟩ .nil), ⟨_, hT2, rfl, _, rfl⟩⟩
    have I1 : Inv X pins S (upd H s.heap.objs.size (.tup [.int (i : Nat), .str ⟨#[c]⟩])) { s with heap := h2, toks := tk + 1 } :=
      I.turnedNew (ch := [e, it]) (fun b ob hb q => (sb.2 b (fun z => hb (by simp [z]))).trans (hk b ob (fun z => hb (by simp [z])) (fun z => hb (by simp [z])) q)) hf (Nat.le_refl _) new
    refine ⟨.ref s.heap.objs.size, _, I1, rfl, ⟨_, c, rfl, I.hok.fresh (Nat.le_refl _), rfl, hcx⟩, ⟨⟨.str ⟨#[c]⟩ u, ?_⟩, ?_, hne, hg⟩, fun b hb => ?_⟩
    · have e1 : ((i + 1 : Nat) : Int) = (i : Int) + 1 := by omega
      rw [e1]
      exact he'
    · obtain ⟨o, h1, hr⟩ := hit'
      exact ⟨o, (sb.2 it (Ne.symm hne)).trans h1, hr⟩
    · have hb' : b < s.heap.objs.size := by
        have e' : b = e ∨ b = it := by simpa using hb
        rcases e' with q | q
        · rw [q]
          exact hel
        · rw [q]
          exact hil
      rw [upd_ne (Nat.ne_of_lt hb')]
      exact (hf b hb).1
  done := by
    intro X hP hw hK hc i pins s S H E I hf st hg
    subst hP hw hK
    obtain ⟨⟨old, he⟩, hit, hne, hil⟩ := st
    have ei : i = z.cps.size := Nat.le_antisymm hil hg
    subst ei
    obtain ⟨f0, f1, f2, f3, f4, f5⟩ := hf it (by simp)
    have D := PySem.Draws.text (prog := X.prog) (w := X.w) (A := X.A.in1) (I.ok.hd hc) it z t
    exact wpAny_pyNext_enum_endD D he hit fun h' eb => ⟨rfl, I.turned (t' := s.toks) (fun b o hb q => eb b o hb q) f0 f1 f3 f4 f5⟩
  self := fun A i s Q E st h => by
    obtain ⟨⟨_, he⟩, _⟩ := st
    exact wpAny_pyIter_enum he h
def iEnumS (ta : TA) : TI := fun S H R => ta S H fun vs H1 => ∃ z, vs = [.str z] ∧ R (IteS z) H1
theorem pi_enumS {X : Cx} {e : Expr} {ta : TA} {p pos tpos : Pos} {elts : List Expr} {kk : Nat} (hg : Gl X "enumerate") (hm : X.mg "enumerate" = none) (ha : PA X [e] ta) (hs : starEach [e] X.env = [(false, eval e X.env)] := by rfl) :
    PI X (.Tuple elts kk tpos) (.Call (.Name "enumerate" p) [e] [] pos) (iEnumS ta) := by
  refine ⟨fun pins s S H R I h => ?_⟩
  refine PyProof.Rows.Call_ (ld_blt I hg hm PyProof.Rows.boot_enumerate (PyProof.Rows.callWith_type1 (thn (ha.run pos pins s S H _ I h) fun us s1 ⟨vs, H1, I1, r1, q1⟩ => ?_) hs rfl))
  obtain ⟨z, ex, q⟩ := q1
  subst ex
  cases r1 with
  | cons r rr =>
    cases rr
    obtain ⟨t, rfl⟩ := r
    refine call_enumerate_str fun h' he hit hsz hk => wpAny_pyIter_enum he ?_
    have I2 : Inv X pins S H1 { s1 with heap := h' } := I1.kept (t' := s1.toks) hk
    refine ⟨s1.heap.objs.size + 1, [s1.heap.objs.size + 1, s1.heap.objs.size], _, _, H1, rfl, I2, turn_enumS z t (s1.heap.objs.size + 1) s1.heap.objs.size, ⟨⟨.none, he⟩, hit, Nat.succ_ne_self _, Nat.zero_le _⟩, fun b hb => ?_, q⟩
    have e' : b = s1.heap.objs.size + 1 ∨ b = s1.heap.objs.size := by simpa using hb
    have hle : s1.heap.objs.size ≤ b := by
      rcases e' with e' | e'
      · rw [e']
        exact Nat.le_succ _
      · rw [e']
        exact Nat.le_refl _
    have hn : H1 b = none := I1.hok.fresh hle
    have f := I1.fpOk hle hn
    exact ⟨f.1, f.2.1, f.2.2.1, f.2.2.2.1, f.2.2.2.2.1, f.2.2.2.2.2⟩
abbrev iENUM (K : Fr) (ta : TA) : TI := fun S H R => iEnum K ta S H R ∨ iEnumS ta S H R
theorem kENUM {X : Cx} (K : Fr) (h : X.K = K) {e : Expr} {ta : TA} {p pos tpos : Pos} {elts : List Expr} {kk : Nat} (hg : Gl X "enumerate") (hm : X.mg "enumerate" = none) (ha : PA X [e] ta) (hs : starEach [e] X.env = [(false, eval e X.env)] := by rfl) :
    PI X (.Tuple elts kk tpos) (.Call (.Name "enumerate" p) [e] [] pos) (iENUM K ta) := h ▸ PI.or (pi_enum hg hm ha hs) (pi_enumS hg hm ha hs)
section
variable {K : Fr} {B : Bs} {G : En} {P : Po} {te : TE} {ta : TA} {PI : En → List PyData → Prop}
def enD (ds : List PyData) : List PyData := (List.range ds.length).zipWith (fun (i : Nat) d => PyData.tuple [.int (i : Int), d]) ds
theorem enD_get {ds : List PyData} {i : Nat} {d : PyData} (h : (enD ds)[i]? = some d) : ∃ x, ds[i]? = some x ∧ d = .tuple [.int (i : Int), x] := by
  unfold enD at h
  rw [List.getElem?_zipWith] at h
  cases q : ds[i]? with
  | none =>
    rw [q] at h
    cases hr : (List.range ds.length)[i]? <;> rw [hr] at h <;> cases h
  | some x =>
    have hl := (List.getElem?_eq_some_iff.mp q).1
    rw [q, List.getElem?_range hl] at h
    exact ⟨x, rfl, (Option.some.inj h).symm⟩
theorem enD_len (ds : List PyData) : (enD ds).length = ds.length := by simp [enD]
theorem di_enumS (h : DA K B G ta fun G1 ws => ∃ z : List Nat, ws = [.d (.str (mkS z))] ∧ PI G1 (enD (z.map fun c => .str (mkS [c])))) : DI K B G (iENUM K ta) PI := fun S F H R I k => by
  refine .inr ?_
  show ta S H fun vs H1 => ∃ z, vs = [.str z] ∧ R (IteS z) H1
  refine h S F H _ I fun vs F1 H1 G1 ws e1 I1 hv ⟨z, hw, q⟩ => ?_
  subst hw
  obtain ⟨v, rfl, hv1⟩ := vws1 hv
  refine ⟨mkS z, by rw [dp_str hv1], k _ F1 H1 G1 _ e1 I1 (fun i H2 F2 eF eH => ⟨fun d hd => ?_, fun e => ?_⟩) q⟩
  · obtain ⟨x, hx, rfl⟩ := enD_get hd
    rw [List.getElem?_map] at hx
    obtain ⟨c, hc, rfl⟩ := Option.map_eq_some_iff.mp hx
    have hl := (List.getElem?_eq_some_iff.mp hc).1
    refine ⟨(show i < (mkS z).cps.size by simpa [mkS] using hl), fun x H' y => ?_⟩
    obtain ⟨T, c', rfl, hT, rfl, hc'⟩ := y
    have : c' = c := by
      have : z[i]? = some c' := by simpa [mkS] using hc'
      rw [hc] at this
      exact (Option.some.inj this).symm
    subst this
    refine ⟨upd F2 T (.tup [.int (i : Nat), .str ⟨#[c']⟩]), Ex.new (eH.free hT), Ex.new hT, eH.both _ _, fun b o h1 h2 => ?_, .tup upd_same (.cons (.int _) (.cons (.str _) .nil))⟩
    by_cases hb : b = T
    · rw [hb]
      exact hT
    · rw [upd_ne hb] at h1
      rw [h1] at h2
      cases h2
  · show (mkS z).cps.size ≤ i
    rw [enD_len, List.length_map] at e
    simp [mkS, e]
end
/-! ### t[::-1] -/
section
open PyProof.Rows
variable {prog : Program} {w : World} {A : Around} {E : Value → Shared → Prop} {s : Shared}
theorem rev_adj (n : Nat) : Builtin.Slice.sliceAdjust none none (-1) (n : Int) = ((n : Int) - 1, -1) := by
  unfold Builtin.Slice.sliceAdjust
  simp
theorem rev_places (n : Nat) : Builtin.Slice.slicePlaces ((n : Int) - 1) (-1) (-1) = n := by
  unfold Builtin.Slice.slicePlaces
  simp
  omega
theorem get_all {α : Type} : ∀ l : List α, (List.range l.length).filterMap (fun i => l[i]?) = l
  | [] => rfl
  | x :: l => by
    rw [List.length_cons, List.range_succ_eq_map, List.filterMap_cons, List.filterMap_map]
    show x :: (List.range l.length).filterMap (fun i => l[i]?) = x :: l
    rw [get_all l]
theorem fm_congr {α β : Type} {f g : α → Option β} : ∀ {l : List α}, (∀ m ∈ l, f m = g m) → l.filterMap f = l.filterMap g
  | [], _ => rfl
  | x :: l, h => by
    rw [List.filterMap_cons, List.filterMap_cons, h x List.mem_cons_self, fm_congr fun m hm => h m (List.mem_cons_of_mem _ hm)]
theorem rev_pick (xs : List Value) : ((List.range xs.toArray.size).filterMap fun (m : Nat) => xs.toArray[(((xs.toArray.size : Int) - 1) + (m : Int) * (-1)).toNat]?).toArray = xs.reverse.toArray := by
  congr 1
  have hs : xs.toArray.size = xs.length := rfl
  rw [hs]
  have e : ∀ m ∈ List.range xs.length, xs.toArray[(((xs.length : Nat) : Int) - 1 + (m : Int) * (-1)).toNat]? = xs.reverse[m]? := fun m hm => by
    have hl : m < xs.length := List.mem_range.mp hm
    rw [List.getElem?_reverse hl, show (((xs.length : Nat) : Int) - 1 + (m : Int) * (-1)).toNat = xs.length - 1 - m by omega]
    simp
  rw [fm_congr e]
  have g := get_all xs.reverse
  rw [List.length_reverse] at g
  exact g
theorem getItem_tuple_rev {t sl : Addr} {items : List Value} {u : Tok} {Q : Value → Shared → Prop} (ht : IsTup s.heap t items.toArray) (hs : s.heap.IsSliceOf sl .none .none (.int (-1) u))
    (h : Q (.ref s.heap.objs.size) { s with heap := s.heap.push { cls := .type "tuple", data := .seq items.reverse.toArray } }) (hsz : items.length ≤ sizeLine) : wpAny (model prog w) A (getItem (.ref t) (.ref sl)) Q E s := by
  have htake : sizeOk (.seq items.reverse.toArray) := by
    show items.reverse.toArray.size ≤ sizeLine
    rw [List.size_toArray, List.length_reverse]
    exact hsz
  obtain ⟨os, hos, hcs, hds⟩ := id hs
  have hTs : s.TypeIs (.ref sl) "slice" := ⟨os, hos, hcs⟩
  unfold getItem
  try with_reducible refine wpAny_holding ?_
  first | refine wpAny_bind (wpAny_pure ?_) | skip
  refine wpAny_bind (wpAny_sequenceKey ht.typeIs (by decide) ?_)
  refine wpAny_bind (wpAny_callSpecial?_slot (name := Str.ofString "__getitem__") ht.typeIs PyProof.Rows.slot_tuple_getitem
    (wpAny_call_entry PyProof.Rows.slot_tuple_getitem ht.typeIs entry_tuple_getitem ?_ (args_tuple_getitem _ _)))
  show wpAny _ _ (Builtin.Tuple.tupleItemsOf (.ref t) >>= _) _ _ s
  refine wpAny_bind (tupleItemsOf_ ht ?_)
  refine wpAny_bind (wpAny_typeOf hTs ?_)
  rw [if_pos (by decide)]
  have ap : ∀ {A : Around} {E : Value → Shared → Prop} {Q : Int × Int × Nat → Shared → Prop}, Q ((items.length : Int) - 1, -1, items.length) s → wpAny (model prog w) A (Builtin.Slice.sliceApplied (.ref sl) (pure (items.toArray.size : Int))) Q E s := fun {A E Q} q => by
    unfold Builtin.Slice.sliceApplied Builtin.Slice.sliceFields
    refine wpAny_bind (wpAny_bind (wpAny_field hos hds (x := .none) rfl (wpAny_bind (wpAny_field hos hds (x := .none) rfl (wpAny_bind (wpAny_field hos hds (x := .int (-1) u) rfl (wpAny_pure ?_)))))))
    refine wpAny_bind (slicePart_int ?_)
    show wpAny _ _ (if ((-1 : Int) == 0) = true then _ else _) _ _ s
    rw [if_neg (by decide)]
    refine wpAny_bind (slicePart_none (wpAny_bind (slicePart_none (wpAny_bind (wpAny_pure ?_)))))
    show wpAny _ _ (match Builtin.Slice.sliceAdjust none none (-1) (items.toArray.size : Int) with | (lo, hi) => pure (lo, (-1 : Int), Builtin.Slice.slicePlaces lo hi (-1))) _ _ s
    rw [rev_adj]
    show wpAny _ _ (pure (((items.toArray.size : Nat) : Int) - 1, (-1 : Int), Builtin.Slice.slicePlaces (((items.toArray.size : Nat) : Int) - 1) (-1) (-1))) _ _ s
    rw [rev_places]
    exact wpAny_pure q
  refine wpAny_bind (ap ?_)
  show wpAny _ _ (if (((items.length : Int) - 1) == 0 && (-1 : Int) == 1 && items.length == items.toArray.size) = true then _ else _) _ _ s
  rw [if_neg (by rw [show ((-1 : Int) == 1) = false from rfl]; simp)]
  have hp := rev_pick items
  rw [List.size_toArray] at hp
  rw [hp]
  first
    | exact wpAny_bind (m := Builtin.Tuple.tupleExact _) (wpAny_newObj_type (wpAny_pure ⟨_, rfl, wpAny_pure h⟩) htake)
    | exact wpAny_bind (m := Builtin.Tuple.tupleExact _) (wpAny_newObj_type (wpAny_bind (wpAny_pure (wpAny_pure ⟨_, rfl, wpAny_pure h⟩))) htake)
    | exact wpAny_bind (wpAny_bind (m := Builtin.Tuple.tupleExact _) (wpAny_newObj_type (wpAny_pure (wpAny_pure ⟨_, rfl, wpAny_pure h⟩)) htake))
    | exact wpAny_bind (wpAny_bind (m := Builtin.Tuple.tupleExact _) (wpAny_newObj_type (wpAny_pure ⟨_, rfl, wpAny_pure h⟩) htake))
end
def tRevT (K : Fr) (te : TE) : TE := fun S H Q => te S H fun x H1 => ∃ a xs, x = .ref a ∧ SqT K H1 a xs ∧ ∀ p, H1 p = none → Q (.ref p) (upd H1 p (.tup xs.reverse))
section
open PySem.Spec PyProof.Rows
variable {X : Cx}
theorem pe_revT {e : Expr} {te : TE} {k : Nat} {p1 p2 p3 pos : Pos} (he : PE X e te) : PE X (.Subscript e (.Slice none none (some (.UnaryOp .USub (.Constant (.int 1) k p1) p2)) p3) pos) (tRevT X.K te) := by
  refine ⟨fun pins s S H Q I h => ?_⟩
  refine PyProof.Rows.Subscript_ (thn (he.run pins s S H _ I h) fun v s1 ⟨x, H1, I1, r1, q1⟩ => ?_)
  obtain ⟨a, xs, ex, hx, q⟩ := q1
  subst ex
  cases r1
  have hst : PO X (some (.UnaryOp .USub (.Constant (.int 1) k p1) p2)) (tPart (tUn (rU fun i => .int (-i)) (tC (.int 1)))) := po_some (pe_un un_neg pe_int)
  refine wpAny_Slice (thn (po_none.run pins s1 S H1 (fun o H2 => o = none ∧ H2 = H1) I1 ⟨rfl, rfl⟩) fun vl s2 ⟨l, H2, I2, pl, el, e2⟩ => ?_)
  subst el e2
  refine thn (po_none.run pins s2 S H2 (fun o H3 => o = none ∧ H3 = H2) I2 ⟨rfl, rfl⟩) fun vu s3 ⟨u, H3, I3, pu, eu, e3⟩ => ?_
  subst eu e3
  refine thn (hst.run pins s3 S H3 (fun o H4 => o = some (-1) ∧ H4 = H3) I3 ⟨1, rfl, -1, rfl, rfl, rfl⟩) fun vs s4 ⟨o, H4, I4, ps, eo, e4⟩ => ?_
  subst eo e4
  cases pl
  cases pu
  cases ps with
  | int i t =>
  have I5 : Inv X pins S H4 { s4 with heap := s4.heap.push { cls := .type "slice", data := .fields #[.none, .none, .int (-1) t] } } := I4.kept (t' := s4.toks) fun b ob q => Heap.get?_push_of_some _ q
  obtain ⟨its, r, ht, hz⟩ := I5.tuple hx
  have hlen := r.length
  show wpAny (model X.prog X.w) X.A (subscriptTail e (.Slice none none (some (.UnaryOp .USub (.Constant (.int 1) k p1) p2)) p3) (.ref a) (.ref s4.heap.objs.size)) (EP X pins S Q) X.xe { s4 with heap := s4.heap.push { cls := .type "slice", data := .fields #[.none, .none, .int (-1) t] } }
  refine PyProof.Rows.tail_any (ops := [.ref a, .ref s4.heap.objs.size]) ht.typeIs (PyProof.Rows.slot_tuple_getitem.lookup) ?_ (by with_unfolding_all rfl)
  refine getItem_tuple_rev ht (Heap.IsSliceOf.new _ .none .none (.int (-1) t)) ?_ (by omega)
  refine ⟨.ref _, _, I5.laid (t' := s4.toks) (o := .tup xs.reverse) (fun b ob q => Heap.get?_push_of_some _ q) (Nat.le_refl _) ?_, rfl, q _ (I5.hok.fresh (Nat.le_refl _))⟩
  exact ⟨by rw [List.length_reverse]; exact hz, _, r.reverse, ⟨_, Heap.get?_push_size _ rfl, rfl, 0, rfl⟩⟩
end
theorem kREVT {X : Cx} (K : Fr) (h : X.K = K) {e : Expr} {te : TE} (he : PE X e (tRevT X.K te)) : PE X e (tRevT K te) := h ▸ he
section
variable {K : Fr} {B : Bs} {G : En} {P : Po} {te : TE}
theorem dw_revT (h : DW K B G te fun G1 r1 => PW r1 fun w => ∃ ds, w = .d (.tuple ds) ∧ P G1 (.p (.d (.tuple ds.reverse)))) : DW K B G (tRevT K te) P := fun S F H Q I k => by
  show te S H fun x H1 => ∃ a xs, x = .ref a ∧ SqT K H1 a xs ∧ ∀ p, H1 p = none → Q (.ref p) (upd H1 p (.tup xs.reverse))
  refine dw_run (k' := fun G1 w => ∃ ds, w = .d (.tuple ds) ∧ P G1 (.p (.d (.tuple ds.reverse)))) h I fun v F1 H1 G1 w e1 I1 hv ⟨ds, hw, q⟩ => ?_
  subst hw
  obtain ⟨p, us, rfl, hp, ha⟩ := dp_tup hv
  exact ⟨p, us, rfl, SqT.of (I1.ex _ _ hp), fun c hc => ct_T (k.mono e1) I1 hc (da_rev ha) q⟩
/-! ### tuple(range(n)), list(range(n)) -/
theorem rgV_da {F : Hp} (a b : Int) : DqAll K F (rgV a b) ((rngD a (b - a).toNat)) := by
  have e1 : rgV a b = ((List.range (b - a).toNat).map fun (i : Nat) => a + (i : Int)).map V.int := by
    unfold rgV
    rw [List.map_map]
    rfl
  have e2 : rngD a (b - a).toNat = ((List.range (b - a).toNat).map fun (i : Nat) => a + (i : Int)).map PyData.int := by
    unfold rngD
    rw [List.map_map]
    rfl
  rw [e1, e2]
  exact da_ints _
theorem dw_tupRg1 (h : DW K B G te fun G1 r1 => PW r1 fun w => ∃ n : Nat, w = .d (.int (n : Int)) ∧ n ≤ 1000000 ∧ P G1 (.p (.d (.tuple (rngD 0 n))))) : DW K B G (tTupRg (tRg1 te)) P := fun S F H Q I k => by
  show te S H fun x H1 => ∃ n, x = .int n ∧ (RgOk 0 n ∧ ∀ q, H1 q = none → Q (.ref q) (upd H1 q (.tup (rgV 0 n))))
  refine dw_run (k' := fun G1 w => ∃ n : Nat, w = .d (.int (n : Int)) ∧ n ≤ 1000000 ∧ P G1 (.p (.d (.tuple (rngD 0 n))))) h I fun v F1 H1 G1 w e1 I1 hv ⟨n, hw, hn, q⟩ => ?_
  subst hw
  have e : ((n : Int) - 0).toNat = n := by omega
  refine ⟨n, dp_int hv, RgOk.of_le (by omega) (by omega) (by omega) (by omega), fun c hc => ?_⟩
  have hd := rgV_da (K := K) (F := F1) 0 (n : Int)
  rw [e] at hd
  exact ct_T (k.mono e1) I1 hc hd q
theorem dw_lstRg1 (h : DW K B G te fun G1 r1 => PW r1 fun w => ∃ n : Nat, w = .d (.int (n : Int)) ∧ n ≤ 1000000 ∧ P G1 (.fr (.o none (rngD 0 n)))) : DW K B G (tLstRg (tRg1 te)) P := fun S F H Q I k => by
  show te S H fun x H1 => ∃ n, x = .int n ∧ (RgOk 0 n ∧ ∀ q, H1 q = none → Q (.ref q) (upd H1 q (.lst (rgV 0 n))))
  refine dw_run (k' := fun G1 w => ∃ n : Nat, w = .d (.int (n : Int)) ∧ n ≤ 1000000 ∧ P G1 (.fr (.o none (rngD 0 n)))) h I fun v F1 H1 G1 w e1 I1 hv ⟨n, hw, hn, q⟩ => ?_
  subst hw
  have e : ((n : Int) - 0).toNat = n := by omega
  refine ⟨n, dp_int hv, RgOk.of_le (by omega) (by omega) (by omega) (by omega), fun c hc => ?_⟩
  have hd := rgV_da (K := K) (F := F1) 0 (n : Int)
  rw [e] at hd
  exact ct_L (k.mono e1) I1 hc hd q
/-! ### isinstance of data -/
def tyN : PyData → String
  | .none => "NoneType"
  | .bool _ => "bool"
  | .int _ => "int"
  | .str _ => "str"
  | .list _ => "list"
  | .tuple _ => "tuple"
  | .dict _ => "dict"
theorem ty_dq {H : Hp} {v : V} {d : PyData} (h : Dq K H v d) : TyX K H v (.type (tyN d)) := by
  cases h with
  | non => exact .base .non
  | bl b => exact .base (.bl b)
  | int i => exact .base (.int i)
  | str x => exact .base (.str x)
  | lst e _ => exact .base (.lst e)
  | tup e _ => exact .base (.tup e)
def isiD (d : PyData) (T : String) : Bool := tyN d == T || (tyN d == "bool" && T == "int")
theorem kit_tuple (d : PyData) : kitB (tyN d) "tuple" = some (isiD d "tuple") := by
  have h : ∀ n ∈ ["NoneType", "bool", "int", "str", "list", "tuple", "dict"], kitB n "tuple" = some (n == "tuple" || (n == "bool" && "tuple" == "int")) := by decide +kernel
  exact h _ (by cases d <;> simp [tyN])
theorem kit_list (d : PyData) : kitB (tyN d) "list" = some (isiD d "list") := by
  have h : ∀ n ∈ ["NoneType", "bool", "int", "str", "list", "tuple", "dict"], kitB n "list" = some (n == "list" || (n == "bool" && "list" == "int")) := by decide +kernel
  exact h _ (by cases d <;> simp [tyN])
theorem kit_str (d : PyData) : kitB (tyN d) "str" = some (isiD d "str") := by
  have h : ∀ n ∈ ["NoneType", "bool", "int", "str", "list", "tuple", "dict"], kitB n "str" = some (n == "str" || (n == "bool" && "str" == "int")) := by decide +kernel
  exact h _ (by cases d <;> simp [tyN])
theorem kit_int (d : PyData) : kitB (tyN d) "int" = some (isiD d "int") := by
  have h : ∀ n ∈ ["NoneType", "bool", "int", "str", "list", "tuple", "dict"], kitB n "int" = some (n == "int" || (n == "bool" && "int" == "int")) := by decide +kernel
  exact h _ (by cases d <;> simp [tyN])
theorem kit_bool (d : PyData) : kitB (tyN d) "bool" = some (isiD d "bool") := by
  have h : ∀ n ∈ ["NoneType", "bool", "int", "str", "list", "tuple", "dict"], kitB n "bool" = some (n == "bool" || (n == "bool" && "bool" == "int")) := by decide +kernel
  exact h _ (by cases d <;> simp [tyN])
theorem rn_isi {w1 : W} {d : PyData} {T : String} {b : Bool} (e1 : wd G w1 = some d) (e : kitB (tyN d) T = some b) (q : P G (.p (.d (.bool b)))) : RWn K B G (rIsi K) [w1, .ty T] P := fun S F H Q vs I hv k => by
  obtain ⟨v, v', rfl, h1, h2⟩ := vws2 hv
  have h2 : v' = .ty T := h2
  subst h2
  exact ⟨v, .ty T, _, _, b, rfl, .ty T, ty_dq (wd_dq I h1 e1), kit_ty e, ct_d k I (.bl _) q⟩
end
end DL
namespace DL
open PySem L2
section
variable {K : Fr} {B : Bs} {G : En} {P : Po} {ta tb tc te : TE} {r r' : R2}
/-! ### a op b op c -/
theorem dw_chain (h : DW K B G ta fun G1 r1 => PW r1 fun w1 => DW K B G1 tb fun G2 r2 => PW r2 fun w2 => RW2 K B G2 r w1 w2 fun G3 r3 => PW r3 fun w3 => ∃ b, w3 = .d (.bool b) ∧ if b = true then DW K B G3 tc fun G4 r4 => PW r4 fun w4 => RW2 K B G4 r' w2 w4 P else P G3 (.p (.d (.bool false)))) :
    DW K B G (tChain r r' ta tb tc) P := fun S F H Q I k => by
  show ta S H fun x H1 => tb S H1 fun y H2 => r x y H2 fun z H3 => ∃ k, z = .bl k ∧ (if k = true then tc S H3 fun w' H4 => r' y w' H4 Q else Q (.bl false) H3)
  refine dw_run (k' := fun G1 w1 => DW K B G1 tb fun G2 r2 => PW r2 fun w2 => RW2 K B G2 r w1 w2 fun G3 r3 => PW r3 fun w3 => ∃ b, w3 = .d (.bool b) ∧ if b = true then DW K B G3 tc fun G4 r4 => PW r4 fun w4 => RW2 K B G4 r' w2 w4 P else P G3 (.p (.d (.bool false)))) h I fun v1 F1 H1 G1 w1 e1 I1 a1 q1 => ?_
  refine dw_run (k' := fun G2 w2 => RW2 K B G2 r w1 w2 fun G3 r3 => PW r3 fun w3 => ∃ b, w3 = .d (.bool b) ∧ if b = true then DW K B G3 tc fun G4 r4 => PW r4 fun w4 => RW2 K B G4 r' w2 w4 P else P G3 (.p (.d (.bool false)))) q1 I1 fun v2 F2 H2 G2 w2 e2 I2 a2 q2 => ?_
  refine q2 S F2 H2 _ v1 v2 I2 (a1.mono e2) a2 fun v3 F3 H3 G3 r3 e3 V3 q3 => ?_
  obtain ⟨F4, w4, e4, I4, a4, b, rfl, q4⟩ := pw_ok V3 q3
  refine ⟨b, dp_bl a4, ?_⟩
  cases b with
  | false =>
    show Q (.bl false) H3
    exact ct_d (k.mono (((e1.trans e2).trans e3).trans e4)) I4 (.bl false) q4
  | true =>
    show tc S H3 fun w' H4 => r' v2 w' H4 Q
    refine dw_run (k' := fun G4 w4 => RW2 K B G4 r' w2 w4 P) q4 I4 fun v5 F5 H5 G5 w5 e5 I5 a5 q5 => ?_
    exact q5 S F5 H5 Q v2 v5 I5 (a2.mono ((e3.trans e4).trans e5)) a5 (k.mono ((((e1.trans e2).trans e3).trans e4).trans e5))
/-! ### sorted pairs -/
def leP (p q : Int × Int) : Bool := !SrtO.lexB q p
def srtP (ps : List (Int × Int)) : List (Int × Int) := ps.mergeSort leP
def pD (p : Int × Int) : PyData := .tuple [.int p.1, .int p.2]
theorem leP_tr (a b c : Int × Int) : leP a b = true → leP b c = true → leP a c = true := by
  unfold leP SrtO.lexB
  intro h1 h2
  simp only [Bool.not_eq_true'] at *
  split at h1 <;> split at h2 <;> split <;> simp at * <;> omega
theorem leP_tot (a b : Int × Int) : (leP a b || leP b a) = true := by
  unfold leP SrtO.lexB
  split <;> split <;> simp <;> omega
theorem srtP_perm (ps : List (Int × Int)) : (srtP ps).Perm ps := List.mergeSort_perm _ _
theorem srtP_pw (ps : List (Int × Int)) : (srtP ps).Pairwise fun a b => leP a b = true := List.pairwise_mergeSort (le := leP) leP_tr leP_tot ps
theorem leP_anti {a b : Int × Int} (h1 : leP a b = true) (h2 : leP b a = true) : a = b := by
  unfold leP SrtO.lexB at *
  simp only [Bool.not_eq_true'] at *
  apply Prod.ext
  · split at h1 <;> split at h2 <;> simp at * <;> omega
  · split at h1 <;> split at h2 <;> simp at * <;> omega
theorem pwP_eq : ∀ {l m : List (Int × Int)}, l.Pairwise (fun a b => leP a b = true) → m.Pairwise (fun a b => leP a b = true) → l.Perm m → l = m
  | [], m, _, _, h => (List.nil_perm.mp h).symm ▸ rfl
  | x :: l, [], _, _, h => by simpa using h.length_eq
  | x :: l, y :: m, h1, h2, h => by
    have hx : x ∈ y :: m := h.mem_iff.mp List.mem_cons_self
    have hy : y ∈ x :: l := h.mem_iff.mpr List.mem_cons_self
    have a1 := List.pairwise_cons.mp h1
    have a2 := List.pairwise_cons.mp h2
    have e : x = y := by
      rcases List.mem_cons.mp hx with z | z
      · exact z
      · rcases List.mem_cons.mp hy with z' | z'
        · exact z'.symm
        · exact leP_anti (a1.1 y z') (a2.1 x z)
    subst e
    rw [pwP_eq a1.2 a2.2 h.cons_inv]
def kP (H : Hp) (v : V) : Int × Int := match v with
  | .ref t => match H t with
    | some (.tup [.int i, .int j]) => (i, j)
    | _ => (0, 0)
  | _ => (0, 0)
theorem pairs_at {H : Hp} : ∀ {vs : List V} {ps : List (Int × Int)}, DqAll K H vs (ps.map pD) → vs.map (kP H) = ps ∧ ∀ x ∈ vs, ∃ t, x = V.ref t ∧ H t = some (.tup [.int (kP H x).1, .int (kP H x).2])
  | [], [], _ => ⟨rfl, fun x h => nomatch h⟩
  | v :: vs, p :: ps, h => by
    cases h with
    | cons a b =>
      obtain ⟨e1, e2⟩ := pairs_at b
      obtain ⟨t, us, rfl, ht, hu⟩ := dp_tup a
      cases hu with
      | cons u1 hu =>
        cases hu with
        | cons u2 hu =>
          cases hu
          obtain rfl := dp_int u1
          obtain rfl := dp_int u2
          have ek : kP H (.ref t) = p := by
            show (match H t with
              | some (.tup [.int i, .int j]) => (i, j)
              | _ => (0, 0)) = p
            rw [ht]
          refine ⟨by rw [List.map_cons, ek, e1], fun x hx => ?_⟩
          rcases List.mem_cons.mp hx with rfl | hx
          · exact ⟨t, rfl, by rw [ek]; exact ht⟩
          · exact e2 x hx
theorem da_of_pairs {H F : Hp} (e : Ex F H) : ∀ {ys : List V}, (∀ x ∈ ys, ∃ t, x = V.ref t ∧ F t = some (.tup [.int (kP H x).1, .int (kP H x).2])) → DqAll K F ys ((ys.map (kP H)).map pD)
  | [], _ => .nil
  | y :: ys, h => by
    obtain ⟨t, ht, hy⟩ := h y List.mem_cons_self
    refine .cons ?_ (da_of_pairs e fun x hx => h x (List.mem_cons_of_mem _ hx))
    rw [ht] at hy ⊢
    exact .tup hy (.cons (.int _) (.cons (.int _) .nil))
theorem rn_sortP {w1 : W} {ps : List (Int × Int)} (e1 : wd G w1 = some (.list (ps.map pD))) (q : P G (.fr (.o none ((srtP ps).map pD)))) : RWn K B G (rSortedPO K) [w1] P := fun S F H Q vs I hv k => by
  obtain ⟨v, rfl, h1⟩ := vws1 hv
  obtain ⟨p, us, rfl, hp, ha⟩ := wd_list I h1 e1
  obtain ⟨em, et⟩ := pairs_at (da_mono I.ex ha)
  obtain ⟨_, et2⟩ := pairs_at ha
  have kk : ∀ x ∈ us, kP F x = kP H x := fun x hx => by
    obtain ⟨t, rfl, ht⟩ := et2 x hx
    obtain ⟨t', e, ht'⟩ := et _ hx
    cases e
    have := I.ex _ _ ht
    rw [this] at ht'
    have := (HO.tup.inj (Option.some.inj ht'))
    simp only [List.cons.injEq, V.int.injEq, and_true] at this
    exact Prod.ext this.1 this.2
  refine ⟨p, us, kP H, rfl, SqL.of hp, et, fun ys c hs hb hc => ?_⟩
  have hperm := hb.perm
  have e3 : ys.map (kP H) = srtP ps := by
    refine pwP_eq ?_ (srtP_pw ps) ((hperm.map (kP H)).trans ?_)
    · refine List.pairwise_map.mpr ?_
      refine hs.imp fun {a b} h => ?_
      show (!SrtO.lexB (kP H b) (kP H a)) = true
      rw [show SrtO.lexB (kP H b) (kP H a) = false from h]
      rfl
    · rw [em]
      exact (srtP_perm ps).symm
  have hd : DqAll K F ys ((srtP ps).map pD) := by
    rw [← e3]
    refine da_of_pairs I.ex fun x hx => ?_
    have hm := hperm.mem_iff.mp hx
    obtain ⟨t, rfl, ht⟩ := et2 x hm
    exact ⟨t, rfl, by rw [← kk _ hm]; exact ht⟩
  exact ct_L k I hc hd q
end

/-! ### an own dict whose keys are tuples of ints and texts -/
def keyD : Key → PyData
  | .inl i => .int i
  | .inr s => .str s
def lkD (kvs : List (List Key × PyData)) (k : List Key) : Option PyData := (kvs.find? fun kv => decide (kv.1 = k)).map (·.2)
def putD (kvs : List (List Key × PyData)) (k : List Key) (d : PyData) : List (List Key × PyData) :=
  if (kvs.any fun kv => decide (kv.1 = k)) = true then kvs.map fun kv => if kv.1 = k then (kv.1, d) else kv else kvs ++ [(k, d)]
section
variable {K : Fr} {B : Bs} {G : En} {P : Po} {td ty tv te : TE} {E : De} {S : St} {F H : Hp}
theorem keys_eq : ∀ {vs : List V} {ks : List Key}, DqAll K H vs (ks.map keyD) → vs = ks.map kV
  | [], [], _ => rfl
  | v :: vs, k :: ks, h => by
    cases h with
    | cons a b =>
      rw [keys_eq b]
      cases k with
      | inl i => rw [dp_int a]; rfl
      | inr s => rw [dp_str a]; rfl
theorem key_at {v : V} {ks : List Key} (h : Dq K F v (.tuple (ks.map keyD))) (e : Ex F H) : ∃ b, v = .ref b ∧ H b = some (.tup (ks.map kV)) := by
  obtain ⟨b, vs, rfl, hb, ha⟩ := dp_tup h
  rw [keys_eq ha] at hb
  exact ⟨b, rfl, e _ _ hb⟩
theorem lk_val {k : List Key} : ∀ {kws : List (List Key × V)} {kvs : List (List Key × PyData)}, kws.map (·.1) = kvs.map (·.1) → DqAll K F (kws.map (·.2)) (kvs.map (·.2)) → (valV kws k).isSome = (lkD kvs k).isSome ∧ ∀ d, lkD kvs k = some d → ∃ v, valV kws k = some v ∧ Dq K F v d
  | [], [], _, _ => ⟨rfl, fun d h => nomatch h⟩
  | (a, v) :: kws, (b, e) :: kvs, h1, h2 => by
    cases h2 with
    | cons u1 u2 =>
      have h3 := List.cons.inj h1
      obtain ⟨i1, i2⟩ := lk_val (k := k) h3.2 u2
      have ea : a = b := h3.1
      subst ea
      by_cases hk : a = k
      · subst hk
        refine ⟨by rw [valV_pos rfl]; simp [lkD], fun d hd => ⟨v, valV_pos rfl, ?_⟩⟩
        have : d = e := by
          simp [lkD] at hd
          exact hd.symm
        rw [this]
        exact u1
      · have e1 : lkD ((a, e) :: kvs) k = lkD kvs k := by simp [lkD, List.find?_cons, hk]
        rw [valV_neg hk, e1]
        exact ⟨i1, i2⟩
theorem put_keys {k : List Key} {v : V} {d : PyData} : ∀ {kws : List (List Key × V)} {kvs : List (List Key × PyData)}, kws.map (·.1) = kvs.map (·.1) → DqAll K F (kws.map (·.2)) (kvs.map (·.2)) → Dq K F v d →
    (putK kws k v).map (·.1) = (putD kvs k d).map (·.1) ∧ DqAll K F ((putK kws k v).map (·.2)) ((putD kvs k d).map (·.2)) := by
  intro kws kvs h1 h2 hd
  have hany : ∀ {kws : List (List Key × V)} {kvs : List (List Key × PyData)}, kws.map (·.1) = kvs.map (·.1) → (kws.any fun kv => decide (kv.1 = k)) = (kvs.any fun kv => decide (kv.1 = k)) := by
    intro kws kvs h
    have e1 : (kws.any fun kv => decide (kv.1 = k)) = (kws.map (·.1)).any fun x => decide (x = k) := by rw [List.any_map]; rfl
    have e2 : (kvs.any fun kv => decide (kv.1 = k)) = (kvs.map (·.1)).any fun x => decide (x = k) := by rw [List.any_map]; rfl
    rw [e1, e2, h]
  have hrep : ∀ {kws : List (List Key × V)} {kvs : List (List Key × PyData)}, kws.map (·.1) = kvs.map (·.1) → DqAll K F (kws.map (·.2)) (kvs.map (·.2)) →
      (kws.map fun kv => if kv.1 = k then (kv.1, v) else kv).map (·.1) = (kvs.map fun kv => if kv.1 = k then (kv.1, d) else kv).map (·.1) ∧ DqAll K F ((kws.map fun kv => if kv.1 = k then (kv.1, v) else kv).map (·.2)) ((kvs.map fun kv => if kv.1 = k then (kv.1, d) else kv).map (·.2)) := by
    intro kws
    induction kws with
    | nil =>
      intro kvs h1 h2
      cases kvs with
      | nil => exact ⟨rfl, .nil⟩
      | cons _ _ => cases h1
    | cons a kws ih =>
      intro kvs h1 h2
      cases kvs with
      | nil => cases h1
      | cons b kvs =>
        have h3 := List.cons.inj h1
        have h31 : a.1 = b.1 := h3.1
        cases h2 with
        | cons u1 u2 =>
          obtain ⟨i1, i2⟩ := ih h3.2 u2
          simp only [List.map_cons]
          by_cases hk : a.1 = k
          · rw [if_pos hk, if_pos (h31 ▸ hk)]
            exact ⟨by rw [i1, h31], .cons hd i2⟩
          · rw [if_neg hk, if_neg (h31 ▸ hk)]
            exact ⟨by rw [i1, h31], .cons u1 i2⟩
  unfold putK putD
  rw [hany h1]
  split
  · exact hrep h1 h2
  · refine ⟨by rw [List.map_append, List.map_append, h1]; rfl, ?_⟩
    rw [List.map_append, List.map_append]
    exact da_app h2 (.cons hd .nil)
theorem Iv.dct (I : Iv K B G S F H) {i : Nat} {kvs : List (List Key × PyData)} (h : G[i]? = some (.t kvs)) : ∃ p kws, S[i]? = some (some (.ref p)) ∧ H p = some (.dT kws) ∧ kws.map (·.1) = kvs.map (·.1) ∧ DqAll K F (kws.map (·.2)) (kvs.map (·.2)) := by
  obtain ⟨A, h1, _, _⟩ := I.own
  rcases h1 i _ h with e | ⟨v, h1, p, kws, rfl, h5, h6, h7, _⟩
  · cases e
  · exact ⟨p, kws, h1, h5, h6, h7⟩
/-- slot i's own thing is another one now (of the same address) -/
theorem Iv.mutG {i : Nat} {s s' : Sl} {p : Addr} {ob : HO} (I : Iv K B G S F H) (hi : G[i]? = some s) (hS : S[i]? = some (some (.ref p))) (hA : ∀ A, SvR K F H (.ref p) A s → A p) (hn : s ≠ .un) (h : ∀ A : Addr → Prop, A p → SvR K F H (.ref p) A s → SvR K F (upd H p ob) (.ref p) A s') : Iv K B (G.set i s') S F (upd H p ob) := by
  obtain ⟨A, h1, h2, h3⟩ := I.own
  obtain ⟨u, z1, z2⟩ := (h1 i _ hi).resolve_left hn
  rw [hS] at z1
  cases z1
  have hAp := hA _ z2
  obtain ⟨y1, y2, y3⟩ := h3 i p hAp
  refine ⟨I.ex.mut y1 ob, I.f0, fun b o hb hm => ?_, I.nw, fun b hb => ?_, by simpa using I.len, A, fun j s2 hj => ?_, h2, fun j b hb => ?_⟩
  · by_cases e : b = p
    · subst e
      rcases y3 with z | z
      · rw [hb] at z
        cases z
      · exact absurd z hm
    · rw [upd_ne e]
      exact I.fr b o hb hm
  · by_cases e : b = p
    · subst e
      rw [upd_same]
      exact fun z => by cases z
    · rw [upd_ne e]
      exact I.st b hb
  · by_cases e : i = j
    · subst e
      obtain ⟨rfl, _⟩ := set_same hj
      exact .inr ⟨_, hS, h _ hAp z2⟩
    · rw [List.getElem?_set_ne e] at hj
      rcases h1 j s2 hj with z | ⟨u, x1, x2⟩
      · exact .inl z
      · refine .inr ⟨u, x1, slr_stab x2 (Ex.refl _) fun b hb => ?_⟩
        refine upd_ne fun z => ?_
        subst z
        exact e (h2 _ _ _ hAp hb)
  · refine ⟨(h3 j b hb).1, ?_, (h3 j b hb).2.2⟩
    by_cases e : b = p
    · subst e
      rw [upd_same]
      exact fun z => by cases z
    · rw [upd_ne e]
      exact (h3 j b hb).2.1
theorem dw_slT {i : Nat} {kvs : List (List Key × PyData)} (h : G[i]? = some (.t kvs)) (q : P G (.p (.sl i))) : DW K B G (tVar i) P := fun S F H Q I k => by
  obtain ⟨p, kws, e, _⟩ := I.dct h
  exact ⟨_, e, k _ F H G (.p (.sl i)) (Ex.refl F) ⟨I, e⟩ q⟩
theorem dw_newT (q : P G (.fr (.t []))) : DW K B G tDNewT P := fun S F H Q I k => by
  intro p hp
  refine k (.ref p) F _ G (.fr (.t [])) (Ex.refl F) ?_ q
  refine I.add (Ex.refl F) (Ex.new hp) (I.ex.trans (Ex.new hp)) (fun b o h n => ?_) _ (fun a => a = p) (.inr ⟨_, rfl, p, [], rfl, upd_same, rfl, .nil, rfl⟩) fun a e => ?_
  · rw [h] at n
    cases n
  · have e : a = p := e
    subst e
    exact ⟨hp, I.fnone hp, by rw [upd_same]; exact fun z => (by cases z)⟩
theorem dw_dIn (h : DW K B G ty fun G1 r1 => PW r1 fun w1 => DW K B G1 td fun G2 r2 => PW r2 fun w2 => ∃ i ks kvs, w1 = .d (.tuple (ks.map keyD)) ∧ w2 = .sl i ∧ G2[i]? = some (.t kvs) ∧ P G2 (.p (.d (.bool (lkD kvs ks).isSome)))) : DW K B G (tDIn ty td) P := fun S F H Q I k => by
  show ty S H fun y H1 => td S H1 fun x H2 => ∃ a o, x = .ref a ∧ DGet H2 a y o ∧ Q (.bl o.isSome) H2
  refine dw_run (k' := fun G1 w1 => DW K B G1 td fun G2 r2 => PW r2 fun w2 => ∃ i ks kvs, w1 = .d (.tuple (ks.map keyD)) ∧ w2 = .sl i ∧ G2[i]? = some (.t kvs) ∧ P G2 (.p (.d (.bool (lkD kvs ks).isSome)))) h I fun v1 F1 H1 G1 w1 e1 I1 a1 q1 => ?_
  refine dw_run (k' := fun G2 w2 => ∃ i ks kvs, w1 = .d (.tuple (ks.map keyD)) ∧ w2 = .sl i ∧ G2[i]? = some (.t kvs) ∧ P G2 (.p (.d (.bool (lkD kvs ks).isSome)))) q1 I1 fun v2 F2 H2 G2 w2 e2 I2 a2 ⟨i, ks, kvs, x1, x2, hi, q2⟩ => ?_
  subst x1 x2
  obtain ⟨b, rfl, hb⟩ := key_at (dp_mono e2 a1) I2.ex
  obtain ⟨p, kws, hS, hp, hk, hv⟩ := I2.dct hi
  have a2 : S[i]? = some (some v2) := a2
  rw [hS] at a2
  cases a2
  refine ⟨p, _, rfl, DGet.t hp hb, ?_⟩
  rw [(lk_val (k := ks) hk hv).1]
  exact ct_d (k.mono (e1.trans e2)) I2 (.bl _) q2
theorem dw_dNotIn (h : DW K B G ty fun G1 r1 => PW r1 fun w1 => DW K B G1 td fun G2 r2 => PW r2 fun w2 => ∃ i ks kvs, w1 = .d (.tuple (ks.map keyD)) ∧ w2 = .sl i ∧ G2[i]? = some (.t kvs) ∧ P G2 (.p (.d (.bool (!(lkD kvs ks).isSome))))) : DW K B G (tDNotIn ty td) P := fun S F H Q I k => by
  show ty S H fun y H1 => td S H1 fun x H2 => ∃ a o, x = .ref a ∧ DGet H2 a y o ∧ Q (.bl (!o.isSome)) H2
  refine dw_run (k' := fun G1 w1 => DW K B G1 td fun G2 r2 => PW r2 fun w2 => ∃ i ks kvs, w1 = .d (.tuple (ks.map keyD)) ∧ w2 = .sl i ∧ G2[i]? = some (.t kvs) ∧ P G2 (.p (.d (.bool (!(lkD kvs ks).isSome))))) h I fun v1 F1 H1 G1 w1 e1 I1 a1 q1 => ?_
  refine dw_run (k' := fun G2 w2 => ∃ i ks kvs, w1 = .d (.tuple (ks.map keyD)) ∧ w2 = .sl i ∧ G2[i]? = some (.t kvs) ∧ P G2 (.p (.d (.bool (!(lkD kvs ks).isSome))))) q1 I1 fun v2 F2 H2 G2 w2 e2 I2 a2 ⟨i, ks, kvs, x1, x2, hi, q2⟩ => ?_
  subst x1 x2
  obtain ⟨b, rfl, hb⟩ := key_at (dp_mono e2 a1) I2.ex
  obtain ⟨p, kws, hS, hp, hk, hv⟩ := I2.dct hi
  have a2 : S[i]? = some (some v2) := a2
  rw [hS] at a2
  cases a2
  refine ⟨p, _, rfl, DGet.t hp hb, ?_⟩
  rw [(lk_val (k := ks) hk hv).1]
  exact ct_d (k.mono (e1.trans e2)) I2 (.bl _) q2
theorem dw_dGet (h : DW K B G td fun G1 r1 => PW r1 fun w1 => DW K B G1 ty fun G2 r2 => PW r2 fun w2 => ∃ i ks kvs d, w1 = .sl i ∧ w2 = .d (.tuple (ks.map keyD)) ∧ G2[i]? = some (.t kvs) ∧ lkD kvs ks = some d ∧ P G2 (.p (.d d))) : DW K B G (tDGet td ty) P := fun S F H Q I k => by
  show td S H fun x H1 => ty S H1 fun y H2 => ∃ a v, x = .ref a ∧ DGet H2 a y (some v) ∧ Q v H2
  refine dw_run (k' := fun G1 w1 => DW K B G1 ty fun G2 r2 => PW r2 fun w2 => ∃ i ks kvs d, w1 = .sl i ∧ w2 = .d (.tuple (ks.map keyD)) ∧ G2[i]? = some (.t kvs) ∧ lkD kvs ks = some d ∧ P G2 (.p (.d d))) h I fun v1 F1 H1 G1 w1 e1 I1 a1 q1 => ?_
  refine dw_run (k' := fun G2 w2 => ∃ i ks kvs d, w1 = .sl i ∧ w2 = .d (.tuple (ks.map keyD)) ∧ G2[i]? = some (.t kvs) ∧ lkD kvs ks = some d ∧ P G2 (.p (.d d))) q1 I1 fun v2 F2 H2 G2 w2 e2 I2 a2 ⟨i, ks, kvs, d, x1, x2, hi, hd, q2⟩ => ?_
  subst x1 x2
  obtain ⟨b, rfl, hb⟩ := key_at a2 I2.ex
  obtain ⟨p, kws, hS, hp, hk, hv⟩ := I2.dct hi
  have a1 : S[i]? = some (some v1) := a1
  rw [hS] at a1
  cases a1
  obtain ⟨v, ev, hvd⟩ := (lk_val (k := ks) hk hv).2 d hd
  exact ⟨p, v, rfl, by rw [← ev]; exact DGet.t hp hb, ct_d (k.mono (e1.trans e2)) I2 hvd q2⟩
theorem ds_dPut (h : DW K B G tv fun G1 r1 => PW r1 fun w1 => DW K B G1 td fun G2 r2 => PW r2 fun w2 => DW K B G2 ty fun G3 r3 => PW r3 fun w3 => ∃ i ks kvs d, w1 = .d d ∧ w2 = .sl i ∧ w3 = .d (.tuple (ks.map keyD)) ∧ G3[i]? = some (.t kvs) ∧ kvs.length < sizeLine ∧ E.nx (G3.set i (.t (putD kvs ks d)))) : DS K B G (sDPut td ty tv) E := fun S F H D I c => by
  show tv S H fun v H1 => td S H1 fun x H2 => ty S H2 fun y H3 => ∃ a H4, x = .ref a ∧ DPut H3 a y v H4 ∧ D.nx S H4
  refine dw_run (k' := fun G1 w1 => DW K B G1 td fun G2 r2 => PW r2 fun w2 => DW K B G2 ty fun G3 r3 => PW r3 fun w3 => ∃ i ks kvs d, w1 = .d d ∧ w2 = .sl i ∧ w3 = .d (.tuple (ks.map keyD)) ∧ G3[i]? = some (.t kvs) ∧ kvs.length < sizeLine ∧ E.nx (G3.set i (.t (putD kvs ks d)))) h I fun v1 F1 H1 G1 w1 e1 I1 a1 q1 => ?_
  refine dw_run (k' := fun G2 w2 => DW K B G2 ty fun G3 r3 => PW r3 fun w3 => ∃ i ks kvs d, w1 = .d d ∧ w2 = .sl i ∧ w3 = .d (.tuple (ks.map keyD)) ∧ G3[i]? = some (.t kvs) ∧ kvs.length < sizeLine ∧ E.nx (G3.set i (.t (putD kvs ks d)))) q1 I1 fun v2 F2 H2 G2 w2 e2 I2 a2 q2 => ?_
  refine dw_run (k' := fun G3 w3 => ∃ i ks kvs d, w1 = .d d ∧ w2 = .sl i ∧ w3 = .d (.tuple (ks.map keyD)) ∧ G3[i]? = some (.t kvs) ∧ kvs.length < sizeLine ∧ E.nx (G3.set i (.t (putD kvs ks d)))) q2 I2 fun v3 F3 H3 G3 w3 e3 I3 a3 ⟨i, ks, kvs, d, x1, x2, x3, hi, hz, q3⟩ => ?_
  subst x1 x2 x3
  obtain ⟨b, rfl, hb⟩ := key_at a3 I3.ex
  obtain ⟨p, kws, hS, hp, hk, hv⟩ := I3.dct hi
  have a2 : S[i]? = some (some v2) := a2
  rw [hS] at a2
  cases a2
  have hl : kws.length = kvs.length := by
    have := congrArg List.length hk
    simpa using this
  refine ⟨p, _, rfl, DPut.t hp hb (by rw [hl]; exact hz), ?_⟩
  refine c.nx S F3 _ _ ((e1.trans e2).trans e3) (I3.mutG hi hS (fun A z => ?_) (fun z => nomatch z) fun A hA z => ?_) q3
  · obtain ⟨p', _, e, _, _, _, hA⟩ := z
    cases e
    exact hA
  · obtain ⟨z1, z2⟩ := put_keys (k := ks) hk hv (dp_mono (e2.trans e3) a1)
    exact ⟨p, _, rfl, upd_same, z1, z2, hA⟩
end
end DL
namespace DL
open PySem L2
/-! ### ''.join -/
theorem join0 : ∀ (cs : List Nat), Txt.join (mkS []) (cs.map fun c => mkS [c]) = mkS cs := by
  have f : ∀ (cs : List Nat) (acc : Array Nat), (cs.map fun c => mkS [c]).foldl (fun acc p => acc ++ (mkS []).cps ++ p.cps) acc = acc ++ cs.toArray := by
    intro cs
    induction cs with
    | nil => intro acc; simp
    | cons c cs ih =>
      intro acc
      rw [List.map_cons, List.foldl_cons, ih]
      simp [mkS]
  intro cs
  cases cs with
  | nil => rfl
  | cons c cs =>
    show (⟨(cs.map fun c => mkS [c]).foldl (fun acc p => acc ++ (mkS []).cps ++ p.cps) (mkS [c]).cps⟩ : Str) = mkS (c :: cs)
    rw [f]
    simp [mkS]
section
variable {K : Fr} {B : Bs} {G : En} {P : Po} {te tl tr : TE} {w1 w2 : W}
theorem rm_join0 {cs : List Nat} (e2 : wd G w2 = some (.list (cs.map fun c => .str (mkS [c])))) (hz : cs.length ≤ 16777216) (q : P G (.p (.d (.str (mkS cs))))) : RWm K B G (rJOIN K) (.d (.str (mkS []))) [w2] P := fun S F H Q v vs I hv hs k => by
  obtain ⟨y, rfl, hy⟩ := vws1 hs
  obtain rfl := dp_str hv
  obtain ⟨p, us, rfl, hp, ha⟩ := wd_list I hy e2
  have e : us = (cs.map fun c => mkS [c]).map V.str := da_strs_eq (by rw [List.map_map]; exact ha)
  subst e
  refine ⟨_, p, cs.map fun c => mkS [c], rfl, rfl, .inl (SqL.of hp), ?_, ?_⟩
  · rw [mkS_len]
    have : ((cs.map fun c => mkS [c]).map (·.length)).sum = cs.length := by
      clear ha hp e2 q hz
      induction cs with
      | nil => rfl
      | cons c cs ih =>
        simp only [List.map_cons, List.sum_cons, List.length_cons, List.length_nil, mkS_len, ih]
        omega
    rw [this, List.length_nil]
    omega
  · rw [join0]
    exact ct_d k I (.str _) q
end
/-! ### a letter times an int -/
def rRepS : R2 := fun x y H Q => ∃ c n, x = .str (mkS [c]) ∧ y = .int n ∧ 1 ≤ n ∧ n ≤ 1000 ∧ Q (.str (mkS (List.replicate n.toNat c))) H
section
open PySem.Spec PyProof.Rows
variable {X : Cx}
theorem rep_cps (c : Nat) : ∀ (n : Nat) (acc : Array Nat), (List.replicate n #[c]).foldl (· ++ ·) acc = acc ++ (List.replicate n c).toArray
  | 0, acc => by simp
  | n + 1, acc => by
    rw [List.replicate_succ, List.foldl_cons, rep_cps c n]
    apply Array.toList_inj.mp
    simp [List.replicate_succ]
theorem op_repS : OpR X (binaryOp .Mult) rRepS := by
  intro pins s σ H x y v u Q I rx ry h
  obtain ⟨c, n, rfl, rfl, h1, h2, q⟩ := h
  obtain ⟨t, rfl⟩ := rx
  obtain ⟨t', rfl⟩ := ry
  have hx : (mkS [c]).length = 1 := rfl
  refine PySem.P.mul_str ?_ ?_ ?_ ?_
  · rw [decide_eq_false (by omega), decide_eq_false (by omega)]
    rfl
  · intro _ _
    rw [hx]
    have : (1 : Int) ≤ (2 ^ 63 - 1) / n := by
      refine (Int.le_ediv_iff_mul_le (by omega)).mpr ?_
      omega
    show ¬ ((1 : Nat) : Int) > _
    omega
  · intro _ _
    rw [hx]
    exact decide_eq_false (by rw [sizeLine_eq]; omega)
  · rw [if_neg (by omega)]
    by_cases e : n = 1
    · subst e
      rw [if_pos (by rfl)]
      exact ⟨.str (mkS [c]), H, I, ⟨t, rfl⟩, q⟩
    · rw [if_neg (by simp [hx, e])]
      have e2 : (⟨(List.replicate n.toNat (mkS [c]).cps).foldl (· ++ ·) #[]⟩ : Str) = mkS (List.replicate n.toNat c) := by
        show (⟨(List.replicate n.toNat #[c]).foldl (· ++ ·) #[]⟩ : Str) = _
        rw [rep_cps]
        simp [mkS]
      rw [e2]
      refine ⟨?_, ?_⟩
      · show (mkS (List.replicate n.toNat c)).length ≤ sizeLine
        rw [mkS_len, List.length_replicate, sizeLine_eq]
        omega
      · exact ⟨.str (mkS (List.replicate n.toNat c)), H, I.tok _, ⟨_, rfl⟩, q⟩
end
section
variable {K : Fr} {B : Bs} {G : En} {P : Po}
theorem rw_repS {c : Nat} {n : Int} (h1 : 1 ≤ n) (h2 : n ≤ 1000) (q : P G (.p (.d (.str (mkS (List.replicate n.toNat c)))))) : RW2 K B G rRepS (.d (.str (mkS [c]))) (.d (.int n)) P := fun S F H Q v1 v2 I a1 a2 k => ⟨c, n, dp_str a1, dp_int a2, h1, h2, ct_d k I (.str _) q⟩
end

/-! ### [e for g in .. for g1 in ..] -/
section
variable {K : Fr} {B : Bs} {G : En} {te : TE} {P : Po} {tt tt1 : TT}
theorem dw_lc2 {wi wi1 : TI} {g g1 : TG} {ch ch1 : List Nat} {vs vs1 : List Nat} (J : List PyData → Nat → List PyData → En → Prop) (J1 : List PyData → Nat → List PyData → Nat → List PyData → En → Prop) (hsub : ∀ k ∈ ch, k ∈ vs) (hsub1 : ∀ k ∈ ch1, k ∈ vs1) (hv : ∀ k ∈ vs1, k ∈ vs)
    (h : DI K B G wi fun G1 ds => J ds 0 [] (wipeG G1 vs) ∧ (∀ (B' : Bs) i acc G2 d, ds[i]? = some d → J ds i acc G2 → DG K B' G2 g ch (.d d) fun G3 => DT K B' G3 tt fun G4 b => if b = true then
      DI K B' G4 wi1 fun G5 ds1 => J1 ds i ds1 0 acc (wipeG G5 vs1) ∧ (∀ (B'' : Bs) j acc G6 d1, ds1[j]? = some d1 → J1 ds i ds1 j acc G6 → DG K B'' G6 g1 ch1 (.d d1) fun G7 => DT K B'' G7 tt1 fun G8 b => if b = true then
        DW K B'' G8 te fun G9 r => PW r fun w => ∃ y, w = .d y ∧ acc.length < sizeLine ∧ J1 ds i ds1 (j + 1) (acc ++ [y]) (wipeG G9 vs1) else J1 ds i ds1 (j + 1) acc (wipeG G8 vs1)) ∧ (∀ acc G6, J1 ds i ds1 ds1.length acc G6 → J ds (i + 1) acc (wipeG G6 vs))
      else J ds (i + 1) acc (wipeG G4 vs)) ∧ ∀ acc G2, J ds ds.length acc G2 → P (wipeG G2 vs) (.fr (.o none acc))) :
    DW K B G (tLc2 wi g tt wi1 g1 tt1 te vs vs1) P := fun S F H Q I k => by
  refine h S F H _ I fun It F1 H1 G1 ds e1 I1 Y ⟨j0, hs, hd⟩ => ?_
  intro D hD
  refine ⟨fun i m H => m = ds.length - i ∧ i ≤ ds.length ∧ ∃ F2 G2 acc, Ex F1 F2 ∧ Iv K B (G2 ++ [.o none acc]) (L2.wipe S vs ++ [some (.ref D)]) F2 H ∧ J ds i acc G2, ⟨_, rfl, Nat.zero_le _, F1, _, [], Ex.refl _, (I1.wipe vs).newL hD .nil, j0⟩, ?_⟩
  rintro i m H2 ⟨rfl, hi, F2, G2, acc, e2, I2, j2⟩
  by_cases hlt : i < ds.length
  · obtain ⟨d, hd'⟩ : ∃ d, ds[i]? = some d := ⟨_, List.getElem?_eq_getElem hlt⟩
    refine .inr ⟨((Y i H2 F2 e2 I2.ex).1 d hd').1, fun H => ∃ F2 G2 acc, Ex F1 F2 ∧ Iv K B (G2 ++ [.o none acc]) (L2.wipe S vs ++ [some (.ref D)]) F2 H ∧ J ds (i + 1) acc G2, fun H' p => ⟨ds.length - (i + 1), by omega, rfl, hlt, p⟩, fun x H3 y => ?_⟩
    obtain ⟨F3, e3, I3, hx⟩ := Y.turn e2 I2 hd' y
    obtain ⟨D', accv, mu, eD, hD3, ha3, Ia, back⟩ := I3.aside
    cases eD
    refine hs _ i acc G2 d hd' j2 _ F3 H3 x _ Ia hx fun S4 F4 H4 G4 e4 I4 l4 u4 q => ?_
    have ew : L2.wipe S4 vs = L2.wipe S vs := by
      rw [wipe_ext l4 fun k hk => u4 k fun z => hk (hsub k z)]
      exact wipe_ext (wipe_length S vs) fun k hk => wipe_ne hk
    refine ⟨ew, q S4 F4 H4 _ I4 fun b F5 H5 G5 e5 I5 q5 => ?_⟩
    cases b with
    | false =>
      show ∃ F2 G2 acc, Ex F1 F2 ∧ Iv K B (G2 ++ [.o none acc]) (L2.wipe S vs ++ [some (.ref D)]) F2 H5 ∧ J ds (i + 1) acc G2
      obtain ⟨_, I6⟩ := back _ _ _ _ (I5.wipe vs)
      rw [ew] at I6
      exact ⟨F5, _, acc, ((e2.trans e3).trans e4).trans e5, I6, q5⟩
    | true =>
      show wi1 S4 H5 fun J1' H4 => ∃ W1 : Nat → Nat → Hp → Prop, _ ∧ _
      refine q5 S4 F5 H5 _ I5 fun It1 F6 H6 G6 ds1 e6 I6 Y1 ⟨k0, ks, kd⟩ => ?_
      obtain ⟨_, I7⟩ := back _ _ _ _ (I6.wipe vs1)
      have e06 : Ex F1 F6 := (((e2.trans e3).trans e4).trans e5).trans e6
      refine ⟨fun j m H => m = ds1.length - j ∧ j ≤ ds1.length ∧ ∃ F8 G8 acc, Ex F6 F8 ∧ Iv K B (G8 ++ [.o none acc]) (L2.wipe S4 vs1 ++ [some (.ref D)]) F8 H ∧ J1 ds i ds1 j acc G8, ⟨_, rfl, Nat.zero_le _, F6, _, acc, Ex.refl _, I7, k0⟩, ?_⟩
      rintro j m H8 ⟨rfl, hj, F8, G8, acc8, e8, I8, j8⟩
      by_cases hlt1 : j < ds1.length
      · obtain ⟨d1, hd1⟩ : ∃ d, ds1[j]? = some d := ⟨_, List.getElem?_eq_getElem hlt1⟩
        refine .inr ⟨((Y1 j H8 F8 e8 I8.ex).1 d1 hd1).1, fun H => ∃ F8 G8 acc, Ex F6 F8 ∧ Iv K B (G8 ++ [.o none acc]) (L2.wipe S4 vs1 ++ [some (.ref D)]) F8 H ∧ J1 ds i ds1 (j + 1) acc G8, fun H' p => ⟨ds1.length - (j + 1), by omega, rfl, hlt1, p⟩, fun x H9 y => ?_⟩
        obtain ⟨F9, e9, I9, hx9⟩ := Y1.turn e8 I8 hd1 y
        obtain ⟨D', accv9, mu9, eD, hD9, ha9, Ia9, back9⟩ := I9.aside
        cases eD
        refine ks _ j acc8 G8 d1 hd1 j8 _ F9 H9 x _ Ia9 hx9 fun Sa Fa Ha Ga ea Ja la ua qa => ?_
        have ew1 : L2.wipe Sa vs1 = L2.wipe S4 vs1 := by
          rw [wipe_ext la fun k hk => ua k fun z => hk (hsub1 k z)]
          exact wipe_ext (wipe_length S4 vs1) fun k hk => wipe_ne hk
        refine ⟨ew1, qa Sa Fa Ha _ Ja fun b Fb Hb Gb eb Ib qb => ?_⟩
        cases b with
        | false =>
          show ∃ F8 G8 acc, Ex F6 F8 ∧ Iv K B (G8 ++ [.o none acc]) (L2.wipe S4 vs1 ++ [some (.ref D)]) F8 Hb ∧ J1 ds i ds1 (j + 1) acc G8
          obtain ⟨_, Ic⟩ := back9 _ _ _ _ (Ib.wipe vs1)
          rw [ew1] at Ic
          exact ⟨Fb, _, acc8, ((e8.trans e9).trans ea).trans eb, Ic, qb⟩
        | true =>
          show te Sa Hb fun y H7 => ∃ acc, H7 D = some (.lst acc) ∧ acc.length < sizeLine ∧ (∃ F8 G8 acc', Ex F6 F8 ∧ Iv K B (G8 ++ [.o none acc']) (L2.wipe S4 vs1 ++ [some (.ref D)]) F8 (upd H7 D (.lst (acc ++ [y]))) ∧ J1 ds i ds1 (j + 1) acc' G8)
          refine dw_run (k' := fun G5 w => ∃ y, w = .d y ∧ acc8.length < sizeLine ∧ J1 ds i ds1 (j + 1) (acc8 ++ [y]) (wipeG G5 vs1)) qb Ib fun v Fc Hc Gc w ec Ic hv' qc => ?_
          obtain ⟨y, rfl, hz, jc⟩ := qc
          obtain ⟨hDc, Id⟩ := back9 _ _ _ _ (Ic.wipe vs1)
          rw [ew1] at Id
          refine ⟨accv9, hDc, by rw [da_len ha9]; exact hz, Fc, _, acc8 ++ [y], (((e8.trans e9).trans ea).trans eb).trans ec, ?_, jc⟩
          have hl : (L2.wipe S4 vs1).length = (wipeG Gc vs1).length := by
            have := Id.len
            simpa using this
          have Ie := Id.mut (i := (wipeG Gc vs1).length) (p := D) (q := none) (ds := acc8) (ds' := acc8 ++ [y]) (vs' := accv9 ++ [v]) (by simp) (by rw [← hl]; simp) (da_app (da_mono ((ea.trans eb).trans ec) ha9) (.cons hv' .nil))
          have eg : (wipeG Gc vs1 ++ [Sl.o none acc8]).set (wipeG Gc vs1).length (.o none (acc8 ++ [y])) = wipeG Gc vs1 ++ [.o none (acc8 ++ [y])] := by simp
          rw [eg] at Ie
          exact Ie
      · have e : j = ds1.length := by omega
        subst e
        refine .inl ⟨(Y1 _ H8 F8 e8 I8.ex).2 rfl, F8, _, acc8, e06.trans e8, ?_, kd acc8 G8 j8⟩
        obtain ⟨D', accv9, mu9, eD, hD9, ha9, Ia9, back9⟩ := I8.aside
        have I9 := (back9 _ _ _ _ (Ia9.wipe vs)).2
        have ew2 : L2.wipe (L2.wipe S4 vs1) vs = L2.wipe S vs := by
          rw [← ew]
          exact wipe_ext (wipe_length S4 vs1) fun k hk => wipe_ne fun z => hk (hv k z)
        rw [ew2] at I9
        exact I9
  · have e : i = ds.length := by omega
    subst e
    refine .inl ⟨(Y _ H2 F2 e2 I2.ex).2 rfl, ?_⟩
    have I3 : Iv K B (wipeG G2 vs ++ [.o none acc]) (S ++ [some (.ref D)]) F2 H2 := by
      obtain ⟨D', accv, mu, eD, hD3, ha3, Ia, back⟩ := I2.aside
      exact (back _ _ _ _ ((Ia.wipe vs).wiped (S := S) (by rw [wipe_length, wipe_length]) fun k hk => by rw [wipe_ne hk, wipe_ne hk])).2
    exact k (.ref D) F2 H2 (wipeG G2 vs) (.fr (.o none acc)) (e1.trans e2) I3 (hd acc G2 j2)
end
end DL
namespace DL
open PySem L2
/-! ### defs that raise -/
def spX (K : Fr) (pre : List PyData → Prop) (post : List PyData → Rs → Prop) (exc : List PyData → Value → Prop) : Sp := fun vs H Q E => ∃ F ds, Ex F H ∧ DqAll K F vs ds ∧ pre ds ∧
  (∀ v F' H' r, Ex F F' → Ex F' H' → Ex H H' → (∀ b o, F' b = some o → F b = none → H b = none) → Rr K (fun a => H a = none) F' H' v r → post ds r → Q v H') ∧
  ∀ cls F' H', Ex F F' → Ex F' H' → Ex H H' → (∀ b o, F' b = some o → F b = none → H b = none) → exc ds cls → E cls none H'
section
variable {K : Fr} {B : Bs} {G : En} {P : Po} {t : TA} {E : XK}
/-- what takes an exception of class cls, from the base B on -/
def Tk (K : Fr) (B : Bs) (exc : Value → Prop) (E : XK) : Prop := ∀ cls S F H G, Iv K B G S F H → exc cls → E cls none H
theorem dw_callX {pre : List PyData → Prop} {post : List PyData → Rs → Prop} {exc : List PyData → Value → Prop} {ex0 : Value → Prop} (hE : Tk K B ex0 E) (h : DA K B G t fun G1 ws => ∃ ds, allD ws = some ds ∧ pre ds ∧ (∀ r, post ds r → P G1 r) ∧ ∀ cls, exc ds cls → ex0 cls) : DW K B G (tCall (spX K pre post exc) [] E t) P := fun S F H Q I k => by
  show t S H fun vs H1 => spX K pre post exc (vs ++ []) H1 Q E
  refine h S F H _ I fun vs F1 H1 G1 ws e1 I1 hv ⟨ds, hd, hp, q, qx⟩ => ?_
  rw [List.append_nil]
  refine ⟨F1, ds, I1.ex, allD_ok hd hv, hp, fun v F2 H2 r a1 a2 a3 a4 a5 a6 => ?_, fun cls F2 H2 a1 a2 a3 a4 a5 => ?_⟩
  · match r, a5, a6 with
    | .p (.d d), a5, a6 => exact k v F2 H2 G1 (.p (.d d)) (e1.trans a1) ⟨I1.grow a1 a3 a2 a4, a5⟩ (q _ a6)
    | .fr s, ⟨A, b1, b2⟩, a6 =>
      refine k v F2 H2 G1 (.fr s) (e1.trans a1) ?_ (q _ a6)
      exact I1.add a1 a3 a2 a4 (some v) A (.inr ⟨v, rfl, b1⟩) fun a ha => ⟨(b2 a ha).2.2, (b2 a ha).1, (b2 a ha).2.1⟩
  · exact hE cls S F2 H2 G1 (I1.grow a1 a3 a2 a4) (qx cls a5)
/-- .. where nothing is raised -/
theorem dw_callN {pre : List PyData → Prop} {post : List PyData → Rs → Prop} {exc : List PyData → Value → Prop} (h : DA K B G t fun G1 ws => ∃ ds, allD ws = some ds ∧ pre ds ∧ (∀ r, post ds r → P G1 r) ∧ ∀ cls, ¬ exc ds cls) : DW K B G (tCall (spX K pre post exc) [] E t) P := by
  refine dw_callX (ex0 := fun _ => False) (fun _ _ _ _ _ _ z => z.elim) ?_
  exact h
/-- .. within try -/
def TkW (K : Fr) (B : Bs) (exc : Value → En → Prop) (W : WX) : Prop := ∀ cls S F H G, Iv K B G S F H → exc cls G → W cls none S H
theorem dw_callS {pre : List PyData → Prop} {post : List PyData → Rs → Prop} {exc : List PyData → Value → Prop} {W : WX} {ex0 : Value → En → Prop} (hE : TkW K B ex0 W) (h : DA K B G t fun G1 ws => ∃ ds, allD ws = some ds ∧ pre ds ∧ (∀ r, post ds r → P G1 r) ∧ ∀ cls, exc ds cls → ex0 cls G1) : DW K B G (tCallS (spX K pre post exc) (WE W) t) P := fun S F H Q I k => by
  show t S H fun vs H1 => spX K pre post exc vs H1 Q (fun cls d H => W cls d S H)
  refine h S F H _ I fun vs F1 H1 G1 ws e1 I1 hv ⟨ds, hd, hp, q, qx⟩ => ?_
  refine ⟨F1, ds, I1.ex, allD_ok hd hv, hp, fun v F2 H2 r a1 a2 a3 a4 a5 a6 => ?_, fun cls F2 H2 a1 a2 a3 a4 a5 => ?_⟩
  · match r, a5, a6 with
    | .p (.d d), a5, a6 => exact k v F2 H2 G1 (.p (.d d)) (e1.trans a1) ⟨I1.grow a1 a3 a2 a4, a5⟩ (q _ a6)
    | .fr s, ⟨A, b1, b2⟩, a6 =>
      refine k v F2 H2 G1 (.fr s) (e1.trans a1) ?_ (q _ a6)
      exact I1.add a1 a3 a2 a4 (some v) A (.inr ⟨v, rfl, b1⟩) fun a ha => ⟨(b2 a ha).2.2, (b2 a ha).1, (b2 a ha).2.1⟩
  · exact hE cls S F2 H2 G1 (I1.grow a1 a3 a2 a4) (qx cls a5)
variable {De0 : De}
/-- raise X(..), X without own fields -/
theorem ds_raise {W : WX} {cls : Value} {exc : Value → En → Prop} (hE : TkW K B exc W) (h : exc cls G) : DS K B G (fun _ σ H => (fun (_ : St) (H : Hp) (Q : XK) => Q cls none H) σ H fun cls d H' => W cls d σ H') De0 := fun S F H D I c => hE cls S F H G I h
/-- a caught exception -/
def exO (a : Addr) : Orel := ⟨fun _ _ v _ => v = .ref a, fun h _ _ => h⟩
/-- try .. except c as n -/
theorem ds_tryAs {c : Value} {i : Nat} {tb : WX → TS} {ts : Addr → Value → Option Addr → TS} {Wout : WX} {exc : Value → En → Prop} {E : De} (hi : i < G.length)
    (hb : ∀ (B' : Bs) (W : WX), TkW K B' exc W → DS K B' G (tb W) E) (hx : ∀ cls G1, exc cls G1 → PySem.W.exmOne K cls c = some true ∧ ∀ (B' : Bs) a, DS K B' (G1.set i (.ow (exO a))) (ts a cls none) { nx := fun G => E.nx (G.set i .un), rt := E.rt, bk := fun G => E.bk (G.set i .un), ct := fun G => E.ct (G.set i .un) }) :
    DS K B G (fun D σ H => tb (wAs K c i ts Wout D) D σ H) E := fun S F H D I cv => by
  obtain ⟨mu, _, I0, back, _⟩ := I.rebase
  have cov : Cov K ⟨F, H, mu⟩ F E D := ⟨fun S1 F1 H1 G1 e J p => cv.nx S1 F1 H1 G1 e (back _ _ _ _ J) p, fun S1 F1 H1 G1 v r e J p => cv.rt S1 F1 H1 G1 v r e (by
      cases r with
      | p w => exact ⟨back _ _ _ _ J.1, J.2⟩
      | fr s => exact back _ _ _ _ J) p, fun S1 F1 H1 G1 e J p => cv.bk S1 F1 H1 G1 e (back _ _ _ _ J) p, fun S1 F1 H1 G1 e J p => cv.ct S1 F1 H1 G1 e (back _ _ _ _ J) p⟩
  refine hb ⟨F, H, mu⟩ (wAs K c i ts Wout D) (fun cls S1 F1 H1 G1 J hx1 => ?_) S F H D I0 cov
  obtain ⟨e1, e2⟩ := hx cls G1 hx1
  refine ⟨true, e1, fun _ a ha => ?_, fun z => Bool.noConfusion z⟩
  have J1 : Iv K ⟨F, H, mu⟩ (G1.set i (.ow (exO a))) (S1.set i (some (.ref a))) F1 H1 := by
    obtain ⟨A, a1, a2, a3⟩ := J.own
    refine ⟨J.ex, J.f0, J.fr, J.nw, J.st, by simpa using J.len, fun j b => j ≠ i ∧ A j b, fun j s hj => ?_, fun j k b x y => a2 j k b x.2 y.2, fun j b x => a3 j b x.2⟩
    by_cases e : i = j
    · subst e
      obtain ⟨rfl, hl⟩ := set_same hj
      exact .inr ⟨.ref a, List.getElem?_set_self (by rw [J.len]; exact hl), rfl⟩
    · rw [List.getElem?_set_ne e] at hj
      rw [List.getElem?_set_ne e]
      rcases a1 j s hj with z | ⟨u, x1, x2⟩
      · exact .inl z
      · refine .inr ⟨u, x1, ?_⟩
        have ea : (fun b => j ≠ i ∧ A j b) = A j := by
          funext b
          exact propext ⟨fun z => z.2, fun z => ⟨fun z => e z.symm, z⟩⟩
        show SvR K F1 H1 u (fun b => j ≠ i ∧ A j b) s
        rw [ea]
        exact x2
  have f0 : Ex F F1 := J.f0
  refine e2 _ a _ F1 H1 _ J1 ⟨fun S2 F2 H2 G2 e J2 p => ?_, fun S2 F2 H2 G2 v r e J2 p => cov.rt S2 F2 H2 G2 v r (f0.trans e) J2 p, fun S2 F2 H2 G2 e J2 p => ?_, fun S2 F2 H2 G2 e J2 p => ?_⟩
  · exact cov.nx _ F2 H2 _ (f0.trans e) (J2.set_un i none) p
  · exact cov.bk _ F2 H2 _ (f0.trans e) (J2.set_un i none) p
  · exact cov.ct _ F2 H2 _ (f0.trans e) (J2.set_un i none) p
/-- try .. except c -/
theorem ds_tryOnly {c : Value} {tb : WX → TS} {ts : Addr → Value → Option Addr → TS} {Wout : WX} {exc : Value → En → Prop} {E : De}
    (hb : ∀ (B' : Bs) (W : WX), TkW K B' exc W → DS K B' G (tb W) E) (hx : ∀ cls G1, exc cls G1 → PySem.W.exmOne K cls c = some true ∧ ∀ (B' : Bs) a, DS K B' G1 (ts a cls none) E) :
    DS K B G (fun D σ H => tb (wOnly K c ts Wout D) D σ H) E := fun S F H D I cv => by
  obtain ⟨mu, _, I0, back, _⟩ := I.rebase
  have cov : Cov K ⟨F, H, mu⟩ F E D := ⟨fun S1 F1 H1 G1 e J p => cv.nx S1 F1 H1 G1 e (back _ _ _ _ J) p, fun S1 F1 H1 G1 v r e J p => cv.rt S1 F1 H1 G1 v r e (by
      cases r with
      | p w => exact ⟨back _ _ _ _ J.1, J.2⟩
      | fr s => exact back _ _ _ _ J) p, fun S1 F1 H1 G1 e J p => cv.bk S1 F1 H1 G1 e (back _ _ _ _ J) p, fun S1 F1 H1 G1 e J p => cv.ct S1 F1 H1 G1 e (back _ _ _ _ J) p⟩
  refine hb ⟨F, H, mu⟩ (wOnly K c ts Wout D) (fun cls S1 F1 H1 G1 J hx1 => ?_) S F H D I0 cov
  obtain ⟨e1, e2⟩ := hx cls G1 hx1
  exact ⟨true, e1, fun _ a ha => e2 _ a S1 F1 H1 D J (cov.mono J.f0), fun z => Bool.noConfusion z⟩
/-- isinstance(e, T), e the caught exception -/
theorem dw_slE {i : Nat} {a : Addr} (h : G[i]? = some (.ow (exO a))) (q : P G (.p (.sl i))) : DW K B G (tVar i) P := fun S F H Q I k => by
  obtain ⟨A, a1, _, _⟩ := I.own
  rcases a1 i _ h with e | ⟨v, h1, _⟩
  · cases e
  · exact ⟨v, h1, k _ F H G (.p (.sl i)) (Ex.refl F) ⟨I, h1⟩ q⟩
theorem rn_isE {i : Nat} {a D : Addr} {T : String} {b : Bool} (h : G[i]? = some (.ow (exO a))) (e : PySem.W.kitOne K (.ref D) (.type T) = some b) (q : P G (.p (.d (.bool b)))) : RWn K B G (rIsE K D a) [.sl i, .ty T] P := fun S F H Q vs I hv k => by
  obtain ⟨v, v', rfl, h1, h2⟩ := vws2 hv
  have h2 : v' = .ty T := h2
  subst h2
  obtain ⟨A, a1, _, _⟩ := I.own
  rcases a1 i _ h with e' | ⟨u, z1, z2⟩
  · cases e'
  · have h1 : S[i]? = some (some v) := h1
    rw [h1] at z1
    cases z1
    have z2 : v = .ref a := z2
    subst z2
    exact ⟨.ty T, .type T, b, rfl, fun _ h => h, e, ct_d k I (.bl _) q⟩
end
section
variable {P : Program} {w : World} {K : Fr} {mg : Str → Option Value} {base : Heap} {x qual : Str} {st : Stmt} {f : Addr} {fd : FuncData} {N ps : List Str} {k : Nat}
theorem fnX {pre : List PyData → Prop} {post : List PyData → Rs → Prop} {exc : List PyData → Value → Prop} (F : Fun K x qual st f fd) (S : FnScope N ps (defScope st)) (hl : ∀ ds, pre ds → ds.length = ps.length ∧ ds.length ≤ N.length)
    (hb : ∀ (cdv : Value) (A : Around) (outer : List Env) (s : Shared) (H : Hp) (E : XK), Room k (A.deeper (PyProof.Rows.envOfC qual (defScope st) s.heap.objs.size f cdv)) → ∃ t, PSs (cxOf (L2.CX P w) P w K mg base N qual (defScope st) f cdv A outer s H E) (defBody st) t ∧
      ∀ ds, pre ds → ∀ B, Tk K B (exc ds) E → DS K B (G0 N ds) t (E0 (post ds))) : FnOk P w K mg base (L2.CX P w) (k + 1) f fd ps (spX K pre post exc) := by
  refine F.okX S (fun vs H Q E h => ?_) (fun cdv A outer s H vs Q E hr h => ?_)
  · obtain ⟨F, ds, _, h1, h2, _⟩ := h
    rw [da_len h1]
    exact (hl ds h2).1
  · obtain ⟨F0, ds, ex, h1, h2, q, qx⟩ := h
    obtain ⟨t, ht, hs⟩ := hb cdv A outer s H E hr
    refine ⟨t, ht, ?_⟩
    have I0 := start_iv (N := N) ex h1 (hl ds h2).2
    have out : ∀ {G' : En} {S' : St} {F' H' : Hp}, Iv K ⟨F0, H, fun _ => False⟩ G' S' F' H' → Ex H H' ∧ ∀ b o, F' b = some o → F0 b = none → H b = none := fun {G' S' F' H'} J => ⟨fun b o h => J.fr b o h id, fun b o h n => by
      cases z : H b with
      | none => rfl
      | some u =>
        rcases J.nw b o h (nn z) with y | y
        · exact absurd n y
        · exact y.elim⟩
    refine hs ds h2 _ (fun cls S F H' G J hx => qx cls F H' J.f0 J.ex (out J).1 (out J).2 hx) _ F0 H _ I0 ⟨fun S F H' G e J p => ?_, fun S F H' G v r e J p => ?_, fun _ _ _ _ _ _ z => z.elim, fun _ _ _ _ _ _ z => z.elim⟩
    · exact q .non F H' (.p (.d .none)) e J.ex (out J).1 (out J).2 .non p
    · match r, J, p with
      | .p (.d d), J, p => exact q v F H' (.p (.d d)) e J.1.ex (out J.1).1 (out J.1).2 J.2 p
      | .p (.sl i), J, ⟨a, ds', hi, p⟩ =>
        obtain ⟨A, a1, a2, a3⟩ := J.1.own
        obtain ⟨u, z1, c, vs', z2, z3, z4, z5, _⟩ : ∃ v, S[i]? = some (some v) ∧ SvR K F H' v (A i) (.o a ds') := (a1 i _ hi).elim (fun z => by cases z) id
        have hv : S[i]? = some (some v) := J.2
        rw [hv] at z1
        cases z1
        exact q v F H' (.fr (.o none ds')) e J.1.ex (out J.1).1 (out J.1).2 ⟨A i, ⟨c, vs', z2, z3, z4, z5, fun _ z => by cases z⟩, fun a ha => ⟨(a3 i a ha).1, (a3 i a ha).2.1, (a3 i a ha).2.2.elim id False.elim⟩⟩ p
      | .fr s, J, ⟨hu, p⟩ =>
        obtain ⟨A, a1, a2, a3⟩ := J.own
        have J' := Iv.drop J
        obtain ⟨u, z1, z2⟩ : ∃ v', (S ++ [some v])[G.length]? = some (some v') ∧ SvR K F H' v' (A G.length) s := (a1 G.length s (by simp)).elim (fun z => absurd z hu) id
        have hv : (S ++ [some v])[G.length]? = some (some v) := by
          rw [← J'.len]
          simp
        rw [hv] at z1
        cases z1
        exact q v F H' (.fr s) e J'.ex (out J').1 (out J').2 ⟨_, z2, fun a ha => ⟨(a3 _ a ha).1, (a3 _ a ha).2.1, (a3 _ a ha).2.2.elim id False.elim⟩⟩ p
end
end DL
namespace DL
open PySem L2
/-- {k: v}, k a tuple of ints and texts -/
def tDisp1T (tk tv : TE) : TE := fun S H Q => ∀ p, H p = none → tk S (upd H p (.dT [])) fun x H1 => tv S H1 fun v H2 => ∃ (b : Addr) (k : List Key), x = .ref b ∧ H2 p = some (.dT []) ∧ H2 b = some (.tup (k.map kV)) ∧ Q (.ref p) (upd H2 p (.dT [(k, v)]))
section
open PySem.Spec PyProof.Rows
variable {X : Cx}
theorem pe_disp1T {k v : Expr} {tk tv : TE} {pos : Pos} (hu : X.A.units + 1 < cLine) (hk : PE X k tk) (hv : PE X v tv) : PE X (.Dict [some k] [v] pos) (tDisp1T tk tv) := by
  refine ⟨fun pins s σ H Q I q => ?_⟩
  have hn := I.hok.fresh (Nat.le_refl s.heap.objs.size)
  have I1 := I.laid (a := s.heap.objs.size) (o := .dT []) (h' := s.heap.push { cls := .type "dict", data := .dict #[] }) (t' := s.toks) (fun _ _ q => Heap.get?_push_of_some _ q) (Nat.le_refl _) (dt_empty s.heap I.big)
  have q := q _ hn
  rw [arm_eval_Dict, zip_pairTrees [some k] [v] X.env pos rfl rfl, dictDisplay_pairs (pairTrees [some k] [v] X.env pos) (by simp [pairTrees]) (by simp [pairTrees])]
  refine wpAny_bind (wpAny_standAt (wpAny_bind ?_))
  refine wpAny_subDictH (knd := tupleKind (mixKind X.prog X.w)) (Nat.lt_of_succ_lt hu) (by simp [pairTrees]) ?_
  refine pairTrees_cons_walk (thn (hk.run pins _ σ _ _ I1 q) fun u s1 ⟨x, H1, I2, rx, q1⟩ => thn (hv.run pins s1 σ H1 _ I2 q1) fun u2 s2 ⟨y, H2, I3, ry, b, ks, ex, e0, eb, q2⟩ => pairTrees_nil_walk ?_)
  subst ex
  cases (show u = Value.ref b from rx)
  obtain ⟨z, hd, xs, rel, dd⟩ := dt_of I3.hok e0
  cases rel
  refine ⟨[(ks, b, u2)], ⟨rfl, rfl, key_of I3.hok eb, trivial⟩, dd, fun h' tk' dd' hs => wpAny_pure ⟨.ref s.heap.objs.size, _, ?_, rfl, q2⟩⟩
  obtain ⟨q', es, ep, hq, h2, h3, h4, h6, h5⟩ := dd'
  refine d_write I3 (by rw [e0]; exact True.intro) hs ⟨q', hq⟩ ⟨by rw [sizeLine_eq]; exact (by decide : 1 ≤ 16777216), hd, [(ks, b, u2)], .cons ⟨rfl, ?_, ry⟩ .nil, q', es, ep, hq, h2, h3, h4, h5⟩
  rw [upd_ne (ne_of eb e0 (fun z => nomatch z))]
  exact eb
end
/-- the last slot's own thing, aside while the rest runs -/
theorem Iv.asideG {K : Fr} {B : Bs} {G : En} {S : St} {F H : Hp} {s : Sl} {x : V} (I : Iv K B (G ++ [s]) (S ++ [some x]) F H) (hs : s ≠ .un) : ∃ (A0 mu : Addr → Prop), SvR K F H x A0 s ∧ (∀ a, A0 a → F a = none ∧ H a ≠ none) ∧ Iv K ⟨F, H, mu⟩ G S F H ∧
    ∀ G1 S1 F1 H1, Iv K ⟨F, H, mu⟩ G1 S1 F1 H1 → (∀ a, A0 a → H1 a = H a) ∧ Iv K B (G1 ++ [s]) (S1 ++ [some x]) F1 H1 := by
  obtain ⟨A, h1, h2, h3⟩ := I.own
  have hl : S.length = G.length := by
    have := I.len
    simpa using this
  obtain ⟨u, e1, e2⟩ : ∃ v, (S ++ [some x])[G.length]? = some (some v) ∧ SvR K F H v (A G.length) s := (h1 G.length s (by simp)).elim (fun z => absurd z hs) id
  have ex : x = u := by
    rw [← hl] at e1
    have : (S ++ [some x])[S.length]? = some (some x) := by simp
    rw [this] at e1
    exact Option.some.inj (Option.some.inj e1)
  subst ex
  have I0 := I.drop
  have hm : ∀ a, (∃ i, i < G.length ∧ A i a) → F a = none ∧ H a ≠ none ∧ (B.H0 a = none ∨ B.mu a) := fun a ⟨i, _, h⟩ => h3 i a h
  have nD : ∀ a, A G.length a → ¬ ∃ i, i < G.length ∧ A i a := fun a ha ⟨i, hi, h⟩ => by
    have := h2 _ _ _ h ha
    omega
  refine ⟨A G.length, fun a => ∃ i, i < G.length ∧ A i a, e2, fun a ha => ⟨(h3 _ _ ha).1, (h3 _ _ ha).2.1⟩, ⟨I.ex, Ex.refl _, fun b o h _ => h, fun b o h _ => .inl (nn h), fun b h => h, hl, fun i a => i < G.length ∧ A i a, fun i s hi => ?_, fun i j a p q => h2 i j a p.2 q.2, fun i a h => ⟨(h3 i a h.2).1, (h3 i a h.2).2.1, .inr ⟨i, h⟩⟩⟩, fun G1 S1 F1 H1 J => ?_⟩
  · have hlt := (List.getElem?_eq_some_iff.mp hi).1
    rcases h1 i s (by rw [List.getElem?_append_left hlt]; exact hi) with z | ⟨u, z1, z2⟩
    · exact .inl z
    · refine .inr ⟨u, by rw [List.getElem?_append_left (by omega)] at z1; exact z1, ?_⟩
      have ea : (fun a => i < G.length ∧ A i a) = A i := by
        funext a
        exact propext ⟨fun z => z.2, fun z => ⟨hlt, z⟩⟩
      show SvR K F H u (fun a => i < G.length ∧ A i a) s
      rw [ea]
      exact z2
  · have hD : ∀ a, A G.length a → H1 a = H a := fun a ha => by
      obtain ⟨o, ho⟩ : ∃ o, H a = some o := by
        cases q : H a with
        | none => exact absurd q (h3 _ _ ha).2.1
        | some o => exact ⟨o, rfl⟩
      rw [ho]
      exact J.fr a o ho (nD a ha)
    have fD : ∀ a, A G.length a → F1 a = none := fun a ha => by
      cases q : F1 a with
      | none => rfl
      | some o =>
        rcases J.nw a o q (h3 _ _ ha).2.1 with z | z
        · exact absurd (h3 _ _ ha).1 z
        · exact absurd z (nD a ha)
    obtain ⟨A', k1, k2, k3⟩ := J.own
    have nA : ∀ i a, A G.length a → ¬ A' i a := fun i a ha z => by
      rcases (k3 i a z).2.2 with q | q
      · exact (h3 _ _ ha).2.1 q
      · exact nD a ha q
    refine ⟨hD, J.ex, I.f0.trans J.f0, fun b o h m => ?_, fun b o h n => ?_, fun b h => J.st b (I.st b h), by simp [J.len], fun i a => (i < G1.length ∧ A' i a) ∨ (i = G1.length ∧ A G.length a), fun i s' hi => ?_, fun i j a p q => ?_, fun i a h => ?_⟩
    · refine J.fr b o (I.fr b o h m) fun ⟨i, _, z⟩ => ?_
      rcases (h3 i b z).2.2 with q | q
      · rw [h] at q
        cases q
      · exact m q
    · rcases J.nw b o h (I.st b n) with z | z
      · obtain ⟨u, hu⟩ : ∃ u, F b = some u := by
          cases q : F b with
          | none => exact absurd q z
          | some u => exact ⟨u, rfl⟩
        exact I.nw b u hu n
      · rcases (hm b z).2.2 with q | q
        · exact absurd q n
        · exact .inr q
    · rcases app_get hi with ⟨hlt, h⟩ | ⟨hlt, e⟩
      · rcases k1 i s' h with z | ⟨u, z1, z2⟩
        · exact .inl z
        · refine .inr ⟨u, by rw [List.getElem?_append_left (by rw [J.len]; exact hlt)]; exact z1, ?_⟩
          have ea : (fun a => (i < G1.length ∧ A' i a) ∨ (i = G1.length ∧ A G.length a)) = A' i := by
            funext a
            exact propext ⟨fun z => z.elim (fun z => z.2) fun z => by omega, fun z => .inl ⟨hlt, z⟩⟩
          show SvR K F1 H1 u (fun a => (i < G1.length ∧ A' i a) ∨ (i = G1.length ∧ A G.length a)) s'
          rw [ea]
          exact z2
      · subst e hlt
        refine .inr ⟨x, by rw [← J.len]; simp, ?_⟩
        have ea : (fun a => (G1.length < G1.length ∧ A' G1.length a) ∨ (G1.length = G1.length ∧ A G.length a)) = A G.length := by
          funext a
          exact propext ⟨fun z => z.elim (fun z => by omega) fun z => z.2, fun z => .inr ⟨rfl, z⟩⟩
        show SvR K F1 H1 x (fun a => (G1.length < G1.length ∧ A' G1.length a) ∨ (G1.length = G1.length ∧ A G.length a)) s'
        rw [ea]
        exact slr_stab e2 J.f0 hD
    · rcases p with ⟨p1, p2⟩ | ⟨p1, p2⟩ <;> rcases q with ⟨q1, q2⟩ | ⟨q1, q2⟩
      · exact k2 _ _ _ p2 q2
      · exact absurd p2 (nA i a q2)
      · exact absurd q2 (nA j a p2)
      · omega
    · rcases h with ⟨_, h⟩ | ⟨_, h⟩
      · refine ⟨(k3 i a h).1, (k3 i a h).2.1, ?_⟩
        rcases (k3 i a h).2.2 with q | q
        · exact .inl (I.new0 q)
        · exact (hm a q).2.2
      · refine ⟨fD a h, ?_, (h3 _ _ h).2.2⟩
        rw [hD a h]
        exact (h3 _ _ h).2.1
section
variable {K : Fr} {B : Bs} {G : En} {P : Po} {tk tv : TE}
theorem Iv.newT {S : St} {F H : Hp} {p : Addr} (I : Iv K B G S F H) (hp : H p = none) : Iv K B (G ++ [.t []]) (S ++ [some (.ref p)]) F (upd H p (.dT [])) := by
  refine I.add (Ex.refl F) (Ex.new hp) (I.ex.trans (Ex.new hp)) (fun b o h n => ?_) _ (fun a => a = p) (.inr ⟨_, rfl, p, [], rfl, upd_same, rfl, .nil, rfl⟩) fun a e => ?_
  · rw [h] at n
    cases n
  · have e : a = p := e
    subst e
    exact ⟨hp, I.fnone hp, by rw [upd_same]; exact fun z => (by cases z)⟩
theorem dw_disp1T (h : ∀ B', DW K B' G tk fun G1 r1 => PW r1 fun w1 => DW K B' G1 tv fun G2 r2 => PW r2 fun w2 => ∃ ks d, w1 = .d (.tuple (ks.map keyD)) ∧ w2 = .d d ∧ P G2 (.fr (.t [(ks, d)]))) : DW K B G (tDisp1T tk tv) P := fun S F H Q I k => by
  intro p hp
  obtain ⟨A0, mu, a0, _, I0, back⟩ := (I.newT hp).asideG (fun z => nomatch z)
  refine dw_run (k' := fun G1 w1 => DW K ⟨F, upd H p (.dT []), mu⟩ G1 tv fun G2 r2 => PW r2 fun w2 => ∃ ks d, w1 = .d (.tuple (ks.map keyD)) ∧ w2 = .d d ∧ P G2 (.fr (.t [(ks, d)]))) (h _) I0 fun v1 F1 H1 G1 w1 e1 I1 r1 q1 => ?_
  refine dw_run (k' := fun G2 w2 => ∃ ks d, w1 = .d (.tuple (ks.map keyD)) ∧ w2 = .d d ∧ P G2 (.fr (.t [(ks, d)]))) q1 I1 fun v2 F2 H2 G2 w2 e2 I2 r2 ⟨ks, d, x1, x2, q2⟩ => ?_
  subst x1 x2
  obtain ⟨b, rfl, hb⟩ := key_at (dp_mono e2 r1) I2.ex
  obtain ⟨hD, J⟩ := back _ _ _ _ I2
  have hi : (G2 ++ [Sl.t []])[G2.length]? = some (.t []) := by simp
  have hl : S.length = G2.length := I2.len
  have hS : (S ++ [some (V.ref p)])[G2.length]? = some (some (.ref p)) := by
    rw [← hl]
    simp
  obtain ⟨p', kws, eS, ep, ek, ev⟩ := J.dct hi
  rw [hS] at eS
  cases eS
  have e0 : H2 p = some (.dT []) := by
    cases kws with
    | nil => exact ep
    | cons _ _ => cases ek
  refine ⟨b, ks, rfl, e0, hb, ?_⟩
  have J2 := J.mutG (s' := .t [(ks, d)]) (ob := .dT [(ks, v2)]) hi hS (fun A z => by
    obtain ⟨p', _, e, _, _, _, hA⟩ := z
    cases e
    exact hA) (fun z => nomatch z) fun A hA z => ⟨p, _, rfl, upd_same, rfl, .cons r2 .nil, hA⟩
  have eg : (G2 ++ [Sl.t []]).set G2.length (.t [(ks, d)]) = G2 ++ [.t [(ks, d)]] := by simp
  rw [eg] at J2
  exact k (.ref p) F2 _ G2 (.fr (.t [(ks, d)])) (e1.trans e2) J2 q2
end
end DL
namespace DL
open PySem L2
/-- what the written part says of an own error class without own fields -/
structure ExcT (K : Fr) (mg : Str → Option Value) (x : Str) (C : Addr) : Prop where
  y : PySem.W.excIn K C [.type "ValueError", .type "Exception", .type "BaseException", .type "object"] "ValueError.__new__" = true
  g : mg x = some (.ref C)
  k : PySem.W.keepIn K (.ref C) = true
  b : PySem.W.subIn K (.ref C) (.type "BaseException") = some true
  t : PySem.W.typeIn K (.ref C) = some (.type "type")
  s : PySem.W.subIn K (.ref C) (.ref C) = some true
  e : ExcC K C
  v : PySem.W.kitOne K (.ref C) (.type "ValueError") = some true
theorem ExcT.exm {K : Fr} {mg : Str → Option Value} {x : Str} {C : Addr} (T : ExcT K mg x C) : PySem.W.exmOne K (.ref C) (.ref C) = some true := PySem.W.exm_ref T.b T.e.hd T.t T.s
section
open PySem.Spec PyProof.Rows
variable {X : Cx}
theorem pe_globI {x : Str} {i : Int} {pos : Pos} (hg : Gl X x) (h : ∃ t, X.mg x = some (.int i t)) (hd : (x == ("__debug__" : Str)) = false := by decide) : PE X (.Name x pos) (tC (.int i)) := by
  obtain ⟨t, h⟩ := h
  exact pe_glob hg h ⟨t, rfl⟩ hd
def rIsE' (K : Fr) (D a : Addr) (cls : Value) (d : Option Addr) : List V → Hp → VK → Prop := fun xs H Q => cls = .ref D ∧ d = none ∧ rIsE K D a xs H Q
theorem kISE (K : Fr) (h : X.K = K) {a D : Addr} {oe : Obj} {cls : Value} {d : Option Addr} {pn : List (Addr × Obj)} (C : ExcC K D) (hz : Zc cls d oe) (hf : ∃ vs, oe.data = .fields vs) : CallR (X.suite a ((a, oe) :: pn)) (.builtin "isinstance") (rIsE' K D a cls d) := by
  subst h
  intro pins s σ H xs us Q I r h
  obtain ⟨e1, e2, h⟩ := h
  subst e1 e2
  exact call_isE C hz hf pins s σ H xs us Q I r h
end
section
variable {K : Fr} {B : Bs} {G : En} {P : Po} {te : TE} {w : W} {k : W → Prop}
theorem rn_isE' {i : Nat} {a D : Addr} {T : String} {b : Bool} (h : G[i]? = some (.ow (exO a))) (e : PySem.W.kitOne K (.ref D) (.type T) = some b) (q : P G (.p (.d (.bool b)))) : RWn K B G (rIsE' K D a (.ref D) none) [.sl i, .ty T] P := fun S F H Q vs I hv k =>
  ⟨rfl, rfl, rn_isE h e q S F H Q vs I hv k⟩
theorem pw_p (h : k w) : PW (.p w) k := h
theorem pw_o {a : Option Addr} {ds : List PyData} (h : k (.d (.list ds))) : PW (.fr (.o a ds)) k := h
end
end DL
namespace DL
open PySem L2
section
variable {K : Fr} {B : Bs} {G : En} {te : TE} {P : Po} {tt : TT}
/-- as dw_lc, the invariant chosen where the items are known -/
theorem dw_lcE {wi : TI} {g : TG} {ch : List Nat} {vs : List Nat} (hsub : ∀ k ∈ ch, k ∈ vs)
    (h : DI K B G wi fun G1 ds => ∃ J : Nat → List PyData → En → Prop, J 0 [] (wipeG G1 vs) ∧ (∀ (B' : Bs) i acc G2 d, ds[i]? = some d → J i acc G2 → DG K B' G2 g ch (.d d) fun G3 => DT K B' G3 tt fun G4 b => if b = true then DW K B' G4 te fun G5 r => PW r fun w => ∃ y, w = .d y ∧ acc.length < sizeLine ∧ J (i + 1) (acc ++ [y]) (wipeG G5 vs) else J (i + 1) acc (wipeG G4 vs)) ∧ ∀ acc G2, J ds.length acc G2 → P (wipeG G2 vs) (.fr (.o none acc))) :
    DW K B G (tLc wi g tt te vs) P := fun S F H Q I k => by
  refine h S F H _ I fun It F1 H1 G1 ds e1 I1 Y ⟨J, j0, hs, hd⟩ => ?_
  intro D hD
  refine ⟨fun i m H => m = ds.length - i ∧ i ≤ ds.length ∧ ∃ F2 G2 acc, Ex F1 F2 ∧ Iv K B (G2 ++ [.o none acc]) (L2.wipe S vs ++ [some (.ref D)]) F2 H ∧ J i acc G2, ⟨_, rfl, Nat.zero_le _, F1, _, [], Ex.refl _, (I1.wipe vs).newL hD .nil, j0⟩, ?_⟩
  rintro i m H2 ⟨rfl, hi, F2, G2, acc, e2, I2, j2⟩
  by_cases hlt : i < ds.length
  · obtain ⟨d, hd'⟩ : ∃ d, ds[i]? = some d := ⟨_, List.getElem?_eq_getElem hlt⟩
    refine .inr ⟨((Y i H2 F2 e2 I2.ex).1 d hd').1, fun H => ∃ F2 G2 acc, Ex F1 F2 ∧ Iv K B (G2 ++ [.o none acc]) (L2.wipe S vs ++ [some (.ref D)]) F2 H ∧ J (i + 1) acc G2, fun H' p => ⟨ds.length - (i + 1), by omega, rfl, hlt, p⟩, fun x H3 y => ?_⟩
    obtain ⟨F3, e3, I3, hx⟩ := Y.turn e2 I2 hd' y
    obtain ⟨D', accv, mu, eD, hD3, ha3, Ia, back⟩ := I3.aside
    cases eD
    refine hs _ i acc G2 d hd' j2 _ F3 H3 x _ Ia hx fun S4 F4 H4 G4 e4 I4 l4 u4 q => ?_
    have ew : L2.wipe S4 vs = L2.wipe S vs := by
      rw [wipe_ext l4 fun k hk => u4 k fun z => hk (hsub k z)]
      exact wipe_ext (wipe_length S vs) fun k hk => wipe_ne hk
    refine ⟨ew, q S4 F4 H4 _ I4 fun b F5 H5 G5 e5 I5 q5 => ?_⟩
    cases b with
    | false =>
      show ∃ F2 G2 acc, Ex F1 F2 ∧ Iv K B (G2 ++ [.o none acc]) (L2.wipe S vs ++ [some (.ref D)]) F2 H5 ∧ J (i + 1) acc G2
      obtain ⟨_, I6⟩ := back _ _ _ _ (I5.wipe vs)
      rw [ew] at I6
      exact ⟨F5, _, acc, ((e2.trans e3).trans e4).trans e5, I6, q5⟩
    | true =>
      show te S4 H5 fun y H4 => ∃ acc, H4 D = some (.lst acc) ∧ acc.length < sizeLine ∧ (∃ F2 G2 acc', Ex F1 F2 ∧ Iv K B (G2 ++ [.o none acc']) (L2.wipe S vs ++ [some (.ref D)]) F2 (upd H4 D (.lst (acc ++ [y]))) ∧ J (i + 1) acc' G2)
      refine dw_run (k' := fun G5 w => ∃ y, w = .d y ∧ acc.length < sizeLine ∧ J (i + 1) (acc ++ [y]) (wipeG G5 vs)) q5 I5 fun v F6 H6 G6 w e6 I6 hv q6 => ?_
      obtain ⟨y, rfl, hz, j6⟩ := q6
      obtain ⟨hD6, I7⟩ := back _ _ _ _ (I6.wipe vs)
      rw [ew] at I7
      refine ⟨accv, hD6, by rw [da_len ha3]; exact hz, F6, _, acc ++ [y], (((e2.trans e3).trans e4).trans e5).trans e6, ?_, j6⟩
      have hl : (L2.wipe S vs).length = (wipeG G6 vs).length := by
        have := I7.len
        simpa using this
      have I8 := I7.mut (i := (wipeG G6 vs).length) (p := D) (q := none) (ds := acc) (ds' := acc ++ [y]) (vs' := accv ++ [v]) (by simp) (by rw [← hl]; simp) (da_app (da_mono ((e4.trans e5).trans e6) ha3) (.cons hv .nil))
      have eg : (wipeG G6 vs ++ [Sl.o none acc]).set (wipeG G6 vs).length (.o none (acc ++ [y])) = wipeG G6 vs ++ [.o none (acc ++ [y])] := by simp
      rw [eg] at I8
      exact I8
  · have e : i = ds.length := by omega
    subst e
    refine .inl ⟨(Y _ H2 F2 e2 I2.ex).2 rfl, ?_⟩
    have I3 : Iv K B (wipeG G2 vs ++ [.o none acc]) (S ++ [some (.ref D)]) F2 H2 := by
      obtain ⟨D', accv, mu, eD, hD3, ha3, Ia, back⟩ := I2.aside
      exact (back _ _ _ _ ((Ia.wipe vs).wiped (S := S) (by rw [wipe_length, wipe_length]) fun k hk => by rw [wipe_ne hk, wipe_ne hk])).2
    exact k (.ref D) F2 H2 (wipeG G2 vs) (.fr (.o none acc)) (e1.trans e2) I3 (hd acc G2 j2)

/-- [f x for x in xs if p x], nothing else changes -/
theorem dw_lcF {α : Type} (xs : List α) (enc : α → PyData) (p : α → Bool) (f : α → PyData) {wi : TI} {i : Nat}
    (h : DI K B G wi fun G1 ds => ds = xs.map enc ∧ xs.length ≤ sizeLine ∧ (∀ (B' : Bs) x, x ∈ xs → DT K B' ((G1.set i .un).set i (.d (enc x))) tt fun G4 b => b = p x ∧ G4.set i .un = G1.set i .un ∧ (p x = true → DW K B' G4 te fun G5 r => PW r fun w => w = .d (f x) ∧ G5.set i .un = G1.set i .un)) ∧
      P (G1.set i .un) (.fr (.o none ((xs.filter p).map f)))) : DW K B G (tLc wi (gName i) tt te [i]) P := by
  refine dw_lcE (ch := [i]) (fun k hk => hk) ?_
  refine fun S F H R I k => h S F H R I fun J F1 H1 G1 ds e I1 Y ⟨hds, hz, hs, hp⟩ => k J F1 H1 G1 ds e I1 Y ⟨fun n acc G2 => acc = ((xs.take n).filter p).map f ∧ G2 = G1.set i .un, ⟨rfl, rfl⟩, fun B' n acc G2 d hd ⟨ha, hG⟩ => ?_, fun acc G2 ⟨ha, hG⟩ => ?_⟩
  · subst hds hG
    rw [List.getElem?_map] at hd
    obtain ⟨x, hx, rfl⟩ := Option.map_eq_some_iff.mp hd
    have hn : n < xs.length := (List.getElem?_eq_some_iff.mp hx).1
    have et : xs.take (n + 1) = xs.take n ++ [x] := by
      rw [List.take_succ, hx]
      rfl
    have hl : acc.length < sizeLine := by
      rw [ha, List.length_map]
      have := List.length_filter_le p (xs.take n)
      rw [List.length_take] at this
      omega
    refine dg_name ?_
    refine fun S F H Q I k => hs B' x (List.mem_of_getElem? hx) S F H Q I fun b F2 H2 G4 e2 I2 ⟨hb, hG, hw⟩ => k b F2 H2 G4 e2 I2 ?_
    subst hb
    cases q : p x with
    | true =>
      rw [if_pos rfl]
      refine fun S F H Q I k => hw q S F H Q I fun v F' H' G' r e V pq => k v F' H' G' r e V ?_
      match r, pq with
      | .p w, ⟨hw, hG⟩ => exact ⟨f x, hw, hl, by rw [et, List.filter_append, List.map_append, ← ha]; simp [List.filter, q], hG⟩
      | .fr (.o _ _), ⟨hw, hG⟩ => exact ⟨f x, hw, hl, by rw [et, List.filter_append, List.map_append, ← ha]; simp [List.filter, q], hG⟩
    | false =>
      rw [if_neg (by simp)]
      exact ⟨by rw [et, List.filter_append, List.map_append, ← ha]; simp [List.filter, q], hG⟩
  · subst hds hG
    rw [List.length_map, List.take_length] at ha
    rw [ha]
    show P ((G1.set i .un).set i .un) _
    rw [List.set_set]
    exact hp
/-- [f x for x in xs] -/
theorem dw_lcM {α : Type} (xs : List α) (enc : α → PyData) (f : α → PyData) {wi : TI} {i : Nat}
    (h : DI K B G wi fun G1 ds => ds = xs.map enc ∧ xs.length ≤ sizeLine ∧ (∀ (B' : Bs) x, x ∈ xs → DW K B' ((G1.set i .un).set i (.d (enc x))) te fun G5 r => PW r fun w => w = .d (f x) ∧ G5.set i .un = G1.set i .un) ∧
      P (G1.set i .un) (.fr (.o none (xs.map f)))) : DW K B G (tLc wi (gName i) tYes te [i]) P := by
  refine dw_lcF xs enc (fun _ => true) f ?_
  refine fun S F H R I k => h S F H R I fun J F1 H1 G1 ds e I1 Y ⟨hds, hz, hs, hp⟩ => k J F1 H1 G1 ds e I1 Y ⟨hds, hz, fun B' x hx => dt_yes ⟨rfl, by rw [List.set_set, List.set_set], fun _ => hs B' x hx⟩, ?_⟩
  rw [List.filter_eq_self.mpr (fun _ _ => rfl)]
  exact hp
end
section
variable {K : Fr} {B : Bs} {G : En} {te : TE} {P : Po} {tt tt1 : TT}
theorem dw_lc2E {wi wi1 : TI} {g g1 : TG} {ch ch1 : List Nat} {vs vs1 : List Nat} (hsub : ∀ k ∈ ch, k ∈ vs) (hsub1 : ∀ k ∈ ch1, k ∈ vs1) (hv : ∀ k ∈ vs1, k ∈ vs)
    (h : DI K B G wi fun G1 ds => ∃ (J : Nat → List PyData → En → Prop) (J1 : Nat → List PyData → Nat → List PyData → En → Prop), J 0 [] (wipeG G1 vs) ∧ (∀ (B' : Bs) i acc G2 d, ds[i]? = some d → J i acc G2 → DG K B' G2 g ch (.d d) fun G3 => DT K B' G3 tt fun G4 b => if b = true then
      DI K B' G4 wi1 fun G5 ds1 => J1 i ds1 0 acc (wipeG G5 vs1) ∧ (∀ (B'' : Bs) j acc G6 d1, ds1[j]? = some d1 → J1 i ds1 j acc G6 → DG K B'' G6 g1 ch1 (.d d1) fun G7 => DT K B'' G7 tt1 fun G8 b => if b = true then
        DW K B'' G8 te fun G9 r => PW r fun w => ∃ y, w = .d y ∧ acc.length < sizeLine ∧ J1 i ds1 (j + 1) (acc ++ [y]) (wipeG G9 vs1) else J1 i ds1 (j + 1) acc (wipeG G8 vs1)) ∧ (∀ acc G6, J1 i ds1 ds1.length acc G6 → J (i + 1) acc (wipeG G6 vs))
      else J (i + 1) acc (wipeG G4 vs)) ∧ ∀ acc G2, J ds.length acc G2 → P (wipeG G2 vs) (.fr (.o none acc))) :
    DW K B G (tLc2 wi g tt wi1 g1 tt1 te vs vs1) P := fun S F H Q I k => by
  refine h S F H _ I fun It F1 H1 G1 ds e1 I1 Y ⟨J, J1, j0, hs, hd⟩ => ?_
  intro D hD
  refine ⟨fun i m H => m = ds.length - i ∧ i ≤ ds.length ∧ ∃ F2 G2 acc, Ex F1 F2 ∧ Iv K B (G2 ++ [.o none acc]) (L2.wipe S vs ++ [some (.ref D)]) F2 H ∧ J i acc G2, ⟨_, rfl, Nat.zero_le _, F1, _, [], Ex.refl _, (I1.wipe vs).newL hD .nil, j0⟩, ?_⟩
  rintro i m H2 ⟨rfl, hi, F2, G2, acc, e2, I2, j2⟩
  by_cases hlt : i < ds.length
  · obtain ⟨d, hd'⟩ : ∃ d, ds[i]? = some d := ⟨_, List.getElem?_eq_getElem hlt⟩
    refine .inr ⟨((Y i H2 F2 e2 I2.ex).1 d hd').1, fun H => ∃ F2 G2 acc, Ex F1 F2 ∧ Iv K B (G2 ++ [.o none acc]) (L2.wipe S vs ++ [some (.ref D)]) F2 H ∧ J (i + 1) acc G2, fun H' p => ⟨ds.length - (i + 1), by omega, rfl, hlt, p⟩, fun x H3 y => ?_⟩
    obtain ⟨F3, e3, I3, hx⟩ := Y.turn e2 I2 hd' y
    obtain ⟨D', accv, mu, eD, hD3, ha3, Ia, back⟩ := I3.aside
    cases eD
    refine hs _ i acc G2 d hd' j2 _ F3 H3 x _ Ia hx fun S4 F4 H4 G4 e4 I4 l4 u4 q => ?_
    have ew : L2.wipe S4 vs = L2.wipe S vs := by
      rw [wipe_ext l4 fun k hk => u4 k fun z => hk (hsub k z)]
      exact wipe_ext (wipe_length S vs) fun k hk => wipe_ne hk
    refine ⟨ew, q S4 F4 H4 _ I4 fun b F5 H5 G5 e5 I5 q5 => ?_⟩
    cases b with
    | false =>
      show ∃ F2 G2 acc, Ex F1 F2 ∧ Iv K B (G2 ++ [.o none acc]) (L2.wipe S vs ++ [some (.ref D)]) F2 H5 ∧ J (i + 1) acc G2
      obtain ⟨_, I6⟩ := back _ _ _ _ (I5.wipe vs)
      rw [ew] at I6
      exact ⟨F5, _, acc, ((e2.trans e3).trans e4).trans e5, I6, q5⟩
    | true =>
      show wi1 S4 H5 fun J1' H4 => ∃ W1 : Nat → Nat → Hp → Prop, _ ∧ _
      refine q5 S4 F5 H5 _ I5 fun It1 F6 H6 G6 ds1 e6 I6 Y1 ⟨k0, ks, kd⟩ => ?_
      obtain ⟨_, I7⟩ := back _ _ _ _ (I6.wipe vs1)
      have e06 : Ex F1 F6 := (((e2.trans e3).trans e4).trans e5).trans e6
      refine ⟨fun j m H => m = ds1.length - j ∧ j ≤ ds1.length ∧ ∃ F8 G8 acc, Ex F6 F8 ∧ Iv K B (G8 ++ [.o none acc]) (L2.wipe S4 vs1 ++ [some (.ref D)]) F8 H ∧ J1 i ds1 j acc G8, ⟨_, rfl, Nat.zero_le _, F6, _, acc, Ex.refl _, I7, k0⟩, ?_⟩
      rintro j m H8 ⟨rfl, hj, F8, G8, acc8, e8, I8, j8⟩
      by_cases hlt1 : j < ds1.length
      · obtain ⟨d1, hd1⟩ : ∃ d, ds1[j]? = some d := ⟨_, List.getElem?_eq_getElem hlt1⟩
        refine .inr ⟨((Y1 j H8 F8 e8 I8.ex).1 d1 hd1).1, fun H => ∃ F8 G8 acc, Ex F6 F8 ∧ Iv K B (G8 ++ [.o none acc]) (L2.wipe S4 vs1 ++ [some (.ref D)]) F8 H ∧ J1 i ds1 (j + 1) acc G8, fun H' p => ⟨ds1.length - (j + 1), by omega, rfl, hlt1, p⟩, fun x H9 y => ?_⟩
        obtain ⟨F9, e9, I9, hx9⟩ := Y1.turn e8 I8 hd1 y
        obtain ⟨D', accv9, mu9, eD, hD9, ha9, Ia9, back9⟩ := I9.aside
        cases eD
        refine ks _ j acc8 G8 d1 hd1 j8 _ F9 H9 x _ Ia9 hx9 fun Sa Fa Ha Ga ea Ja la ua qa => ?_
        have ew1 : L2.wipe Sa vs1 = L2.wipe S4 vs1 := by
          rw [wipe_ext la fun k hk => ua k fun z => hk (hsub1 k z)]
          exact wipe_ext (wipe_length S4 vs1) fun k hk => wipe_ne hk
        refine ⟨ew1, qa Sa Fa Ha _ Ja fun b Fb Hb Gb eb Ib qb => ?_⟩
        cases b with
        | false =>
          show ∃ F8 G8 acc, Ex F6 F8 ∧ Iv K B (G8 ++ [.o none acc]) (L2.wipe S4 vs1 ++ [some (.ref D)]) F8 Hb ∧ J1 i ds1 (j + 1) acc G8
          obtain ⟨_, Ic⟩ := back9 _ _ _ _ (Ib.wipe vs1)
          rw [ew1] at Ic
          exact ⟨Fb, _, acc8, ((e8.trans e9).trans ea).trans eb, Ic, qb⟩
        | true =>
          show te Sa Hb fun y H7 => ∃ acc, H7 D = some (.lst acc) ∧ acc.length < sizeLine ∧ (∃ F8 G8 acc', Ex F6 F8 ∧ Iv K B (G8 ++ [.o none acc']) (L2.wipe S4 vs1 ++ [some (.ref D)]) F8 (upd H7 D (.lst (acc ++ [y]))) ∧ J1 i ds1 (j + 1) acc' G8)
          refine dw_run (k' := fun G5 w => ∃ y, w = .d y ∧ acc8.length < sizeLine ∧ J1 i ds1 (j + 1) (acc8 ++ [y]) (wipeG G5 vs1)) qb Ib fun v Fc Hc Gc w ec Ic hv' qc => ?_
          obtain ⟨y, rfl, hz, jc⟩ := qc
          obtain ⟨hDc, Id⟩ := back9 _ _ _ _ (Ic.wipe vs1)
          rw [ew1] at Id
          refine ⟨accv9, hDc, by rw [da_len ha9]; exact hz, Fc, _, acc8 ++ [y], (((e8.trans e9).trans ea).trans eb).trans ec, ?_, jc⟩
          have hl : (L2.wipe S4 vs1).length = (wipeG Gc vs1).length := by
            have := Id.len
            simpa using this
          have Ie := Id.mut (i := (wipeG Gc vs1).length) (p := D) (q := none) (ds := acc8) (ds' := acc8 ++ [y]) (vs' := accv9 ++ [v]) (by simp) (by rw [← hl]; simp) (da_app (da_mono ((ea.trans eb).trans ec) ha9) (.cons hv' .nil))
          have eg : (wipeG Gc vs1 ++ [Sl.o none acc8]).set (wipeG Gc vs1).length (.o none (acc8 ++ [y])) = wipeG Gc vs1 ++ [.o none (acc8 ++ [y])] := by simp
          rw [eg] at Ie
          exact Ie
      · have e : j = ds1.length := by omega
        subst e
        refine .inl ⟨(Y1 _ H8 F8 e8 I8.ex).2 rfl, F8, _, acc8, e06.trans e8, ?_, kd acc8 G8 j8⟩
        obtain ⟨D', accv9, mu9, eD, hD9, ha9, Ia9, back9⟩ := I8.aside
        have I9 := (back9 _ _ _ _ (Ia9.wipe vs)).2
        have ew2 : L2.wipe (L2.wipe S4 vs1) vs = L2.wipe S vs := by
          rw [← ew]
          exact wipe_ext (wipe_length S4 vs1) fun k hk => wipe_ne fun z => hk (hv k z)
        rw [ew2] at I9
        exact I9
  · have e : i = ds.length := by omega
    subst e
    refine .inl ⟨(Y _ H2 F2 e2 I2.ex).2 rfl, ?_⟩
    have I3 : Iv K B (wipeG G2 vs ++ [.o none acc]) (S ++ [some (.ref D)]) F2 H2 := by
      obtain ⟨D', accv, mu, eD, hD3, ha3, Ia, back⟩ := I2.aside
      exact (back _ _ _ _ ((Ia.wipe vs).wiped (S := S) (by rw [wipe_length, wipe_length]) fun k hk => by rw [wipe_ne hk, wipe_ne hk])).2
    exact k (.ref D) F2 H2 (wipeG G2 vs) (.fr (.o none acc)) (e1.trans e2) I3 (hd acc G2 j2)

theorem set4 {α : Type} (G : List α) {i i1 : Nat} (u : α) (h : i ≠ i1) : ((((G.set i1 u).set i u).set i1 u).set i u) = (G.set i1 u).set i u := by
  have e := List.set_comm (l := G.set i1 u) u u h
  rw [e, List.set_set, List.set_set]
/-- [f x y for x in xs for y in ys x], nothing else changes -/
theorem dw_lc2M {α β : Type} (xs : List α) (enc : α → PyData) (ys : α → List β) (enc1 : β → PyData) (f : α → β → PyData) {wi wi1 : TI} {i i1 : Nat} (hne : i ≠ i1) (hz : (xs.flatMap fun x => (ys x).map (f x)).length ≤ sizeLine)
    (h : DI K B G wi fun G1 ds => ds = xs.map enc ∧ (∀ (B' : Bs) x, x ∈ xs → DI K B' (((G1.set i1 .un).set i .un).set i (.d (enc x))) wi1 fun G5 ds1 => ds1 = (ys x).map enc1 ∧ G5 = ((G1.set i1 .un).set i .un).set i (.d (enc x)) ∧
      ∀ (B'' : Bs) y, y ∈ ys x → DW K B'' ((((G1.set i1 .un).set i .un).set i (.d (enc x))).set i1 (.d (enc1 y))) te fun G9 r => PW r fun w => w = .d (f x y) ∧ G9.set i1 .un = ((((G1.set i1 .un).set i .un).set i (.d (enc x))).set i1 .un)) ∧
      P ((G1.set i1 .un).set i .un) (.fr (.o none (xs.flatMap fun x => (ys x).map (f x))))) : DW K B G (tLc2 wi (gName i) tYes wi1 (gName i1) tYes te [i, i1] [i1]) P := by
  refine dw_lc2E (ch := [i]) (ch1 := [i1]) (fun k hk => by simp at hk; simp [hk]) (fun k hk => hk) (fun k hk => by simp at hk; simp [hk]) ?_
  refine fun S F H R I k => h S F H R I fun J F1 H1 G1 ds e I1 Y ⟨hds, hs, hp⟩ => k J F1 H1 G1 ds e I1 Y ⟨fun n acc G2 => acc = ((xs.take n).flatMap fun x => (ys x).map (f x)) ∧ G2 = (G1.set i1 .un).set i .un,
    fun n ds1 m acc G6 => ∃ x, xs[n]? = some x ∧ ds1 = (ys x).map enc1 ∧ acc = ((xs.take n).flatMap fun x => (ys x).map (f x)) ++ ((ys x).take m).map (f x) ∧ G6 = ((((G1.set i1 .un).set i .un).set i (.d (enc x))).set i1 .un), ⟨rfl, rfl⟩, fun B' n acc G2 d hd ⟨ha, hG⟩ => ?_, fun acc G2 ⟨ha, hG⟩ => ?_⟩
  · subst hds hG
    rw [List.getElem?_map] at hd
    obtain ⟨x, hx, rfl⟩ := Option.map_eq_some_iff.mp hd
    have hn : n < xs.length := (List.getElem?_eq_some_iff.mp hx).1
    have et : xs.take (n + 1) = xs.take n ++ [x] := by
      rw [List.take_succ, hx]
      rfl
    refine dg_name (dt_yes ?_)
    rw [if_pos rfl]
    refine fun S F H R I k => hs B' x (List.mem_of_getElem? hx) S F H R I fun J2 F2 H2 G5 ds1 e2 I2 Y2 ⟨hds1, hG5, hw⟩ => k J2 F2 H2 G5 ds1 e2 I2 Y2 ⟨⟨x, hx, hds1, by rw [ha]; simp, by rw [hG5]; rfl⟩, fun B'' m acc2 G6 d1 hd1 ⟨x', hx', hds', ha', hG6⟩ => ?_, fun acc2 G6 ⟨x', hx', hds', ha', hG6⟩ => ?_⟩
    · rw [hx] at hx'
      obtain rfl := Option.some.inj hx'
      subst hds1 hG6
      rw [List.getElem?_map] at hd1
      obtain ⟨y, hy, rfl⟩ := Option.map_eq_some_iff.mp hd1
      have hm : m < (ys x).length := (List.getElem?_eq_some_iff.mp hy).1
      have et1 : (ys x).take (m + 1) = (ys x).take m ++ [y] := by
        rw [List.take_succ, hy]
        rfl
      have hl : acc2.length < sizeLine := by
        have e1 : xs = xs.take n ++ x :: xs.drop (n + 1) := by
          rw [List.getElem?_eq_getElem hn] at hx
          have := Option.some.inj hx
          rw [← this, ← List.drop_eq_getElem_cons hn, List.take_append_drop]
        rw [ha', List.length_append, List.length_map, List.length_take]
        have hz2 := hz
        rw [e1, List.flatMap_append, List.length_append, List.flatMap_cons, List.length_append, List.length_map] at hz2
        omega
      refine dg_name (dt_yes ?_)
      rw [if_pos rfl, List.set_set]
      refine fun S F H Q I k => hw B'' y (List.mem_of_getElem? hy) S F H Q I fun v F' H' G' r e V pq => k v F' H' G' r e V ?_
      match r, pq with
      | .p w, ⟨hw, hG⟩ => exact ⟨f x y, hw, hl, x, hx, rfl, by rw [et1, List.map_append, ← List.append_assoc, ← ha']; rfl, hG⟩
      | .fr (.o _ _), ⟨hw, hG⟩ => exact ⟨f x y, hw, hl, x, hx, rfl, by rw [et1, List.map_append, ← List.append_assoc, ← ha']; rfl, hG⟩
    · rw [hx] at hx'
      obtain rfl := Option.some.inj hx'
      subst hds1 hG6
      rw [List.length_map, List.take_length] at ha'
      refine ⟨by rw [ha', et, List.flatMap_append]; simp, ?_⟩
      show (((((((G1.set i1 .un).set i .un).set i (.d (enc x))).set i1 .un)).set i1 .un).set i .un) = _
      rw [List.set_set]
      have e := List.set_comm (l := ((G1.set i1 .un).set i .un).set i (.d (enc x))) Sl.un Sl.un hne.symm
      rw [e, List.set_set, List.set_set, List.set_comm (l := (G1.set i1 .un)) Sl.un Sl.un hne, List.set_set]
  · subst hds hG
    rw [List.length_map, List.take_length] at ha
    rw [ha]
    show P ((((G1.set i1 .un).set i .un).set i1 .un).set i .un) _
    rw [set4 _ _ hne]
    exact hp
end
/-! ### loops whose invariant is chosen where the items are known -/
section
variable {K : Fr} {B : Bs} {G : En} {te : TE} {P : Po} {tt : TT} {t : TS} {E : De}
theorem ds_forE {wi : TI} {g : TG} {ch : List Nat} (h : DI K B G wi fun G1 ds => ∃ J : Nat → En → Prop, J 0 G1 ∧ (∀ i G2 d, ds[i]? = some d → J i G2 → DG K B G2 g ch (.d d) fun G3 => DS K B G3 t { E with nx := J (i + 1), ct := J (i + 1), bk := E.nx }) ∧ ∀ G2, J ds.length G2 → E.nx G2) :
    DS K B G (tFor wi g t) E := fun S F H D I c => by
  refine h S F H _ I fun It F1 H1 G1 ds e1 I1 Y ⟨J, j0, hs, hd⟩ => ?_
  refine ⟨fun i m S H => m = ds.length - i ∧ i ≤ ds.length ∧ ∃ F2 G2, Ex F1 F2 ∧ Iv K B G2 S F2 H ∧ J i G2, ⟨_, rfl, Nat.zero_le _, F1, G1, Ex.refl _, I1, j0⟩, ?_⟩
  rintro i m S2 H2 ⟨rfl, hi, F2, G2, e2, I2, j2⟩
  by_cases hlt : i < ds.length
  · obtain ⟨d, hd'⟩ : ∃ d, ds[i]? = some d := ⟨_, List.getElem?_eq_getElem hlt⟩
    refine .inr ⟨((Y i H2 F2 e2 I2.ex).1 d hd').1, fun S H => ∃ F2 G2, Ex F1 F2 ∧ Iv K B G2 S F2 H ∧ J (i + 1) G2, fun S' H' p => ⟨ds.length - (i + 1), by omega, rfl, hlt, p⟩, fun x H3 y => ?_⟩
    obtain ⟨F3, e3, I3, hx⟩ := Y.turn e2 I2 hd' y
    refine hs i G2 d hd' j2 S2 F3 H3 x _ I3 hx fun S4 F4 H4 G4 e4 I4 _ _ q => ?_
    have e5 := (e2.trans e3).trans e4
    exact q S4 F4 H4 _ I4 ⟨fun S F H G e I j => ⟨F, G, e5.trans e, I, j⟩, fun S F H G v r e => c.rt S F H G v r ((e1.trans e5).trans e), fun S F H G e I p => c.nx S F H G ((e1.trans e5).trans e) I p, fun S F H G e I j => ⟨F, G, e5.trans e, I, j⟩⟩
  · have e : i = ds.length := by omega
    subst e
    exact .inl ⟨(Y _ H2 F2 e2 I2.ex).2 rfl, c.nx S2 F2 H2 G2 (e1.trans e2) I2 (hd G2 j2)⟩
end
end DL
namespace DL
open PySem L2
/-! ### specs by a parameter -/
def spI {ι : Type} (K : Fr) (args : ι → List PyData) (pre : ι → Prop) (res : ι → Rs → Prop) : Sp := fun vs H Q E => ∃ x, pre x ∧ sp0 K (fun ds => ds = args x) (fun _ r => res x r) vs H Q E
def spJ {ι : Type} (K : Fr) (ls args : ι → List PyData) (pre : ι → Prop) (res : ι → List PyData → PyData → Prop) : Sp := fun vs H Q E => ∃ x, pre x ∧ sp1 K (fun l ds => l = ls x ∧ ds = args x) (fun _ _ l' d => res x l' d) vs H Q E
def spXI {ι : Type} (K : Fr) (args : ι → List PyData) (pre : ι → Prop) (res : ι → Rs → Prop) (exc : ι → Value → Prop) : Sp := fun vs H Q E => ∃ x, pre x ∧ spX K (fun ds => ds = args x) (fun _ r => res x r) (fun _ c => exc x c) vs H Q E
section
variable {P : Program} {w : World} {K : Fr} {mg : Str → Option Value} {base : Heap} {CX : CXT} {k : Nat} {f : Addr} {fd : FuncData} {ps : List Str}
theorem fnEx {ι : Type} {pre : ι → Prop} {sp : ι → Sp} (h : ∀ x, pre x → FnOk P w K mg base CX k f fd ps (sp x)) : FnOk P w K mg base CX k f fd ps (fun vs H Q E => ∃ x, pre x ∧ sp x vs H Q E) where
  len := fun vs H Q E ⟨x, hp, hs⟩ => (h x hp).len vs H Q E hs
  run := fun A outer s H args us vs Q E hr h1 h2 h3 ⟨x, hp, hs⟩ => (h x hp).run A outer s H args us vs Q E hr h1 h2 h3 hs
variable {x qual : Str} {st : Stmt} {N : List Str}
theorem fnI {ι : Type} {args : ι → List PyData} {pre : ι → Prop} {res : ι → Rs → Prop} (F : Fun K x qual st f fd) (S : FnScope N ps (defScope st)) (hl : ∀ x, (args x).length = ps.length ∧ ps.length ≤ N.length)
    (hb : ∀ (cdv : Value) (A : Around) (outer : List Env) (s : Shared) (H : Hp) (E : XK), Room k (A.deeper (PyProof.Rows.envOfC qual (defScope st) s.heap.objs.size f cdv)) → ∃ t, PSs (cxOf CX0 P w K mg base N qual (defScope st) f cdv A outer s H E).nox (defBody st) t ∧
      ∀ x, pre x → ∀ B, DS K B (G0 N (args x)) t (E0 (res x))) : FnOk P w K mg base CX0 (k + 1) f fd ps (spI K args pre res) :=
  fnEx (sp := fun x => sp0 K (fun ds => ds = args x) (fun _ r => res x r)) fun x hp => fn0 F S (fun ds e => by
    subst e
    have := hl x
    exact ⟨this.1, by omega⟩) fun cdv A outer s H E hr => by
      obtain ⟨t, h1, h2⟩ := hb cdv A outer s H E hr
      exact ⟨t, h1, fun ds e B => by
        subst e
        exact h2 x hp B⟩
theorem fnJ {ι : Type} {ls args : ι → List PyData} {pre : ι → Prop} {res : ι → List PyData → PyData → Prop} (F : Fun K x qual st f fd) (S : FnScope N ps (defScope st)) (hl : ∀ x, (args x).length + 1 = ps.length ∧ ps.length ≤ N.length)
    (hb : ∀ (cdv : Value) (A : Around) (outer : List Env) (s : Shared) (H : Hp) (E : XK), Room k (A.deeper (PyProof.Rows.envOfC qual (defScope st) s.heap.objs.size f cdv)) → ∃ t, PSs (cxOf CX0 P w K mg base N qual (defScope st) f cdv A outer s H E).nox (defBody st) t ∧
      ∀ x, pre x → ∀ p B, DS K B (G1 N p (ls x) (args x)) t (E1 p (res x))) : FnOk P w K mg base CX0 (k + 1) f fd ps (spJ K ls args pre res) :=
  fnEx (sp := fun x => sp1 K (fun l ds => l = ls x ∧ ds = args x) (fun _ _ l' d => res x l' d)) fun x hp => fn1 F S (fun l ds e => by
    obtain ⟨e1, e2⟩ := e
    subst e1 e2
    have := hl x
    exact ⟨this.1, by omega⟩) fun cdv A outer s H E hr => by
      obtain ⟨t, h1, h2⟩ := hb cdv A outer s H E hr
      exact ⟨t, h1, fun p l ds e B => by
        obtain ⟨e1, e2⟩ := e
        subst e1 e2
        exact h2 x hp p B⟩
theorem fnXI {ι : Type} {args : ι → List PyData} {pre : ι → Prop} {res : ι → Rs → Prop} {exc : ι → Value → Prop} (F : Fun K x qual st f fd) (S : FnScope N ps (defScope st)) (hl : ∀ x, (args x).length = ps.length ∧ ps.length ≤ N.length)
    (hb : ∀ (cdv : Value) (A : Around) (outer : List Env) (s : Shared) (H : Hp) (E : XK), Room k (A.deeper (PyProof.Rows.envOfC qual (defScope st) s.heap.objs.size f cdv)) → ∃ t, PSs (cxOf (L2.CX P w) P w K mg base N qual (defScope st) f cdv A outer s H E) (defBody st) t ∧
      ∀ x, pre x → ∀ B, Tk K B (exc x) E → DS K B (G0 N (args x)) t (E0 (res x))) : FnOk P w K mg base (L2.CX P w) (k + 1) f fd ps (spXI K args pre res exc) :=
  fnEx (sp := fun x => spX K (fun ds => ds = args x) (fun _ r => res x r) (fun _ c => exc x c)) fun x hp => fnX F S (fun ds e => by
    subst e
    have := hl x
    exact ⟨this.1, by omega⟩) fun cdv A outer s H E hr => by
      obtain ⟨t, h1, h2⟩ := hb cdv A outer s H E hr
      exact ⟨t, h1, fun ds e B hE => by
        subst e
        exact h2 x hp B hE⟩
end
section
variable {K : Fr} {B : Bs} {G G1 : En} {P : Po} {t : TA} {E : XK} {S : St} {F F1 H1 : Hp} {Q : VK} {vs : List V} {ws : List W}
theorem core0 {pre : List PyData → Prop} {post : List PyData → Rs → Prop} {ds : List PyData} (k : Ct K B S F P Q) (e1 : Ex F F1) (I1 : Iv K B G1 S F1 H1) (hv : Vws K S F1 vs ws) (hd : allD ws = some ds) (hp : pre ds) (q : ∀ r, post ds r → P G1 r) : sp0 K pre post vs H1 Q E := by
  refine ⟨F1, ds, I1.ex, allD_ok hd hv, hp, fun v F2 H2 r a1 a2 a3 a4 a5 a6 => ?_⟩
  match r, a5, a6 with
  | .p (.d d), a5, a6 => exact k v F2 H2 G1 (.p (.d d)) (e1.trans a1) ⟨I1.grow a1 a3 a2 a4, a5⟩ (q _ a6)
  | .fr s, ⟨A, b1, b2⟩, a6 =>
    refine k v F2 H2 G1 (.fr s) (e1.trans a1) ?_ (q _ a6)
    exact I1.add a1 a3 a2 a4 (some v) A (.inr ⟨v, rfl, b1⟩) fun a ha => ⟨(b2 a ha).2.2, (b2 a ha).1, (b2 a ha).2.1⟩
theorem coreX {pre : List PyData → Prop} {post : List PyData → Rs → Prop} {exc : List PyData → Value → Prop} {ds : List PyData} (k : Ct K B S F P Q) (e1 : Ex F F1) (I1 : Iv K B G1 S F1 H1) (hv : Vws K S F1 vs ws) (hd : allD ws = some ds) (hp : pre ds) (q : ∀ r, post ds r → P G1 r)
    (hE : ∀ cls F2 H2, Iv K B G1 S F2 H2 → exc ds cls → E cls none H2) : spX K pre post exc vs H1 Q E := by
  refine ⟨F1, ds, I1.ex, allD_ok hd hv, hp, fun v F2 H2 r a1 a2 a3 a4 a5 a6 => ?_, fun cls F2 H2 a1 a2 a3 a4 a5 => hE cls F2 H2 (I1.grow a1 a3 a2 a4) a5⟩
  match r, a5, a6 with
  | .p (.d d), a5, a6 => exact k v F2 H2 G1 (.p (.d d)) (e1.trans a1) ⟨I1.grow a1 a3 a2 a4, a5⟩ (q _ a6)
  | .fr s, ⟨A, b1, b2⟩, a6 =>
    refine k v F2 H2 G1 (.fr s) (e1.trans a1) ?_ (q _ a6)
    exact I1.add a1 a3 a2 a4 (some v) A (.inr ⟨v, rfl, b1⟩) fun a ha => ⟨(b2 a ha).2.2, (b2 a ha).1, (b2 a ha).2.1⟩
theorem core1 {pre : List PyData → List PyData → Prop} {post : List PyData → List PyData → List PyData → PyData → Prop} {i : Nat} {a : Option Addr} {ls ds : List PyData} {wr : List W} (k : Ct K B S F P Q) (e1 : Ex F F1) (I1 : Iv K B G1 S F1 H1) (hv : Vws K S F1 vs (.sl i :: wr)) (hd : allD wr = some ds) (hi : G1[i]? = some (.o a ls)) (hp : pre ls ds) (q : ∀ ls' d, post ls ds ls' d → P (G1.set i (.o a ls')) (.p (.d d))) : sp1 K pre post vs H1 Q E := by
  cases hv with
  | @cons v0 _ vr _ hv0 hvr =>
  obtain ⟨A, h1, h2, h3⟩ := I1.own
  obtain ⟨u, z1, p, vs0, rfl, z2, z3, z4, z5⟩ : ∃ v, S[i]? = some (some v) ∧ SvR K F1 H1 v (A i) (.o a ls) := (h1 i _ hi).elim (fun z => by cases z) id
  have hv0 : S[i]? = some (some v0) := hv0
  rw [hv0] at z1
  cases z1
  obtain ⟨y1, y2, y3⟩ := h3 i p z4
  refine ⟨F1, p, vs0, vr, ls, ds, rfl, I1.ex, y1, z2, z3, allD_ok hd hvr, hp, fun v F2 H2 vs' ls' d a1 a2 a3 a4 a5 a6 a7 a8 a9 => ?_⟩
  refine k v F2 H2 (G1.set i (.o a ls')) (.p (.d d)) (e1.trans a1) ⟨?_, a8⟩ (q ls' d a9)
  have own : ∀ j b, A j b → F2 b = none ∧ H2 b ≠ none ∧ (j ≠ i → H2 b = H1 b) := fun j b hb => by
    obtain ⟨x, y, z⟩ := h3 j b hb
    refine ⟨?_, ?_, fun hj => ?_⟩
    · cases q : F2 b with
      | none => rfl
      | some o => exact absurd (a4 b o q x) y
    · by_cases hbp : b = p
      · rw [hbp, a6]
        exact fun z => by cases z
      · cases q : H1 b with
        | none => exact absurd q y
        | some o =>
          rw [a3 b o q hbp]
          exact fun z => by cases z
    · cases q : H1 b with
      | none => exact absurd q y
      | some o =>
        refine a3 b o q fun e => ?_
        subst e
        exact hj (h2 _ _ _ hb z4)
  refine ⟨a2, I1.f0.trans a1, fun b o hb hm => ?_, fun b o hb hn => ?_, fun b hb => ?_, by simpa using I1.len, A, fun j s2 hj => ?_, h2, fun j b hb => ⟨(own j b hb).1, (own j b hb).2.1, (h3 j b hb).2.2⟩⟩
  · refine a3 b o (I1.fr b o hb hm) fun e => ?_
    subst e
    rcases y3 with z | z
    · rw [hb] at z
      cases z
    · exact hm z
  · cases q : F1 b with
    | some u => exact I1.nw b u q hn
    | none => exact absurd (I1.new0 (a4 b o hb q)) hn
  · have := I1.st b hb
    by_cases hbp : b = p
    · rw [hbp, a6]
      exact fun z => by cases z
    · cases q : H1 b with
      | none => exact absurd q this
      | some o =>
        rw [a3 b o q hbp]
        exact fun z => by cases z
  · by_cases e : i = j
    · subst e
      obtain ⟨rfl, _⟩ := set_same hj
      exact .inr ⟨_, hv0, p, vs', rfl, a6, a7, z4, z5⟩
    · rw [List.getElem?_set_ne e] at hj
      rcases h1 j s2 hj with z | ⟨u, x1, x2⟩
      · exact .inl z
      · exact .inr ⟨u, x1, slr_stab x2 a1 fun b hb => (own j b hb).2.2 (Ne.symm e)⟩
theorem dw_callI {ι : Type} {args : ι → List PyData} {pre : ι → Prop} {res : ι → Rs → Prop} (h : DA K B G t fun G1 ws => ∃ x, pre x ∧ allD ws = some (args x) ∧ ∀ r, res x r → P G1 r) : DW K B G (tCall (spI K args pre res) [] E t) P := fun S F H Q I k => by
  show t S H fun vs H1 => ∃ x, pre x ∧ sp0 K (fun ds => ds = args x) (fun _ r => res x r) (vs ++ []) H1 Q E
  refine h S F H _ I fun vs F1 H1 G1 ws e1 I1 hv ⟨x, hp, hd, q⟩ => ⟨x, hp, ?_⟩
  rw [List.append_nil]
  exact core0 k e1 I1 hv hd rfl q
theorem dw_callJ {ι : Type} {ls args : ι → List PyData} {pre : ι → Prop} {res : ι → List PyData → PyData → Prop} (h : DA K B G t fun G1 ws => ∃ x i a wr, pre x ∧ ws = .sl i :: wr ∧ allD wr = some (args x) ∧ G1[i]? = some (.o a (ls x)) ∧ ∀ l' d, res x l' d → P (G1.set i (.o a l')) (.p (.d d))) : DW K B G (tCall (spJ K ls args pre res) [] E t) P := fun S F H Q I k => by
  show t S H fun vs H1 => ∃ x, pre x ∧ sp1 K (fun l ds => l = ls x ∧ ds = args x) (fun _ _ l' d => res x l' d) (vs ++ []) H1 Q E
  refine h S F H _ I fun vs F1 H1 G1 ws e1 I1 hv ⟨x, i, a, wr, hp, hw, hd, hi, q⟩ => ⟨x, hp, ?_⟩
  rw [List.append_nil]
  subst hw
  exact core1 k e1 I1 hv hd hi ⟨rfl, rfl⟩ q
theorem dw_callXI {ι : Type} {args : ι → List PyData} {pre : ι → Prop} {res : ι → Rs → Prop} {exc : ι → Value → Prop} {ex0 : Value → Prop} (hE : Tk K B ex0 E) (h : DA K B G t fun G1 ws => ∃ x, pre x ∧ allD ws = some (args x) ∧ (∀ r, res x r → P G1 r) ∧ ∀ c, exc x c → ex0 c) : DW K B G (tCall (spXI K args pre res exc) [] E t) P := fun S F H Q I k => by
  show t S H fun vs H1 => ∃ x, pre x ∧ spX K (fun ds => ds = args x) (fun _ r => res x r) (fun _ c => exc x c) (vs ++ []) H1 Q E
  refine h S F H _ I fun vs F1 H1 G1 ws e1 I1 hv ⟨x, hp, hd, q, qx⟩ => ⟨x, hp, ?_⟩
  rw [List.append_nil]
  exact coreX k e1 I1 hv hd rfl q fun cls F2 H2 J z => hE cls S F2 H2 G1 J (qx cls z)
theorem dw_callNI {ι : Type} {args : ι → List PyData} {pre : ι → Prop} {res : ι → Rs → Prop} {exc : ι → Value → Prop} (h : DA K B G t fun G1 ws => ∃ x, pre x ∧ allD ws = some (args x) ∧ (∀ r, res x r → P G1 r) ∧ ∀ c, ¬ exc x c) : DW K B G (tCall (spXI K args pre res exc) [] E t) P :=
  dw_callXI (ex0 := fun _ => False) (fun _ _ _ _ _ _ z => z.elim) h
theorem dw_callSI {ι : Type} {args : ι → List PyData} {pre : ι → Prop} {res : ι → Rs → Prop} {exc : ι → Value → Prop} {W : WX} {ex0 : Value → En → Prop} (hE : TkW K B ex0 W) (h : DA K B G t fun G1 ws => ∃ x, pre x ∧ allD ws = some (args x) ∧ (∀ r, res x r → P G1 r) ∧ ∀ c, exc x c → ex0 c G1) : DW K B G (tCallS (spXI K args pre res exc) (WE W) t) P := fun S F H Q I k => by
  show t S H fun vs H1 => ∃ x, pre x ∧ spX K (fun ds => ds = args x) (fun _ r => res x r) (fun _ c => exc x c) vs H1 Q (fun cls d H => W cls d S H)
  refine h S F H _ I fun vs F1 H1 G1 ws e1 I1 hv ⟨x, hp, hd, q, qx⟩ => ⟨x, hp, ?_⟩
  exact coreX k e1 I1 hv hd rfl q fun cls F2 H2 J z => hE cls S F2 H2 G1 J (qx cls z)
end
end DL
namespace DL
open PySem L2
section
variable {K : Fr} {B : Bs} {G : En} {t u : TS} {E : De}
/-- between two statements: what is known of the slots -/
theorem ds_mid (M : En → Prop) (h1 : DS K B G t { E with nx := M }) (h2 : ∀ G1, M G1 → DS K B G1 u E) : DS K B G (tSeq t u) E := fun S F H D I c => by
  show t { D with nx := u D } S H
  exact h1 S F H _ I ⟨fun S F H G1 e I1 q => h2 G1 q S F H D I1 (c.mono e), c.rt, c.bk, c.ct⟩
theorem ite_k {c : Bool} {X Y : Prop} (h1 : c = true → X) (h2 : c = false → Y) : if c = true then X else Y := by
  cases c with
  | true =>
    rw [if_pos rfl]
    exact h1 rfl
  | false =>
    rw [if_neg (by simp)]
    exact h2 rfl
theorem ati {α β : Type} {f : α → β} {xs : List α} {i : Nat} {x : α} (h : xs[i]? = some x) : atI (xs.map f) (i : Int) = some (f x) := by
  have hl := (List.getElem?_eq_some_iff.mp h).1
  have e : ixN (xs.map f).length (i : Int) = some i := by
    unfold ixN
    rw [if_pos (Int.natCast_nonneg i), if_pos (by rw [List.length_map]; exact_mod_cast hl)]
    rfl
  unfold atI
  rw [e]
  show (xs.map f)[i]? = _
  rw [List.getElem?_map, h]
  rfl
theorem atn {α : Type} {xs : List α} {i : Nat} {x : α} (h : xs[i]? = some x) : atI xs (i : Int) = some x := by
  have := ati (f := id) h
  simpa using this
end
end DL
namespace DL
open PySem L2
theorem szl {n : Nat} (h : n ≤ 1000000) : n ≤ sizeLine := by
  rw [sizeLine_eq]
  omega
theorem szlt {n : Nat} (h : n ≤ 1000000) : n < sizeLine := by
  rw [sizeLine_eq]
  omega
theorem ite_t {X Y : Prop} (h : X) : if true = true then X else Y := by rw [if_pos rfl]; exact h
theorem ite_f {X Y : Prop} (h : Y) : if false = true then X else Y := by rw [if_neg (by simp)]; exact h
section
variable {K : Fr} {B : Bs} {G : En} {P : Po} {d : PyData}
theorem isi_int (q : P G (.p (.d (.bool (isiD d "int"))))) : RWn K B G (rIsi K) [.d d, .ty "int"] P := rn_isi rfl (kit_int d) q
theorem isi_bool (q : P G (.p (.d (.bool (isiD d "bool"))))) : RWn K B G (rIsi K) [.d d, .ty "bool"] P := rn_isi rfl (kit_bool d) q
theorem isi_str (q : P G (.p (.d (.bool (isiD d "str"))))) : RWn K B G (rIsi K) [.d d, .ty "str"] P := rn_isi rfl (kit_str d) q
theorem isi_tuple (q : P G (.p (.d (.bool (isiD d "tuple"))))) : RWn K B G (rIsi K) [.d d, .ty "tuple"] P := rn_isi rfl (kit_tuple d) q
theorem isi_list (q : P G (.p (.d (.bool (isiD d "list"))))) : RWn K B G (rIsi K) [.d d, .ty "list"] P := rn_isi rfl (kit_list d) q
theorem rn_lenD {ds : List PyData} (q : P G (.p (.d (.int (ds.length : Int))))) : RWn K B G (rLEN K) [.d (.list ds)] P := rn_lenL rfl q
theorem isN_d (q : P G (.p (.d (.bool (isNone d))))) : RW2 K B G (fun x y H Q => y = .non ∧ Q (.bl (decide (x = .non))) H) (.d d) (.d .none) P := rw_isN rfl q
theorem notN_d (q : P G (.p (.d (.bool (!isNone d))))) : RW2 K B G (fun x y H Q => y = .non ∧ Q (.bl (!decide (x = .non))) H) (.d d) (.d .none) P := rw_notN rfl q
end
end DL
namespace DL
open PySem L2
section
variable {d : PyData}
theorem isi_t (h : isiD d "tuple" = true) : ∃ xs, d = .tuple xs := by
  cases d with
  | tuple xs => exact ⟨xs, rfl⟩
  | none => exact Bool.noConfusion h
  | bool _ => exact Bool.noConfusion h
  | int _ => exact Bool.noConfusion h
  | str _ => exact Bool.noConfusion h
  | list _ => exact Bool.noConfusion h
  | dict _ => exact Bool.noConfusion h
theorem isi_l (h : isiD d "list" = true) : ∃ xs, d = .list xs := by
  cases d with
  | list xs => exact ⟨xs, rfl⟩
  | none => exact Bool.noConfusion h
  | bool _ => exact Bool.noConfusion h
  | int _ => exact Bool.noConfusion h
  | str _ => exact Bool.noConfusion h
  | tuple _ => exact Bool.noConfusion h
  | dict _ => exact Bool.noConfusion h
theorem isi_s (h : isiD d "str" = true) : ∃ z, d = .str (mkS z) := by
  cases d with
  | str x => exact ⟨_, congrArg PyData.str (mkS_of x).symm⟩
  | none => exact Bool.noConfusion h
  | bool _ => exact Bool.noConfusion h
  | int _ => exact Bool.noConfusion h
  | list _ => exact Bool.noConfusion h
  | tuple _ => exact Bool.noConfusion h
  | dict _ => exact Bool.noConfusion h
theorem isi_b (h : isiD d "bool" = true) : ∃ b, d = .bool b := by
  cases d with
  | bool b => exact ⟨b, rfl⟩
  | none => exact Bool.noConfusion h
  | int _ => exact Bool.noConfusion h
  | str _ => exact Bool.noConfusion h
  | list _ => exact Bool.noConfusion h
  | tuple _ => exact Bool.noConfusion h
  | dict _ => exact Bool.noConfusion h
theorem isi_i (h : isiD d "int" = true) (h' : isiD d "bool" = false) : ∃ i, d = .int i := by
  cases d with
  | int i => exact ⟨i, rfl⟩
  | bool _ => exact Bool.noConfusion h'
  | none => exact Bool.noConfusion h
  | str _ => exact Bool.noConfusion h
  | list _ => exact Bool.noConfusion h
  | tuple _ => exact Bool.noConfusion h
  | dict _ => exact Bool.noConfusion h
theorem not_f {b : Bool} (h : (!b) = true) : b = false := by
  cases b
  · rfl
  · exact absurd h (by simp)
theorem not_t {b : Bool} (h : (!b) = false) : b = true := by
  cases b
  · exact absurd h (by simp)
  · rfl
end
end DL
namespace DL
open PySem L2
/-! ### the ends, so told that terms stay small -/
def De.nxt (E : De) (f : En → Prop) : De := ⟨f, E.rt, E.bk, E.ct⟩
def De.lp (E : De) (f : En → Prop) : De := ⟨f, E.rt, E.nx, f⟩
section
variable {K : Fr} {B : Bs} {G : En} {t u : TS} {E : De} {f : En → Prop} {r : Rs} {d : PyData} {s : Sl} {i : Nat}
theorem nx_nxt (h : f G) : (E.nxt f).nx G := h
theorem rt_nxt (h : E.rt G r) : (E.nxt f).rt G r := h
theorem bk_nxt (h : E.bk G) : (E.nxt f).bk G := h
theorem ct_nxt (h : E.ct G) : (E.nxt f).ct G := h
theorem nx_lp (h : f G) : (E.lp f).nx G := h
theorem rt_lp (h : E.rt G r) : (E.lp f).rt G r := h
theorem bk_lp (h : E.nx G) : (E.lp f).bk G := h
theorem ct_lp (h : f G) : (E.lp f).ct G := h
theorem asn_d (h : E.nx (G.set i (.d d))) : AsN E G i (.p (.d d)) := h
theorem asn_fr (h : E.nx (G.set i s)) : AsN E G i (.fr s) := h
theorem ds_seq' (h : DS K B G t (E.nxt fun G1 => DS K B G1 u E)) : DS K B G (tSeq t u) E := ds_seq h
theorem ds_mid' (M : En → Prop) (h1 : DS K B G t (E.nxt M)) (h2 : ∀ G1, M G1 → DS K B G1 u E) : DS K B G (tSeq t u) E := ds_mid M h1 h2
theorem ds_forE' {wi : TI} {g : TG} {ch : List Nat} (h : DI K B G wi fun G1 ds => ∃ J : Nat → En → Prop, J 0 G1 ∧ (∀ i G2 d, ds[i]? = some d → J i G2 → DG K B G2 g ch (.d d) fun G3 => DS K B G3 t (E.lp (J (i + 1)))) ∧ ∀ G2, J ds.length G2 → E.nx G2) :
    DS K B G (tFor wi g t) E := ds_forE h
theorem ds_while' {tt : TT} (J : Nat → En → Prop) (m : Nat) (h0 : J m G) (hs : ∀ m G1, J m G1 → DT K B G1 tt fun G2 b => if b = true then DS K B G2 t (E.lp fun G3 => ∃ m', m' < m ∧ J m' G3) else E.nx G2) : DS K B G (tWhile tt t) E := ds_while J m h0 hs
variable {p : Rs → Prop} {a : Addr} {q : List PyData → PyData → Prop} {ls : List PyData}
theorem rt_E0 (h : p (.p (.d d))) : (DL.E0 p).rt G (.p (.d d)) := h
theorem rt_E0o {o : Option Addr} {ds : List PyData} (h : p (.fr (.o o ds))) : (DL.E0 p).rt G (.fr (.o o ds)) := And.intro (fun z => Sl.noConfusion z) h
theorem rt_E0s {o : Option Addr} {ds : List PyData} (hi : G[i]? = some (.o o ds)) (h : p (.fr (.o none ds))) : (DL.E0 p).rt G (.p (.sl i)) := ⟨o, ds, hi, h⟩
theorem nx_E0 (h : p (.p (.d .none))) : (DL.E0 p).nx G := h
theorem rt_E1 (hi : G[0]? = some (.o (some a) ls)) (h : q ls d) : (DL.E1 a q).rt G (.p (.d d)) := ⟨d, ls, rfl, hi, h⟩
theorem rt_E1o {o : Option Addr} {ds : List PyData} (hi : G[0]? = some (.o (some a) ls)) (h : q ls (.list ds)) : (DL.E1 a q).rt G (.fr (.o o ds)) := ⟨.list ds, ls, rfl, hi, h⟩
end
end DL
namespace DL
open PySem L2
theorem ite_T {c : Bool} {X Y : Prop} (e : c = true) (h : X) : if c = true then X else Y := by rw [if_pos e]; exact h
theorem ite_F {c : Bool} {X Y : Prop} (e : c = false) (h : Y) : if c = true then X else Y := by rw [e, if_neg (by simp)]; exact h
section
variable {G : En} {PT : En → Bool → Prop} {b : Bool} {ds : List PyData} {i : Int} {j : Nat}
theorem tr_b (h : PT G b) : TrW G PT (.d (.bool b)) := ⟨b, rfl, h⟩
theorem tr_i (h : PT G (i != 0)) : TrW G PT (.d (.int i)) := ⟨_, rfl, h⟩
theorem tr_n (h : PT G false) : TrW G PT (.d .none) := ⟨_, rfl, h⟩
theorem tr_T (h : PT G (!ds.isEmpty)) : TrW G PT (.d (.tuple ds)) := ⟨_, rfl, h⟩
theorem tr_L (h : PT G (!ds.isEmpty)) : TrW G PT (.d (.list ds)) := ⟨_, rfl, h⟩
theorem tr_o {a : Option Addr} (hi : G[j]? = some (.o a ds)) (h : PT G (!ds.isEmpty)) : TrW G PT (.sl j) := ⟨a, ds, hi, h⟩
end
end DL
namespace DL
open PySem L2
/-! ### shapes of data, equality of data -/
def Shp (n : Nat) (d : PyData) : Prop := d.canLay0 = true ∧ d.depth ≤ n
theorem shp_all {n : Nat} : ∀ {xs : List PyData}, (∀ x ∈ xs, Shp n x) → PyData.canLayAll0 xs = true ∧ PyData.depthAll xs ≤ n
  | [], _ => ⟨by simp [PyData.canLayAll0], by simp [PyData.depthAll]⟩
  | x :: xs, h => by
    obtain ⟨a, b⟩ := h x List.mem_cons_self
    obtain ⟨c, d⟩ := shp_all fun y hy => h y (List.mem_cons_of_mem _ hy)
    refine ⟨by simp [PyData.canLayAll0, a, c], ?_⟩
    simp only [PyData.depthAll]
    omega
theorem shp_list {n : Nat} {xs : List PyData} (h : ∀ x ∈ xs, Shp n x) : Shp (n + 1) (.list xs) := by
  obtain ⟨a, b⟩ := shp_all h
  exact ⟨by simp [PyData.canLay0, a], by simp only [PyData.depth]; omega⟩
theorem shp_tup {n : Nat} {xs : List PyData} (h : ∀ x ∈ xs, Shp n x) : Shp (n + 1) (.tuple xs) := by
  obtain ⟨a, b⟩ := shp_all h
  exact ⟨by simp [PyData.canLay0, a], by simp only [PyData.depth]; omega⟩
theorem shp_int (n : Nat) (i : Int) : Shp n (.int i) := ⟨by simp [PyData.canLay0], by simp [PyData.depth]⟩
theorem shp_bool (n : Nat) (b : Bool) : Shp n (.bool b) := ⟨by simp [PyData.canLay0], by simp [PyData.depth]⟩
theorem shp_none (n : Nat) : Shp n .none := ⟨by simp [PyData.canLay0], by simp [PyData.depth]⟩
theorem shp_str (n : Nat) {z : List Nat} (h : ∀ c ∈ z, c < 0x110000) : Shp n (.str (mkS z)) := by
  refine ⟨?_, by simp [PyData.depth]⟩
  simp only [PyData.canLay0, PyData.strOk, mkS]
  simpa using h
theorem shp_mono {n k : Nat} {d : PyData} (h : Shp n d) (hk : n ≤ k) : Shp k d := ⟨h.1, Nat.le_trans h.2 hk⟩
theorem shp_ok {n : Nat} {d : PyData} (h : Shp n d) (hn : n ≤ 64) : SeqAt.shaped d = true := by
  unfold SeqAt.shaped
  rw [h.1, decide_eq_true (Nat.le_trans h.2 hn)]
  rfl
theorem eqv_nil (xs : List PyData) : PyData.eqv (.list xs) (.list []) = xs.isEmpty := by
  cases xs <;> simp [PyData.eqv, PyData.eqvAll]
theorem eqv_nilT (xs : List PyData) : PyData.eqv (.tuple xs) (.tuple []) = xs.isEmpty := by
  cases xs <;> simp [PyData.eqv, PyData.eqvAll]
theorem any_inj {α : Type} [DecidableEq α] {f : α → PyData} (h : ∀ a b, PyData.eqv (f a) (f b) = decide (a = b)) (xs : List α) (x : α) : ((xs.map f).any fun z => PyData.eqv z (f x)) = decide (x ∈ xs) := by
  rw [List.any_map]
  induction xs with
  | nil => rfl
  | cons y ys ih =>
    rw [List.any_cons, ih]
    show (PyData.eqv (f y) (f x) || decide (x ∈ ys)) = decide (x ∈ y :: ys)
    rw [h]
    by_cases e : y = x
    · subst e
      simp
    · have e' : ¬ x = y := fun z => e z.symm
      simp [e, e']
theorem any_true {α : Type} (b : α → Bool) (xs : List α) : ((xs.map fun x => PyData.bool (b x)).any fun z => PyData.eqv z (.bool true)) = xs.any b := by
  rw [List.any_map]
  congr 1
  funext x
  show (PyData.eqv (.bool (b x)) (.bool true)) = b x
  simp [PyData.eqv]
theorem any_false {α : Type} (b : α → Bool) (xs : List α) : ((xs.map fun x => PyData.bool (b x)).any fun z => PyData.eqv z (.bool false)) = xs.any fun x => !b x := by
  rw [List.any_map]
  congr 1
  funext x
  show (PyData.eqv (.bool (b x)) (.bool false)) = !b x
  simp [PyData.eqv]
abbrev iD (n : Nat) : PyData := .int (n : Int)
theorem rng_nD (n : Nat) : rngD 0 ((n : Nat) : Int).toNat = (List.range n).map iD := by
  unfold rngD
  rw [Int.toNat_natCast]
  congr 1
  funext i
  show PyData.int (0 + (i : Int)) = PyData.int (i : Int)
  rw [Int.zero_add]
theorem eqv_iD (a b : Nat) : PyData.eqv (iD a) (iD b) = decide (a = b) := by
  simp only [PyData.eqv]
  by_cases h : a = b
  · subst h
    simp
  · rw [decide_eq_false h]
    have : ¬ ((a : Int) = (b : Int)) := fun e => h (Int.ofNat.inj e)
    simpa using this
theorem filter_isEmpty {α : Type} (p : α → Bool) (f : α → PyData) (xs : List α) : (((xs.filter p).map f).isEmpty) = !xs.any p := by
  induction xs with
  | nil => rfl
  | cons x xs ih =>
    rw [List.filter_cons, List.any_cons]
    cases p x with
    | true => simp
    | false => simpa using ih
end DL
namespace DL
open PySem L2
section
variable {K : Fr} {B : Bs} {G : En} {P : Po}
/-- [..] != [] -/
theorem rw_neF {α : Type} {xs : List α} {p : α → Bool} {f : α → PyData} (h : ∀ x ∈ xs, Shp 60 (f x)) (q : P G (.p (.d (.bool (xs.any p))))) : RW2 K B G (rNE K) (.d (.list ((xs.filter p).map f))) (.d (.list [])) P := by
  refine rw_neD rfl rfl (shp_ok (shp_list (n := 60) fun x hx => ?_) (by decide)) (shp_ok (shp_list (n := 0) fun x hx => nomatch hx) (by decide)) ?_
  · obtain ⟨y, hy, rfl⟩ := List.mem_map.mp hx
    exact h y (List.mem_filter.mp hy).1
  · rw [eqv_nil, filter_isEmpty, Bool.not_not]
    exact q
end
end DL
namespace DL
open PySem L2
/-! ### the law itself: its script stands as it came -/
def scr (K : Fr) (ns : List Int) : Orel := ⟨fun F _ v _ => ∃ p, v = .ref p ∧ SqL K F p (ns.map V.int), fun ⟨p, e, h⟩ ex _ => ⟨p, e, sl_mono ex h⟩⟩
def spLaw (K : Fr) (n : Nat) : Sp := fun vs H Q _ => ∃ (a : Addr) (ns : List Int), vs = [.ref a] ∧ ns.length ≤ n ∧ SqL K H a (ns.map V.int) ∧ ∀ H', Q (.bl true) H'
def GL (K : Fr) (N : List Str) (ns : List Int) : En := .ow (scr K ns) :: List.replicate (N.length - 1) .un
section
variable {P : Program} {w : World} {K : Fr} {mg : Str → Option Value} {base : Heap} {x qual : Str} {st : Stmt} {f : Addr} {fd : FuncData} {N : List Str} {p : Str} {k n : Nat}
theorem fnLaw (F : Fun K x qual st f fd) (S : FnScope N [p] (defScope st)) (hN : 1 ≤ N.length)
    (hb : ∀ (cdv : Value) (A : Around) (outer : List Env) (s : Shared) (H : Hp) (E : XK), Room k (A.deeper (PyProof.Rows.envOfC qual (defScope st) s.heap.objs.size f cdv)) → ∃ t, PSs (cxOf CX0 P w K mg base N qual (defScope st) f cdv A outer s H E).nox (defBody st) t ∧
      ∀ ns : List Int, ns.length ≤ n → ∀ B, DS K B (GL K N ns) t (DL.E0 fun r => r = .p (.d (.bool true)))) : FnOk P w K mg base CX0 (k + 1) f fd [p] (spLaw K n) := by
  refine F.ok S (fun vs H Q E h => ?_) (fun cdv A outer s H vs Q E hr h => ?_)
  · obtain ⟨a, ns, rfl, _⟩ := h
    rfl
  · obtain ⟨a, ns, rfl, hl, hs, q⟩ := h
    obtain ⟨t, ht, hd⟩ := hb cdv A outer s H E hr
    refine ⟨t, ht, ?_⟩
    have I0 : Iv K ⟨H, H, fun _ => False⟩ (GL K N ns) (L2.start N [.ref a]) H H := by
      refine ⟨Ex.refl _, Ex.refl _, fun b o h _ => h, fun b o h _ => .inl (nn h), fun b h => h, by simp [L2.start, GL], fun _ _ => False, fun i s' hi => ?_, fun _ _ _ z => z.elim, fun _ _ z => z.elim⟩
      cases i with
      | zero =>
        have e : s' = .ow (scr K ns) := by
          simp [GL] at hi
          exact hi.symm
        subst e
        exact .inr ⟨.ref a, rfl, a, rfl, hs⟩
      | succ i =>
        left
        unfold GL at hi
        rw [List.getElem?_cons_succ, List.getElem?_replicate] at hi
        split at hi
        · exact (Option.some.inj hi).symm
        · cases hi
    refine hd ns hl _ _ H H _ I0 ⟨fun S F H' G e J p => ?_, fun S F H' G v r e J p => ?_, fun _ _ _ _ _ _ z => z.elim, fun _ _ _ _ _ _ z => z.elim⟩
    · cases p
    · match r, J, p with
      | .p (.d d), J, p =>
        have p : Rs.p (.d d) = .p (.d (.bool true)) := p
        cases p
        rw [dp_bl J.2]
        exact q H'
      | .p (.sl i), J, ⟨a, ds', hi, p⟩ => cases p
      | .fr s, J, ⟨hu, p⟩ => cases p
end
section
variable {K : Fr} {B : Bs} {G : En} {P : Po}
theorem dw_scr {i : Nat} {ns : List Int} (h : G[i]? = some (.ow (scr K ns))) (q : P G (.p (.sl i))) : DW K B G (tVar i) P := fun S F H Q I k => by
  obtain ⟨A, a1, _, _⟩ := I.own
  rcases a1 i _ h with e | ⟨v, h1, _⟩
  · cases e
  · exact ⟨v, h1, k _ F H G (.p (.sl i)) (Ex.refl F) ⟨I, h1⟩ q⟩
theorem rn_listScr {i : Nat} {ns : List Int} (h : G[i]? = some (.ow (scr K ns))) (q : P G (.fr (.o none (ns.map .int)))) : RWn K B G (rLIST K) [.sl i] P := fun S F H Q vs I hv k => by
  obtain ⟨v, rfl, h1⟩ := vws1 hv
  obtain ⟨A, a1, _, _⟩ := I.own
  rcases a1 i _ h with e | ⟨u, z1, p, rfl, hs⟩
  · cases e
  · have h1 : S[i]? = some (some v) := h1
    rw [h1] at z1
    cases z1
    exact ⟨p, _, rfl, .inl (sl_mono I.ex hs), fun c hc => ct_L k I hc (da_ints _) q⟩
end
end DL
/-! sets of texts: the library's proofs for sets of ints, turned to texts -/
namespace L2
open PySem PySem.Spec PyProof.Rows
def keyT (e : Int × Value) : Str := match e.2 with | .str k _ => k | _ => ⟨#[]⟩
def GoodT (w : World) (e : Int × Value) : Prop := ∃ k tk, e.2 = Value.str k tk ∧ e.1 = hashStr w k

/-- the set of texts at a: S its members, n their number; its table rises and can be walked -/
def SetT (w : World) (h : Heap) (a : Addr) (S : Str → Bool) (n : Nat) : Prop :=
  ∃ o es ep t, h.get? a = some o ∧ o.ExactSet ∧ o.data = .set es ep t ∧ (∀ e ∈ es.toList, GoodT w e) ∧ (es.toList.map keyT).Nodup ∧ (∀ k, S k = true ↔ k ∈ es.toList.map keyT) ∧
    es.size < scanBound ∧ t.fits es.size = true ∧ es.size = n ∧ Ris t.place.toList ∧ (w.params.followText "set-order" = true ∨ t.led = true)

section
variable {P : Program} {w : World} {h h' : Heap} {a : Addr} {S : Str → Bool} {n : Nat}

theorem SetT.at (R : SetT w h a S n) (k : ∀ o, h.get? a = some o → h'.get? a = some o) : SetT w h' a S n := by
  obtain ⟨o, es, ep, t, ho, r⟩ := R
  exact ⟨o, es, ep, t, k o ho, r⟩
theorem SetT.lt (R : SetT w h a S n) : a < h.objs.size := by
  obtain ⟨o, es, ep, t, ho, r⟩ := R
  exact Heap.lt_size ho
theorem SetT.congr {S' : Str → Bool} (R : SetT w h a S n) (e : ∀ k, S' k = S k) : SetT w h a S' n := by
  have q : S' = S := funext e
  rw [q]; exact R
theorem goodT_elems {l : List (Int × Value)} (g : ∀ e ∈ l, GoodT w e) : ElemsOf (PySem.strKind P w) l := fun e he => by
  obtain ⟨k, tk, h1, h2⟩ := g e he
  exact ⟨⟨k, by rw [h1]; exact strKind_is P w k tk, h2⟩, by rw [h1] <;> rfl⟩
theorem goodT_is {e : Int × Value} (g : GoodT w e) (k : Str) : (PySem.strKind P w).is k e.2 = true ↔ keyT e = k := by
  obtain ⟨k0, tk, h1, _⟩ := g
  unfold keyT
  rw [h1]
  show ((k0 == k) = true) ↔ k0 = k
  exact beq_iff_eq
theorem goodT_mem {l : List (Int × Value)} (g : ∀ e ∈ l, GoodT w e) (k : Str) : k ∈ l.map keyT ↔ ∃ e ∈ l, (PySem.strKind P w).is k e.2 = true := by
  rw [List.mem_map]
  constructor
  · rintro ⟨e, he, q⟩
    exact ⟨e, he, (goodT_is (g e he) k).2 q⟩
  · rintro ⟨e, he, q⟩
    exact ⟨e, he, (goodT_is (g e he) k).1 q⟩
theorem SetT.setOf (R : SetT w h a S n) : h.SetOf (PySem.strKind P w) a S n := by
  obtain ⟨o, es, ep, t, ho, hx, hd, g, nd, hm, hb, hf, hn, _⟩ := R
  exact ⟨o, es, ep, t, ho, hx, hd, goodT_elems g, fun k => (hm k).trans (goodT_mem g k), hb, hf, hn⟩
end

section
variable {P : Program} {w : World} {A : Around} {E : Value → Shared → Prop} {s : Shared} {a : Addr} {S : Str → Bool} {n : Nat}

/-! ### add -/
theorem setT_add_tail {g : Bool → Sem Unit} (hg : ∀ (b : Bool) (s₁ : Shared) (Q' : Unit → Shared → Prop), Q' () s₁ → wpAny (model P w) A (g b) Q' E s₁)
    {o : Obj} {es : Array (Int × Value)} {ep : Nat} {t : SetTable} (ho : s.heap.get? a = some o) (hex : o.ExactSet) (hd : o.data = .set es ep t)
    {es1 : Array (Int × Value)} {t2 : SetTable} {S' : Str → Bool} (g1 : ∀ e ∈ es1.toList, GoodT w e) (nd1 : (es1.toList.map keyT).Nodup) (m1 : ∀ k, S' k = true ↔ k ∈ es1.toList.map keyT)
    (hb1 : es1.size < scanBound) (hf2 : t2.fits es1.size = true) (hr : Ris t2.place.toList) (hl : w.params.followText "set-order" = true ∨ t2.led = true) {wasDummy : Bool} {R : Option Bool → Shared → Prop}
    (hR : ∀ h', Heap.SameBut a s.heap h' → SetT w h' a S' es1.size → R (some true) { s with heap := h' }) :
    wpAny (model P w) A (do
        storeSet a es1 t2
        if (!wasDummy && t2.tooFull) = true then do
            g (relayAll t2 es1 (SetTable.grown es1.size)).2.2
            storeSet a (relayAll t2 es1 (SetTable.grown es1.size)).1 (relayAll t2 es1 (SetTable.grown es1.size)).2.1
            pure (some true)
          else pure (some true)) R E s := by
  refine wpAny_bind (wpAny_storeSet_of ho hd ?_ (fits_of_scanBound hb1))
  have ho1 := store_at (es' := es1) (t' := t2) ho hd
  have sb1 := Heap.SameBut.update s.heap a (Obj.putSet es1 t2)
  split
  · have pm := relayAll_perm t2 es1 (SetTable.grown es1.size)
    have hf3 := relayAll_fits t2 es1 (SetTable.grown es1.size)
    have hr3 := relayAll_ris t2 es1 (SetTable.grown es1.size)
    have hl3 := relayAll_led t2 es1 (SetTable.grown es1.size)
    generalize relayAll t2 es1 (SetTable.grown es1.size) = Z at pm hf3 hr3 hl3 ⊢
    obtain ⟨es2, t3, gave⟩ := Z
    dsimp only at pm hf3 hr3 hl3 ⊢
    have hsz : es2.size = es1.size := by rw [← Array.length_toList, pm.length_eq, Array.length_toList]
    have hb2 : es2.size < scanBound := by rw [hsz]; exact hb1
    refine wpAny_bind (hg _ _ _ ?_)
    refine wpAny_bind (wpAny_storeSet_of ho1 rfl ?_ (fits_of_scanBound hb2))
    have ho2 := store_at (es' := es2) (t' := t3) ho1 rfl
    refine wpAny_pure (hR _ (sb1.trans (Heap.SameBut.update _ a _)) ?_)
    exact ⟨_, es2, _, t3, ho2, hex, rfl, fun e he => g1 e (pm.mem_iff.mp he), (pm.map keyT).nodup_iff.mpr nd1, fun k => (m1 k).trans (pm.map keyT).mem_iff.symm, hb2, hf3, hsz, hr3,
      hl.imp id fun z => by rw [hl3]; exact z⟩
  · exact wpAny_pure (hR _ sb1 ⟨_, es1, _, t2, ho1, hex, rfl, g1, nd1, m1, hb1, hf2, rfl, hr, hl⟩)

theorem setT_add_hashed {k : Str} {tk : Tok} {Q : Bool → Shared → Prop} (R : SetT w s.heap a S n) (room : n + 1 < scanBound)
    (hQ : ∀ h', Heap.SameBut a s.heap h' → SetT w h' a (fun j => S j || decide (j = k)) (if S k = true then n else n + 1) → Q (!S k) { s with heap := h' }) :
    wpAny (model P w) A (setAddHashed a (.str k tk) ((PySem.strKind P w).hash k)) Q E s := by
  obtain ⟨o, es, ep, t, ho, hex, hd, g, nd, hm, hb, hf, hn, hr, hl⟩ := R
  have hkey : (PySem.strKind P w).is k (.str k tk) = true := strKind_is P w k tk
  have hsc : (Value.str k tk).scannable = true := rfl
  have hel : ElemsOf (PySem.strKind P w) es.toList := goodT_elems g
  unfold setAddHashed setAddHashedIn
  refine wpAny_holding (wpAny_bind (wpAny_setState_of ho hd hf ?_))
  dsimp only
  rw [byScan_of hsc hb hel]
  simp only [↓reduceIte]
  unfold setAddByScan
  refine wpAny_bind ?_
  refine wpAny_bind (wpAny_rule ?_)
  refine wpAny_bind (wpAny_setScan_of hkey ho hd hf hel ?_)
  cases hfi : List.findIdx? (fun e => (PySem.strKind P w).is k e.2) es.toList with
  | some j =>
    dsimp only
    obtain ⟨hj, pj, _⟩ := List.findIdx?_eq_some_iff_getElem.mp hfi
    have hSk : S k = true := (hm k).2 ((goodT_mem (P := P) (w := w) g k).2 ⟨es.toList[j], List.getElem_mem hj, pj⟩)
    refine wpAny_pure (wpAny_pure ?_)
    have q := hQ s.heap (Heap.SameBut.refl a s.heap) ⟨o, es, ep, t, ho, hex, hd, g, nd, fun i => by
      rw [Bool.or_eq_true, decide_eq_true_eq, ← hm i]
      exact ⟨fun z => z.elim id (fun e => e ▸ hSk), .inl⟩, hb, hf, by rw [if_pos hSk]; exact hn, hr, hl⟩
    rw [hSk] at q
    exact q
  | none =>
    dsimp only
    have hnk : k ∉ es.toList.map keyT := fun z => by
      obtain ⟨e, he, q⟩ := (goodT_mem (P := P) (w := w) g k).1 z
      have c := List.findIdx?_eq_none_iff.mp hfi e he
      rw [q] at c
      cases c
    have hSk : S k = false := by
      cases q : S k with
      | false => rfl
      | true => exact absurd ((hm k).1 q) hnk
    have hgw : ∀ (b : Bool) {s₁ : Shared} {Q' : Unit → Shared → Prop}, Q' () s₁ → wpAny (model P w) A (match b with | true => rule "set.scan.the-table-gave-way" | false => pure ()) Q' E s₁ :=
      fun b s₁ Q' q => by cases b <;> first | exact wpAny_pure q | exact wpAny_rule q
    have pm := layNew_perm t es ((PySem.strKind P w).hash k) (.str k tk)
    have hf1 := layNew_fits t es ((PySem.strKind P w).hash k) (.str k tk)
    have hr1 := layNew_ris t es ((PySem.strKind P w).hash k) (.str k tk) hr
    have hl1 := layNew_led t es ((PySem.strKind P w).hash k) (.str k tk)
    generalize layNew t es ((PySem.strKind P w).hash k) (.str k tk) = Z at pm hf1 hr1 hl1 ⊢
    obtain ⟨es1, t1, wasDummy, gave⟩ := Z
    dsimp only at pm hf1 hr1 hl1 ⊢
    rw [Array.toList_push] at pm
    have pc : es1.toList.Perm (((PySem.strKind P w).hash k, Value.str k tk) :: es.toList) := pm.trans (List.perm_append_singleton _ _)
    have pk : (es1.toList.map keyT).Perm (k :: es.toList.map keyT) := pc.map keyT
    have g1 : ∀ e ∈ es1.toList, GoodT w e := fun e he => by
      rcases List.mem_cons.mp (pc.mem_iff.mp he) with z | z
      · rw [z]; exact ⟨k, tk, rfl, rfl⟩
      · exact g e z
    have nd1 : (es1.toList.map keyT).Nodup := pk.nodup_iff.mpr (List.nodup_cons.mpr ⟨hnk, nd⟩)
    have m1 : ∀ i, (S i || decide (i = k)) = true ↔ i ∈ es1.toList.map keyT := fun i => by
      rw [Bool.or_eq_true, decide_eq_true_eq, hm i, pk.mem_iff, List.mem_cons]
      exact Or.comm
    have hsz : es1.size = n + 1 := by rw [← Array.length_toList, pc.length_eq, List.length_cons, Array.length_toList, hn]
    have hb1 : es1.size < scanBound := by rw [hsz]; exact room
    have hled : w.params.followText "set-order" = true ∨ t1.led = true := hl.imp id fun z => by rw [hl1]; exact z
    have fin : ∀ h', Heap.SameBut a s.heap h' → SetT w h' a (fun j => S j || decide (j = k)) es1.size → Q true { s with heap := h' } := fun h' sb r => by
      have q := hQ h' sb
      rw [hSk] at q
      rw [hsz] at r
      exact q r
    refine wpAny_bind (hgw _ ?_)
    split
    · refine wpAny_bind ?_
      rw [hashByValue_scannable 8 hsc]
      refine wpAny_pure ?_
      refine setT_add_tail ?_ ho hex hd g1 nd1 m1 hb1 ?_ ?_ ?_ ?_
      · intro b s₁ Q' q; cases b <;> first | exact wpAny_pure q | exact wpAny_rule q
      · first | (split <;> first | exact hf1 | exact SetTable.fits_plain_off hf1) | exact hf1
      · first | (split <;> exact hr1) | exact hr1
      · first | (split <;> exact hled) | exact hled
      · intro h' sb r; dsimp only; exact wpAny_pure (fin h' sb r)
    · refine wpAny_bind (wpAny_pure ?_)
      simp only [↓reduceIte]
      refine setT_add_tail ?_ ho hex hd g1 nd1 m1 hb1 hf1 hr1 hled ?_
      · intro b s₁ Q' q; cases b <;> first | exact wpAny_pure q | exact wpAny_rule q
      · intro h' sb r; dsimp only; exact wpAny_pure (fin h' sb r)

/-- found.add(k) -/
theorem setT_add {k : Str} {tk : Tok} {Q : Value → Shared → Prop} (R : SetT w s.heap a S n) (room : n + 1 < scanBound)
    (hQ : ∀ h', Heap.SameBut a s.heap h' → SetT w h' a (fun j => S j || decide (j = k)) (if S k = true then n else n + 1) → Q .none { s with heap := h', toks := s.toks + 1 }) :
    wpAny (model P w) A (call (.builtin "set.add") [.ref a, .str k tk]) Q E s := by
  have hS : s.heap.SetOf (PySem.strKind P w) a S n := R.setOf
  refine wpAny_call_entry F.slot_set_add hS.typeIs F.entry_set_add ?_ (F.args_set_add_2 _ _)
  unfold Builtin.«set.add» Builtin.Frozenset.oneOther
  simp only [List.isEmpty_nil, bind_assoc]
  unfold Builtin.Frozenset.addrOf setAdd
  refine wpAny_bind (wpAny_pure ?_)
  try dsimp only
  refine wpAny_bind (wpAny_pure ?_)
  try dsimp only
  refine wpAny_bind ?_
  refine wpAny_holding ?_
  refine wpAny_bind ((PySem.strKind P w).pyHash (strKind_is P w k tk) ?_)
  refine setT_add_hashed (s := { s with toks := s.toks + 1 }) R room fun h' sb r => ?_
  show wpAny _ _ (ret Value.none) _ _ _
  exact wpAny_pure ⟨_, rfl, hQ h' sb r⟩
end
theorem setT_new_at {w : World} {h : Heap} {a : Addr} {ns : List Str} (ho : h.get? a = some { cls := .type "set", dict := none, data := .set #[] 0 (.fresh 0 0 (!w.params.followText "set-order")) }) : SetT w h a (fun j => decide (j ∈ ns.take 0)) 0 :=
  ⟨_, #[], 0, _, ho, ⟨rfl, rfl, rfl⟩, rfl, (fun e he => by simp at he), (by simp), (fun k => by simp), (by decide), (by rfl), rfl, List.Pairwise.nil, by
    show _ ∨ (!w.params.followText "set-order") = true
    cases w.params.followText "set-order"
    · exact .inr rfl
    · exact .inl rfl⟩
section
variable {P : Program} {w : World} {A : Around} {E : Value → Shared → Prop} {s : Shared}
theorem setT_update {I : Addr} {fp wr : List Addr} {G : Array GenState → Array GenState → Prop} {n : Nat} {Pv : Nat → Value → Prop} {St : Nat → Shared → Prop} {R : Result → Shared → Prop}
    (W : WalksS P w A.in1 I fp wr G n Pv St) (S : Addr) (hSf : S ∉ fp) (ns : List Str) (hn : n = ns.length) (hb : ns.length + 1 < scanBound) (hval : ∀ i v, Pv i v → ∃ k t, ns[i]? = some k ∧ v = .str k t) :
    ∀ (k i : Nat) (s : Shared), n - i = k → i ≤ n → St i s → (∃ c, c ≤ i ∧ SetT w s.heap S (fun j => decide (j ∈ ns.take i)) c) →
      (∀ s' c, Moved (S :: wr) G s s' → c ≤ n → SetT w s'.heap S (fun j => decide (j ∈ ns)) c → R (.ok (.ret .none)) s') →
      codeAny (model P w) A (.builtin "set.update.loop" ⟨[.ref S, .ref I], []⟩) R s := by
  have hSw : S ∉ wr := fun h => hSf (W.sub _ h)
  have hsub : ∀ b ∈ wr, b ∈ S :: wr := fun b hb => List.mem_cons_of_mem _ hb
  intro k
  induction k with
  | zero =>
    intro i s hk' hi hst ⟨c, hc, hS⟩ hR
    have hin : i = n := by omega
    subst hin
    refine codeAny_builtin F.entry_set_update_loop ?_
    rw [Around.under_plainId F.plain_set_update_loop _]
    show wpAny _ A.in1 (pyNext (.ref I) >>= _) _ _ s
    refine wpAny_bind (W.done s _ _ hst fun s' hm => ?_)
    show wpAny _ A.in1 (ret Value.none) _ _ s'
    have e : ns.take i = ns := List.take_of_length_le (by omega)
    rw [e] at hS
    exact wpAny_pure (hR s' c (hm.mono hsub) hc (hS.at fun o e => hm.heap S o hSw e))
  | succ k ih =>
    intro i s hk' hi hst ⟨c, hc, hS⟩ hR
    have hlt : i < n := by omega
    refine codeAny_builtin F.entry_set_update_loop ?_
    rw [Around.under_plainId F.plain_set_update_loop _]
    show wpAny _ A.in1 (pyNext (.ref I) >>= _) _ _ s
    refine wpAny_bind (W.item i s _ _ hlt hst fun v s' hP hst' hm => ?_)
    obtain ⟨z, t, hz, rfl⟩ := hval i v hP
    have hS' : SetT w s'.heap S (fun j => decide (j ∈ ns.take i)) c := hS.at fun o e => hm.heap S o hSw e
    show wpAny _ A.in1 (holding [Value.str z t] (setAdd S (.str z t)) >>= _) _ _ s'
    refine wpAny_bind (wpAny_holding ?_)
    unfold setAdd
    refine wpAny_holding ?_
    refine wpAny_bind ((PySem.strKind P w).pyHash (k := z) (strKind_is _ _ _ _) ?_)
    refine setT_add_hashed (s := { s' with toks := s'.toks + 1 }) hS' (by omega) fun h' hsb hS2 => ?_
    have hS3 : SetT w h' S (fun j => decide (j ∈ ns.take (i + 1))) (if decide (z ∈ ns.take i) = true then c else c + 1) := hS2.congr fun j => by
      rw [List.take_add_one, hz]
      simp [List.mem_append]
    have hc3 : (if decide (z ∈ ns.take i) = true then c else c + 1) ≤ i + 1 := by
      split <;> omega
    refine wpAny_pure ⟨plainId_quiet F.plain_set_update_loop _, ih (i + 1) _ (by omega) hlt (W.frame _ s' _ _ hst' (Nat.le_succ _) fun b hb o e => ?_) ⟨_, hc3, hS3⟩ fun s'' c2 hm'' hc'' hS'' => ?_⟩
    · rw [hsb.2 b (fun h : b = S => hSf (by rw [← h]; exact hb))]; exact e
    · refine hR s'' c2 (Moved.trans W.gtrans ((hm.mono hsub).then_heap (Nat.le_succ _) fun b o hb e => ?_) hm'') hc'' hS''
      rw [hsb.2 b (fun h : b = S => hb (by rw [h]; exact List.mem_cons_self))]; exact e

theorem strsT_at : ∀ {vs : List Value} {ns : List Str}, StrsAre vs ns → ∀ (i : Nat) (v : Value), vs[i]? = some v → ∃ t, v = .str (ns.getD i ⟨#[]⟩) t
  | _, _, .nil, _, _, e => by simp at e
  | _, _, .cons y t _, 0, _, e => by
    cases e
    exact ⟨t, rfl⟩
  | _, _, .cons _ _ h, i + 1, v, e => by
    obtain ⟨t, q⟩ := strsT_at h i v (by simpa using e)
    exact ⟨t, by simpa using q⟩
theorem call_set_lstS {l : Addr} {items : Array Value} (ns : List Str) {Q : Value → Shared → Prop} (hh : A.handled = none) (hl : s.heap.IsList l items) (hit : StrsAre items.toList ns) (hb : ns.length + 1 < scanBound)
    (h : ∀ (h' : Heap) (tk c : Nat), SetT w h' s.heap.objs.size (fun j => decide (j ∈ ns)) c → c ≤ ns.length → (∀ b o, s.heap.get? b = some o → h'.get? b = some o) → Q (.ref s.heap.objs.size) { s with heap := h', toks := tk }) :
    wpAny (model P w) A (call (.type "set") [.ref l]) Q E s := by
  have hisz : items.size = ns.length := by
    have q := StrsAre.length hit
    rw [Array.length_toList] at q
    exact q
  obtain ⟨c, tl, hmro⟩ := F.called_set.mro
  have hmade := F.called_set.made
  have hsub := F.called_set.sub
  refine wpAny_call (codeAny_of_tree ?_)
  show wpAny _ _ (callAny (.type "set") _) _ _ _
  refine wpAny_pure ⟨Code.quiet_builtin _ (by decide +kernel), codeAny_builtin F.entry_type_call ?_⟩
  rw [Around.under_plain (weight_type_call_type "set" [.ref l] []) rfl]
  have h1 := F.called_set.notType
  have h2 := F.called_set.canCreate
  have hct := F.typeCall_set_1 (.ref l)
  repeat (any_goals (first | assumption | wp_step))

  refine codeAny_mono (code_set_led1 (.ref l) (E := E) (Q₁ := fun obj s₁ => obj = .ref s.heap.objs.size ∧ s₁ = { s with heap := s.heap.push { cls := .type "set", dict := none, data := .set #[] 0 (.fresh 0 0 (!w.params.followText "set-order")) } }) ⟨rfl, rfl⟩) fun r s₁ hr => ?_
  cases r with
  | error e => exact hr
  | ok fl =>
    cases fl with
    | ret obj =>
      obtain ⟨rfl, rfl⟩ := hr
      have hS : (s.heap.push { cls := .type "set", dict := none, data := .set #[] 0 (.fresh 0 0 (!w.params.followText "set-order")) }).get? s.heap.objs.size = some { cls := .type "set", dict := none, data := .set #[] 0 (.fresh 0 0 (!w.params.followText "set-order")) } := Heap.get?_push_size _ rfl
      have hT : Shared.TypeIs { s with heap := s.heap.push { cls := .type "set", dict := none, data := .set #[] 0 (.fresh 0 0 (!w.params.followText "set-order")) } } (.ref s.heap.objs.size) "set" := ⟨_, hS, rfl⟩
      have hli := F.called_set.init.lookup
      have hbi := F.called_set.init.bind (.ref s.heap.objs.size)
      repeat (any_goals (first | assumption | wp_step))

      refine codeAny_mono (codeAny_call_builtin (R := wants (fun r s₂ => r = .none ∧ ∃ h' tk c, s₂ = { s with heap := h', toks := tk } ∧ SetT w h' s.heap.objs.size (fun j => decide (j ∈ ns)) c ∧ c ≤ ns.length ∧
          (∀ b o, s.heap.get? b = some o → h'.get? b = some o)) E) F.called_set.init.plain F.entry_set_init (check_set_init_1 hT ?_)) fun r₂ s₂ hr₂ => ?_
      · obtain ⟨ol, hol, hcl, nl, hdl⟩ := hl
        obtain ⟨ocls, odict, odata, oslots⟩ := ol
        simp only at hcl hdl
        subst hcl; subst hdl
        have hol' : (s.heap.push { cls := .type "set", dict := none, data := .set #[] 0 (.fresh 0 0 (!w.params.followText "set-order")) }).get? l = some { cls := .type "list", dict := odict, data := .seq items nl, slots := oslots } := Heap.get?_push_of_some _ hol
        have hsls := F.sub_list_set
        have hslf := F.sub_list_frozenset
        have hne : (Value.type "list" == Value.type "dict") = false := by decide
        have hl1 : (s.heap.push { cls := .type "set", dict := none, data := .set #[] 0 (.fresh 0 0 (!w.params.followText "set-order")) }).IsList l items := ⟨_, hol', rfl, nl, rfl⟩
        unfold Builtin.«set.__init__» noKeywords Builtin.Frozenset.updateFrom
        generalize hPI : pyIter = PI
        wp_walk
        subst hPI

        refine wpAny_pyIter_list hl1 ?_
        refine wpAny_bind (wpAny_runValue ?_)
        have hlS : l < s.heap.objs.size := Heap.lt_size hol
        have hh3 : A.in1.in1.in1.handled = none := by simp [hh]
        have hz1 : (s.heap.push { cls := .type "set", dict := none, data := .set #[] 0 (.fresh 0 0 (!w.params.followText "set-order")) }).objs.size = s.heap.objs.size + 1 := Heap.size_push ..
        have hneI : l ≠ (s.heap.push { cls := .type "set", dict := none, data := .set #[] 0 (.fresh 0 0 (!w.params.followText "set-order")) }).objs.size := by
          rw [Heap.size_push]; exact Nat.ne_of_lt (Nat.lt_succ_of_lt hlS)
        have hSf : s.heap.objs.size ∉ [(s.heap.push { cls := .type "set", dict := none, data := .set #[] 0 (.fresh 0 0 (!w.params.followText "set-order")) }).objs.size, l] := by
          rw [Heap.size_push]; simp only [List.mem_cons, List.mem_singleton, List.not_mem_nil, or_false, not_or]
          exact ⟨Nat.ne_of_lt (Nat.lt_succ_self _), Nat.ne_of_gt hlS⟩
        have hval : ∀ (i : Nat) (v : Value), items[i]? = some v → ∃ k t, ns[i]? = some k ∧ v = .str k t := fun i v hv => by
          have hi : i < ns.length := by rw [← hisz]; exact (Array.getElem?_eq_some_iff.mp hv).1
          obtain ⟨t, e⟩ := strsT_at hit i v (by rw [Array.getElem?_toList]; exact hv)
          refine ⟨ns[i], t, List.getElem?_eq_getElem hi, ?_⟩
          rw [e, List.getD_eq_getElem?_getD, List.getElem?_eq_getElem hi] <;> rfl
        refine setT_update ((Walks.list hh3 _ l hneI items).toS) s.heap.objs.size
          hSf ns hisz hb hval (items.size - 0) 0 _ (by omega) (Nat.zero_le _)
          ⟨⟨_, Heap.get?_push_size _ rfl, rfl, rfl⟩, (hl1.push _)⟩ ?hS0 ?hR
        case hS0 =>
          have hget : ((s.heap.push { cls := .type "set", dict := none, data := .set #[] 0 (.fresh 0 0 (!w.params.followText "set-order")) }).push { cls := .type "list_iterator", data := .fields #[.ref l, .int 0 0] }).get? s.heap.objs.size
              = some { cls := .type "set", dict := none, data := .set #[] 0 (.fresh 0 0 (!w.params.followText "set-order")) } := Heap.get?_push_of_some _ hS
          exact ⟨0, Nat.le_refl 0, setT_new_at hget⟩
        case hR =>
          intro s' c' hm hc' hS'
          obtain ⟨h', g2, d', tk', os'⟩ := s'
          have eg : g2 = s.gens := hm.gens
          have ed : d' = s.drawn := hm.drawn
          have eo : os' = s.os := hm.os
          subst eg; subst ed; subst eo
          show wpAny _ _ _ _ _ _
          refine wpAny_pure ?_
          show wpAny _ _ (ret Value.none) _ _ _
          rw [hisz] at hc'
          refine wpAny_pure ⟨rfl, h', tk', c', rfl, hS', hc', fun b o e => ?_⟩
          have hb0 : b < s.heap.objs.size := Heap.lt_size e
          have hb1 : b ≠ s.heap.objs.size := Nat.ne_of_lt hb0
          have hb2 : b ≠ (s.heap.push { cls := .type "set", dict := none, data := .set #[] 0 (.fresh 0 0 (!w.params.followText "set-order")) }).objs.size := by
            rw [Heap.size_push]; exact Nat.ne_of_lt (Nat.lt_succ_of_lt hb0)
          exact hm.heap b o (by simp only [List.mem_cons, List.mem_singleton, List.not_mem_nil, or_false, not_or]; exact ⟨hb1, hb2⟩) (Heap.get?_push_of_some _ (Heap.get?_push_of_some _ e))

      · cases r₂ with
        | error e => exact hr₂
        | ok fl₂ =>
          cases fl₂ with
          | ret r =>
            obtain ⟨rfl, h', tk, c', rfl, hS', hc', hk'⟩ := hr₂
            repeat (any_goals (first | assumption | wp_step))
            exact h _ _ _ hS' hc' hk'
          | _ => exact hr₂.elim
    | _ => exact hr.elim

end
section
variable {P : Program} {w : World} {A : Around} {E : Value → Shared → Prop} {s : Shared} {a : Addr}
theorem strs_of : ∀ (l : List Value), (∀ v ∈ l, ∃ k tk, v = Value.str k tk) → PySem.W.EachIs (fun v z => ∃ t, v = Value.str z t) l (l.map fun v => keyT (0, v))
  | [], _ => .nil
  | v :: l, h => by
    obtain ⟨k, tk, rfl⟩ := h v List.mem_cons_self
    exact .cons ⟨tk, rfl⟩ (strs_of l fun u hu => h u (List.mem_cons_of_mem _ hu))
theorem sorted_setT {S : Str → Bool} {n : Nat} {Q : Value → Shared → Prop} (R : SetT w s.heap a S n) (hh : A.handled = none) (h64 : n ≤ 1000) (hu : A.units + 4 < cLine)
    (hQ : ∀ s' p (out : List Value) (c : Nat) (ns : List Str), (∀ b o, s.heap.get? b = some o → s'.heap.get? b = some o) → s'.gens = s.gens → s'.os = s.os → s.heap.objs.size ≤ p →
      s'.heap.get? p = some (seqObj "list" out.toArray c) → PySem.W.EachIs (fun v z => ∃ t, v = Value.str z t) out ns → (∃ ms : List Str, ns = ms.mergeSort (PySem.W.dataLe false PyData.str) ∧ ms.Nodup ∧ (∀ k, k ∈ ms ↔ S k = true)) → ns.length = n → Q (.ref p) s') :
    wpAny (model P w) A (call (.builtin "sorted") [.ref a]) Q E s := by
  obtain ⟨o, es, ep, t, ho, hex, hd, g, nd, hm, hb, hf, hn, hr, hl⟩ := R
  refine Calls.call_function_entry kind_sorted plain_sorted entry_sorted (args_sorted1 _) ?_
  unfold Builtin.«sorted»
  refine wpAny_bind (m := checkCount "sorted" 1 1 _) (wpAny_pure ?_)
  refine wpAny_bind (collect_set (A := A.in1) hh ⟨o, ho, hex.1, hd⟩ hf hb hr hl fun s1 vs k1 hz g1 o1 pm => ?_)
  have hvl : vs.length = n := by rw [pm.length_eq, List.length_map, Array.length_toList]; exact hn
  have hI := strs_of vs fun v hv => by
    obtain ⟨e, he, q⟩ := List.mem_map.mp (pm.mem_iff.mp hv)
    obtain ⟨k, tk, h1, _⟩ := g e he
    exact ⟨k, tk, by rw [← q]; exact h1⟩
  have pk : (vs.map fun v => keyT (0, v)).Perm (es.toList.map keyT) := by
    have q := pm.map fun v => keyT (0, v)
    rw [List.map_map] at q
    exact q
  refine wpAny_bind (wpAny_newList ?_ (by rw [hvl, sizeLine_eq]; omega))
  have hoL : (s1.heap.push (seqObj "list" vs.toArray 0)).get? s1.heap.objs.size = some (seqObj "list" vs.toArray 0) := Heap.get?_push_size _ rfl
  refine wpAny_bind (wpAny_holding (PySem.W.list_sort_data (enc := PyData.str) (bs := vs.map fun v => keyT (0, v)) hoL hI (hI.mono fun v z q => ?_) (PySem.W.AllAlike.of fun b b' => ?_) (PySem.W.Sortable.others fun b => ⟨(nomatch ·), fun xs => (nomatch ·)⟩) (by rw [List.length_map, hvl, sizeLine_eq]; omega) (fun b hb => ?_) fun out ho1 ho2 => ?_))
  · obtain ⟨t, rfl⟩ := q
    exact ⟨[], .str _ _, by simp⟩
  · simp [PySem.W.alike]
  · simp [PyData.depth]
    show A.in1.units + 1 < cLine
    simp
    omega
  obtain ⟨c, hc⟩ := sortedHeap_at (vs := vs) (out := out.toArray) hoL
  refine wpAny_pure ⟨_, rfl, hQ _ s1.heap.objs.size out c _ (fun b u e => ?_) g1 o1 hz hc ho2 ⟨_, rfl, pk.nodup_iff.mpr nd, fun k => by rw [pk.mem_iff, ← hm k]⟩ ?_⟩
  · have q := k1 b u e
    have hlt := Heap.lt_size q
    show (sortedHeap (s1.heap.push (seqObj "list" vs.toArray 0)) s1.heap.objs.size vs out.toArray).get? b = some u
    rw [sortedHeap_old (Nat.ne_of_lt hlt) (by rw [size_push']; exact Nat.lt_succ_of_lt hlt)]
    exact Heap.get?_push_of_some _ q
  · rw [List.length_mergeSort, List.length_map]; exact hvl
end
end L2
namespace DL
open PySem L2
/-! ### a def of which one argument is an own thing of the caller's, which it may change -/
def Sl.q : Sl → Option Addr
  | .o q _ => q
  | .k q _ => q
  | _ => none
def Sl.re : Sl → Option Addr → Sl
  | .o _ ds, q => .o q ds
  | .k _ kvs, q => .k q kvs
  | s, _ => s
def Sl.tr : Sl → Bool
  | .o _ _ => true
  | .k _ _ => true
  | _ => false
section
variable {K : Fr} {F H : Hp} {v : V} {A : Addr → Prop} {s : Sl}
theorem svr_ref (h : SvR K F H v A s) (ht : s.tr = true) : ∃ p, v = .ref p ∧ A p ∧ H p ≠ none ∧ ∀ a, s.q = some a → p = a := by
  cases s with
  | o q ds =>
    obtain ⟨p, vs, h1, h2, h3, h4, h5⟩ := h
    exact ⟨p, h1, h4, nn h2, h5⟩
  | k q ds =>
    obtain ⟨p, vs, h1, h2, h3, h4, h5, h6⟩ := h
    exact ⟨p, h1, h5, nn h2, h6⟩
  | _ => cases ht
theorem svr_re {p : Addr} (h : SvR K F H (.ref p) A s) (q : Option Addr) (hq : ∀ a, q = some a → p = a) : SvR K F H (.ref p) A (s.re q) := by
  cases s with
  | o q' ds =>
    obtain ⟨p', vs, h1, h2, h3, h4, h5⟩ := h
    cases h1
    exact ⟨p, vs, rfl, h2, h3, h4, hq⟩
  | k q' ds =>
    obtain ⟨p', vs, h1, h2, h3, h4, h5, h6⟩ := h
    cases h1
    exact ⟨p, vs, rfl, h2, h3, h4, h5, hq⟩
  | _ => exact h
theorem re_tr (q : Option Addr) : (s.re q).tr = s.tr := by cases s <;> rfl
theorem re_un (q : Option Addr) (ht : s.tr = true) : s.re q ≠ .un := by
  cases s <;> simp [Sl.tr, Sl.re] at *
theorem tr_un (ht : s.tr = true) : s ≠ .un := by
  cases s <;> simp [Sl.tr] at *
end
/-- what a call leaves: ok tells the addresses that a result's own thing may have -/
def spG (K : Fr) (pre : List PyData → Sl → List PyData → Prop) (post : List PyData → Sl → List PyData → Sl → Rs → Prop) (exc : List PyData → Sl → List PyData → Sl → Value → Prop) : Sp := fun vs H Q E =>
  ∃ F p A vs1 vs2 ds1 s ds2, vs = vs1 ++ .ref p :: vs2 ∧ Ex F H ∧ s.tr = true ∧ SvR K F H (.ref p) A s ∧ (∀ a, A a → F a = none ∧ H a ≠ none) ∧ DqAll K F vs1 ds1 ∧ DqAll K F vs2 ds2 ∧ pre ds1 s ds2 ∧
  (∀ v F' H' A' s' r, Ex F F' → Ex F' H' → (∀ b o, H b = some o → ¬ A b → H' b = some o) → (∀ b, H b ≠ none → H' b ≠ none) → (∀ b o, F' b = some o → F b = none → H b = none ∨ A b) → s'.tr = true → SvR K F' H' (.ref p) A' s' →
    (∀ a, A' a → F' a = none ∧ H' a ≠ none ∧ (A a ∨ H a = none)) → Rr K (fun a => (H a = none ∨ A a) ∧ ¬ A' a) F' H' v r → post ds1 s ds2 s' r → Q v H') ∧
  ∀ cls F' H' A' s', Ex F F' → Ex F' H' → (∀ b o, H b = some o → ¬ A b → H' b = some o) → (∀ b, H b ≠ none → H' b ≠ none) → (∀ b o, F' b = some o → F b = none → H b = none ∨ A b) → s'.tr = true → SvR K F' H' (.ref p) A' s' →
    (∀ a, A' a → F' a = none ∧ H' a ≠ none ∧ (A a ∨ H a = none)) → exc ds1 s ds2 s' cls → E cls none H'
section
variable {K : Fr} {B : Bs} {G : En} {S : St} {F H F' H' : Hp}
/-- slot i's own thing was changed by a call -/
theorem Iv.called {i : Nat} {s s' : Sl} {p : Addr} {A A' : Addr → Prop} {An : Nat → Addr → Prop} (I : Iv K B G S F H) (hi : G[i]? = some s) (hS : S[i]? = some (some (.ref p))) (hA : A = An i)
    (h1 : ∀ i s, G[i]? = some s → s = .un ∨ ∃ v, S[i]? = some (some v) ∧ SvR K F H v (An i) s) (h2 : ∀ i j a, An i a → An j a → i = j) (h3 : ∀ i a, An i a → F a = none ∧ H a ≠ none ∧ (B.H0 a = none ∨ B.mu a))
    (a1 : Ex F F') (a2 : Ex F' H') (a3 : ∀ b o, H b = some o → ¬ A b → H' b = some o) (a4 : ∀ b, H b ≠ none → H' b ≠ none) (a5 : ∀ b o, F' b = some o → F b = none → H b = none ∨ A b) (a6 : SvR K F' H' (.ref p) A' s')
    (a7 : ∀ a, A' a → F' a = none ∧ H' a ≠ none ∧ (A a ∨ H a = none)) : Iv K B (G.set i s') S F' H' ∧ ∀ j b, An j b → j ≠ i → F' b = none ∧ H' b ≠ none ∧ ¬ A' b := by
  subst hA
  have own : ∀ j b, An j b → j ≠ i → F' b = none ∧ H' b = H b ∧ H' b ≠ none ∧ ¬ A' b := fun j b hb hj => by
    obtain ⟨x, y, z⟩ := h3 j b hb
    have nA : ¬ An i b := fun z => hj (h2 _ _ _ hb z)
    refine ⟨?_, ?_, a4 b y, fun w => ?_⟩
    · cases q : F' b with
      | none => rfl
      | some o =>
        rcases a5 b o q x with z | z
        · exact absurd z y
        · exact absurd z nA
    · cases q : H b with
      | none => exact absurd q y
      | some o => exact a3 b o q nA
    · rcases (a7 b w).2.2 with z | z
      · exact nA z
      · exact y z
  refine ⟨⟨a2, I.f0.trans a1, fun b o hb hm => ?_, fun b o hb hn => ?_, fun b hb => a4 b (I.st b hb), by simpa using I.len, fun j b => if j = i then A' b else An j b, fun j s2 hj => ?_, fun j k b x y => ?_, fun j b x => ?_⟩, fun j b hb hj => ⟨(own j b hb hj).1, (own j b hb hj).2.2.1, (own j b hb hj).2.2.2⟩⟩
  · refine a3 b o (I.fr b o hb hm) fun z => ?_
    rcases (h3 i b z).2.2 with y | y
    · rw [hb] at y
      cases y
    · exact hm y
  · cases q : F b with
    | some u => exact I.nw b u q hn
    | none =>
      rcases a5 b o hb q with z | z
      · exact absurd (I.new0 z) hn
      · rcases (h3 i b z).2.2 with y | y
        · exact absurd y hn
        · exact .inr y
  · by_cases e : i = j
    · subst e
      obtain ⟨rfl, _⟩ := set_same hj
      refine .inr ⟨_, hS, ?_⟩
      simpa using a6
    · rw [List.getElem?_set_ne e] at hj
      have e' : ¬ j = i := fun z => e z.symm
      rcases h1 j s2 hj with z | ⟨u, x1, x2⟩
      · exact .inl z
      · refine .inr ⟨u, x1, ?_⟩
        simp only [e', if_false]
        exact slr_stab x2 a1 fun b hb => (own j b hb e').2.1
  · by_cases ej : j = i <;> by_cases ek : k = i
    · rw [ej, ek]
    · simp only [ej, ek, if_true, if_false] at x y
      exact absurd x (own k b y ek).2.2.2
    · simp only [ej, ek, if_true, if_false] at x y
      exact absurd y (own j b x ej).2.2.2
    · simp only [ej, ek, if_false] at x y
      exact h2 _ _ _ x y
  · by_cases ej : j = i
    · simp only [ej, if_true] at x
      obtain ⟨y1, y2, y3⟩ := a7 b x
      refine ⟨y1, y2, ?_⟩
      rcases y3 with y | y
      · exact (h3 i b y).2.2
      · exact .inl (I.new0 y)
    · simp only [ej, if_false] at x
      exact ⟨(own j b x ej).1, (own j b x ej).2.2.1, (h3 j b x).2.2⟩
/-- .. and gave an own thing besides -/
theorem Iv.addO {s : Sl} {v : V} {A0 : Addr → Prop} (I : Iv K B G S F H) (hs : SvR K F H v A0 s) (hn : ∀ a, A0 a → F a = none ∧ H a ≠ none ∧ (B.H0 a = none ∨ B.mu a))
    (own : ∃ An : Nat → Addr → Prop, (∀ i s, G[i]? = some s → s = .un ∨ ∃ v, S[i]? = some (some v) ∧ SvR K F H v (An i) s) ∧ (∀ i j a, An i a → An j a → i = j) ∧ (∀ i a, An i a → F a = none ∧ H a ≠ none ∧ (B.H0 a = none ∨ B.mu a)) ∧ ∀ i a, An i a → ¬ A0 a) :
    Iv K B (G ++ [s]) (S ++ [some v]) F H := by
  obtain ⟨An, b1, b2, b3, b4⟩ := own
  have hl := I.len
  refine ⟨I.ex, I.f0, I.fr, I.nw, I.st, by simp [hl], fun j b => if j = G.length then A0 b else An j b ∧ j < G.length, fun j s2 hj => ?_, fun j k b x y => ?_, fun j b x => ?_⟩
  · rcases app_get hj with ⟨hlt, h⟩ | ⟨rfl, rfl⟩
    · have e : ¬ j = G.length := by omega
      rcases b1 j s2 h with z | ⟨u, x1, x2⟩
      · exact .inl z
      · refine .inr ⟨u, by rw [List.getElem?_append_left (by omega)]; exact x1, ?_⟩
        simp only [e, if_false]
        have ea : (fun b => An j b ∧ j < G.length) = An j := by
          funext b
          exact propext ⟨fun z => z.1, fun z => ⟨z, hlt⟩⟩
        rw [ea]
        exact x2
    · refine .inr ⟨v, by rw [List.getElem?_append_right (by omega), hl]; simp, ?_⟩
      simpa using hs
  · by_cases ej : j = G.length <;> by_cases ek : k = G.length
    · rw [ej, ek]
    · simp only [ej, ek, if_true, if_false] at x y
      exact absurd x (b4 _ _ y.1)
    · simp only [ej, ek, if_true, if_false] at x y
      exact absurd y (b4 _ _ x.1)
    · simp only [ej, ek, if_false] at x y
      exact b2 _ _ _ x.1 y.1
  · by_cases ej : j = G.length
    · simp only [ej, if_true] at x
      exact hn b x
    · simp only [ej, if_false] at x
      exact b3 j b x.1
end
/-- the arguments: one own thing among data -/
def splitW : List W → Option (List PyData × Nat × List PyData)
  | [] => none
  | .d d :: r => (splitW r).map fun x => (d :: x.1, x.2)
  | .sl i :: r => (allD r).map fun ds => ([], i, ds)
  | .ty _ :: _ => none
theorem splitW_ok {K : Fr} {S : St} {F : Hp} : ∀ {ws : List W} {ds1 : List PyData} {i : Nat} {ds2 : List PyData} {vs : List V}, splitW ws = some (ds1, i, ds2) → Vws K S F vs ws → ∃ vs1 v vs2, vs = vs1 ++ v :: vs2 ∧ S[i]? = some (some v) ∧ DqAll K F vs1 ds1 ∧ DqAll K F vs2 ds2
  | .d d :: r, ds1, i, ds2, _, e, .cons h t => by
    simp only [splitW, Option.map_eq_some_iff] at e
    obtain ⟨⟨a, b, c⟩, e1, e2⟩ := e
    cases e2
    obtain ⟨vs1, v, vs2, rfl, h2, h3, h4⟩ := splitW_ok e1 t
    exact ⟨_ :: vs1, v, vs2, rfl, h2, .cons h h3, h4⟩
  | .sl i :: r, ds1, _, ds2, _, e, .cons h t => by
    simp only [splitW, Option.map_eq_some_iff] at e
    obtain ⟨ds, e1, e2⟩ := e
    cases e2
    exact ⟨[], _, _, rfl, h, .nil, allD_ok e1 t⟩
  | [], _, _, _, _, e, _ => by cases e
  | .ty _ :: _, _, _, _, _, e, _ => by cases e
section
variable {K : Fr} {B : Bs} {G : En} {P : Po} {t : TA} {E : XK} {S : St} {F H F1 H1 : Hp} {Q : VK} {vs : List V} {ws : List W}
variable {pre : List PyData → Sl → List PyData → Prop} {post : List PyData → Sl → List PyData → Sl → Rs → Prop} {exc : List PyData → Sl → List PyData → Sl → Value → Prop}
theorem coreG {ds1 ds2 : List PyData} {i : Nat} {s : Sl} {G1 : En} (k : Ct K B S F P Q) (e1 : Ex F F1) (I1 : Iv K B G1 S F1 H1) (hv : Vws K S F1 vs ws) (hd : splitW ws = some (ds1, i, ds2)) (hi : G1[i]? = some s) (ht : s.tr = true) (hp : pre ds1 (s.re none) ds2)
    (q : ∀ s' r, s'.tr = true → post ds1 (s.re none) ds2 s' r → P (G1.set i (s'.re s.q)) r) (qx : ∀ cls F' H' s', s'.tr = true → Iv K B (G1.set i (s'.re s.q)) S F' H' → exc ds1 (s.re none) ds2 s' cls → E cls none H') : spG K pre post exc vs H1 Q E := by
  obtain ⟨vs1, v, vs2, rfl, hS, m1, m2⟩ := splitW_ok hd hv
  obtain ⟨An, h1, h2, h3⟩ := I1.own
  obtain ⟨u, z1, z2⟩ : ∃ v, S[i]? = some (some v) ∧ SvR K F1 H1 v (An i) s := (h1 i _ hi).elim (fun z => absurd z (tr_un ht)) id
  rw [hS] at z1
  cases z1
  obtain ⟨p, rfl, hAp, _, hq⟩ := svr_ref z2 ht
  refine ⟨F1, p, An i, vs1, vs2, ds1, s.re none, ds2, rfl, I1.ex, by rw [re_tr]; exact ht, svr_re z2 none (fun _ z => nomatch z), fun a ha => ⟨(h3 i a ha).1, (h3 i a ha).2.1⟩, m1, m2, hp, fun v F2 H2 A' s' r a1 a2 a3 a4 a5 a6 a7 a8 a9 b0 => ?_, fun cls F2 H2 A' s' a1 a2 a3 a4 a5 a6 a7 a8 b0 => ?_⟩
  · obtain ⟨J, own⟩ := I1.called hi hS rfl h1 h2 h3 a1 a2 a3 a4 a5 (svr_re a7 s.q hq) a8
    match r, a9, b0 with
    | .p (.d d), a9, b0 => exact k v F2 H2 _ (.p (.d d)) (e1.trans a1) ⟨J, a9⟩ (q _ _ a6 b0)
    | .fr s2, ⟨A2, c1, c2⟩, b0 =>
      refine k v F2 H2 _ (.fr s2) (e1.trans a1) ?_ (q _ _ a6 b0)
      refine J.addO c1 (fun a ha => ⟨(c2 a ha).1, (c2 a ha).2.1, (c2 a ha).2.2.1.elim (fun z => .inl (I1.new0 z)) fun z => (h3 i a z).2.2⟩) ⟨fun j b => if j = i then A' b else An j b, fun j s3 hj => ?_, fun j l b x y => ?_, fun j b x => ?_, fun j b x => ?_⟩
      · by_cases e : i = j
        · subst e
          obtain ⟨rfl, _⟩ := set_same hj
          refine .inr ⟨_, hS, ?_⟩
          simpa using svr_re a7 s.q hq
        · rw [List.getElem?_set_ne e] at hj
          have e' : ¬ j = i := fun z => e z.symm
          rcases h1 j s3 hj with z | ⟨u, x1, x2⟩
          · exact .inl z
          · refine .inr ⟨u, x1, ?_⟩
            simp only [e', if_false]
            refine slr_stab x2 a1 fun b hb => ?_
            cases y : H1 b with
            | none => exact absurd y (h3 j b hb).2.1
            | some o => exact a3 b o y fun z => e' (h2 _ _ _ hb z)
      · by_cases ej : j = i <;> by_cases el : l = i
        · rw [ej, el]
        · simp only [ej, el, if_true, if_false] at x y
          exact absurd x (own l b y el).2.2
        · simp only [ej, el, if_true, if_false] at x y
          exact absurd y (own j b x ej).2.2
        · simp only [ej, el, if_false] at x y
          exact h2 _ _ _ x y
      · by_cases ej : j = i
        · simp only [ej, if_true] at x
          obtain ⟨y1, y2, y3⟩ := a8 b x
          refine ⟨y1, y2, ?_⟩
          rcases y3 with y | y
          · exact (h3 i b y).2.2
          · exact .inl (I1.new0 y)
        · simp only [ej, if_false] at x
          exact ⟨(own j b x ej).1, (own j b x ej).2.1, (h3 j b x).2.2⟩
      · by_cases ej : j = i
        · simp only [ej, if_true] at x
          exact fun z => (c2 b z).2.2.2 x
        · simp only [ej, if_false] at x
          exact fun z => (c2 b z).2.2.1.elim (h3 j b x).2.1 fun y => ej (h2 _ _ _ x y)
  · obtain ⟨J, _⟩ := I1.called hi hS rfl h1 h2 h3 a1 a2 a3 a4 a5 (svr_re a7 s.q hq) a8
    exact qx cls F2 H2 s' a6 J b0
end
/-! .. by a parameter -/
def spH {ι : Type} (K : Fr) (args1 : ι → List PyData) (own : ι → Sl) (args2 : ι → List PyData) (pre : ι → Prop) (res : ι → Sl → Rs → Prop) (exc : ι → Sl → Value → Prop) : Sp := fun vs H Q E =>
  ∃ x, pre x ∧ spG K (fun a s b => a = args1 x ∧ s.re none = (own x).re none ∧ b = args2 x) (fun _ _ _ s' r => res x (s'.re none) r) (fun _ _ _ s' c => exc x (s'.re none) c) vs H Q E
section
variable {K : Fr} {B : Bs} {G : En} {P : Po} {t : TA} {E : XK} {ι : Type} {args1 args2 : ι → List PyData} {own : ι → Sl} {pre : ι → Prop} {res : ι → Sl → Rs → Prop} {exc : ι → Sl → Value → Prop}
theorem re_re {s : Sl} {q q' : Option Addr} : (s.re q).re q' = s.re q' := by cases s <;> rfl
theorem dw_callHX {ex0 : Value → Prop} (hE : Tk K B ex0 E) (h : DA K B G t fun G1 ws => ∃ x i s, pre x ∧ splitW ws = some (args1 x, i, args2 x) ∧ G1[i]? = some s ∧ s.tr = true ∧ s.re none = (own x).re none ∧ (∀ s' r, s'.tr = true → res x s' r → P (G1.set i (s'.re s.q)) r) ∧ ∀ s' c, exc x s' c → ex0 c) :
    DW K B G (tCall (spH K args1 own args2 pre res exc) [] E t) P := fun S F H Q I k => by
  show t S H fun vs H1 => spH K args1 own args2 pre res exc (vs ++ []) H1 Q E
  refine h S F H _ I fun vs F1 H1 G1 ws e1 I1 hv ⟨x, i, s, hp, hd, hi, ht, ho, q, qx⟩ => ?_
  rw [List.append_nil]
  refine ⟨x, hp, coreG k e1 I1 hv hd hi ht ⟨rfl, by rw [re_re]; exact ho, rfl⟩ (fun s' r ht' a => ?_) (fun cls F' H' s' ht' J a => hE cls _ _ _ _ J (qx _ _ a))⟩
  have := q (s'.re none) r (by rw [re_tr]; exact ht') a
  rw [re_re] at this
  exact this
theorem dw_callH (h : DA K B G t fun G1 ws => ∃ x i s, pre x ∧ splitW ws = some (args1 x, i, args2 x) ∧ G1[i]? = some s ∧ s.tr = true ∧ s.re none = (own x).re none ∧ (∀ s' r, s'.tr = true → res x s' r → P (G1.set i (s'.re s.q)) r) ∧ ∀ s' c, ¬ exc x s' c) :
    DW K B G (tCall (spH K args1 own args2 pre res exc) [] E t) P := dw_callHX (ex0 := fun _ => False) (fun _ _ _ _ _ _ z => z.elim) h
theorem dw_callHS {W : WX} {ex0 : Value → En → Prop} (hE : TkW K B ex0 W) (h : DA K B G t fun G1 ws => ∃ x i s, pre x ∧ splitW ws = some (args1 x, i, args2 x) ∧ G1[i]? = some s ∧ s.tr = true ∧ s.re none = (own x).re none ∧ (∀ s' r, s'.tr = true → res x s' r → P (G1.set i (s'.re s.q)) r) ∧ ∀ s' c, s'.tr = true → exc x s' c → ex0 c (G1.set i (s'.re s.q))) :
    DW K B G (tCallS (spH K args1 own args2 pre res exc) (WE W) t) P := fun S F H Q I k => by
  show t S H fun vs H1 => spH K args1 own args2 pre res exc vs H1 Q (fun cls d H => W cls d S H)
  refine h S F H _ I fun vs F1 H1 G1 ws e1 I1 hv ⟨x, i, s, hp, hd, hi, ht, ho, q, qx⟩ => ?_
  refine ⟨x, hp, coreG k e1 I1 hv hd hi ht ⟨rfl, by rw [re_re]; exact ho, rfl⟩ (fun s' r ht' a => ?_) (fun cls F' H' s' ht' J a => ?_)⟩
  · have := q (s'.re none) r (by rw [re_tr]; exact ht') a
    rw [re_re] at this
    exact this
  · have := qx (s'.re none) cls (by rw [re_tr]; exact ht') a
    rw [re_re] at this
    exact hE cls _ _ _ _ J this
end
/-! the def's body -/
def GH (N : List Str) (p : Addr) (ds1 : List PyData) (s : Sl) (ds2 : List PyData) : En := ds1.map Sl.d ++ s.re (some p) :: (ds2.map Sl.d ++ List.replicate (N.length - (ds1.length + 1 + ds2.length)) .un)
def OwnH (j : Nat) (p : Addr) (post : Sl → Prop) (G : En) : Prop := ∃ s, G[j]? = some s ∧ s.tr = true ∧ s.q = some p ∧ post (s.re none)
def RetH (j : Nat) (p : Addr) (post : Sl → Rs → Prop) (G : En) : Rs → Prop
  | .p (.d d) => OwnH j p (fun s => post s (.p (.d d))) G
  | .p (.sl i) => i ≠ j ∧ ∃ a ds, G[i]? = some (.o a ds) ∧ OwnH j p (fun s => post s (.fr (.o none ds))) G
  | .p (.ty _) => False
  | .fr s2 => s2 ≠ .un ∧ OwnH j p (fun s => post s (.fr s2)) G
def EH (j : Nat) (p : Addr) (post : Sl → Rs → Prop) : De := { nx := fun G => OwnH j p (fun s => post s (.p (.d .none))) G, rt := fun G r => RetH j p post G r }
theorem start_ivH {K : Fr} {F H : Hp} {N : List Str} {vs1 vs2 : List V} {ds1 ds2 : List PyData} {p : Addr} {A : Addr → Prop} {s : Sl} (ex : Ex F H) (h1 : DqAll K F vs1 ds1) (h2 : DqAll K F vs2 ds2) (hs : SvR K F H (.ref p) A s) (hA : ∀ a, A a → F a = none ∧ H a ≠ none) (hl : ds1.length + 1 + ds2.length ≤ N.length) :
    Iv K ⟨F, H, A⟩ (GH N p ds1 s ds2) (L2.start N (vs1 ++ .ref p :: vs2)) F H := by
  have l1 := da_len h1
  have l2 := da_len h2
  refine ⟨ex, Ex.refl _, fun b o h _ => h, fun b o h _ => .inl (nn h), fun b h => h, by simp [L2.start, GH, l1, l2]; omega, fun j a => j = ds1.length ∧ A a, fun i s2 hi => ?_, fun i j a x y => by rw [x.1, y.1], fun i a x => ⟨(hA a x.2).1, (hA a x.2).2, .inr x.2⟩⟩
  unfold GH at hi
  unfold L2.start
  rw [List.map_append, List.append_assoc]
  by_cases c1 : i < ds1.length
  · rw [List.getElem?_append_left (by simpa using c1), List.getElem?_map, List.getElem?_eq_getElem c1] at hi
    cases hi
    obtain ⟨v, y1, y2⟩ := da_get h1 (List.getElem?_eq_getElem c1)
    refine .inr ⟨v, ?_, y2⟩
    rw [List.getElem?_append_left (by rw [List.length_map, l1]; exact c1), List.getElem?_map, y1]
    rfl
  · rw [List.getElem?_append_right (by simpa using Nat.le_of_not_lt c1), List.length_map] at hi
    by_cases c2 : i = ds1.length
    · subst c2
      rw [Nat.sub_self] at hi
      cases hi
      refine .inr ⟨.ref p, ?_, ?_⟩
      · rw [List.getElem?_append_right (by rw [List.length_map, l1]; exact Nat.le_refl _), List.length_map, l1, Nat.sub_self]
        rfl
      · have ea : (fun a => ds1.length = ds1.length ∧ A a) = A := by
          funext a
          simp
        show SvR K F H (.ref p) (fun a => ds1.length = ds1.length ∧ A a) (s.re (some p))
        rw [ea]
        exact svr_re hs _ fun a z => Option.some.inj z
    · obtain ⟨m, rfl⟩ : ∃ m, i = ds1.length + (m + 1) := ⟨i - ds1.length - 1, by omega⟩
      rw [Nat.add_sub_cancel_left, List.getElem?_cons_succ] at hi
      rw [List.getElem?_append_right (by rw [List.length_map, l1]; omega), List.length_map, l1, Nat.add_sub_cancel_left, List.map_cons, List.cons_append, List.getElem?_cons_succ]
      by_cases c3 : m < ds2.length
      · rw [List.getElem?_append_left (by simpa using c3), List.getElem?_map, List.getElem?_eq_getElem c3] at hi
        cases hi
        obtain ⟨v, y1, y2⟩ := da_get h2 (List.getElem?_eq_getElem c3)
        refine .inr ⟨v, ?_, y2⟩
        rw [List.getElem?_append_left (by rw [List.length_map, l2]; exact c3), List.getElem?_map, y1]
        rfl
      · refine .inl ?_
        rw [List.getElem?_append_right (by simpa using Nat.le_of_not_lt c3)] at hi
        simp only [List.getElem?_replicate] at hi
        split at hi
        · exact (Option.some.inj hi).symm
        · cases hi
section
variable {P : Program} {w : World} {K : Fr} {mg : Str → Option Value} {base : Heap} {x qual : Str} {st : Stmt} {f : Addr} {fd : FuncData} {N ps : List Str} {k : Nat}
variable {ι : Type} {args1 args2 : ι → List PyData} {own : ι → Sl} {pre : ι → Prop} {res : ι → Sl → Rs → Prop} {exc : ι → Sl → Value → Prop}
/-- what a body leaves, told to the caller -/
theorem endH {F0 H : Hp} {p : Addr} {A : Addr → Prop} {j : Nat} {G' : En} {S' : St} {F' H' : Hp} {post : Sl → Prop} (J : Iv K ⟨F0, H, A⟩ G' S' F' H') (hA : ∀ a, A a → F0 a = none ∧ H a ≠ none) (ho : OwnH j p post G') :
    ∃ An : Nat → Addr → Prop, ∃ s, G'[j]? = some s ∧ (∀ i s, G'[i]? = some s → s = .un ∨ ∃ v, S'[i]? = some (some v) ∧ SvR K F' H' v (An i) s) ∧ (∀ i j a, An i a → An j a → i = j) ∧ (∀ i a, An i a → F' a = none ∧ H' a ≠ none ∧ (H a = none ∨ A a)) ∧
      (∀ b o, H b = some o → ¬ A b → H' b = some o) ∧ (∀ b, H b ≠ none → H' b ≠ none) ∧ (∀ b o, F' b = some o → F0 b = none → H b = none ∨ A b) ∧ (s.re none).tr = true ∧ SvR K F' H' (.ref p) (An j) (s.re none) ∧ (∀ a, An j a → F' a = none ∧ H' a ≠ none ∧ (A a ∨ H a = none)) ∧ post (s.re none) := by
  obtain ⟨s, hj, ht, hq, hp⟩ := ho
  obtain ⟨An, h1, h2, h3⟩ := J.own
  obtain ⟨u, z1, z2⟩ : ∃ v, S'[j]? = some (some v) ∧ SvR K F' H' v (An j) s := (h1 j _ hj).elim (fun z => absurd z (tr_un ht)) id
  obtain ⟨p', rfl, _, _, y⟩ := svr_ref z2 ht
  have e : p' = p := y _ hq
  subst e
  refine ⟨An, s, hj, h1, h2, h3, fun b o a1 a2 => J.fr b o a1 a2, fun b h => J.st b h, fun b o a1 a2 => ?_, by rw [re_tr]; exact ht, svr_re z2 none (fun _ z => nomatch z), fun a ha => ?_, hp⟩
  · cases z : H b with
    | none => exact .inl rfl
    | some u =>
      rcases J.nw b o a1 (nn z) with y | y
      · exact absurd a2 y
      · exact .inr y
  · obtain ⟨x1, x2, x3⟩ := h3 j a ha
    exact ⟨x1, x2, x3.elim .inr .inl⟩
theorem retH {F0 H : Hp} {p : Addr} {A : Addr → Prop} {Q : VK} {post : Sl → Rs → Prop} {j : Nat} (hA : ∀ a, A a → F0 a = none ∧ H a ≠ none)
    (q : ∀ v F' H' A' s' r, Ex F0 F' → Ex F' H' → (∀ b o, H b = some o → ¬ A b → H' b = some o) → (∀ b, H b ≠ none → H' b ≠ none) → (∀ b o, F' b = some o → F0 b = none → H b = none ∨ A b) → s'.tr = true → SvR K F' H' (.ref p) A' s' →
      (∀ a, A' a → F' a = none ∧ H' a ≠ none ∧ (A a ∨ H a = none)) → Rr K (fun a => (H a = none ∨ A a) ∧ ¬ A' a) F' H' v r → post s' r → Q v H') {G : En} {S : St} {F H' : Hp} {v : V} {r : Rs} (e : Ex F0 F) (J : Vr K ⟨F0, H, A⟩ G S F H' v r) (pr : RetH j p post G r) : Q v H' := by
  match r, J, pr with
  | .p (.d d), J, pr =>
    have pr : OwnH j p (fun s => post s (.p (.d d))) G := pr
    obtain ⟨An, s', hj, h1, h2, h3, b1, b2, b3, b4, b5, b6, b7⟩ := endH J.1 hA pr
    exact q v F H' (An j) _ (.p (.d d)) e J.1.ex b1 b2 b3 b4 b5 b6 J.2 b7
  | .p (.sl i), J, ⟨hij, a, ds, hi, pr⟩ =>
    obtain ⟨An, s', hj, h1, h2, h3, b1, b2, b3, b4, b5, b6, b7⟩ := endH J.1 hA pr
    obtain ⟨u, z1, c, vs', z2, z3, z4, z5, _⟩ : ∃ v, S[i]? = some (some v) ∧ SvR K F H' v (An i) (.o a ds) := (h1 i _ hi).elim (fun z => by cases z) id
    have hv : S[i]? = some (some v) := J.2
    rw [hv] at z1
    cases z1
    exact q v F H' (An j) _ (.fr (.o none ds)) e J.1.ex b1 b2 b3 b4 b5 b6 ⟨An i, ⟨c, vs', z2, z3, z4, z5, fun _ z => by cases z⟩, fun a ha => ⟨(h3 i a ha).1, (h3 i a ha).2.1, (h3 i a ha).2.2, fun z => hij (h2 _ _ _ ha z)⟩⟩ b7
  | .fr s2, J, ⟨hu, pr⟩ =>
    have J' := Iv.drop J
    have lj : j < G.length := by
      obtain ⟨s, hj, _⟩ := pr
      exact (List.getElem?_eq_some_iff.mp hj).1
    have pr' : OwnH j p (fun s => post s (.fr s2)) (G ++ [s2]) := by
      obtain ⟨s, hj, y⟩ := pr
      exact ⟨s, by rw [List.getElem?_append_left lj]; exact hj, y⟩
    obtain ⟨An, s', hj, h1, h2, h3, b1, b2, b3, b4, b5, b6, b7⟩ := endH J hA pr'
    obtain ⟨u, z1, z2⟩ : ∃ v', (S ++ [some v])[G.length]? = some (some v') ∧ SvR K F H' v' (An G.length) s2 := (h1 G.length s2 (by simp)).elim (fun z => absurd z hu) id
    have hv : (S ++ [some v])[G.length]? = some (some v) := by
      rw [← J'.len]
      simp
    rw [hv] at z1
    cases z1
    exact q v F H' (An j) _ (.fr s2) e J.ex b1 b2 b3 b4 b5 b6 ⟨_, z2, fun a ha => ⟨(h3 _ a ha).1, (h3 _ a ha).2.1, (h3 _ a ha).2.2, fun z => absurd (h2 _ _ _ ha z) (by omega)⟩⟩ b7
theorem reO {j : Nat} {p : Addr} {post : Sl → Prop} {G : En} (h : OwnH j p post G) : OwnH j p (fun s => post (s.re none)) G := by
  obtain ⟨s, a, b, c, d⟩ := h
  exact ⟨s, a, b, c, by show post ((s.re none).re none); rw [re_re]; exact d⟩
theorem reR {j : Nat} {p : Addr} {post : Sl → Rs → Prop} {G : En} : ∀ {r : Rs}, RetH j p post G r → RetH j p (fun s r => post (s.re none) r) G r
  | .p (.d _), h => reO (post := fun s => post s _) h
  | .p (.sl _), ⟨h1, a, ds, h2, h3⟩ => ⟨h1, a, ds, h2, reO (post := fun s => post s _) h3⟩
  | .p (.ty _), h => h.elim
  | .fr _, ⟨h1, h2⟩ => ⟨h1, reO (post := fun s => post s _) h2⟩
/-- what takes an exception, the own thing at slot j -/
def TkH (K : Fr) (B : Bs) (j : Nat) (p : Addr) (exc : Sl → Value → Prop) (E : XK) : Prop := ∀ cls S F H G, Iv K B G S F H → OwnH j p (fun s => exc s cls) G → E cls none H
theorem fnH {j : Nat} (F : Fun K x qual st f fd) (S : FnScope N ps (defScope st)) (hl : ∀ x, (args1 x).length = j ∧ j + 1 + (args2 x).length = ps.length ∧ ps.length ≤ N.length)
    (hb : ∀ (cdv : Value) (A : Around) (outer : List Env) (s : Shared) (H : Hp) (E : XK), Room k (A.deeper (PyProof.Rows.envOfC qual (defScope st) s.heap.objs.size f cdv)) → ∃ t, PSs (cxOf CX0 P w K mg base N qual (defScope st) f cdv A outer s H E).nox (defBody st) t ∧
      ∀ x, pre x → ∀ p B, DS K B (GH N p (args1 x) (own x) (args2 x)) t (EH j p (res x))) : FnOk P w K mg base CX0 (k + 1) f fd ps (spH K args1 own args2 pre res (fun _ _ _ => False)) := by
  refine F.ok S (fun vs H Q E h => ?_) (fun cdv A outer s H vs Q E hr h => ?_)
  · obtain ⟨x, hp, F, p, A, vs1, vs2, ds1, s, ds2, rfl, _, _, _, _, m1, m2, ⟨rfl, _, rfl⟩, _⟩ := h
    rw [List.length_append, List.length_cons, da_len m1, da_len m2, ← (hl x).2.1, (hl x).1]
    omega
  · obtain ⟨x, hp, F0, p, A0, vs1, vs2, ds1, so, ds2, rfl, ex, ht, hs, hA, m1, m2, ⟨rfl, ho, rfl⟩, q, _⟩ := h
    obtain ⟨t, ht', hS⟩ := hb cdv A outer s H E hr
    refine ⟨t, ht', ?_⟩
    obtain ⟨l1, l2, l3⟩ := hl x
    have eg : so.re (some p) = (own x).re (some p) := by rw [← re_re (s := so) (q := none), ho, re_re]
    have I0 : Iv K ⟨F0, H, A0⟩ (GH N p (args1 x) (own x) (args2 x)) (L2.start N (vs1 ++ .ref p :: vs2)) F0 H := by
      have J := start_ivH (N := N) ex m1 m2 hs hA (by omega)
      unfold GH at J ⊢
      rw [← eg]
      exact J
    have q' : ∀ v F' H' A' s' r, Ex F0 F' → Ex F' H' → (∀ b o, H b = some o → ¬ A0 b → H' b = some o) → (∀ b, H b ≠ none → H' b ≠ none) → (∀ b o, F' b = some o → F0 b = none → H b = none ∨ A0 b) → s'.tr = true → SvR K F' H' (.ref p) A' s' →
      (∀ a, A' a → F' a = none ∧ H' a ≠ none ∧ (A0 a ∨ H a = none)) → Rr K (fun a => (H a = none ∨ A0 a) ∧ ¬ A' a) F' H' v r → res x (s'.re none) r → Q v H' := fun v F' H' A' s' r b1 b2 b3 b4 b5 b6 b7 b8 b9 c => q v F' H' A' s' r b1 b2 b3 b4 b5 b6 b7 b8 b9 c
    refine hS x hp p _ _ F0 H _ I0 ⟨fun S F H' G e J pr => ?_, fun S F H' G v r e J pr => ?_, fun _ _ _ _ _ _ z => z.elim, fun _ _ _ _ _ _ z => z.elim⟩
    · exact retH (post := fun s r => res x (s.re none) r) (j := j) hA q' (v := .non) (r := .p (.d .none)) e ⟨J, Dq.non⟩ (reO (post := fun s => res x s (.p (.d .none))) pr)
    · exact retH (post := fun s r => res x (s.re none) r) (j := j) hA q' e J (reR pr)
theorem fnHX {j : Nat} (F : Fun K x qual st f fd) (S : FnScope N ps (defScope st)) (hl : ∀ x, (args1 x).length = j ∧ j + 1 + (args2 x).length = ps.length ∧ ps.length ≤ N.length)
    (hb : ∀ (cdv : Value) (A : Around) (outer : List Env) (s : Shared) (H : Hp) (E : XK), Room k (A.deeper (PyProof.Rows.envOfC qual (defScope st) s.heap.objs.size f cdv)) → ∃ t, PSs (cxOf (L2.CX P w) P w K mg base N qual (defScope st) f cdv A outer s H E) (defBody st) t ∧
      ∀ x, pre x → ∀ p B, TkH K B j p (exc x) E → DS K B (GH N p (args1 x) (own x) (args2 x)) t (EH j p (res x))) : FnOk P w K mg base (L2.CX P w) (k + 1) f fd ps (spH K args1 own args2 pre res exc) := by
  refine F.okX S (fun vs H Q E h => ?_) (fun cdv A outer s H vs Q E hr h => ?_)
  · obtain ⟨x, hp, F, p, A, vs1, vs2, ds1, s, ds2, rfl, _, _, _, _, m1, m2, ⟨rfl, _, rfl⟩, _⟩ := h
    rw [List.length_append, List.length_cons, da_len m1, da_len m2, ← (hl x).2.1, (hl x).1]
    omega
  · obtain ⟨x, hp, F0, p, A0, vs1, vs2, ds1, so, ds2, rfl, ex, ht, hs, hA, m1, m2, ⟨rfl, ho, rfl⟩, q, qx⟩ := h
    obtain ⟨t, ht', hS⟩ := hb cdv A outer s H E hr
    refine ⟨t, ht', ?_⟩
    obtain ⟨l1, l2, l3⟩ := hl x
    have eg : so.re (some p) = (own x).re (some p) := by rw [← re_re (s := so) (q := none), ho, re_re]
    have I0 : Iv K ⟨F0, H, A0⟩ (GH N p (args1 x) (own x) (args2 x)) (L2.start N (vs1 ++ .ref p :: vs2)) F0 H := by
      have J := start_ivH (N := N) ex m1 m2 hs hA (by omega)
      unfold GH at J ⊢
      rw [← eg]
      exact J
    have q' : ∀ v F' H' A' s' r, Ex F0 F' → Ex F' H' → (∀ b o, H b = some o → ¬ A0 b → H' b = some o) → (∀ b, H b ≠ none → H' b ≠ none) → (∀ b o, F' b = some o → F0 b = none → H b = none ∨ A0 b) → s'.tr = true → SvR K F' H' (.ref p) A' s' →
      (∀ a, A' a → F' a = none ∧ H' a ≠ none ∧ (A0 a ∨ H a = none)) → Rr K (fun a => (H a = none ∨ A0 a) ∧ ¬ A' a) F' H' v r → res x (s'.re none) r → Q v H' := fun v F' H' A' s' r b1 b2 b3 b4 b5 b6 b7 b8 b9 c => q v F' H' A' s' r b1 b2 b3 b4 b5 b6 b7 b8 b9 c
    refine hS x hp p ⟨F0, H, A0⟩ (fun cls S F H' G J hx => ?_) _ F0 H _ I0 ⟨fun S F H' G e J pr => ?_, fun S F H' G v r e J pr => ?_, fun _ _ _ _ _ _ z => z.elim, fun _ _ _ _ _ _ z => z.elim⟩
    · obtain ⟨An, s', hj, h1, h2, h3, b1, b2, b3, b4, b5, b6, b7⟩ := endH J hA hx
      exact qx cls F H' (An j) _ J.f0 J.ex b1 b2 b3 b4 b5 b6 (by show exc x ((s'.re none).re none) cls; rw [re_re]; exact b7)
    · exact retH (post := fun s r => res x (s.re none) r) (j := j) hA q' (v := .non) (r := .p (.d .none)) e ⟨J, Dq.non⟩ (reO (post := fun s => res x s (.p (.d .none))) pr)
    · exact retH (post := fun s r => res x (s.re none) r) (j := j) hA q' e J (reR pr)
end
end DL
/-! ### the library's data orders, as rules of the hand layer -/
namespace L2
open PySem PySem.Spec PyProof.Rows PySem.W
/-- two lists side by side -/
theorem ei_of_vals {α : Type} {R : V → α → Prop} : ∀ {xs : List V} {us : List Value} {bs : List α}, Vals xs us → EachIs R xs bs → EachIs (fun u b => ∃ v, RelV v u ∧ R v b) us bs
  | _, _, _, .nil, .nil => .nil
  | _, _, _, .cons r rs, .cons h hs => .cons ⟨_, r, h⟩ (ei_of_vals rs hs)
theorem vals_of_ei {α : Type} {R : V → α → Prop} : ∀ {us : List Value} {bs : List α}, EachIs (fun u b => ∃ v, RelV v u ∧ R v b) us bs → ∃ xs, Vals xs us ∧ EachIs R xs bs
  | _, _, .nil => ⟨[], .nil, .nil⟩
  | _, _, .cons ⟨v, h1, h2⟩ hs => by
    obtain ⟨xs, a, b⟩ := vals_of_ei hs
    exact ⟨v :: xs, .cons h1 a, .cons h2 b⟩
def rSortedD (K : PySem.W.Frag) : List V → Hp → VK → Prop := fun vs H Q => ∃ (β : Type) (a : Addr) (xs : List V) (bs : List β) (enc : β → PyData) (R : V → β → Prop), vs = [V.ref a] ∧ SqL K H a xs ∧ EachIs R xs bs ∧ (∀ v b, R v b → Dp K H v (enc b)) ∧
  AllAlike (bs.map enc) ∧ Sortable (bs.map enc) ∧ (∀ b ∈ bs, (enc b).depth ≤ 60) ∧ ∀ ys p, EachIs R ys (bs.mergeSort (dataLe false enc)) → H p = none → Q (.ref p) (upd H p (.lst ys))
/-! data without lists -/
mutual
def noL : PyData → Bool
  | .none => true
  | .bool _ => true
  | .int _ => true
  | .str _ => true
  | .tuple xs => noLs xs
  | .list _ => false
  | .dict _ => false
def noLs : List PyData → Bool
  | [] => true
  | x :: r => noL x && noLs r
end
theorem noLs_iff : ∀ {xs : List PyData}, noLs xs = true ↔ ∀ x ∈ xs, noL x = true
  | [] => by simp [noLs]
  | x :: r => by simp [noLs, noLs_iff (xs := r)]
mutual
theorem reads_noL {h : Heap} : ∀ {v : Value} {d : PyData} {as : List Addr}, Reads h v d as → noL d = true → as = []
  | _, _, _, .none, _ => rfl
  | _, _, _, .bool _, _ => rfl
  | _, _, _, .int _ _, _ => rfl
  | _, _, _, .str _ _, _ => rfl
  | _, _, _, .tuple _ _ _ r, h => readsAll_noL r (noLs_iff.mp h)
  | _, _, _, .list _ _ _ r, h => by rw [noL] at h; cases h
  | _, _, _, .dict _ _ _ r1 r2, h => by rw [noL] at h; cases h
theorem readsAll_noL {h : Heap} : ∀ {v : List Value} {d : List PyData} {as : List Addr}, ReadsAll h v d as → (∀ x ∈ d, noL x = true) → as = []
  | _, _, _, .nil, _ => rfl
  | _, _, _, .cons r rs, h => by
    rw [reads_noL r (h _ List.mem_cons_self), readsAll_noL rs fun x hx => h x (List.mem_cons_of_mem _ hx)]
    rfl
end
def rSortD (K : PySem.W.Frag) : V → List V → Hp → VK → Prop := fun x vs H Q => ∃ (β : Type) (a : Addr) (xs : List V) (bs : List β) (enc : β → PyData) (R : V → β → Prop), x = V.ref a ∧ vs = [] ∧ H a = some (.lst xs) ∧ EachIs R xs bs ∧ (∀ v b, R v b → Dp K H v (enc b)) ∧
  AllAlike (bs.map enc) ∧ Sortable (bs.map enc) ∧ (∀ b ∈ bs, (enc b).depth ≤ 60 ∧ noL (enc b) = true) ∧ ∀ ys, EachIs R ys (bs.mergeSort (dataLe false enc)) → Q .non (upd H a (.lst ys))
def rMinD (K : PySem.W.Frag) : List V → Hp → VK → Prop := fun vs H Q => ∃ (a : Addr) (xs : List V) (d : PyData) (ds : List PyData), vs = [V.ref a] ∧ SqL K H a xs ∧ DpAll K H xs (d :: ds) ∧ AlikeAll (d :: ds) ∧ PyData.depthAll (d :: ds) ≤ 60 ∧
  ∀ (i : Nat) (x : V), xs[i]? = some x → (d :: ds)[i]? = some (minD d ds) → Q x H
def rLtD (K : PySem.W.Frag) : R2 := fun x y H Q => ∃ d e, Dp K H x d ∧ Dp K H y e ∧ alike d e = true ∧ d ≠ .none ∧ d.depth ≤ 60 ∧ Q (.bl (dataLt d e)) H
def rGtD (K : PySem.W.Frag) : R2 := fun x y H Q => ∃ d e, Dp K H x d ∧ Dp K H y e ∧ alike d e = true ∧ d ≠ .none ∧ d.depth ≤ 60 ∧ Q (.bl (dataLt e d)) H
section
variable {X : Cx}
theorem ei_mem {α β : Type} {R : α → β → Prop} : ∀ {as : List α} {bs : List β}, EachIs R as bs → EachIs (fun a b => R a b ∧ b ∈ bs) as bs := PySem.W.each_mem
theorem cr_sortedD (hu : X.A.units + 65 < cLine) : CallR X (.builtin "sorted") (rSortedD X.K) := by
  intro pins s σ H vs us Q I r h
  obtain ⟨β, a, xs, bs, enc, R, rfl, hs, he, hd, h1, h2, h3, q⟩ := h
  obtain ⟨its, rv, hl, hz⟩ := I.list hs
  rw [Vals.ref1 r]
  have e1 := ei_of_vals rv he
  have hlen : its.length = bs.length := e1.length
  refine sorted_data (R := fun u b => ∃ v, RelV v u ∧ R v b) (bs := bs) (enc := enc) hl.isList e1 (e1.mono fun u b ⟨v, r1, r2⟩ => Dp.reads I _ v u (hd v b r2) r1) h1 h2 (by rw [← hlen, ← rv.length]; exact hz) (fun b hb => by have := h3 b hb; omega) fun out o1 o2 => ?_
  obtain ⟨ep, he'⟩ := PyProof.Rows.sortedAll_at s.heap its out.toArray
  obtain ⟨ys, y1, y2⟩ := vals_of_ei o2
  have hy : ys.length ≤ sizeLine := by rw [y1.length, o1, ← hlen, ← rv.length]; exact hz
  exact ⟨.ref _, upd H (s.heap.objs.size + 1) (.lst ys), I.laid (t' := s.toks) (fun _ _ => PyProof.Rows.sortedAll_old) (Nat.le_succ _) ⟨hy, out, ep, y1, he'⟩, rfl, q _ _ y2 (I.hok.fresh (Nat.le_succ _))⟩
theorem mt_sortD (hu : X.A.units + 65 < cLine) : MtR X "list.sort" (rSortD X.K) := by
  intro pins s σ H x xs v us Q I rx rxs h
  obtain ⟨β, a, xs, bs, enc, R, rfl, rfl, ha, he, hd, h1, h2, h3, q⟩ := h
  cases rx
  cases rxs
  obtain ⟨hz, its, n, rv, hob⟩ := I.hok a _ ha
  have e1 := ei_of_vals rv he
  have hlen : its.length = bs.length := e1.length
  refine list_sort_data (R := fun u b => ∃ v, RelV v u ∧ R v b) (bs := bs) (enc := enc) hob e1 ((ei_mem e1).mono fun u b z => ?_) h1 h2 (by rw [← hlen, ← rv.length]; exact hz) (fun b hb => by have := (h3 b hb).1; omega) fun out o1 o2 => ?_
  · obtain ⟨⟨v, r1, r2⟩, hb⟩ := z
    obtain ⟨as, hr⟩ := Dp.reads I _ v u (hd v b r2) r1
    exact ⟨as, hr, by rw [reads_noL hr (h3 b hb).2]; simp⟩
  · obtain ⟨ys, y1, y2⟩ := vals_of_ei o2
    obtain ⟨ep, he'⟩ := PyProof.Rows.sortedHeap_at (vs := its) (out := out.toArray) hob
    have hy : ys.length ≤ sizeLine := by rw [y1.length, o1, ← hlen, ← rv.length]; exact hz
    refine ⟨.non, upd H a (.lst ys), I.write (e := a) (t' := s.toks) (by rw [ha]; trivial) (.inl rfl) (fun b u hb hu => ?_) ⟨_, he'⟩ ⟨hy, out, ep, y1, he'⟩, rfl, q _ y2⟩
    rw [PyProof.Rows.sortedHeap_old hb (Heap.lt_size hu)]
    exact hu
theorem dp_all_at {K : PySem.W.Frag} {H : Hp} : ∀ {xs : List V} {ds : List PyData} {i : Nat} {x : V}, DpAll K H xs ds → xs[i]? = some x → ∃ d, ds[i]? = some d ∧ Dp K H x d
  | _, _, _, _, .nil, e => by simp at e
  | _, _, 0, _, .cons h _, e => by
    simp at e
    subst e
    exact ⟨_, rfl, h⟩
  | _, _, i + 1, _, .cons _ a, e => by
    obtain ⟨d, h1, h2⟩ := dp_all_at a (i := i) (by simpa using e)
    exact ⟨d, by simpa using h1, h2⟩
theorem cr_minD (hc : X.calm = true) (hu : X.A.units + 65 < cLine) : CallR X (.builtin "min") (rMinD X.K) := by
  intro pins s σ H vs us Q I r h
  obtain ⟨a, xs, d, ds, rfl, hs, hd, ha, h3, q⟩ := h
  obtain ⟨its, rv, hl, hz⟩ := I.list hs
  rw [Vals.ref1 r]
  obtain ⟨as, hr⟩ := Dp.readsAll I _ xs its hd rv
  refine min_list_data (I.ok.hd hc) hl.isList (by simpa using hr) ha (by omega) fun i v h' tk bs hv hrd hk => ?_
  have hv' : its[i]? = some v := by simpa using hv
  have hi : i < xs.length := by
    rw [rv.length]
    exact (List.getElem?_eq_some_iff.mp hv').1
  have hx : xs[i]? = some xs[i] := List.getElem?_eq_getElem hi
  obtain ⟨u, hu1, hu2⟩ := rv.get hx
  rw [hv'] at hu1
  cases hu1
  obtain ⟨e, he1, he2⟩ := dp_all_at hd hx
  have I' : Inv X pins σ H { s with heap := h', toks := tk } := I.kept hk
  obtain ⟨as2, hr2⟩ := Dp.reads I' e xs[i] v he2 hu2
  have hm : minD d ds ∈ d :: ds := by
    unfold minD
    have : ∀ (l : List PyData) (a : PyData), l.foldl (fun a y => if dataLt y a then y else a) a ∈ a :: l := by
      intro l
      induction l with
      | nil => intro a; simp
      | cons y l ih =>
        intro a
        rw [List.foldl_cons]
        have := ih (if dataLt y a then y else a)
        rcases List.mem_cons.mp this with z | z
        · rw [z]
          split <;> simp
        · exact List.mem_cons_of_mem _ (List.mem_cons_of_mem _ z)
    exact this ds d
  have em : e = minD d ds := alike_unique e (minD d ds) v as2 bs (ha.1 e (List.mem_of_getElem? he1) _ hm) hr2 hrd
  exact ⟨xs[i], H, I', hu2, q i xs[i] hx (by rw [he1, em])⟩
theorem op_ltD (hu : X.A.units + 65 < cLine) : OpR X (compareOp .Lt) (rLtD X.K) := by
  intro pins s σ H x y v u Q I rx ry h
  obtain ⟨d, e, hd, he, ha, hn, hdp, q⟩ := h
  obtain ⟨as, r1⟩ := Dp.reads I d x v hd rx
  obtain ⟨bs, r2⟩ := Dp.reads I e y u he ry
  exact lt_data r1 r2 ha hn (by omega) ⟨.bl _, H, I, rfl, q⟩
theorem op_gtD (hu : X.A.units + 65 < cLine) : OpR X (compareOp .Gt) (rGtD X.K) := by
  intro pins s σ H x y v u Q I rx ry h
  obtain ⟨d, e, hd, he, ha, hn, hdp, q⟩ := h
  obtain ⟨as, r1⟩ := Dp.reads I d x v hd rx
  obtain ⟨bs, r2⟩ := Dp.reads I e y u he ry
  exact gt_data r1 r2 ha hn (by omega) ⟨.bl _, H, I, rfl, q⟩
end
end L2
namespace DL
open PySem L2
/-! ### an own dict whose keys are ints, texts -/
section
variable {K : Fr} {F H : Hp} {κ : Type} [DecidableEq κ]
def lkG (kvs : List (κ × PyData)) (k : κ) : Option PyData := (kvs.find? fun kv => decide (kv.1 = k)).map (·.2)
def putG (kvs : List (κ × PyData)) (k : κ) (d : PyData) : List (κ × PyData) :=
  if (kvs.any fun kv => decide (kv.1 = k)) = true then kvs.map fun kv => if kv.1 = k then (kv.1, d) else kv else kvs ++ [(k, d)]
theorem lkG_val {k : κ} : ∀ {kws : List (κ × V)} {kvs : List (κ × PyData)}, kws.map (·.1) = kvs.map (·.1) → DqAll K F (kws.map (·.2)) (kvs.map (·.2)) → (valV kws k).isSome = (lkG kvs k).isSome ∧ ∀ d, lkG kvs k = some d → ∃ v, valV kws k = some v ∧ Dq K F v d
  | [], [], _, _ => ⟨rfl, fun d h => nomatch h⟩
  | (a, v) :: kws, (b, e) :: kvs, h1, h2 => by
    cases h2 with
    | cons u1 u2 =>
      have h3 := List.cons.inj h1
      obtain ⟨i1, i2⟩ := lkG_val (k := k) h3.2 u2
      have ea : a = b := h3.1
      subst ea
      by_cases hk : a = k
      · subst hk
        refine ⟨by rw [valV_pos rfl]; simp [lkG], fun d hd => ⟨v, valV_pos rfl, ?_⟩⟩
        have : d = e := by
          simp [lkG] at hd
          exact hd.symm
        rw [this]
        exact u1
      · have e1 : lkG ((a, e) :: kvs) k = lkG kvs k := by simp [lkG, List.find?_cons, hk]
        rw [valV_neg hk, e1]
        exact ⟨i1, i2⟩
theorem putG_keys {k : κ} {v : V} {d : PyData} : ∀ {kws : List (κ × V)} {kvs : List (κ × PyData)}, kws.map (·.1) = kvs.map (·.1) → DqAll K F (kws.map (·.2)) (kvs.map (·.2)) → Dq K F v d →
    (putK kws k v).map (·.1) = (putG kvs k d).map (·.1) ∧ DqAll K F ((putK kws k v).map (·.2)) ((putG kvs k d).map (·.2)) := by
  intro kws kvs h1 h2 hd
  have hany : ∀ {kws : List (κ × V)} {kvs : List (κ × PyData)}, kws.map (·.1) = kvs.map (·.1) → (kws.any fun kv => decide (kv.1 = k)) = (kvs.any fun kv => decide (kv.1 = k)) := by
    intro kws kvs h
    have e1 : (kws.any fun kv => decide (kv.1 = k)) = (kws.map (·.1)).any fun x => decide (x = k) := by rw [List.any_map]; rfl
    have e2 : (kvs.any fun kv => decide (kv.1 = k)) = (kvs.map (·.1)).any fun x => decide (x = k) := by rw [List.any_map]; rfl
    rw [e1, e2, h]
  have hrep : ∀ {kws : List (κ × V)} {kvs : List (κ × PyData)}, kws.map (·.1) = kvs.map (·.1) → DqAll K F (kws.map (·.2)) (kvs.map (·.2)) →
      (kws.map fun kv => if kv.1 = k then (kv.1, v) else kv).map (·.1) = (kvs.map fun kv => if kv.1 = k then (kv.1, d) else kv).map (·.1) ∧ DqAll K F ((kws.map fun kv => if kv.1 = k then (kv.1, v) else kv).map (·.2)) ((kvs.map fun kv => if kv.1 = k then (kv.1, d) else kv).map (·.2)) := by
    intro kws
    induction kws with
    | nil =>
      intro kvs h1 h2
      cases kvs with
      | nil => exact ⟨rfl, .nil⟩
      | cons _ _ => cases h1
    | cons a kws ih =>
      intro kvs h1 h2
      cases kvs with
      | nil => cases h1
      | cons b kvs =>
        have h3 := List.cons.inj h1
        have h31 : a.1 = b.1 := h3.1
        cases h2 with
        | cons u1 u2 =>
          obtain ⟨i1, i2⟩ := ih h3.2 u2
          simp only [List.map_cons]
          by_cases hk : a.1 = k
          · rw [if_pos hk, if_pos (h31 ▸ hk)]
            exact ⟨by rw [i1, h31], .cons hd i2⟩
          · rw [if_neg hk, if_neg (h31 ▸ hk)]
            exact ⟨by rw [i1, h31], .cons u1 i2⟩
  unfold putK putG
  rw [hany h1]
  split
  · exact hrep h1 h2
  · refine ⟨by rw [List.map_append, List.map_append, h1]; rfl, ?_⟩
    rw [List.map_append, List.map_append]
    exact da_app h2 (.cons hd .nil)
end
section
variable {K : Fr} {B : Bs} {G : En} {P : Po} {td ty tv te : TE} {E : De} {S : St} {F H : Hp}
theorem keyK_at {v : V} {k : Key} (h : Dq K F v (keyD k)) : v = kV k := by
  cases k with
  | inl i => exact dp_int h
  | inr s => exact dp_str h
theorem Iv.dctK (I : Iv K B G S F H) {i : Nat} {qq : Option Addr} {kvs : List (Key × PyData)} (h : G[i]? = some (.k qq kvs)) : ∃ p kws, S[i]? = some (some (.ref p)) ∧ H p = some (.dK kws) ∧ kws.map (·.1) = kvs.map (·.1) ∧ DqAll K F (kws.map (·.2)) (kvs.map (·.2)) := by
  obtain ⟨A, h1, _, _⟩ := I.own
  rcases h1 i _ h with e | ⟨v, h1, p, kws, rfl, h5, h6, h7, _⟩
  · cases e
  · exact ⟨p, kws, h1, h5, h6, h7⟩
theorem dw_slK {i : Nat} {qq : Option Addr} {kvs : List (Key × PyData)} (h : G[i]? = some (.k qq kvs)) (q : P G (.p (.sl i))) : DW K B G (tVar i) P := fun S F H Q I k => by
  obtain ⟨p, kws, e, _⟩ := I.dctK h
  exact ⟨_, e, k _ F H G (.p (.sl i)) (Ex.refl F) ⟨I, e⟩ q⟩
theorem Iv.newK {S : St} {F H : Hp} {p : Addr} (I : Iv K B G S F H) (hp : H p = none) : Iv K B (G ++ [.k none []]) (S ++ [some (.ref p)]) F (upd H p (.dK [])) := by
  refine I.add (Ex.refl F) (Ex.new hp) (I.ex.trans (Ex.new hp)) (fun b o h n => ?_) _ (fun a => a = p) (.inr ⟨_, rfl, p, [], rfl, upd_same, rfl, .nil, rfl, fun _ z => nomatch z⟩) fun a e => ?_
  · rw [h] at n
    cases n
  · have e : a = p := e
    subst e
    exact ⟨hp, I.fnone hp, by rw [upd_same]; exact fun z => (by cases z)⟩
theorem dw_newK (q : P G (.fr (.k none []))) : DW K B G tDNewK P := fun S F H Q I k => by
  intro p hp
  exact k (.ref p) F _ G (.fr (.k none [])) (Ex.refl F) (I.newK hp) q
theorem dw_dInK (h : DW K B G ty fun G1 r1 => PW r1 fun w1 => DW K B G1 td fun G2 r2 => PW r2 fun w2 => ∃ i qq ks kvs, w1 = .d (keyD ks) ∧ w2 = .sl i ∧ G2[i]? = some (.k qq kvs) ∧ P G2 (.p (.d (.bool (lkG kvs ks).isSome)))) : DW K B G (tDIn ty td) P := fun S F H Q I k => by
  show ty S H fun y H1 => td S H1 fun x H2 => ∃ a o, x = .ref a ∧ DGet H2 a y o ∧ Q (.bl o.isSome) H2
  refine dw_run (k' := fun G1 w1 => DW K B G1 td fun G2 r2 => PW r2 fun w2 => ∃ i qq ks kvs, w1 = .d (keyD ks) ∧ w2 = .sl i ∧ G2[i]? = some (.k qq kvs) ∧ P G2 (.p (.d (.bool (lkG kvs ks).isSome)))) h I fun v1 F1 H1 G1 w1 e1 I1 a1 q1 => ?_
  refine dw_run (k' := fun G2 w2 => ∃ i qq ks kvs, w1 = .d (keyD ks) ∧ w2 = .sl i ∧ G2[i]? = some (.k qq kvs) ∧ P G2 (.p (.d (.bool (lkG kvs ks).isSome)))) q1 I1 fun v2 F2 H2 G2 w2 e2 I2 a2 ⟨i, qq, ks, kvs, x1, x2, hi, q2⟩ => ?_
  subst x1 x2
  obtain rfl := keyK_at (dp_mono e2 a1)
  obtain ⟨p, kws, hS, hp, hk, hv⟩ := I2.dctK hi
  have a2 : S[i]? = some (some v2) := a2
  rw [hS] at a2
  cases a2
  refine ⟨p, _, rfl, DGet.k hp, ?_⟩
  rw [(lkG_val (k := ks) hk hv).1]
  exact ct_d (k.mono (e1.trans e2)) I2 (.bl _) q2
theorem dw_dNotInK (h : DW K B G ty fun G1 r1 => PW r1 fun w1 => DW K B G1 td fun G2 r2 => PW r2 fun w2 => ∃ i qq ks kvs, w1 = .d (keyD ks) ∧ w2 = .sl i ∧ G2[i]? = some (.k qq kvs) ∧ P G2 (.p (.d (.bool (!(lkG kvs ks).isSome))))) : DW K B G (tDNotIn ty td) P := fun S F H Q I k => by
  show ty S H fun y H1 => td S H1 fun x H2 => ∃ a o, x = .ref a ∧ DGet H2 a y o ∧ Q (.bl (!o.isSome)) H2
  refine dw_run (k' := fun G1 w1 => DW K B G1 td fun G2 r2 => PW r2 fun w2 => ∃ i qq ks kvs, w1 = .d (keyD ks) ∧ w2 = .sl i ∧ G2[i]? = some (.k qq kvs) ∧ P G2 (.p (.d (.bool (!(lkG kvs ks).isSome))))) h I fun v1 F1 H1 G1 w1 e1 I1 a1 q1 => ?_
  refine dw_run (k' := fun G2 w2 => ∃ i qq ks kvs, w1 = .d (keyD ks) ∧ w2 = .sl i ∧ G2[i]? = some (.k qq kvs) ∧ P G2 (.p (.d (.bool (!(lkG kvs ks).isSome))))) q1 I1 fun v2 F2 H2 G2 w2 e2 I2 a2 ⟨i, qq, ks, kvs, x1, x2, hi, q2⟩ => ?_
  subst x1 x2
  obtain rfl := keyK_at (dp_mono e2 a1)
  obtain ⟨p, kws, hS, hp, hk, hv⟩ := I2.dctK hi
  have a2 : S[i]? = some (some v2) := a2
  rw [hS] at a2
  cases a2
  refine ⟨p, _, rfl, DGet.k hp, ?_⟩
  rw [(lkG_val (k := ks) hk hv).1]
  exact ct_d (k.mono (e1.trans e2)) I2 (.bl _) q2
theorem dw_dGetK (h : DW K B G td fun G1 r1 => PW r1 fun w1 => DW K B G1 ty fun G2 r2 => PW r2 fun w2 => ∃ i qq ks kvs d, w1 = .sl i ∧ w2 = .d (keyD ks) ∧ G2[i]? = some (.k qq kvs) ∧ lkG kvs ks = some d ∧ P G2 (.p (.d d))) : DW K B G (tDGet td ty) P := fun S F H Q I k => by
  show td S H fun x H1 => ty S H1 fun y H2 => ∃ a v, x = .ref a ∧ DGet H2 a y (some v) ∧ Q v H2
  refine dw_run (k' := fun G1 w1 => DW K B G1 ty fun G2 r2 => PW r2 fun w2 => ∃ i qq ks kvs d, w1 = .sl i ∧ w2 = .d (keyD ks) ∧ G2[i]? = some (.k qq kvs) ∧ lkG kvs ks = some d ∧ P G2 (.p (.d d))) h I fun v1 F1 H1 G1 w1 e1 I1 a1 q1 => ?_
  refine dw_run (k' := fun G2 w2 => ∃ i qq ks kvs d, w1 = .sl i ∧ w2 = .d (keyD ks) ∧ G2[i]? = some (.k qq kvs) ∧ lkG kvs ks = some d ∧ P G2 (.p (.d d))) q1 I1 fun v2 F2 H2 G2 w2 e2 I2 a2 ⟨i, qq, ks, kvs, d, x1, x2, hi, hd, q2⟩ => ?_
  subst x1 x2
  obtain rfl := keyK_at a2
  obtain ⟨p, kws, hS, hp, hk, hv⟩ := I2.dctK hi
  have a1 : S[i]? = some (some v1) := a1
  rw [hS] at a1
  cases a1
  obtain ⟨v, ev, hvd⟩ := (lkG_val (k := ks) hk hv).2 d hd
  exact ⟨p, v, rfl, by rw [← ev]; exact DGet.k hp, ct_d (k.mono (e1.trans e2)) I2 hvd q2⟩
theorem ds_dPutK (h : DW K B G tv fun G1 r1 => PW r1 fun w1 => DW K B G1 td fun G2 r2 => PW r2 fun w2 => DW K B G2 ty fun G3 r3 => PW r3 fun w3 => ∃ i qq ks kvs d, w1 = .d d ∧ w2 = .sl i ∧ w3 = .d (keyD ks) ∧ G3[i]? = some (.k qq kvs) ∧ kvs.length < sizeLine ∧ E.nx (G3.set i (.k qq (putG kvs ks d)))) : DS K B G (sDPut td ty tv) E := fun S F H D I c => by
  show tv S H fun v H1 => td S H1 fun x H2 => ty S H2 fun y H3 => ∃ a H4, x = .ref a ∧ DPut H3 a y v H4 ∧ D.nx S H4
  refine dw_run (k' := fun G1 w1 => DW K B G1 td fun G2 r2 => PW r2 fun w2 => DW K B G2 ty fun G3 r3 => PW r3 fun w3 => ∃ i qq ks kvs d, w1 = .d d ∧ w2 = .sl i ∧ w3 = .d (keyD ks) ∧ G3[i]? = some (.k qq kvs) ∧ kvs.length < sizeLine ∧ E.nx (G3.set i (.k qq (putG kvs ks d)))) h I fun v1 F1 H1 G1 w1 e1 I1 a1 q1 => ?_
  refine dw_run (k' := fun G2 w2 => DW K B G2 ty fun G3 r3 => PW r3 fun w3 => ∃ i qq ks kvs d, w1 = .d d ∧ w2 = .sl i ∧ w3 = .d (keyD ks) ∧ G3[i]? = some (.k qq kvs) ∧ kvs.length < sizeLine ∧ E.nx (G3.set i (.k qq (putG kvs ks d)))) q1 I1 fun v2 F2 H2 G2 w2 e2 I2 a2 q2 => ?_
  refine dw_run (k' := fun G3 w3 => ∃ i qq ks kvs d, w1 = .d d ∧ w2 = .sl i ∧ w3 = .d (keyD ks) ∧ G3[i]? = some (.k qq kvs) ∧ kvs.length < sizeLine ∧ E.nx (G3.set i (.k qq (putG kvs ks d)))) q2 I2 fun v3 F3 H3 G3 w3 e3 I3 a3 ⟨i, qq, ks, kvs, d, x1, x2, x3, hi, hz, q3⟩ => ?_
  subst x1 x2 x3
  obtain rfl := keyK_at a3
  obtain ⟨p, kws, hS, hp, hk, hv⟩ := I3.dctK hi
  have a2 : S[i]? = some (some v2) := a2
  rw [hS] at a2
  cases a2
  have hl : kws.length = kvs.length := by
    have := congrArg List.length hk
    simpa using this
  refine ⟨p, _, rfl, DPut.k hp (by rw [hl]; exact hz), ?_⟩
  refine c.nx S F3 _ _ ((e1.trans e2).trans e3) (I3.mutG hi hS (fun A z => ?_) (fun z => nomatch z) fun A hA z => ?_) q3
  · obtain ⟨p', _, e, _, _, _, hA, _⟩ := z
    cases e
    exact hA
  · obtain ⟨z1, z2⟩ := putG_keys (k := ks) hk hv (dp_mono (e2.trans e3) a1)
    exact ⟨p, _, rfl, upd_same, z1, z2, hA, by obtain ⟨p', _, e, _, _, _, _, y⟩ := z; cases e; exact y⟩
end
end DL
namespace DL
open PySem L2
section
variable {X : Cx}
theorem kSORTD (K : Fr) (h : X.K = K) (hu : X.A.units + 65 < cLine) : CallR X (.builtin "sorted") (rSortedD K) := h ▸ cr_sortedD hu
theorem kLSORTD (K : Fr) (h : X.K = K) (hu : X.A.units + 65 < cLine) : MtR X "list.sort" (rSortD K) := h ▸ mt_sortD hu
theorem kMIND (K : Fr) (h : X.K = K) (hc : X.calm = true) (hu : X.A.units + 65 < cLine) : CallR X (.builtin "min") (rMinD K) := h ▸ cr_minD hc hu
theorem kLTD (K : Fr) (h : X.K = K) (hu : X.A.units + 65 < cLine) : OpR X (compareOp .Lt) (rLtD K) := h ▸ op_ltD hu
theorem kGTD (K : Fr) (h : X.K = K) (hu : X.A.units + 65 < cLine) : OpR X (compareOp .Gt) (rGtD K) := h ▸ op_gtD hu
theorem kTGL (K : Fr) (h : X.K = K) {es : List Expr} {j : Nat} {t : TGs} {n : Nat} {pos : Pos} (hc : X.calm = true) (ht : PGs X es t)
    (hn : (assignEach es X.env).length = n := by rfl) (hst : (assignEach es X.env).findIdx? (·.1) = none := by rfl) : PG X (.Tuple es j pos) (gLst K n t) := h ▸ pg_lst hc ht hn hst
end
section
variable {K : Fr} {B : Bs} {G : En} {P : Po} {w1 w2 : W}
open PySem.W (EachIs dataLe dataLt alike AllAlike Sortable)
theorem ei_da {F : Hp} {β : Type} {enc : β → PyData} : ∀ {vs : List V} {bs : List β}, DqAll K F vs (bs.map enc) → EachIs (fun v b => Dq K F v (enc b)) vs bs
  | _, [], .nil => .nil
  | _, b :: bs, .cons h t => .cons h (ei_da t)
theorem da_ei {F : Hp} {β : Type} {enc : β → PyData} : ∀ {vs : List V} {bs : List β}, EachIs (fun v b => Dq K F v (enc b)) vs bs → DqAll K F vs (bs.map enc)
  | _, _, .nil => .nil
  | _, _, .cons h t => .cons h (da_ei t)
/-- sorted(xs) -/
def srtD {β : Type} (enc : β → PyData) (bs : List β) : List β := bs.mergeSort (dataLe false enc)
theorem rn_sortD {β : Type} {bs : List β} {enc : β → PyData} (e1 : wd G w1 = some (.list (bs.map enc))) (h1 : AllAlike (bs.map enc)) (h2 : Sortable (bs.map enc)) (h3 : ∀ b ∈ bs, (enc b).depth ≤ 60)
    (q : P G (.fr (.o none ((srtD enc bs).map enc)))) : RWn K B G (rSortedD K) [w1] P := fun S F H Q vs I hv k => by
  obtain ⟨v, rfl, h⟩ := vws1 hv
  obtain ⟨p, us, rfl, hp, ha⟩ := wd_list I h e1
  exact ⟨β, p, us, bs, enc, fun v b => Dq K F v (enc b), rfl, SqL.of hp, ei_da ha, fun v b z => dq_dp (dp_mono I.ex z), h1, h2, h3, fun ys c hy hc => ct_L k I hc (da_ei hy) q⟩
/-- xs.sort() -/
theorem rm_sortD {β : Type} {bs : List β} {enc : β → PyData} {i : Nat} {a : Option Addr} (hi : G[i]? = some (.o a (bs.map enc))) (h1 : AllAlike (bs.map enc)) (h2 : Sortable (bs.map enc)) (h3 : ∀ b ∈ bs, (enc b).depth ≤ 60 ∧ noL (enc b) = true)
    (q : P (G.set i (.o a ((srtD enc bs).map enc))) (.p (.d .none))) : RWm K B G (rSortD K) (.sl i) [] P := fun S F H Q v vs I hv hs k => by
  cases hs
  obtain ⟨p, us, e, hp, hF, ha⟩ := I.lst hi
  have hv : S[i]? = some (some v) := hv
  rw [e] at hv
  cases hv
  exact ⟨β, p, us, bs, enc, fun v b => Dq K F v (enc b), rfl, rfl, hp, ei_da ha, fun v b z => dq_dp (dp_mono I.ex z), h1, h2, h3, fun ys hy => k .non F _ _ (.p (.d .none)) (Ex.refl F) ⟨I.mut hi e (da_ei hy), .non⟩ q⟩
/-- min(xs) -/
theorem rn_minD {d : PyData} {ds : List PyData} (e1 : wd G w1 = some (.list (d :: ds))) (h1 : PySem.W.AlikeAll (d :: ds)) (h2 : PyData.depthAll (d :: ds) ≤ 60) (q : P G (.p (.d (PySem.W.minD d ds)))) : RWn K B G (rMinD K) [w1] P := fun S F H Q vs I hv k => by
  obtain ⟨v, rfl, h⟩ := vws1 hv
  obtain ⟨p, us, rfl, hp, ha⟩ := wd_list I h e1
  refine ⟨p, us, d, ds, rfl, SqL.of hp, dqa_dp (da_mono I.ex ha), h1, h2, fun i x hx hd => ?_⟩
  obtain ⟨e, he, hx'⟩ := da_get' ha hx
  rw [hd] at he
  cases he
  exact ct_d k I hx' q
theorem rw_ltD {d e : PyData} (e1 : wd G w1 = some d) (e2 : wd G w2 = some e) (ha : alike d e = true) (hn : d ≠ .none) (hd : d.depth ≤ 60) (q : P G (.p (.d (.bool (dataLt d e))))) : RW2 K B G (rLtD K) w1 w2 P := fun S F H Q v1 v2 I h1 h2 k =>
  ⟨d, e, dq_dp (wd_dq I h1 e1), dq_dp (wd_dq I h2 e2), ha, hn, hd, ct_d k I (.bl _) q⟩
theorem rw_gtD {d e : PyData} (e1 : wd G w1 = some d) (e2 : wd G w2 = some e) (ha : alike d e = true) (hn : d ≠ .none) (hd : d.depth ≤ 60) (q : P G (.p (.d (.bool (dataLt e d))))) : RW2 K B G (rGtD K) w1 w2 P := fun S F H Q v1 v2 I h1 h2 k =>
  ⟨d, e, dq_dp (wd_dq I h1 e1), dq_dp (wd_dq I h2 e2), ha, hn, hd, ct_d k I (.bl _) q⟩
/-- a, b = [..] -/
theorem dg_lst {n : Nat} {gs : TGs} {cs : List Nat} {ds : List PyData} {Pe : En → Prop} (hn : ds.length = n) (h : DGs K B G gs cs ds Pe) : DG K B G (gLst K n gs) cs (.d (.list ds)) Pe := fun S F H v Q I hv k => by
  obtain ⟨a, vs, rfl, hs, ha⟩ := dp_lst hv
  exact ⟨a, vs, rfl, SqL.of (I.ex _ _ hs), by rw [da_len ha]; exact hn, h S F H vs Q I ha k⟩
/-! ### texts -/
theorem sub_at (a b : List Nat) (i : Nat) (h : i ≤ a.length) : (decide (i + (mkS b).length ≤ (mkS a).length) && Builtin.Str.subAt (mkS a) (mkS b) i) = decide ((a.drop i).take b.length = b) := by
  have e : Builtin.Str.subAt (mkS a) (mkS b) i = decide ((a.drop i).take b.length = b) := by
    unfold Builtin.Str.subAt mkS
    rw [Bool.eq_iff_iff, beq_iff_eq, decide_eq_true_eq]
    show (a.toArray.extract i (i + b.toArray.size)) = b.toArray ↔ _
    rw [← Array.toList_inj]
    simp [List.take_drop, Nat.add_sub_cancel_left]
  rw [e, mkS_len, mkS_len]
  by_cases c : (a.drop i).take b.length = b
  · have := congrArg List.length c
    rw [List.length_take, List.length_drop] at this
    rw [decide_eq_true c, Bool.and_true]
    exact decide_eq_true (by omega)
  · rw [decide_eq_false c, Bool.and_false]
theorem sw_eq (a b : List Nat) : Txt.startswith (mkS a) (mkS b) = decide (a.take b.length = b) := by
  have := sub_at a b 0 (Nat.zero_le _)
  rw [List.drop_zero] at this
  exact this
theorem sw3_eq (a b : List Nat) (i : Nat) (h : i ≤ a.length) : Txt.startswith3 (mkS a) (mkS b) (i : Int) = decide ((a.drop i).take b.length = b) := by
  have e : fromIndex (mkS a).length (i : Int) = i := by
    unfold fromIndex
    omega
  unfold Txt.startswith3
  rw [e]
  exact sub_at a b i h
/-- t.startswith(u) -/
theorem rm_sw {a b : List Nat} (q : P G (.p (.d (.bool (decide (a.take b.length = b)))))) : RWm K B G (fun x xs H Q => ∃ a b, x = .str a ∧ xs = [.str b] ∧ Q (.bl (Txt.startswith a b)) H) (.d (.str (mkS a))) [.d (.str (mkS b))] P := fun S F H Q v vs I hv hs k => by
  obtain ⟨y, rfl, hy⟩ := vws1 hs
  obtain rfl := dp_str hv
  obtain rfl := dp_str hy
  refine ⟨_, _, rfl, rfl, ?_⟩
  rw [sw_eq]
  exact ct_d k I (.bl _) q
theorem rm_sw3 {a b : List Nat} {i : Nat} (h : i ≤ a.length) (q : P G (.p (.d (.bool (decide ((a.drop i).take b.length = b)))))) : RWm K B G (fun x xs H Q => ∃ (a b : Str) (i : Int), x = .str a ∧ xs = [.str b, .int i] ∧ Q (.bl (Txt.startswith3 a b i)) H) (.d (.str (mkS a))) [.d (.str (mkS b)), .d (.int (i : Int))] P := fun S F H Q v vs I hv hs k => by
  obtain ⟨y, z, rfl, hy, hz⟩ := vws2 hs
  obtain rfl := dp_str hv
  obtain rfl := dp_str hy
  obtain rfl := dp_int hz
  refine ⟨_, _, _, rfl, rfl, ?_⟩
  rw [sw3_eq a b i h]
  exact ct_d k I (.bl _) q
end
/-! ### reversed(range(n)), enumerate(list) -/
section
variable {K : Fr} {B : Bs} {G : En} {P : Po} {te : TE} {ta : TA} {PI : En → List PyData → Prop}
def rngR (n : Nat) : List PyData := (List.range n).map fun (i : Nat) => PyData.int (((n - 1 - i : Nat)) : Int)
theorem rngR_get {n i : Nat} {d : PyData} (h : (rngR n)[i]? = some d) : i < n ∧ d = .int ((n - 1 - i : Nat) : Int) := by
  unfold rngR at h
  rw [List.getElem?_map] at h
  by_cases hi : i < n
  · rw [List.getElem?_range hi] at h
    exact ⟨hi, (Option.some.inj h).symm⟩
  · rw [List.getElem?_eq_none (by simpa using hi)] at h
    cases h
theorem rngR_len (n : Nat) : (rngR n).length = n := by simp [rngR]
theorem di_revR1 (h : DW K B G te fun G1 r1 => PW r1 fun w => ∃ n : Nat, w = .d (.int (n : Int)) ∧ n ≤ 1000000 ∧ PI G1 (rngR n)) : DI K B G (iRevR (tRg1 te)) PI := fun S F H R I k => by
  show te S H fun x H1 => ∃ n : Int, x = .int n ∧ _
  refine dw_run (k' := fun G1 w => ∃ n : Nat, w = .d (.int (n : Int)) ∧ n ≤ 1000000 ∧ PI G1 (rngR n)) h I fun v F1 H1 G1 w e1 I1 hv ⟨n, hw, hz, q⟩ => ?_
  subst hw
  refine ⟨(n : Int), dp_int hv, by omega, by omega, by omega, by omega, k _ F1 H1 G1 _ e1 I1 (fun i H2 F2 eF eH => ⟨fun d hd => ?_, fun e => ?_⟩) q⟩
  · obtain ⟨hi, rfl⟩ := rngR_get hd
    refine ⟨?_, fun x H' y => ?_⟩
    · show i < ((n : Int) - 0).toNat
      omega
    · obtain ⟨e, y⟩ := y
      subst e y
      have e2 : (0 : Int) + (((((n : Int) - 0).toNat : Nat)) : Int) - 1 + (i : Int) * (-1) = ((n - 1 - i : Nat) : Int) := by omega
      rw [e2]
      exact ⟨F2, Ex.refl _, Ex.refl _, eH, (fun b o z n => by rw [z] at n; cases n), .int _⟩
  · rw [rngR_len] at e
    show ((n : Int) - 0).toNat ≤ i
    omega
theorem di_enumL (h : DA K B G ta fun G1 ws => ∃ ds, ws = [.d (.list ds)] ∧ PI G1 (enD ds)) : DI K B G (iENUM K ta) PI := fun S F H R I k => by
  refine .inl ?_
  show ta S H fun vs H1 => ∃ a xs, vs = [.ref a] ∧ SqL K H1 a xs ∧ R (Ite K a) H1
  refine h S F H _ I fun vs F1 H1 G1 ws e1 I1 hv ⟨ds, hw, q⟩ => ?_
  subst hw
  obtain ⟨v, rfl, hv1⟩ := vws1 hv
  obtain ⟨a, xs, rfl, hp, ha⟩ := dp_lst hv1
  refine ⟨a, xs, rfl, SqL.of (I1.ex _ _ hp), k _ F1 H1 G1 _ e1 I1 (fun i H2 F2 eF eH => ⟨fun d hd => ?_, fun e => ?_⟩) q⟩
  · obtain ⟨x, hx, rfl⟩ := enD_get hd
    obtain ⟨u, hu, hd2⟩ := da_get ha hx
    have sq : SqL K H2 a xs := SqL.of (eH _ _ (eF _ _ hp))
    refine ⟨⟨xs, u, sq, hu⟩, fun v H' y => ?_⟩
    obtain ⟨T, x', rfl, hT, rfl, hx'⟩ := y
    have e3 := hx' xs sq
    rw [hu] at e3
    cases e3
    refine ⟨upd F2 T (.tup [.int (i : Nat), u]), Ex.new (eH.free hT), Ex.new hT, eH.both _ _, fun b o h1 h2 => ?_, .tup upd_same (.cons (.int _) (.cons (dp_mono (eF.trans (Ex.new (eH.free hT))) hd2) .nil))⟩
    by_cases hb : b = T
    · rw [hb]
      exact hT
    · rw [upd_ne hb] at h1
      rw [h1] at h2
      cases h2
  · rw [enD_len] at e
    exact ⟨xs, SqL.of (eH _ _ (eF _ _ hp)), by rw [da_len ha, e]; exact Nat.le_refl _⟩
/-! ### {k: v}, k an int or a text -/
theorem dw_disp1K {tk tv : TE} (h : ∀ B', DW K B' G tk fun G1 r1 => PW r1 fun w1 => DW K B' G1 tv fun G2 r2 => PW r2 fun w2 => ∃ k d, w1 = .d (keyD k) ∧ w2 = .d d ∧ P G2 (.fr (.k none [(k, d)]))) : DW K B G (tDisp [(tk, tv)]) P := fun S F H Q I k => by
  intro p hp
  obtain ⟨A0, mu, a0, _, I0, back⟩ := (I.newK hp).asideG (fun z => nomatch z)
  show tk S (upd H p (.dK [])) fun x H1 => tv S H1 fun y H2 => _
  refine dw_run (k' := fun G1 w1 => DW K ⟨F, upd H p (.dK []), mu⟩ G1 tv fun G2 r2 => PW r2 fun w2 => ∃ k d, w1 = .d (keyD k) ∧ w2 = .d d ∧ P G2 (.fr (.k none [(k, d)]))) (h _) I0 fun v1 F1 H1 G1 w1 e1 I1 r1 q1 => ?_
  refine dw_run (k' := fun G2 w2 => ∃ k d, w1 = .d (keyD k) ∧ w2 = .d d ∧ P G2 (.fr (.k none [(k, d)]))) q1 I1 fun v2 F2 H2 G2 w2 e2 I2 r2 ⟨ks, d, x1, x2, q2⟩ => ?_
  subst x1 x2
  obtain rfl := keyK_at (dp_mono e2 r1)
  obtain ⟨hD, J⟩ := back _ _ _ _ I2
  have hi : (G2 ++ [Sl.k none []])[G2.length]? = some (.k none []) := by simp
  have hl : S.length = G2.length := I2.len
  have hS : (S ++ [some (V.ref p)])[G2.length]? = some (some (.ref p)) := by
    rw [← hl]
    simp
  obtain ⟨p', kws, z1, z2, z3, z4⟩ := J.dctK hi
  rw [hS] at z1
  cases z1
  have ek : kws = [] := by simpa using z3
  subst ek
  refine ⟨z2, [(ks, v2)], rfl, by simp, ?_⟩
  have J2 : Iv K B ((G2 ++ [Sl.k none []]).set G2.length (.k none [(ks, d)])) (S ++ [some (.ref p)]) F2 (upd H2 p (.dK [(ks, v2)])) := J.mutG hi hS (fun A z => by
    obtain ⟨p', _, e, _, _, _, hA, _⟩ := z
    cases e
    exact hA) (fun z => nomatch z) fun A hA z => ⟨p, [(ks, v2)], rfl, upd_same, rfl, .cons r2 .nil, hA, fun _ z => nomatch z⟩
  have eG : (G2 ++ [Sl.k none []]).set G2.length (.k none [(ks, d)]) = G2 ++ [.k none [(ks, d)]] := by simp
  rw [eG] at J2
  have em : mergeK [] [(ks, v2)] = [(ks, v2)] := rfl
  rw [em]
  exact k (.ref p) F2 _ G2 (.fr (.k none [(ks, d)])) (e1.trans e2) J2 q2
end
/-! ### sorted(set(texts)) -/
end DL
namespace L2
open PySem PySem.Spec PyProof.Rows
/-- the set of texts at a -/
def SetTO (w : World) (a : Addr) (S : Str → Bool) (n : Nat) : HO := .ext fun h => SetT w h a S n
def rMkSetT (w : World) (K : PySem.W.Frag) : List V → Hp → VK → Prop := fun xs H Q => ∃ (l : Addr) (ns : List Str), xs = [.ref l] ∧ SqL K H l (ns.map V.str) ∧ ns.length ≤ 2000 ∧ ∀ p n, H p = none → n ≤ ns.length → Q (.ref p) (upd H p (SetTO w p (fun j => decide (j ∈ ns)) n))
def rSortSetT (w : World) : List V → Hp → VK → Prop := fun vs H Q => ∃ (a : Addr) (S : Str → Bool) (n : Nat), vs = [V.ref a] ∧ H a = some (SetTO w a S n) ∧ n ≤ 1000 ∧
  ∀ (ms : List Str) (p : Addr), ms.Nodup → (∀ k, k ∈ ms ↔ S k = true) → H p = none → Q (.ref p) (upd H p (.lst ((ms.mergeSort (PySem.W.dataLe false PyData.str)).map V.str)))
section
variable {X : Cx}
theorem setT_new {w : World} {P : Program} {H : Hp} {h : Heap} {a : Addr} {S : Str → Bool} {n : Nat} (R : SetT w h a S n) : ObjOk P w H h a (SetTO w a S n) := by
  have ⟨o, _, _, _, ho, _⟩ := R
  exact ⟨R, ⟨o, ho⟩, fun h1 h2 p k => SetT.at p k⟩
theorem setT_get {pins : List (Addr × Obj)} {σ : St} {H : Hp} {s : Shared} {a : Addr} {S : Str → Bool} {n : Nat} (I : Inv X pins σ H s) (ha : H a = some (SetTO X.w a S n)) : SetT X.w s.heap a S n := (I.hok a _ ha).1
theorem cr_setT (hc : X.calm = true) : CallR X (.type "set") (rMkSetT X.w X.K) := by
  intro pins s σ H xs us Q I r h
  obtain ⟨l, ns, rfl, hs, hl, q⟩ := h
  rw [Vals.ref1 r]
  obtain ⟨its, rv, pl, hz⟩ := I.list hs
  refine call_set_lstS ns (I.ok.hd hc) pl.isList (by simpa using strsAre_of rv) (by unfold scanBound; omega) fun h' tk c R hcl hk => ?_
  exact ⟨.ref _, upd H s.heap.objs.size (SetTO X.w s.heap.objs.size (fun j => decide (j ∈ ns)) c), I.laid (t' := tk) hk (Nat.le_refl _) (setT_new R), rfl, q _ _ (I.hok.fresh (Nat.le_refl _)) hcl⟩
theorem strs_vals : ∀ {us : List Value} {zs : List Str}, PySem.W.EachIs (fun v z => ∃ t, v = Value.str z t) us zs → Vals (zs.map V.str) us
  | _, _, .nil => .nil
  | _, _, .cons h t => .cons (by obtain ⟨t, rfl⟩ := h; exact ⟨t, rfl⟩) (strs_vals t)
theorem cr_sortSetT (hc : X.calm = true) (hu : X.A.units + 65 < cLine) : CallR X (.builtin "sorted") (rSortSetT X.w) := by
  intro pins s σ H vs us Q I r h
  obtain ⟨a, S, n, rfl, ha, h64, q⟩ := h
  have R := setT_get I ha
  rw [Vals.ref1 r]
  refine sorted_setT R (I.ok.hd hc) h64 (by omega) fun s' p out c ns k g o hp hg hi hm hl => ?_
  obtain ⟨ms, rfl, hnd, hm⟩ := hm
  have hlen : ((ms.mergeSort (PySem.W.dataLe false PyData.str)).map V.str).length ≤ sizeLine := by rw [List.length_map, hl, sizeLine_eq]; omega
  have hn : H p = none := I.hok.fresh hp
  have J : Inv X pins σ (upd H p (.lst ((ms.mergeSort (PySem.W.dataLe false PyData.str)).map V.str))) { s with heap := s'.heap, gens := s'.gens, drawn := s'.drawn, toks := s'.toks } :=
    I.call (ch := []) (Un.laid k hp hn) (I.hok.laid k hp ⟨hlen, out, c, strs_vals hi, hg⟩) (by rw [g]; exact I.bare) (fun _ z => nomatch z)
  have e : s' = { s with heap := s'.heap, gens := s'.gens, drawn := s'.drawn, toks := s'.toks } := by
    cases s'
    cases s
    cases o
    rfl
  rw [e]
  exact ⟨.ref p, _, J, rfl, q ms p hnd hm hn⟩
end
end L2
namespace DL
open PySem L2
theorem kSETT {X : Cx} (w : World) (K : Fr) (hw : X.w = w) (h : X.K = K) (hc : X.calm = true) : CallR X (.type "set") (rMkSetT w K) := hw ▸ h ▸ cr_setT hc
theorem kSORTSETT {X : Cx} (w : World) (hw : X.w = w) (hc : X.calm = true) (hu : X.A.units + 65 < cLine) : CallR X (.builtin "sorted") (rSortSetT w) := hw ▸ cr_sortSetT hc hu
section
variable {K : Fr} {B : Bs} {G : En} {P : Po} {te : TE} {w : World}
/-- sorted(set(xs)): the different texts of xs, sorted -/
theorem dw_sortSetT (h : DW K B G te fun G1 r1 => PW r1 fun w1 => ∃ ns : List Str, wd G1 w1 = some (.list (ns.map .str)) ∧ ns.length ≤ 1000 ∧ ∀ ms : List Str, ms.Nodup → (∀ k, k ∈ ms ↔ k ∈ ns) → P G1 (.fr (.o none ((srtD PyData.str ms).map .str)))) : DW K B G (tCB (rSortSetT w) (tCons (tCB (rMkSetT w K) (tCons te tNil)) tNil)) P := fun S F H Q I k => by
  show te S H fun x H1 => rMkSetT w K [x] H1 fun y H2 => rSortSetT w [y] H2 Q
  refine dw_run (k' := fun G1 w1 => ∃ ns : List Str, wd G1 w1 = some (.list (ns.map .str)) ∧ ns.length ≤ 1000 ∧ ∀ ms : List Str, ms.Nodup → (∀ k, k ∈ ms ↔ k ∈ ns) → P G1 (.fr (.o none ((srtD PyData.str ms).map .str)))) h I fun v1 F1 H1 G1 w1 e1 I1 r1 ⟨ns, hd, hl, q⟩ => ?_
  obtain ⟨l, us, rfl, hp, ha⟩ := wd_list I1 r1 hd
  obtain rfl := da_strs_eq ha
  refine ⟨l, ns, rfl, SqL.of hp, by omega, fun p n hp hn => ⟨p, _, n, rfl, upd_same, by omega, fun ms c hnd hm hc => ?_⟩⟩
  have J := I1.newH hp (SetTO w p (fun j => decide (j ∈ ns)) n)
  exact ct_L (k.mono e1) J hc (da_strs _) (q ms hnd fun k => by rw [hm k]; simp)
end
end DL
namespace DL
open PySem L2
/-! ### texts as lists of code points -/
abbrev zD (z : List Nat) : PyData := .str (mkS z)
abbrev nD (n : Nat) : PyData := .int (n : Int)
theorem eqv_zD (s t : List Nat) : PyData.eqv (zD s) (zD t) = decide (s = t) := by
  have : PyData.eqv (zD s) (zD t) = (mkS s == mkS t) := by simp only [PyData.eqv]
  rw [this]
  by_cases h : s = t
  · simp [h]
  · have : mkS s ≠ mkS t := fun e => h (mkS_inj.mp e)
    simp [h, this]
theorem mkS_dec (a b : List Nat) : decide (mkS a = mkS b) = decide (a = b) := decide_eq_decide.mpr mkS_inj
theorem mkS_cps (a : List Nat) : (mkS a).cps.toList = a := by simp [mkS]
section
variable {K : Fr} {B : Bs} {G : En} {P : Po} {w1 w2 : W}
theorem rw_eqZ {a b : List Nat} (q : P G (.p (.d (.bool (decide (a = b)))))) : RW2 K B G (rEQ K) (.d (.str (mkS a))) (.d (.str (mkS b))) P := rw_eqS (by rw [mkS_dec]; exact q)
theorem rw_neZ {a b : List Nat} (q : P G (.p (.d (.bool (!decide (a = b)))))) : RW2 K B G (rNE K) (.d (.str (mkS a))) (.d (.str (mkS b))) P := rw_neS (by rw [mkS_dec]; exact q)
theorem sIx_nat (len n lo : Nat) (h : lo ≤ len) : HT.sIx len lo (some (n : Int)) = min n len := by
  unfold HT.sIx
  simp only []
  rw [if_neg (by omega)]
  rfl
theorem cut_from {α : Type} (z : List α) (n : Nat) : cutD z (some (n : Int)) none = z.drop n := by
  unfold cutD
  rw [sIx_nat _ _ _ (Nat.zero_le _)]
  have : HT.sIx z.length z.length none = z.length := rfl
  rw [this]
  by_cases h : n ≤ z.length
  · rw [Nat.min_eq_left h, List.take_of_length_le (by rw [List.length_drop]; exact Nat.le_refl _)]
  · rw [Nat.min_eq_right (by omega), List.drop_length, List.drop_of_length_le (by omega)]
    simp
theorem cut_to {α : Type} (z : List α) (n : Nat) : cutD z none (some (n : Int)) = z.take n := by
  unfold cutD
  rw [sIx_nat _ _ _ (Nat.le_refl _)]
  have : HT.sIx z.length 0 none = 0 := rfl
  rw [this, List.drop_zero, Nat.sub_zero]
  by_cases h : n ≤ z.length
  · rw [Nat.min_eq_left h]
  · rw [Nat.min_eq_right (by omega), List.take_of_length_le (Nat.le_refl _), List.take_of_length_le (by omega)]
theorem cut_mid {α : Type} (z : List α) (a n : Nat) : cutD z (some (a : Int)) (some ((a + n : Nat) : Int)) = (z.drop a).take n := by
  unfold cutD
  rw [sIx_nat _ _ _ (Nat.zero_le _), sIx_nat _ _ _ (Nat.le_refl _)]
  by_cases h : a ≤ z.length
  · rw [Nat.min_eq_left h]
    by_cases h2 : a + n ≤ z.length
    · rw [Nat.min_eq_left h2, Nat.add_sub_cancel_left]
    · rw [Nat.min_eq_right (by omega), List.take_of_length_le (by rw [List.length_drop]; omega), List.take_of_length_le (by rw [List.length_drop]; omega)]
  · rw [Nat.min_eq_right (by omega), Nat.min_eq_right (by omega), List.drop_length, List.drop_of_length_le (by omega)]
    simp
theorem rs_from {z : List Nat} {n : Nat} (hz : z.length ≤ 1000000) (q : P G (.p (.d (.str (mkS (z.drop n)))))) : RWs K B G (rSLC K) (.d (.str (mkS z))) (some (n : Int)) none P := rs_S (szl hz) (by rw [cut_from]; exact q)
theorem rs_to {z : List Nat} {n : Nat} (hz : z.length ≤ 1000000) (q : P G (.p (.d (.str (mkS (z.take n)))))) : RWs K B G (rSLC K) (.d (.str (mkS z))) none (some (n : Int)) P := rs_S (szl hz) (by rw [cut_to]; exact q)
theorem rs_mid {z : List Nat} {a n : Nat} {e : Int} (he : e = ((a + n : Nat) : Int)) (hz : z.length ≤ 1000000) (q : P G (.p (.d (.str (mkS ((z.drop a).take n)))))) : RWs K B G (rSLC K) (.d (.str (mkS z))) (some (a : Int)) (some e) P := by
  subst he
  exact rs_S (szl hz) (by rw [cut_mid]; exact q)
theorem rs_Lto {ds : List PyData} {n : Nat} (e1 : wd G w1 = some (.list ds)) (q : P G (.fr (.o none (ds.take n)))) : RWs K B G (rSLC K) w1 none (some (n : Int)) P := rs_L e1 (by rw [cut_to]; exact q)
theorem rs_Tto {ds : List PyData} {n : Nat} (q : P G (.p (.d (.tuple (ds.take n))))) : RWs K B G (rSLC K) (.d (.tuple ds)) none (some (n : Int)) P := rs_T (by rw [cut_to]; exact q)
theorem rs_Tfrom {ds : List PyData} {n : Nat} (q : P G (.p (.d (.tuple (ds.drop n))))) : RWs K B G (rSLC K) (.d (.tuple ds)) (some (n : Int)) none P := rs_T (by rw [cut_from]; exact q)
theorem rn_lenZ {z : List Nat} (hz : z.length ≤ 1000000) (q : P G (.p (.d (.int (z.length : Int))))) : RWn K B G (rLEN K) [.d (.str (mkS z))] P := rn_lenS (szl hz) q
theorem rw_addZ {a b : List Nat} (hz : a.length + b.length ≤ 1000000) (q : P G (.p (.d (.str (mkS (a ++ b)))))) : RW2 K B G (rADD K) (.d (.str (mkS a))) (.d (.str (mkS b))) P := rw_addS (szl hz) q
/-- x in xs, xs a list of encoded things -/
theorem rw_inLE {α : Type} [DecidableEq α] {f : α → PyData} {xs : List α} {x : α} {d : PyData} (hf : ∀ a b, PyData.eqv (f a) (f b) = decide (a = b)) (hd : wd G w1 = some (f x)) (e2 : wd G w2 = some (.list (xs.map f))) (s1 : Shp 50 (f x)) (s2 : ∀ y ∈ xs, Shp 50 (f y)) (q : P G (.p (.d (.bool (decide (x ∈ xs)))))) : RW2 K B G (rIN K) w1 w2 P :=
  rw_inL hd e2 (shp_ok s1 (by decide)) (shp_ok (shp_list fun y hy => by
    obtain ⟨a, ha, rfl⟩ := List.mem_map.mp hy
    exact s2 a ha) (by decide)) (by rw [any_inj hf]; exact q)
theorem rw_niLE {α : Type} [DecidableEq α] {f : α → PyData} {xs : List α} {x : α} (hf : ∀ a b, PyData.eqv (f a) (f b) = decide (a = b)) (hd : wd G w1 = some (f x)) (e2 : wd G w2 = some (.list (xs.map f))) (s1 : Shp 50 (f x)) (s2 : ∀ y ∈ xs, Shp 50 (f y)) (q : P G (.p (.d (.bool (!decide (x ∈ xs)))))) : RW2 K B G (rNI K) w1 w2 P :=
  rw_niL hd e2 (shp_ok s1 (by decide)) (shp_ok (shp_list fun y hy => by
    obtain ⟨a, ha, rfl⟩ := List.mem_map.mp hy
    exact s2 a ha) (by decide)) (by rw [any_inj hf]; exact q)
/-- xs != [] -/
theorem rw_neNil {xs : List PyData} (e1 : wd G w1 = some (.list xs)) (h : ∀ x ∈ xs, Shp 60 x) (q : P G (.p (.d (.bool (!xs.isEmpty))))) : RW2 K B G (rNE K) w1 (.d (.list [])) P :=
  rw_neD e1 rfl (shp_ok (shp_list h) (by decide)) (shp_ok (n := 1) (shp_list (by simp)) (by decide)) (by rw [eqv_nil]; exact q)
theorem rw_eqNil {xs : List PyData} (e1 : wd G w1 = some (.list xs)) (h : ∀ x ∈ xs, Shp 60 x) (q : P G (.p (.d (.bool xs.isEmpty)))) : RW2 K B G (rEQ K) w1 (.d (.list [])) P :=
  rw_eqD e1 rfl (shp_ok (shp_list h) (by decide)) (shp_ok (n := 1) (shp_list (by simp)) (by decide)) (by rw [eqv_nil]; exact q)
/-- ''.join of texts -/
theorem join0_rows : ∀ cs : List (List Nat), Txt.join (mkS []) (cs.map mkS) = mkS cs.flatten := by
  have f : ∀ (cs : List (List Nat)) (acc : Array Nat), (cs.map mkS).foldl (fun acc p => acc ++ (mkS []).cps ++ p.cps) acc = acc ++ cs.flatten.toArray := by
    intro cs
    induction cs with
    | nil => intro acc; simp
    | cons c cs ih =>
      intro acc
      rw [List.map_cons, List.foldl_cons, ih]
      simp [mkS]
  intro cs
  cases cs with
  | nil => rfl
  | cons c cs =>
    show (⟨(cs.map mkS).foldl (fun acc p => acc ++ (mkS []).cps ++ p.cps) (mkS c).cps⟩ : Str) = mkS (c :: cs).flatten
    rw [f]
    simp [mkS]
theorem rm_joinR {cs : List (List Nat)} (e2 : wd G w2 = some (.list (cs.map zD))) (hz : (cs.map List.length).sum ≤ 16777216) (q : P G (.p (.d (.str (mkS cs.flatten))))) : RWm K B G (rJOIN K) (.d (.str (mkS []))) [w2] P := fun S F H Q v vs I hv hs k => by
  obtain ⟨y, rfl, hy⟩ := vws1 hs
  obtain rfl := dp_str hv
  obtain ⟨p, us, rfl, hp, ha⟩ := wd_list I hy e2
  have e : us = (cs.map mkS).map V.str := da_strs_eq (by rw [List.map_map]; exact ha)
  subst e
  refine ⟨_, p, cs.map mkS, rfl, rfl, .inl (SqL.of hp), ?_, ?_⟩
  · rw [mkS_len, List.map_map]
    have : (List.map ((fun x => x.length) ∘ mkS) cs) = cs.map List.length := List.map_congr_left fun c _ => mkS_len c
    show (List.map ((fun x => x.length) ∘ mkS) cs).sum + _ ≤ _
    rw [this]
    simpa using hz
  · rw [join0_rows]
    exact ct_d k I (.str _) q
end
end DL
namespace L2
open PySem PySem.Spec PyProof.Rows
/-- sorted(xs), xs of at most one item -/
def rSorted1 (K : PySem.W.Frag) : List V → Hp → VK → Prop := fun vs H Q => ∃ (a : Addr) (xs : List V), vs = [V.ref a] ∧ SqL K H a xs ∧ xs.length ≤ 1 ∧ ∀ p, H p = none → Q (.ref p) (upd H p (.lst xs))
def rSortedU (K : PySem.W.Frag) : List V → Hp → VK → Prop := fun vs H Q => rSortedD K vs H Q ∨ rSorted1 K vs H Q
section
variable {X : Cx}
theorem perm_le1 {α : Type} {l m : List α} (h : l.Perm m) (hl : m.length ≤ 1) : l = m := by
  match m, hl with
  | [], _ => exact h.eq_nil
  | [x], _ => exact List.perm_singleton.mp h
theorem cr_sorted1 : CallR X (.builtin "sorted") (rSorted1 X.K) := by
  intro pins s σ H vs us Q I r h
  obtain ⟨a, xs, rfl, hs, h1, q⟩ := h
  obtain ⟨its, rv, hl, hz⟩ := I.list hs
  rw [Vals.ref1 r]
  have hlen : its.length ≤ 1 := by rw [← rv.length]; exact h1
  refine SrtO.sorted_ord (ltv := fun _ _ => false) ⟨fun _ _ _ => rfl, fun _ _ _ _ _ => rfl⟩ hl.isList (by rw [← rv.length]; exact hz) (fun h2 h₁ a' _ _ => absurd h2 (by omega)) fun out o1 o2 => ?_
  obtain ⟨ep, he'⟩ := PyProof.Rows.sortedAll_at s.heap its out.toArray
  have e := perm_le1 o2.perm hlen
  subst e
  exact ⟨.ref _, upd H (s.heap.objs.size + 1) (.lst xs), I.laid (t' := s.toks) (fun _ _ => PyProof.Rows.sortedAll_old) (Nat.le_succ _) ⟨hz, out, ep, rv, he'⟩, rfl, q _ (I.hok.fresh (Nat.le_succ _))⟩
theorem cr_sortedU (hu : X.A.units + 65 < cLine) : CallR X (.builtin "sorted") (rSortedU X.K) := by
  intro pins s σ H vs us Q I r h
  rcases h with h | h
  · exact cr_sortedD hu pins s σ H vs us Q I r h
  · exact cr_sorted1 pins s σ H vs us Q I r h
end
end L2
namespace DL
open PySem L2
theorem kSORTU {X : Cx} (K : Fr) (h : X.K = K) (hu : X.A.units + 65 < cLine) : CallR X (.builtin "sorted") (rSortedU K) := h ▸ cr_sortedU hu
section
variable {K : Fr} {B : Bs} {G : En} {P : Po} {w1 w2 : W}
theorem rn_sortU {β : Type} {bs : List β} {enc : β → PyData} (e1 : wd G w1 = some (.list (bs.map enc))) (h1 : PySem.W.AllAlike (bs.map enc)) (h2 : PySem.W.Sortable (bs.map enc)) (h3 : ∀ b ∈ bs, (enc b).depth ≤ 60)
    (q : P G (.fr (.o none ((srtD enc bs).map enc)))) : RWn K B G (rSortedU K) [w1] P := fun S F H Q vs I hv k => .inl (rn_sortD e1 h1 h2 h3 q S F H Q vs I hv k)
theorem rn_sortU1 {ds : List PyData} (e1 : wd G w1 = some (.list ds)) (h : ds.length ≤ 1) (q : P G (.fr (.o none ds))) : RWn K B G (rSortedU K) [w1] P := fun S F H Q vs I hv k => .inr (by
  obtain ⟨v, rfl, h'⟩ := vws1 hv
  obtain ⟨p, us, rfl, hp, ha⟩ := wd_list I h' e1
  exact ⟨p, us, rfl, SqL.of hp, by rw [da_len ha]; exact h, fun c hc => ct_L k I hc ha q⟩)
end
/-! tuples of numbers -/
abbrev wD (way : List Nat) : PyData := .tuple (way.map nD)
theorem cast_lt : ∀ {a b : List Nat}, (a.map fun n : Nat => (n : Int)) < (b.map fun n : Nat => (n : Int)) ↔ a < b
  | [], [] => by simp
  | [], _ :: _ => by simp
  | _ :: _, [] => by simp
  | x :: a, y :: b => by
    rw [List.map_cons, List.map_cons, List.cons_lt_cons_iff, List.cons_lt_cons_iff, cast_lt (a := a) (b := b)]
    constructor
    · rintro (h | ⟨h1, h2⟩)
      · exact .inl (by omega)
      · exact .inr ⟨by omega, h2⟩
    · rintro (h | ⟨h1, h2⟩)
      · exact .inl (by omega)
      · exact .inr ⟨by omega, h2⟩
theorem wD_int (way : List Nat) : way.map nD = (way.map fun n : Nat => (n : Int)).map PyData.int := by
  rw [List.map_map]
  rfl
theorem lt_wD (a b : List Nat) : PySem.W.dataLt (wD a) (wD b) = decide (a < b) := by
  rw [PySem.W.dataLt_tuple, wD_int, wD_int]
  refine (PySem.W.dataLt_ints _ _).trans ?_
  exact decide_eq_decide.mpr cast_lt
theorem alike_wD (a b : List Nat) : PySem.W.alike (wD a) (wD b) = true := by
  have : PySem.W.alike (wD a) (wD b) = PySem.W.alikeAll (a.map nD) (b.map nD) := by simp [PySem.W.alike]
  rw [this, wD_int, wD_int]
  exact PySem.W.alike_ints _ _
theorem srt_wD {l : List (List Nat)} (h : l.Pairwise (· < ·)) : srtD wD l = l := by
  refine List.mergeSort_of_pairwise (h.imp fun {a b} z => ?_)
  show (!PySem.W.dataLt (wD b) (wD a)) = true
  rw [lt_wD, decide_eq_false (List.lt_asymm z)]
  rfl
theorem shp_wD (a : List Nat) : Shp 1 (wD a) := shp_tup fun x hx => by
  obtain ⟨n, _, rfl⟩ := List.mem_map.mp hx
  exact shp_int 0 _
end DL
namespace DL
open PySem L2
/-! ### a call whose last argument is a new own thing -/
def DAF (K : Fr) (B : Bs) (G : En) (ta : TA) (P : En → List W → Sl → Prop) : Prop := ∀ S F H (Q : List V → Hp → Prop), Iv K B G S F H → (∀ vs v F' H' G' ws s, Ex F F' → Iv K B (G' ++ [s]) (S ++ [some v]) F' H' → Vws K S F' vs ws → P G' ws s → Q (vs ++ [v]) H') → ta S H Q
section
variable {K : Fr} {B : Bs} {G : En} {te : TE} {tr t : TA}
theorem daf_last {P : En → List W → Sl → Prop} (h : DW K B G te fun G1 r => ∃ s, r = .fr s ∧ P G1 [] s) : DAF K B G (tCons te tNil) P := fun S F H Q I k => by
  show te S H fun x H1 => Q [x] H1
  refine h S F H _ I fun v F1 H1 G1 r e1 hv ⟨s, hr, q⟩ => ?_
  subst hr
  exact k [] v F1 H1 G1 [] s e1 hv .nil q
theorem daf_cons {P : En → List W → Sl → Prop} (h : DW K B G te fun G1 r1 => PW r1 fun w1 => DAF K B G1 tr fun G2 ws s => P G2 (w1 :: ws) s) : DAF K B G (tCons te tr) P := fun S F H Q I k => by
  show te S H fun x H1 => tr S H1 fun xs H2 => Q (x :: xs) H2
  refine dw_run (k' := fun G1 w1 => DAF K B G1 tr fun G2 ws s => P G2 (w1 :: ws) s) h I fun v F1 H1 G1 w e1 I1 hv q => ?_
  exact q S F1 H1 _ I1 fun vs u F2 H2 G2 ws s e2 I2 hvs q2 => k (v :: vs) u F2 H2 G2 (w :: ws) s (e1.trans e2) I2 (.cons (hv.mono e2) hvs) q2
variable {P : Po} {E : XK} {ι : Type} {args1 args2 : ι → List PyData} {own : ι → Sl} {pre : ι → Prop} {res : ι → Sl → Rs → Prop} {exc : ι → Sl → Value → Prop}
theorem splitW_last : ∀ {ws : List W} {ds : List PyData} {i : Nat}, allD ws = some ds → splitW (ws ++ [.sl i]) = some (ds, i, [])
  | [], _, _, e => by
    cases e
    rfl
  | .d d :: r, _, i, e => by
    simp only [allD, Option.map_eq_some_iff] at e
    obtain ⟨es, e1, rfl⟩ := e
    show (splitW (r ++ [.sl i])).map _ = _
    rw [splitW_last e1]
    rfl
theorem vws_snoc {S : St} {F : Hp} {v : V} {n : Nat} (hn : S.length = n) : ∀ {vs : List V} {ws : List W} {ds : List PyData}, allD ws = some ds → Vws K S F vs ws → Vws K (S ++ [some v]) F (vs ++ [v]) (ws ++ [.sl n])
  | _, [], _, _, .nil => .cons (by show (S ++ [some v])[n]? = _; rw [← hn]; simp) .nil
  | _, .d d :: r, _, e, .cons h t => by
    simp only [allD, Option.map_eq_some_iff] at e
    obtain ⟨es, e1, rfl⟩ := e
    exact .cons h (vws_snoc hn e1 t)
theorem dw_callHL (h : DAF K B G t fun G1 ws s => ∃ x, pre x ∧ allD ws = some (args1 x) ∧ args2 x = [] ∧ s.tr = true ∧ s.re none = (own x).re none ∧ (∀ s' r, s'.tr = true → res x s' r → ∃ d, r = .p (.d d) ∧ P G1 (.p (.d d))) ∧ ∀ s' c, ¬ exc x s' c) :
    DW K B G (tCall (spH K args1 own args2 pre res exc) [] E t) P := fun S F H Q I k => by
  show t S H fun vs H1 => spH K args1 own args2 pre res exc (vs ++ []) H1 Q E
  refine h S F H _ I fun vs v F1 H1 G1 ws s e1 I1 hv ⟨x, hp, hd, h2, ht, ho, q, qx⟩ => ?_
  rw [List.append_nil]
  have hl : S.length = G1.length := by
    have := I1.len
    simpa using this
  have hi : (G1 ++ [s])[G1.length]? = some s := by simp
  refine ⟨x, hp, coreG (S := S ++ [some v]) (P := fun G' r => ∃ s' d, G' = G1 ++ [s'] ∧ r = .p (.d d) ∧ P G1 (.p (.d d))) (fun u F' H' G' r e2 J pq => ?_) e1 I1 (vws_snoc hl hd hv) (splitW_last hd) hi ht ⟨rfl, by rw [re_re]; exact ho, h2.symm⟩ (fun s' r ht' a => ?_) (fun cls F' H' s' ht' J a => absurd a (qx _ _))⟩
  · obtain ⟨s', d, rfl, rfl, p⟩ := pq
    exact k u F' H' G1 (.p (.d d)) e2 ⟨J.1.drop, J.2⟩ p
  · obtain ⟨d, rfl, p⟩ := q (s'.re none) r (by rw [re_tr]; exact ht') a
    exact ⟨s'.re s.q, d, by simp, rfl, p⟩
end
end DL
namespace K65
open PySem PySem.Spec PyProof.Rows L2 DL
def topS (i : Nat) : Stmt := PySem.Challenge.pw_chipgate_k65_codes_by_what_is_left_over.main.body.getD i (.Pass ⟨0, 0, 0, 0⟩)
structure Ad where
  (f1 f2 f3 f4 f5 f6 f7 f9 f10 f11 f12 f13 f14 f15 f16 f17 f18 f19 f20 f21 f22 f23 : Addr)
  (d1 d2 d3 d4 d5 d6 d7 d9 d10 d11 d12 d13 d14 d15 d16 d17 d18 d19 d20 d21 d22 d23 : FuncData)
abbrev s_remainders : Stmt := topS 1
theorem sc_remainders : FnScope ["rows", "found", "left", "first", "rest", "second"] ["rows"] (defScope s_remainders) := ⟨rfl, rfl, rfl, by decide +kernel, rfl, by decide +kernel, by decide +kernel⟩
abbrev s_rests_of : Stmt := topS 2
theorem sc_rests_of : FnScope ["rows", "rest", "found", "row"] ["rows", "rest"] (defScope s_rests_of) := ⟨rfl, rfl, rfl, by decide +kernel, rfl, by decide +kernel, by decide +kernel⟩
abbrev s_least_double : Stmt := topS 3
theorem sc_least_double : FnScope ["rows", "left", "first", "longer", "met", "length", "text", "rest", "row", "other", "second"] ["rows"] (defScope s_least_double) := ⟨rfl, rfl, rfl, by decide +kernel, rfl, by decide +kernel, by decide +kernel⟩
abbrev s_readings : Stmt := topS 4
theorem sc_readings : FnScope ["rows", "text", "found", "place", "ways", "number", "row", "way"] ["rows", "text"] (defScope s_readings) := ⟨rfl, rfl, rfl, by decide +kernel, rfl, by decide +kernel, by decide +kernel⟩
abbrev s_code : Stmt := topS 5
theorem sc_code : FnScope ["rows", "double"] ["rows"] (defScope s_code) := ⟨rfl, rfl, rfl, by decide +kernel, rfl, by decide +kernel, by decide +kernel⟩
abbrev s_is_reading : Stmt := topS 6
theorem sc_is_reading : FnScope ["rows", "reading", "whole", "number"] ["rows", "reading"] (defScope s_is_reading) := ⟨rfl, rfl, rfl, by decide +kernel, rfl, by decide +kernel, by decide +kernel⟩
abbrev s_judge_code : Stmt := topS 7
theorem sc_judge_code : FnScope ["rows", "told", "first", "second", "due", "rest", "reading", "number"] ["rows", "told"] (defScope s_judge_code) := ⟨rfl, rfl, rfl, by decide +kernel, rfl, by decide +kernel, by decide +kernel⟩
abbrev s_law_next : Stmt := topS 9
theorem sc_law_next : FnScope ["state", "limit", "cell", "value"] ["state", "limit"] (defScope s_law_next) := ⟨rfl, rfl, rfl, by decide +kernel, rfl, by decide +kernel, by decide +kernel⟩
abbrev s_law_same : Stmt := topS 10
theorem sc_law_same : FnScope ["actual", "expected", "k"] ["actual", "expected"] (defScope s_law_same) := ⟨rfl, rfl, rfl, by decide +kernel, rfl, by decide +kernel, by decide +kernel⟩
abbrev s_law_signs : Stmt := topS 11
theorem sc_law_signs : FnScope ["state"] ["state"] (defScope s_law_signs) := ⟨rfl, rfl, rfl, by decide +kernel, rfl, by decide +kernel, by decide +kernel⟩
abbrev s_law_word : Stmt := topS 12
theorem sc_law_word : FnScope ["state", "signs", "most", "k"] ["state", "signs", "most"] (defScope s_law_word) := ⟨rfl, rfl, rfl, by decide +kernel, rfl, by decide +kernel, by decide +kernel⟩
abbrev s_law_rows : Stmt := topS 13
theorem sc_law_rows : FnScope ["state", "signs", "rows", "k", "pick", "row"] ["state", "signs"] (defScope s_law_rows) := ⟨rfl, rfl, rfl, by decide +kernel, rfl, by decide +kernel, by decide +kernel⟩
abbrev s_law_rests : Stmt := topS 14
theorem sc_law_rests : FnScope ["rows", "rest", "found", "row"] ["rows", "rest"] (defScope s_law_rests) := ⟨rfl, rfl, rfl, by decide +kernel, rfl, by decide +kernel, by decide +kernel⟩
abbrev s_law_left_over : Stmt := topS 15
theorem sc_law_left_over : FnScope ["rows", "found", "behind", "one", "made", "rest", "other"] ["rows"] (defScope s_law_left_over) := ⟨rfl, rfl, rfl, by decide +kernel, rfl, by decide +kernel, by decide +kernel⟩
abbrev s_law_ways : Stmt := topS 16
theorem sc_law_ways : FnScope ["rows", "text", "at", "known", "found", "k", "way"] ["rows", "text", "at", "known"] (defScope s_law_ways) := ⟨rfl, rfl, rfl, by decide +kernel, rfl, by decide +kernel, by decide +kernel⟩
abbrev s_law_least_double : Stmt := topS 17
theorem sc_law_least_double : FnScope ["rows", "best", "front", "one", "size", "text", "rest", "row", "other", "each"] ["rows"] (defScope s_law_least_double) := ⟨rfl, rfl, rfl, by decide +kernel, rfl, by decide +kernel, by decide +kernel⟩
abbrev s_law_no_lesser : Stmt := topS 18
theorem sc_law_no_lesser : FnScope ["rows", "text", "signs", "front", "size", "row"] ["rows", "text", "signs"] (defScope s_law_no_lesser) := ⟨rfl, rfl, rfl, by decide +kernel, rfl, by decide +kernel, by decide +kernel⟩
abbrev s_law_longer : Stmt := topS 19
theorem sc_law_longer : FnScope ["front", "signs", "found", "row", "sign"] ["front", "signs"] (defScope s_law_longer) := ⟨rfl, rfl, rfl, by decide +kernel, rfl, by decide +kernel, by decide +kernel⟩
abbrev s_law_is_number : Stmt := topS 20
theorem sc_law_is_number : FnScope ["value", "limit"] ["value", "limit"] (defScope s_law_is_number) := ⟨rfl, rfl, rfl, by decide +kernel, rfl, by decide +kernel, by decide +kernel⟩
abbrev s_law_accepts : Stmt := topS 21
theorem sc_law_accepts : FnScope ["rows", "told", "way", "texts", "due", "one", "rest", "number", "other"] ["rows", "told"] (defScope s_law_accepts) := ⟨rfl, rfl, rfl, by decide +kernel, rfl, by decide +kernel, by decide +kernel⟩
abbrev s_law_turned : Stmt := topS 22
theorem sc_law_turned : FnScope ["state", "signs", "paper", "pick", "k"] ["state", "signs", "paper"] (defScope s_law_turned) := ⟨rfl, rfl, rfl, by decide +kernel, rfl, by decide +kernel, by decide +kernel⟩
abbrev s_law : Stmt := topS 23
theorem sc_law : FnScope ["script", "state", "turn", "signs", "rows", "rests", "double", "due", "handed", "told", "asks", "ends", "row", "k", "asked", "end"] ["script"] (defScope s_law) := ⟨rfl, rfl, rfl, by decide +kernel, rfl, by decide +kernel, by decide +kernel⟩
structure Tx (K : PySem.W.Frag) (mg : Str → Option Value) (a : Ad) : Prop where
  z_bool : mg "bool" = none
  z_enumerate : mg "enumerate" = none
  z_int : mg "int" = none
  z_isinstance : mg "isinstance" = none
  z_len : mg "len" = none
  z_list : mg "list" = none
  z_min : mg "min" = none
  z_range : mg "range" = none
  z_reversed : mg "reversed" = none
  z_set : mg "set" = none
  z_sorted : mg "sorted" = none
  z_str : mg "str" = none
  z_tuple : mg "tuple" = none
  m_remainders : mg "remainders" = some (.ref a.f1)
  k_remainders : PySem.W.keepIn K (.ref a.f1) = true
  b_remainders : Binds K a.d1 ["rows"] []
  F_remainders : Fun K "remainders" "remainders" s_remainders a.f1 a.d1
  m_rests_of : mg "rests_of" = some (.ref a.f2)
  k_rests_of : PySem.W.keepIn K (.ref a.f2) = true
  b_rests_of : Binds K a.d2 ["rows", "rest"] []
  F_rests_of : Fun K "rests_of" "rests_of" s_rests_of a.f2 a.d2
  m_least_double : mg "least_double" = some (.ref a.f3)
  k_least_double : PySem.W.keepIn K (.ref a.f3) = true
  b_least_double : Binds K a.d3 ["rows"] []
  F_least_double : Fun K "least_double" "least_double" s_least_double a.f3 a.d3
  m_readings : mg "readings" = some (.ref a.f4)
  k_readings : PySem.W.keepIn K (.ref a.f4) = true
  b_readings : Binds K a.d4 ["rows", "text"] []
  F_readings : Fun K "readings" "readings" s_readings a.f4 a.d4
  m_code : mg "code" = some (.ref a.f5)
  k_code : PySem.W.keepIn K (.ref a.f5) = true
  b_code : Binds K a.d5 ["rows"] []
  F_code : Fun K "code" "code" s_code a.f5 a.d5
  m_is_reading : mg "is_reading" = some (.ref a.f6)
  k_is_reading : PySem.W.keepIn K (.ref a.f6) = true
  b_is_reading : Binds K a.d6 ["rows", "reading"] []
  F_is_reading : Fun K "is_reading" "is_reading" s_is_reading a.f6 a.d6
  m_judge_code : mg "judge_code" = some (.ref a.f7)
  k_judge_code : PySem.W.keepIn K (.ref a.f7) = true
  b_judge_code : Binds K a.d7 ["rows", "told"] []
  F_judge_code : Fun K "judge_code" "judge_code" s_judge_code a.f7 a.d7
  m_law_next : mg "_law_next" = some (.ref a.f9)
  k_law_next : PySem.W.keepIn K (.ref a.f9) = true
  b_law_next : Binds K a.d9 ["state", "limit"] []
  F_law_next : Fun K "_law_next" "_law_next" s_law_next a.f9 a.d9
  m_law_same : mg "_law_same" = some (.ref a.f10)
  k_law_same : PySem.W.keepIn K (.ref a.f10) = true
  b_law_same : Binds K a.d10 ["actual", "expected"] []
  F_law_same : Fun K "_law_same" "_law_same" s_law_same a.f10 a.d10
  m_law_signs : mg "_law_signs" = some (.ref a.f11)
  k_law_signs : PySem.W.keepIn K (.ref a.f11) = true
  b_law_signs : Binds K a.d11 ["state"] []
  F_law_signs : Fun K "_law_signs" "_law_signs" s_law_signs a.f11 a.d11
  m_law_word : mg "_law_word" = some (.ref a.f12)
  k_law_word : PySem.W.keepIn K (.ref a.f12) = true
  b_law_word : Binds K a.d12 ["state", "signs", "most"] []
  F_law_word : Fun K "_law_word" "_law_word" s_law_word a.f12 a.d12
  m_law_rows : mg "_law_rows" = some (.ref a.f13)
  k_law_rows : PySem.W.keepIn K (.ref a.f13) = true
  b_law_rows : Binds K a.d13 ["state", "signs"] []
  F_law_rows : Fun K "_law_rows" "_law_rows" s_law_rows a.f13 a.d13
  m_law_rests : mg "_law_rests" = some (.ref a.f14)
  k_law_rests : PySem.W.keepIn K (.ref a.f14) = true
  b_law_rests : Binds K a.d14 ["rows", "rest"] []
  F_law_rests : Fun K "_law_rests" "_law_rests" s_law_rests a.f14 a.d14
  m_law_left_over : mg "_law_left_over" = some (.ref a.f15)
  k_law_left_over : PySem.W.keepIn K (.ref a.f15) = true
  b_law_left_over : Binds K a.d15 ["rows"] []
  F_law_left_over : Fun K "_law_left_over" "_law_left_over" s_law_left_over a.f15 a.d15
  m_law_ways : mg "_law_ways" = some (.ref a.f16)
  k_law_ways : PySem.W.keepIn K (.ref a.f16) = true
  b_law_ways : Binds K a.d16 ["rows", "text", "at", "known"] []
  F_law_ways : Fun K "_law_ways" "_law_ways" s_law_ways a.f16 a.d16
  m_law_least_double : mg "_law_least_double" = some (.ref a.f17)
  k_law_least_double : PySem.W.keepIn K (.ref a.f17) = true
  b_law_least_double : Binds K a.d17 ["rows"] []
  F_law_least_double : Fun K "_law_least_double" "_law_least_double" s_law_least_double a.f17 a.d17
  m_law_no_lesser : mg "_law_no_lesser" = some (.ref a.f18)
  k_law_no_lesser : PySem.W.keepIn K (.ref a.f18) = true
  b_law_no_lesser : Binds K a.d18 ["rows", "text", "signs"] []
  F_law_no_lesser : Fun K "_law_no_lesser" "_law_no_lesser" s_law_no_lesser a.f18 a.d18
  m_law_longer : mg "_law_longer" = some (.ref a.f19)
  k_law_longer : PySem.W.keepIn K (.ref a.f19) = true
  b_law_longer : Binds K a.d19 ["front", "signs"] []
  F_law_longer : Fun K "_law_longer" "_law_longer" s_law_longer a.f19 a.d19
  m_law_is_number : mg "_law_is_number" = some (.ref a.f20)
  k_law_is_number : PySem.W.keepIn K (.ref a.f20) = true
  b_law_is_number : Binds K a.d20 ["value", "limit"] []
  F_law_is_number : Fun K "_law_is_number" "_law_is_number" s_law_is_number a.f20 a.d20
  m_law_accepts : mg "_law_accepts" = some (.ref a.f21)
  k_law_accepts : PySem.W.keepIn K (.ref a.f21) = true
  b_law_accepts : Binds K a.d21 ["rows", "told"] []
  F_law_accepts : Fun K "_law_accepts" "_law_accepts" s_law_accepts a.f21 a.d21
  m_law_turned : mg "_law_turned" = some (.ref a.f22)
  k_law_turned : PySem.W.keepIn K (.ref a.f22) = true
  b_law_turned : Binds K a.d22 ["state", "signs", "paper"] []
  F_law_turned : Fun K "_law_turned" "_law_turned" s_law_turned a.f22 a.d22
  m_law : mg "law" = some (.ref a.f23)
  k_law : PySem.W.keepIn K (.ref a.f23) = true
  b_law : Binds K a.d23 ["script"] []
  F_law : Fun K "law" "law" s_law a.f23 a.d23

end K65
namespace K65
abbrev Row := List Nat
/-! ### the order of rows: by length, then as lists -/
def kle (a b : Row) : Prop := a.length < b.length ∨ (a.length = b.length ∧ ¬ b < a)
theorem kle_refl (a : Row) : kle a a := .inr ⟨rfl, List.lt_irrefl a⟩
theorem kle_trans {a b c : Row} (h1 : kle a b) (h2 : kle b c) : kle a c := by
  rcases h1 with h1 | ⟨h1, h1'⟩ <;> rcases h2 with h2 | ⟨h2, h2'⟩
  · exact .inl (by omega)
  · exact .inl (by omega)
  · exact .inl (by omega)
  · refine .inr ⟨by omega, ?_⟩
    have a1 : a ≤ b := List.not_lt.mp h1'
    have a2 : b ≤ c := List.not_lt.mp h2'
    exact List.not_lt.mpr (List.le_trans a1 a2)
theorem kle_anti {a b : Row} (h1 : kle a b) (h2 : kle b a) : a = b := by
  rcases h1 with h1 | ⟨h1, h1'⟩ <;> rcases h2 with h2 | ⟨h2, h2'⟩
  · omega
  · omega
  · omega
  · exact List.le_antisymm (List.not_lt.mp h1') (List.not_lt.mp h2')
theorem kle_total (a b : Row) : kle a b ∨ kle b a := by
  by_cases h : a.length = b.length
  · by_cases h' : b < a
    · exact .inr (.inr ⟨h.symm, List.lt_asymm h'⟩)
    · exact .inl (.inr ⟨h, h'⟩)
  · rcases Nat.lt_or_gt_of_ne h with h | h
    · exact .inl (.inl h)
    · exact .inr (.inl h)
theorem lt_app {c : Row} : ∀ {a b : Row}, a.length = b.length → (a ++ c < b ++ c ↔ a < b)
  | [], [], _ => by simp [List.lt_irrefl]
  | x :: a, y :: b, h => by
    rw [List.cons_append, List.cons_append, List.cons_lt_cons_iff, List.cons_lt_cons_iff, lt_app (by simpa using h)]
  | [], _ :: _, h => by simp at h
  | _ :: _, [], h => by simp at h
theorem kle_app {a b : Row} (c : Row) (h : kle a b) : kle (a ++ c) (b ++ c) := by
  rcases h with h | ⟨h, h'⟩
  · exact .inl (by simp; omega)
  · exact .inr ⟨by simp [h], fun z => h' ((lt_app h.symm).mp z)⟩
theorem kle_pre (a c : Row) : kle a (a ++ c) := by
  cases c with
  | nil => rw [List.append_nil]; exact kle_refl a
  | cons x c => exact .inl (by simp)
/-! ### what is left over -/
theorem beg_iff {a b : Row} : b.take a.length = a ↔ ∃ c, b = a ++ c := by
  constructor
  · intro h
    refine ⟨b.drop a.length, ?_⟩
    have := List.take_append_drop a.length b
    rw [h] at this
    exact this.symm
  · rintro ⟨c, rfl⟩
    simp
theorem beg_drop {a b : Row} (h : b.take a.length = a) : a ++ b.drop a.length = b := by
  have := List.take_append_drop a.length b
  rwa [h] at this
def prs (rows : List Row) (one : Row) : List Row := (rows.filter fun o => decide (o ≠ one) && decide (o.take one.length = one))
/-- a row that begins with another one, and what stands behind that -/
def pairs (rows : List Row) : List (Row × Row) := rows.flatMap fun one => (prs rows one).map fun o => (o, o.drop one.length)
def base (rows : List Row) : List Row := rows.flatMap fun one => (prs rows one).map fun o => o.drop one.length
theorem base_eq (rows : List Row) : base rows = (pairs rows).map (·.2) := by
  unfold base pairs
  rw [List.map_flatMap]
  simp [Function.comp_def]
def rests (rows : List Row) (r : Row) : List Row := (rows.filter fun w => decide (w.take r.length = r)).map (fun w => w.drop r.length) ++ (rows.filter fun w => decide (r.take w.length = w)).map fun w => r.drop w.length
def restsL (rows : List Row) (r : Row) : List Row := rows.flatMap fun w => (if w.take r.length = r then [w.drop r.length] else []) ++ (if r.take w.length = w then [r.drop w.length] else [])
theorem mem_rests {rows : List Row} {r x : Row} : x ∈ rests rows r ↔ ∃ w ∈ rows, (w.take r.length = r ∧ x = w.drop r.length) ∨ (r.take w.length = w ∧ x = r.drop w.length) := by
  unfold rests
  simp only [List.mem_append, List.mem_map, List.mem_filter, decide_eq_true_eq]
  constructor
  · rintro (⟨w, ⟨h1, h2⟩, rfl⟩ | ⟨w, ⟨h1, h2⟩, rfl⟩)
    · exact ⟨w, h1, .inl ⟨h2, rfl⟩⟩
    · exact ⟨w, h1, .inr ⟨h2, rfl⟩⟩
  · rintro ⟨w, h1, ⟨h2, rfl⟩ | ⟨h2, rfl⟩⟩
    · exact .inl ⟨w, ⟨h1, h2⟩, rfl⟩
    · exact .inr ⟨w, ⟨h1, h2⟩, rfl⟩
theorem mem_restsL {rows : List Row} {r x : Row} : x ∈ restsL rows r ↔ x ∈ rests rows r := by
  rw [mem_rests]
  unfold restsL
  simp only [List.mem_flatMap, List.mem_append]
  constructor
  · rintro ⟨w, hw, h | h⟩
    · by_cases c : w.take r.length = r
      · rw [if_pos c] at h
        exact ⟨w, hw, .inl ⟨c, List.mem_singleton.mp h⟩⟩
      · rw [if_neg c] at h
        cases h
    · by_cases c : r.take w.length = w
      · rw [if_pos c] at h
        exact ⟨w, hw, .inr ⟨c, List.mem_singleton.mp h⟩⟩
      · rw [if_neg c] at h
        cases h
  · rintro ⟨w, hw, ⟨c, rfl⟩ | ⟨c, rfl⟩⟩
    · exact ⟨w, hw, .inl (by rw [if_pos c]; exact List.mem_singleton.mpr rfl)⟩
    · exact ⟨w, hw, .inr (by rw [if_pos c]; exact List.mem_singleton.mpr rfl)⟩
inductive Cl (rows : List Row) : Row → Prop
  | base {r : Row} : r ∈ base rows → Cl rows r
  | step {r r' : Row} : Cl rows r → r ≠ [] → r' ∈ rests rows r → Cl rows r'
/-- all that stands behind some place of a row -/
def uni (rows : List Row) : List Row := rows.flatMap fun w => (List.range (w.length + 1)).map fun n => w.drop n
theorem mem_uni {rows : List Row} {r : Row} : r ∈ uni rows ↔ ∃ w ∈ rows, ∃ n, r = w.drop n := by
  unfold uni
  simp only [List.mem_flatMap, List.mem_map, List.mem_range]
  constructor
  · rintro ⟨w, hw, n, _, rfl⟩
    exact ⟨w, hw, n, rfl⟩
  · rintro ⟨w, hw, n, rfl⟩
    by_cases h : n < w.length + 1
    · exact ⟨w, hw, n, h, rfl⟩
    · exact ⟨w, hw, w.length, by omega, by rw [List.drop_length, List.drop_of_length_le (by omega)]⟩
theorem uni_drop {rows : List Row} {r : Row} (h : r ∈ uni rows) (n : Nat) : r.drop n ∈ uni rows := by
  obtain ⟨w, hw, m, rfl⟩ := mem_uni.mp h
  exact mem_uni.mpr ⟨w, hw, m + n, by rw [List.drop_drop]⟩
theorem uni_row {rows : List Row} {w : Row} (h : w ∈ rows) (n : Nat) : w.drop n ∈ uni rows := mem_uni.mpr ⟨w, h, n, rfl⟩
theorem rests_uni {rows : List Row} {r x : Row} (h : r ∈ uni rows) (hx : x ∈ rests rows r) : x ∈ uni rows := by
  obtain ⟨w, hw, ⟨_, rfl⟩ | ⟨_, rfl⟩⟩ := mem_rests.mp hx
  · exact uni_row hw _
  · exact uni_drop h _
theorem mem_prs {rows : List Row} {one o : Row} : o ∈ prs rows one ↔ o ∈ rows ∧ o ≠ one ∧ o.take one.length = one := by
  unfold prs
  rw [List.mem_filter, Bool.and_eq_true, decide_eq_true_eq, decide_eq_true_eq]
theorem mem_pairs {rows : List Row} {t r : Row} : (t, r) ∈ pairs rows ↔ ∃ one ∈ rows, t ∈ rows ∧ t ≠ one ∧ t.take one.length = one ∧ r = t.drop one.length := by
  unfold pairs
  simp only [List.mem_flatMap, List.mem_map]
  constructor
  · rintro ⟨one, h1, o, h2, e⟩
    obtain ⟨a, b, c⟩ := mem_prs.mp h2
    cases e
    exact ⟨one, h1, a, b, c, rfl⟩
  · rintro ⟨one, h1, a, b, c, rfl⟩
    exact ⟨one, h1, t, mem_prs.mpr ⟨a, b, c⟩, rfl⟩
theorem base_uni {rows : List Row} {x : Row} (h : x ∈ base rows) : x ∈ uni rows := by
  rw [base_eq] at h
  obtain ⟨⟨t, r⟩, h', rfl⟩ := List.mem_map.mp h
  obtain ⟨one, _, ht, _, _, e⟩ := mem_pairs.mp h'
  rw [e]
  exact uni_row ht _
theorem Cl.uni {rows : List Row} {r : Row} (h : Cl rows r) : r ∈ uni rows := by
  induction h with
  | base h => exact base_uni h
  | step _ _ h ih => exact rests_uni ih h
/-- what is left over, as far as it is found: closed -/
theorem cl_of {rows F : List Row} (h1 : ∀ r ∈ F, Cl rows r) (h2 : ∀ r ∈ base rows, r ∈ F) (h3 : ∀ r ∈ F, r ≠ [] → ∀ x ∈ rests rows r, x ∈ F) (r : Row) : r ∈ F ↔ Cl rows r := by
  refine ⟨h1 r, fun h => ?_⟩
  induction h with
  | base h => exact h2 _ h
  | step _ hn hx ih => exact h3 _ ih hn _ hx
/-! ### the least row that is put together in two ways -/
def succs (rows : List Row) (t r : Row) : List (Row × Row) := rows.flatMap fun w => if r.take w.length = w then [(t, r.drop w.length)] else if w.take r.length = r then [(t ++ w.drop r.length, w.drop r.length)] else []
theorem mem_succs {rows : List Row} {t r t' r' : Row} : (t', r') ∈ succs rows t r ↔ ∃ w ∈ rows, (r.take w.length = w ∧ t' = t ∧ r' = r.drop w.length) ∨ (r.take w.length ≠ w ∧ w.take r.length = r ∧ t' = t ++ w.drop r.length ∧ r' = w.drop r.length) := by
  unfold succs
  simp only [List.mem_flatMap]
  constructor
  · rintro ⟨w, hw, h⟩
    refine ⟨w, hw, ?_⟩
    by_cases c : r.take w.length = w
    · rw [if_pos c] at h
      cases List.mem_singleton.mp h
      exact .inl ⟨c, rfl, rfl⟩
    · rw [if_neg c] at h
      by_cases c2 : w.take r.length = r
      · rw [if_pos c2] at h
        cases List.mem_singleton.mp h
        exact .inr ⟨c, c2, rfl, rfl⟩
      · rw [if_neg c2] at h
        cases h
  · rintro ⟨w, hw, ⟨c, rfl, rfl⟩ | ⟨c, c2, rfl, rfl⟩⟩
    · exact ⟨w, hw, by rw [if_pos c]; exact List.mem_singleton.mpr rfl⟩
    · exact ⟨w, hw, by rw [if_neg c, if_pos c2]; exact List.mem_singleton.mpr rfl⟩
inductive Rc (rows : List Row) : Row → Row → Prop
  | base {t r : Row} : (t, r) ∈ pairs rows → Rc rows t r
  | step {t r t' r' : Row} : Rc rows t r → r ≠ [] → (t', r') ∈ succs rows t r → Rc rows t' r'
/-- the rows of successors do not depend on the text before -/
theorem succs_shift {rows : List Row} {t r t' r' b : Row} (h : (t', r') ∈ succs rows t r) : ∃ c, t' = t ++ c ∧ (b ++ c, r') ∈ succs rows b r := by
  obtain ⟨w, hw, ⟨c, rfl, rfl⟩ | ⟨c, c2, rfl, rfl⟩⟩ := mem_succs.mp h
  · exact ⟨[], by simp, mem_succs.mpr ⟨w, hw, .inl ⟨c, by simp, rfl⟩⟩⟩
  · exact ⟨_, rfl, mem_succs.mpr ⟨w, hw, .inr ⟨c, c2, rfl, rfl⟩⟩⟩
theorem rc_cl {rows : List Row} {t r : Row} (h : Rc rows t r) : Cl rows r := by
  induction h with
  | base h => exact .base (by rw [base_eq]; exact List.mem_map.mpr ⟨_, h, rfl⟩)
  | step _ hn h ih =>
    refine .step ih hn ?_
    obtain ⟨w, hw, ⟨c, _, rfl⟩ | ⟨_, c2, _, rfl⟩⟩ := mem_succs.mp h
    · exact mem_rests.mpr ⟨w, hw, .inr ⟨c, rfl⟩⟩
    · exact mem_rests.mpr ⟨w, hw, .inl ⟨c2, rfl⟩⟩
theorem cl_rc {rows : List Row} {r : Row} (h : Cl rows r) : ∃ t, Rc rows t r := by
  induction h with
  | base h =>
    rw [base_eq] at h
    obtain ⟨⟨t, r⟩, h', rfl⟩ := List.mem_map.mp h
    exact ⟨t, .base h'⟩
  | @step r r' _ hn h ih =>
    obtain ⟨t, ht⟩ := ih
    obtain ⟨w, hw, ⟨c, rfl⟩ | ⟨c, rfl⟩⟩ := mem_rests.mp h
    · by_cases c2 : r.take w.length = w
      · have e : r = w := by
          obtain ⟨x, hx⟩ := beg_iff.mp c
          obtain ⟨y, hy⟩ := beg_iff.mp c2
          have l1 := congrArg List.length hx
          have l2 := congrArg List.length hy
          rw [List.length_append] at l1 l2
          have : x = [] := List.eq_nil_of_length_eq_zero (by omega)
          rw [this, List.append_nil] at hx
          exact hx.symm
        subst e
        exact ⟨t, .step ht hn (mem_succs.mpr ⟨r, hw, .inl ⟨c2, rfl, rfl⟩⟩)⟩
      · exact ⟨_, .step ht hn (mem_succs.mpr ⟨w, hw, .inr ⟨c2, c, rfl, rfl⟩⟩)⟩
    · exact ⟨t, .step ht hn (mem_succs.mpr ⟨w, hw, .inl ⟨c, rfl, rfl⟩⟩)⟩
/-! ### the search -/
structure SI (rows : List Row) (met : List (Row × Row)) (pend : Row × Row → Prop) : Prop where
  p0 : ∀ t r, (t, r) ∈ pairs rows → pend (t, r) ∨ ∃ b, (r, b) ∈ met ∧ kle b t
  p1 : ∀ t r, pend (t, r) → Rc rows t r
  p2 : ∀ r b, (r, b) ∈ met → r ≠ [] ∧ Rc rows b r ∧ ∀ t, Rc rows t r → kle b t
  p3 : ∀ r b, (r, b) ∈ met → ∀ t' r', (t', r') ∈ succs rows b r → pend (t', r') ∨ ∃ b', (r', b') ∈ met ∧ kle b' t'
section
variable {rows : List Row} {met : List (Row × Row)} {pend pend' : Row × Row → Prop} {t r b : Row}
theorem SI.all (S : SI rows met pend) (h : Rc rows t r) : (∃ t' r', pend (t', r') ∧ kle t' t) ∨ ∃ b, (r, b) ∈ met ∧ kle b t := by
  induction h with
  | base h =>
    rcases S.p0 _ _ h with z | z
    · exact .inl ⟨_, _, z, kle_refl _⟩
    · exact .inr z
  | @step t r t2 r2 h hn hs ih =>
    obtain ⟨c, rfl, _⟩ := succs_shift (b := t) hs
    rcases ih with ⟨t', r', h1, h2⟩ | ⟨b, h1, h2⟩
    · exact .inl ⟨t', r', h1, kle_trans h2 (kle_pre t c)⟩
    · obtain ⟨c2, ec, hb⟩ := succs_shift (b := b) hs
      have ec : c2 = c := (List.append_cancel_left ec).symm
      subst ec
      have hk := kle_app c2 h2
      rcases S.p3 _ _ h1 _ _ hb with z | ⟨b', h3, h4⟩
      · exact .inl ⟨_, _, z, hk⟩
      · exact .inr ⟨b', h3, kle_trans h4 hk⟩
theorem si_start : SI rows [] (· ∈ pairs rows) := ⟨fun t r h => .inl h, fun t r h => .base h, fun r b h => (nomatch h), fun r b h => (nomatch h)⟩
theorem SI.new (S : SI rows met pend) (hp : pend (t, r)) (hm : ∀ t' r', pend (t', r') → kle t t') (hr : r ≠ []) (hn : ∀ b, (r, b) ∉ met)
    (h1 : ∀ p, pend p → p = (t, r) ∨ pend' p) (h2 : ∀ p ∈ succs rows t r, pend' p) (h3 : ∀ p, pend' p → pend p ∨ p ∈ succs rows t r) : SI rows (met ++ [(r, t)]) pend' := by
  have hR := S.p1 _ _ hp
  have mono : ∀ {t' r' : Row}, (pend (t', r') ∨ ∃ b, (r', b) ∈ met ∧ kle b t') → pend' (t', r') ∨ ∃ b, (r', b) ∈ met ++ [(r, t)] ∧ kle b t' := fun {t' r'} h => by
    rcases h with z | ⟨b, z1, z2⟩
    · rcases h1 _ z with e | z
      · obtain ⟨e1, e2⟩ := Prod.mk.inj e
        exact .inr ⟨t, by rw [e2]; simp, by rw [e1]; exact kle_refl _⟩
      · exact .inl z
    · exact .inr ⟨b, by simp [z1], z2⟩
  refine ⟨fun a c h => mono (S.p0 a c h), fun a c h => ?_, fun a c h => ?_, fun a c h t' r' hs => ?_⟩
  · rcases h3 _ h with z | z
    · exact S.p1 _ _ z
    · exact .step hR hr z
  · rcases List.mem_append.mp h with z | z
    · exact S.p2 _ _ z
    · cases List.mem_singleton.mp z
      refine ⟨hr, hR, fun t' ht => ?_⟩
      rcases S.all ht with ⟨t2, r2, z1, z2⟩ | ⟨b, z1, _⟩
      · exact kle_trans (hm _ _ z1) z2
      · exact absurd z1 (hn b)
  · rcases List.mem_append.mp h with z | z
    · exact mono (S.p3 _ _ z _ _ hs)
    · cases List.mem_singleton.mp z
      exact .inl (h2 _ hs)
theorem SI.old (S : SI rows met pend) (hp : pend (t, r)) (hb : (r, b) ∈ met) (h1 : ∀ p, pend p → p = (t, r) ∨ pend' p) (h3 : ∀ p, pend' p → pend p) : SI rows met pend' := by
  have hk : kle b t := (S.p2 _ _ hb).2.2 _ (S.p1 _ _ hp)
  have mono : ∀ {t' r' : Row}, (pend (t', r') ∨ ∃ b, (r', b) ∈ met ∧ kle b t') → pend' (t', r') ∨ ∃ b, (r', b) ∈ met ∧ kle b t' := fun {t' r'} h => by
    rcases h with z | z
    · rcases h1 _ z with e | z
      · cases e
        exact .inr ⟨b, hb, hk⟩
      · exact .inl z
    · exact .inr z
  exact ⟨fun a c h => mono (S.p0 a c h), fun a c h => S.p1 _ _ (h3 _ h), S.p2, fun a c h t' r' hs => mono (S.p3 _ _ h _ _ hs)⟩
/-- the least double -/
def IsDbl (rows : List Row) (t : Row) : Prop := Rc rows t [] ∧ ∀ t', Rc rows t' [] → kle t t'
theorem SI.found (S : SI rows met pend) (hp : pend (t, [])) (hm : ∀ t' r', pend (t', r') → kle t t') : IsDbl rows t := by
  refine ⟨S.p1 _ _ hp, fun t' h => ?_⟩
  rcases S.all h with ⟨t2, r2, z1, z2⟩ | ⟨b, z1, _⟩
  · exact kle_trans (hm _ _ z1) z2
  · exact absurd rfl (S.p2 _ _ z1).1
theorem SI.none (S : SI rows met pend) (h : ∀ p, ¬ pend p) (t : Row) : ¬ Rc rows t [] := fun z => by
  rcases S.all z with ⟨t2, r2, z1, _⟩ | ⟨b, z1, _⟩
  · exact h _ z1
  · exact absurd rfl (S.p2 _ _ z1).1
open Classical in
noncomputable def dbl (rows : List Row) : Option Row := if h : ∃ t, IsDbl rows t then some h.choose else none
theorem dbl_some (h : IsDbl rows t) : dbl rows = some t := by
  have e : ∃ t, IsDbl rows t := ⟨t, h⟩
  unfold dbl
  rw [dif_pos e]
  have h2 := e.choose_spec
  rw [kle_anti (h.2 _ h2.1) (h2.2 _ h.1)]
theorem dbl_none (h : ∀ t, ¬ Rc rows t []) : dbl rows = none := by
  unfold dbl
  rw [dif_neg]
  rintro ⟨t, z, _⟩
  exact h t z
theorem dbl_is (h : dbl rows = some t) : IsDbl rows t := by
  unfold dbl at h
  split at h
  · rename_i e
    cases h
    exact e.choose_spec
  · cases h
end
/-! ### ways to put a row together -/
def flat (rows : List Row) (way : List Nat) : Row := (way.map fun k => rows[k]?.getD []).flatten
theorem flat_cons (rows : List Row) (k : Nat) (way : List Nat) : flat rows (k :: way) = rows[k]?.getD [] ++ flat rows way := by
  unfold flat
  rw [List.map_cons, List.flatten_cons]
theorem flat_app (rows : List Row) (a b : List Nat) : flat rows (a ++ b) = flat rows a ++ flat rows b := by
  unfold flat
  rw [List.map_append, List.flatten_append]
def allW (rows : List Row) : Nat → Row → List (List Nat)
  | _, [] => [[]]
  | 0, _ :: _ => []
  | n + 1, c :: t => (List.range rows.length).flatMap fun k => if (c :: t).take (rows[k]?.getD []).length = rows[k]?.getD [] then (allW rows n ((c :: t).drop (rows[k]?.getD []).length)).map (k :: ·) else []
def ways (rows : List Row) (t : Row) : List (List Nat) := allW rows t.length t
def NE (rows : List Row) : Prop := ∀ w ∈ rows, w ≠ []
theorem NE.at {rows : List Row} (h : NE rows) {k : Nat} (hk : k < rows.length) : 1 ≤ (rows[k]?.getD []).length := by
  rw [List.getElem?_eq_getElem hk]
  show 1 ≤ rows[k].length
  have := h _ (List.getElem_mem hk)
  cases e : rows[k] with
  | nil => exact absurd e this
  | cons _ _ => simp
theorem flatMap_congr {α β : Type} {f g : α → List β} : ∀ {l : List α}, (∀ x ∈ l, f x = g x) → l.flatMap f = l.flatMap g
  | [], _ => rfl
  | x :: l, h => by rw [List.flatMap_cons, List.flatMap_cons, h x List.mem_cons_self, flatMap_congr fun y hy => h y (List.mem_cons_of_mem _ hy)]
theorem allW_fuel {rows : List Row} (hn : NE rows) : ∀ (n m : Nat) (t : Row), t.length ≤ n → t.length ≤ m → allW rows n t = allW rows m t
  | 0, m, [], _, _ => by cases m <;> rfl
  | n + 1, m, [], _, _ => by cases m <;> rfl
  | 0, _, c :: t, h, _ => by simp at h
  | n + 1, 0, c :: t, _, h => by simp at h
  | n + 1, m + 1, c :: t, h1, h2 => by
    unfold allW
    refine flatMap_congr fun k hk => ?_
    have := hn.at (List.mem_range.mp hk)
    rw [allW_fuel hn n m _ (by rw [List.length_drop]; simp at *; omega) (by rw [List.length_drop]; simp at *; omega)]
theorem ways_nil (rows : List Row) : ways rows [] = [[]] := rfl
theorem ways_eq {rows : List Row} (hn : NE rows) {t : Row} (ht : t ≠ []) : ways rows t = (List.range rows.length).flatMap fun k => if t.take (rows[k]?.getD []).length = rows[k]?.getD [] then (ways rows (t.drop (rows[k]?.getD []).length)).map (k :: ·) else [] := by
  cases t with
  | nil => exact absurd rfl ht
  | cons c t =>
    show allW rows (t.length + 1) (c :: t) = _
    unfold allW
    refine flatMap_congr fun k hk => ?_
    have := hn.at (List.mem_range.mp hk)
    rw [show ways rows ((c :: t).drop (rows[k]?.getD []).length) = allW rows t.length ((c :: t).drop (rows[k]?.getD []).length) from allW_fuel hn _ _ _ (Nat.le_refl _) (by rw [List.length_drop]; simp; omega)]
theorem mem_ways {rows : List Row} (hn : NE rows) : ∀ (n : Nat) (t : Row), t.length ≤ n → ∀ way, way ∈ ways rows t ↔ (∀ k ∈ way, k < rows.length) ∧ flat rows way = t := by
  intro n
  induction n with
  | zero =>
    intro t ht way
    have : t = [] := List.eq_nil_of_length_eq_zero (by omega)
    subst this
    rw [ways_nil, List.mem_singleton]
    constructor
    · rintro rfl
      exact ⟨fun k hk => (nomatch hk), rfl⟩
    · rintro ⟨h1, h2⟩
      cases way with
      | nil => rfl
      | cons k way =>
        rw [flat_cons] at h2
        have := hn.at (h1 k List.mem_cons_self)
        have l := congrArg List.length h2
        rw [List.length_append, List.length_nil] at l
        omega
  | succ n ih =>
    intro t ht way
    by_cases c : t = []
    · subst c
      exact ih [] (by simp) way
    · rw [ways_eq hn c, List.mem_flatMap]
      constructor
      · rintro ⟨k, hk, hw⟩
        have hk := List.mem_range.mp hk
        have h1 := hn.at hk
        split at hw
        · rename_i e
          obtain ⟨way', hw', rfl⟩ := List.mem_map.mp hw
          obtain ⟨a, b⟩ := (ih _ (by rw [List.length_drop]; omega) _).mp hw'
          refine ⟨fun j hj => ?_, by rw [flat_cons, b]; exact beg_drop e⟩
          rcases List.mem_cons.mp hj with rfl | hj
          · exact hk
          · exact a j hj
        · cases hw
      · rintro ⟨h1, h2⟩
        cases way with
        | nil => exact absurd h2.symm c
        | cons k way =>
          have hk := h1 k List.mem_cons_self
          have hl := hn.at hk
          rw [flat_cons] at h2
          have e : t.take (rows[k]?.getD []).length = rows[k]?.getD [] := beg_iff.mpr ⟨_, h2.symm⟩
          refine ⟨k, List.mem_range.mpr hk, ?_⟩
          rw [if_pos e]
          refine List.mem_map.mpr ⟨way, (ih _ (by rw [List.length_drop]; omega) _).mpr ⟨fun j hj => h1 j (List.mem_cons_of_mem _ hj), ?_⟩, rfl⟩
          rw [← h2]
          simp
/-- they rise -/
theorem pw_flatMap {α β : Type} {R : β → β → Prop} {f : α → List β} {Ra : α → α → Prop} : ∀ {l : List α}, l.Pairwise Ra → (∀ x ∈ l, (f x).Pairwise R) → (∀ x y, Ra x y → ∀ a ∈ f x, ∀ b ∈ f y, R a b) → (l.flatMap f).Pairwise R
  | [], _, _, _ => .nil
  | x :: l, h, h1, h2 => by
    obtain ⟨a1, a2⟩ := List.pairwise_cons.mp h
    rw [List.flatMap_cons, List.pairwise_append]
    refine ⟨h1 x List.mem_cons_self, pw_flatMap a2 (fun y hy => h1 y (List.mem_cons_of_mem _ hy)) h2, fun a ha b hb => ?_⟩
    obtain ⟨y, hy, hb⟩ := List.mem_flatMap.mp hb
    exact h2 x y (a1 y hy) a ha b hb
theorem pw_range : ∀ n, (List.range n).Pairwise (· < ·) := fun n => List.pairwise_lt_range
theorem pw_cons {k : Nat} {l : List (List Nat)} (h : l.Pairwise (· < ·)) : (l.map (k :: ·)).Pairwise (· < ·) := List.pairwise_map.mpr (h.imp fun {a b} z => List.cons_lt_cons_iff.mpr (.inr ⟨rfl, z⟩))
/-- any lists in the place of the ways behind -/
def wayStep (rows : List Row) (t : Row) (g : Row → List (List Nat)) : List (List Nat) := (List.range rows.length).flatMap fun k => if t.take (rows[k]?.getD []).length = rows[k]?.getD [] then (g (t.drop (rows[k]?.getD []).length)).map (k :: ·) else []
theorem wayStep_pw {rows : List Row} {t : Row} {g : Row → List (List Nat)} (h : ∀ x, (g x).Pairwise (· < ·)) : (wayStep rows t g).Pairwise (· < ·) := by
  refine pw_flatMap (pw_range _) (fun k _ => ?_) fun k j hkj a ha b hb => ?_
  · split
    · exact pw_cons (h _)
    · exact .nil
  · split at ha
    · split at hb
      · obtain ⟨a', _, rfl⟩ := List.mem_map.mp ha
        obtain ⟨b', _, rfl⟩ := List.mem_map.mp hb
        exact List.cons_lt_cons_iff.mpr (.inl hkj)
      · cases hb
    · cases ha
theorem ways_pw {rows : List Row} (hn : NE rows) : ∀ (n : Nat) (t : Row), t.length ≤ n → (ways rows t).Pairwise (· < ·) := by
  intro n
  induction n with
  | zero =>
    intro t ht
    have : t = [] := List.eq_nil_of_length_eq_zero (by omega)
    subst this
    exact List.pairwise_singleton _ _
  | succ n ih =>
    intro t ht
    by_cases c : t = []
    · subst c
      exact List.pairwise_singleton _ _
    · rw [ways_eq hn c]
      refine pw_flatMap (pw_range _) (fun k hk => ?_) fun k j hkj a ha b hb => ?_
      · have := hn.at (List.mem_range.mp hk)
        split
        · exact pw_cons (ih _ (by rw [List.length_drop]; omega))
        · exact .nil
      · split at ha
        · split at hb
          · obtain ⟨a', _, rfl⟩ := List.mem_map.mp ha
            obtain ⟨b', _, rfl⟩ := List.mem_map.mp hb
            exact List.cons_lt_cons_iff.mpr (.inl hkj)
          · cases hb
        · cases ha
theorem take_app_congr {α : Type} {a b b' : List α} {n : Nat} (h : b.take n = b'.take n) : (a ++ b).take n = (a ++ b').take n := by
  rw [List.take_append, List.take_append]
  congr 1
  have e : ∀ l : List α, l.take (n - a.length) = (l.take n).take (n - a.length) := fun l => by rw [List.take_take, Nat.min_eq_left (Nat.sub_le _ _)]
  rw [e b, e b', h]
theorem take_app_take {α : Type} (a b : List α) (n : Nat) : (a.take n ++ b).take n = (a ++ b).take n := by
  by_cases h : n ≤ a.length
  · rw [List.take_append_of_le_length (by rw [List.length_take]; omega), List.take_append_of_le_length h, List.take_take, Nat.min_self]
  · rw [List.take_of_length_le (by omega : a.length ≤ n)]
theorem take_flatMap {α β : Type} (f : α → List β) (n : Nat) : ∀ l : List α, (l.flatMap fun x => (f x).take n).take n = (l.flatMap f).take n
  | [] => rfl
  | x :: l => by
    rw [List.flatMap_cons, List.flatMap_cons, take_app_take]
    exact take_app_congr (take_flatMap f n l)
theorem wayStep_take {rows : List Row} (hn : NE rows) {t : Row} (ht : t ≠ []) (n : Nat) : (wayStep rows t fun x => (ways rows x).take n).take n = (ways rows t).take n := by
  rw [ways_eq hn ht, ← take_flatMap]
  congr 1
  refine flatMap_congr fun k _ => ?_
  split
  · rw [List.map_take]
  · simp
/-! ### what the search finds are the rows with two ways -/
theorem rc_two {rows : List Row} {t r : Row} (h : Rc rows t r) : ∃ i α j β, i ≠ j ∧ (∀ k ∈ i :: α, k < rows.length) ∧ (∀ k ∈ j :: β, k < rows.length) ∧ flat rows (j :: β) = t ∧ flat rows (i :: α) ++ r = t := by
  induction h with
  | @base t r h =>
    obtain ⟨one, h1, h2, hn, hb, rfl⟩ := mem_pairs.mp h
    obtain ⟨i, hi, ei⟩ := List.mem_iff_getElem.mp h1
    obtain ⟨j, hj, ej⟩ := List.mem_iff_getElem.mp h2
    have gi : rows[i]?.getD [] = one := by rw [List.getElem?_eq_getElem hi, ei]; rfl
    have gj : rows[j]?.getD [] = t := by rw [List.getElem?_eq_getElem hj, ej]; rfl
    refine ⟨i, [], j, [], fun e => ?_, by simpa using hi, by simpa using hj, ?_, ?_⟩
    · subst e
      exact hn (by rw [← ej, ← ei])
    · rw [flat_cons, gj]
      simp [flat]
    · rw [flat_cons, gi]
      simp only [flat, List.map_nil, List.flatten_nil, List.append_nil]
      exact beg_drop hb
  | @step t r t' r' _ hn hs ih =>
    obtain ⟨i, α, j, β, hij, hi, hj, e1, e2⟩ := ih
    obtain ⟨w, hw, ⟨c, rfl, rfl⟩ | ⟨_, c, rfl, rfl⟩⟩ := mem_succs.mp hs
    · obtain ⟨k, hk, ek⟩ := List.mem_iff_getElem.mp hw
      have gk : rows[k]?.getD [] = w := by rw [List.getElem?_eq_getElem hk, ek]; rfl
      refine ⟨i, α ++ [k], j, β, hij, fun x hx => ?_, hj, e1, ?_⟩
      · rcases List.mem_cons.mp hx with rfl | hx
        · exact hi _ List.mem_cons_self
        · rcases List.mem_append.mp hx with hx | hx
          · exact hi _ (List.mem_cons_of_mem _ hx)
          · rw [List.mem_singleton.mp hx]
            exact hk
      · rw [← List.cons_append, flat_app, flat_cons rows k [], gk, ← e2]
        simp only [flat, List.map_nil, List.flatten_nil, List.append_nil]
        rw [List.append_assoc, beg_drop c]
    · obtain ⟨k, hk, ek⟩ := List.mem_iff_getElem.mp hw
      have gk : rows[k]?.getD [] = w := by rw [List.getElem?_eq_getElem hk, ek]; rfl
      refine ⟨j, β, i, α ++ [k], fun e => hij e.symm, hj, fun x hx => ?_, ?_, by rw [e1]⟩
      · rcases List.mem_cons.mp hx with rfl | hx
        · exact hi _ List.mem_cons_self
        · rcases List.mem_append.mp hx with hx | hx
          · exact hi _ (List.mem_cons_of_mem _ hx)
          · rw [List.mem_singleton.mp hx]
            exact hk
      · rw [← List.cons_append, flat_app, flat_cons rows k [], gk, ← e2]
        simp only [flat, List.map_nil, List.flatten_nil, List.append_nil]
        rw [List.append_assoc, beg_drop c]
theorem dbl_ways {rows : List Row} (hn : NE rows) {t : Row} (h : Rc rows t []) : 2 ≤ (ways rows t).length := by
  obtain ⟨i, α, j, β, hij, hi, hj, e1, e2⟩ := rc_two h
  rw [List.append_nil] at e2
  have m1 := (mem_ways hn _ t (Nat.le_refl _) (i :: α)).mpr ⟨hi, e2⟩
  have m2 := (mem_ways hn _ t (Nat.le_refl _) (j :: β)).mpr ⟨hj, e1⟩
  match e : ways rows t with
  | [] => rw [e] at m1; cases m1
  | [x] =>
    rw [e] at m1 m2
    have := (List.mem_singleton.mp m1).trans (List.mem_singleton.mp m2).symm
    exact absurd (List.cons.inj this).1 hij
  | _ :: _ :: _ => simp
/-- from a rest on, two ways to the end give a double -/
theorem two_rc {rows : List Row} (hn : NE rows) : ∀ (n : Nat) (α β : List Nat) (t r x : Row), α.length + β.length ≤ n → Rc rows t r → (∀ k ∈ α, k < rows.length) → (∀ k ∈ β, k < rows.length) → flat rows α = r ++ x → flat rows β = x → ∃ t' y, Rc rows t' [] ∧ t' ++ y = t ++ x := by
  intro n
  induction n with
  | zero =>
    intro α β t r x hl h h1 h2 e1 e2
    have : α = [] := List.eq_nil_of_length_eq_zero (by omega)
    subst this
    have : r = [] := by
      have := congrArg List.length e1
      simp [flat] at this
      exact List.eq_nil_of_length_eq_zero (by omega)
    subst this
    exact ⟨t, x, h, rfl⟩
  | succ n ih =>
    intro α β t r x hl h h1 h2 e1 e2
    by_cases c : r = []
    · subst c
      exact ⟨t, x, h, rfl⟩
    · cases α with
      | nil =>
        have := congrArg List.length e1
        simp [flat] at this
        exact absurd (List.eq_nil_of_length_eq_zero (by omega)) c
      | cons k α =>
        have hk := h1 k List.mem_cons_self
        have hw : rows[k]?.getD [] ∈ rows := by
          rw [List.getElem?_eq_getElem hk]
          exact List.getElem_mem hk
        rw [flat_cons] at e1
        by_cases cl : (rows[k]?.getD []).length ≤ r.length
        · have cb : r.take (rows[k]?.getD []).length = rows[k]?.getD [] := by
            have := congrArg (List.take (rows[k]?.getD []).length) e1
            rw [List.take_append_of_le_length cl] at this
            simpa using this.symm
          obtain ⟨t', y, z1, z2⟩ := ih α β t (r.drop (rows[k]?.getD []).length) x (by simp at hl; omega) (.step h c (mem_succs.mpr ⟨_, hw, .inl ⟨cb, rfl, rfl⟩⟩)) (fun j hj => h1 j (List.mem_cons_of_mem _ hj)) h2 (by
            have := congrArg (List.drop (rows[k]?.getD []).length) e1
            rw [List.drop_append_of_le_length cl] at this
            simpa using this) e2
          exact ⟨t', y, z1, z2⟩
        · have cb : (rows[k]?.getD []).take r.length = r := by
            have := congrArg (List.take r.length) e1
            rw [List.take_append_of_le_length (by omega)] at this
            simpa using this
          have cn : r.take (rows[k]?.getD []).length ≠ rows[k]?.getD [] := fun z => by
            have := congrArg List.length z
            rw [List.length_take] at this
            omega
          have ex : x = (rows[k]?.getD []).drop r.length ++ flat rows α := by
            have := congrArg (List.drop r.length) e1
            rw [List.drop_append_of_le_length (by omega)] at this
            simpa using this.symm
          obtain ⟨t', y, z1, z2⟩ := ih β α (t ++ (rows[k]?.getD []).drop r.length) ((rows[k]?.getD []).drop r.length) (flat rows α) (by simp at hl; omega) (.step h c (mem_succs.mpr ⟨_, hw, .inr ⟨cn, cb, rfl, rfl⟩⟩)) h2 (fun j hj => h1 j (List.mem_cons_of_mem _ hj)) (by rw [e2]; exact ex) rfl
          exact ⟨t', y, z1, by rw [z2, ex, List.append_assoc]⟩
theorem two_ways {rows : List Row} (hn : NE rows) (hd : rows.Nodup) : ∀ (a b : List Nat) (w : Row), a ≠ b → (∀ k ∈ a, k < rows.length) → (∀ k ∈ b, k < rows.length) → flat rows a = w → flat rows b = w → ∃ t, Rc rows t [] ∧ kle t w
  | [], [], _, h, _, _, _, _ => absurd rfl h
  | [], k :: b, w, _, _, h2, e1, e2 => by
    have := hn.at (h2 k List.mem_cons_self)
    have l := congrArg List.length (e1.trans e2.symm)
    rw [flat_cons, List.length_append, show flat rows [] = [] from rfl, List.length_nil] at l
    omega
  | k :: a, [], w, _, h1, _, e1, e2 => by
    have := hn.at (h1 k List.mem_cons_self)
    have l := congrArg List.length (e1.trans e2.symm)
    rw [flat_cons, List.length_append, show flat rows [] = [] from rfl, List.length_nil] at l
    omega
  | i :: a, j :: b, w, h, h1, h2, e1, e2 => by
    by_cases c : i = j
    · subst c
      rw [flat_cons] at e1 e2
      obtain ⟨t, z1, z2⟩ := two_ways hn hd a b (flat rows a) (fun z => h (by rw [z])) (fun k hk => h1 k (List.mem_cons_of_mem _ hk)) (fun k hk => h2 k (List.mem_cons_of_mem _ hk)) rfl (List.append_cancel_left (e2.trans e1.symm))
      refine ⟨t, z1, ?_⟩
      have := hn.at (h1 i List.mem_cons_self)
      refine .inl ?_
      rw [← e1, List.length_append]
      rcases z2 with z | ⟨z, _⟩ <;> omega
    · have hi := h1 i List.mem_cons_self
      have hj := h2 j List.mem_cons_self
      have wi : rows[i]?.getD [] = rows[i] := by rw [List.getElem?_eq_getElem hi]; rfl
      have wj : rows[j]?.getD [] = rows[j] := by rw [List.getElem?_eq_getElem hj]; rfl
      have ne : rows[i] ≠ rows[j] := fun z => c ((List.getElem_inj hd).mp z)
      rw [flat_cons, wi] at e1
      rw [flat_cons, wj] at e2
      have key : ∀ (p q : Row) (x y : List Nat), p ∈ rows → q ∈ rows → p ≠ q → p.length ≤ q.length → (∀ k ∈ x, k < rows.length) → (∀ k ∈ y, k < rows.length) → p ++ flat rows x = w → q ++ flat rows y = w → ∃ t, Rc rows t [] ∧ kle t w := by
        intro p q x y hp hq hpq hl hx hy ep eq
        have cb : q.take p.length = p := by
          have := congrArg (List.take p.length) (ep.trans eq.symm)
          rw [List.take_append_of_le_length hl] at this
          simpa using this.symm
        have ex : flat rows x = q.drop p.length ++ flat rows y := by
          have := congrArg (List.drop p.length) (ep.trans eq.symm)
          rw [List.drop_append_of_le_length hl] at this
          simpa using this
        obtain ⟨t', z, z1, z2⟩ := two_rc hn _ x y q (q.drop p.length) (flat rows y) (Nat.le_refl _) (.base (mem_pairs.mpr ⟨p, hp, hq, fun e => hpq e.symm, cb, rfl⟩)) hx hy ex rfl
        exact ⟨t', z1, by rw [← eq, ← z2]; exact kle_pre t' z⟩
      rcases Nat.le_total rows[i].length rows[j].length with hl | hl
      · exact key _ _ a b (List.getElem_mem hi) (List.getElem_mem hj) ne hl (fun k hk => h1 k (List.mem_cons_of_mem _ hk)) (fun k hk => h2 k (List.mem_cons_of_mem _ hk)) e1 e2
      · exact key _ _ b a (List.getElem_mem hj) (List.getElem_mem hi) (fun z => ne z.symm) hl (fun k hk => h2 k (List.mem_cons_of_mem _ hk)) (fun k hk => h1 k (List.mem_cons_of_mem _ hk)) e2 e1
/-- a row that is less than the least double has at most one way -/
theorem no_lesser {rows : List Row} (hn : NE rows) (hd : rows.Nodup) {t w : Row} (h : IsDbl rows t) (hw : ¬ kle t w) : (ways rows w).length ≤ 1 := by
  match e : ways rows w with
  | [] => simp
  | [x] => simp
  | x :: y :: l =>
    exfalso
    have hx := (mem_ways hn _ w (Nat.le_refl _) x).mp (by rw [e]; simp)
    have hy := (mem_ways hn _ w (Nat.le_refl _) y).mp (by rw [e]; simp)
    have hp := ways_pw hn _ w (Nat.le_refl _)
    rw [e] at hp
    have hlt := (List.pairwise_cons.mp hp).1 y List.mem_cons_self
    obtain ⟨t', z1, z2⟩ := two_ways hn hd x y w (fun z => List.lt_irrefl y (by rw [z] at hlt; exact hlt)) hx.1 hy.1 hx.2 hy.2
    exact hw (kle_trans (h.2 _ z1) z2)
end K65
namespace K65
open PySem PySem.Spec PyProof.Rows L2 DL
local macro_rules | `(tactic| walk_at "st") => `(tactic| with_reducible first
  | refine pw_p ?_ | refine pw_o ?_ | refine dw_op ?_ | refine dw_un ?_ | refine dw_int ?_ | refine dw_str ?_ | refine dw_bl ?_ | refine dw_non ?_ | refine dw_ty ?_ | refine da_nil' ?_ | refine da_cons' ?_ | refine dw_sortSetT ?_ | refine dw_CB ?_ | refine dw_BM ?_ | refine dw_BM0 ?_
  | refine dw_tup ?_ | refine dw_lst ?_ | refine dw_notV ?_ | refine dw_and ?_ | refine dw_or ?_ | refine dw_if ?_ | refine dw_chain ?_ | refine dw_sl3 ?_ | refine dw_revT ?_ | refine dw_tupRg1 ?_ | refine dw_lstRg1 ?_ | refine dw_callI ?_ | refine dw_callJ ?_
  | refine dt_test ?_ | refine dt_B ?_ | refine dt_and ?_ | refine dt_or ?_ | refine dt_not ?_ | refine dt_yes ?_ | refine dt_truth ?_
  | refine ds_ret ?_ | refine ds_retN ?_ | refine ds_next ?_ | refine ds_break ?_ | refine ds_cont ?_ | refine ds_drop ?_ | refine ds_if ?_ | refine ds_set ?_
  | refine nx_nxt ?_ | refine rt_nxt ?_ | refine bk_nxt ?_ | refine ct_nxt ?_ | refine nx_lp ?_ | refine rt_lp ?_ | refine bk_lp ?_ | refine ct_lp ?_ | refine asn_d ?_ | refine asn_fr ?_ | refine rt_E0 ?_ | refine rt_E0o ?_ | refine nx_E0 ?_
  | refine dw_newK ?_ | refine dw_dInK ?_ | refine dw_dNotInK ?_ | refine dw_dGetK ?_ | refine ds_dPutK ?_ | refine dw_callH ?_
  | refine tr_b ?_ | refine tr_i ?_ | refine tr_n ?_ | refine tr_T ?_ | refine tr_L ?_
  | refine do_none ?_ | refine do_some ?_ | refine ite_t ?_ | refine ite_f ?_
  | refine rw_addI ?_ | refine rw_sub ?_ | refine rw_cmp ?_ | refine rw_eqI ?_ | refine rw_neI ?_ | refine rw_eqZ ?_ | refine rw_neZ ?_ | refine rw_eqS ?_ | refine rw_neS ?_ | refine rw_eqB ?_ | refine rw_neB ?_ | refine isN_d ?_ | refine notN_d ?_ | refine rw_isB ?_ | refine rw_notB ?_
  | refine rn_intI ?_ | refine rn_intB ?_ | refine rn_max ?_ | refine rn_min ?_ | refine rn_lenT ?_ | refine rn_lenD ?_ | refine rm_sw ?_ | refine isi_int ?_ | refine isi_bool ?_ | refine isi_str ?_ | refine isi_tuple ?_ | refine isi_list ?_ | refine rn_tupT ?_ | refine rn_listT ?_
  | refine ⟨_, rfl, ?_⟩
  | fail)
local macro_rules | `(tactic| walk_at "va") => `(tactic| first
  | ((with_reducible apply dw_var); rfl) | ((with_reducible apply dw_sl); rfl) | ((with_reducible apply dw_slK); rfl)
  | ((with_reducible apply rw_ixL); rfl; rfl) | ((with_reducible apply rw_ixT); rfl)
  | ((with_reducible apply ite_T); rfl) | ((with_reducible apply ite_F); rfl) | ((with_reducible apply tr_o); rfl)
  | refine ⟨_, rfl, szl (Nat.le_of_ble_eq_true rfl), ?_⟩
  | (with_reducible refine rw_mod (by omega) ?_)
  | (with_reducible refine rw_fdiv (by unfold CDiv; omega) ?_)
  | (with_reducible refine rw_mul (by unfold CMul; omega) ?_)
  | refine ⟨szl (Nat.le_of_ble_eq_true rfl), ?_⟩
  | refine ⟨⟨rfl, _, _, rfl⟩, ?_⟩
  | refine ⟨rfl, ?_⟩
  | rfl
  | fail)
local macro_rules | `(tactic| walk_at "go") => `(tactic| repeat' (first | walk_at "st" | (with_reducible refine ds_seq' ?_) | walk_at "va" | fail))
local macro_rules | `(tactic| walk_at "gs") => `(tactic| repeat' (first | walk_at "st" | walk_at "va" | fail))
structure Stt where
  xs : List Int
  i : Nat
  c : Int
  s : Int
abbrev encS (st : Stt) : List PyData := [.list (st.xs.map .int), nD st.i, .int st.c, .int st.s]
def Stt.ok (st : Stt) : Prop := 0 ≤ st.c ∧ 0 ≤ st.s ∧ st.s < 2147483647 ∧ st.xs.length ≤ 63
section
variable {P : Program} {w : World} {K : PySem.W.Frag} {mg : Str → Option Value} {base : Heap} {a : Ad}
/-! _law_next -/
abbrev argN (x : Stt × Nat) : List PyData := [nD x.2]
def resN (x : Stt × Nat) (l : List PyData) (d : PyData) : Prop := ∃ (st : Stt) (k : Nat), st.ok ∧ l = encS st ∧ d = nD k ∧ k < x.2
abbrev spN (K : PySem.W.Frag) := spJ K (fun x : Stt × Nat => encS x.1) argN (fun x => x.1.ok ∧ 0 < x.2 ∧ x.2 < 1000000000) resN
theorem ok_law_next (T : Tx K mg a) : FnOk P w K mg base CX0 1 a.f9 a.d9 ["state", "limit"] (spN K) := by
  refine fnJ T.F_law_next sc_law_next (fun x => ⟨rfl, by decide⟩) fun cdv A outer s H E hr => ⟨_, (pss_cons (ps_if (PW.pt (pw_and (pt_cmpR (kEQ K rfl hr.units) (pe_ix (kIX K rfl) (pv 0) pe_int (fun _ _ => rfl)) pe_int (nomark _)) (pw_and1 (pt_cmpR op_lt (pe_ix (kIX K rfl) (pv 0) pe_int (fun _ _ => rfl)) (pe_callB (kLEN K rfl) (by rfl) T.z_len (by decide +kernel) (pa_cons (pe_ix (kIX K rfl) (pv 0) pe_int (fun _ _ => rfl)) pa_nil)) (nomark _))))) (pss_cons (ps_set (i := 2) sc_law_next.nd rfl (Or.inl rfl) (pe_ix (kIX K rfl) (pe_ix (kIX K rfl) (pv 0) pe_int (fun _ _ => rfl)) (pe_ix (kIX K rfl) (pv 0) pe_int (fun _ _ => rfl)) (fun _ _ => rfl))) (pss_cons (ps_augS (pv 0) pe_int (kGET K rfl) pe_int ip_add set_list) (pss_one (ps_if (pt_cmpR op_ge (pv 2) (pe_op op_pow pe_int pe_int) (nomark _)) (pss_one (ps_asg (pv 2) (pg_sub (pv 0) pe_int set_list))) (pss_one (ps_asg (pe_op op_mod (pe_callTy call_int1 (by rfl) T.z_int (by decide +kernel) (pa_cons (pe_op (kADD K rfl) (pe_op (kADD K rfl) (pe_op op_mul (pe_ix (kIX K rfl) (pv 0) pe_int (fun _ _ => rfl)) pe_int) (pe_op op_mod (pe_callTy call_int1 (by rfl) T.z_int (by decide +kernel) (pa_cons (pv 2) pa_nil)) pe_int)) pe_int) pa_nil)) pe_int) (pg_sub (pv 0) pe_int set_list))))))) pss_nil) (pss_cons (ps_if (pt_cmpR op_gt (pe_ix (kIX K rfl) (pv 0) pe_int (fun _ _ => rfl)) pe_int (nomark _)) (pss_cons (ps_set (i := 3) sc_law_next.nd rfl (Or.inl rfl) (pe_op op_mod (pe_callTy call_int1 (by rfl) T.z_int (by decide +kernel) (pa_cons (pe_ix (kIX K rfl) (pv 0) pe_int (fun _ _ => rfl)) pa_nil)) (pv 1))) (pss_cons (ps_asg (pe_op op_fdiv (pe_ix (kIX K rfl) (pv 0) pe_int (fun _ _ => rfl)) (pv 1)) (pg_sub (pv 0) pe_int set_list)) (pss_one (ps_ret (pv 3))))) pss_nil) (pss_cons (ps_asg (pe_op op_mod (pe_callTy call_int1 (by rfl) T.z_int (by decide +kernel) (pa_cons (pe_op (kADD K rfl) (pe_op op_mul (pe_ix (kIX K rfl) (pv 0) pe_int (fun _ _ => rfl)) pe_int) pe_int) pa_nil)) pe_int) (pg_sub (pv 0) pe_int set_list)) (pss_one (ps_ret (pe_op op_mod (pe_callTy call_int1 (by rfl) T.z_int (by decide +kernel) (pa_cons (pe_op op_fdiv (pe_ix (kIX K rfl) (pv 0) pe_int (fun _ _ => rfl)) pe_int) pa_nil)) (pv 1))))))), ?_⟩
  rintro ⟨st, n⟩ ⟨⟨h1, h2, h3, h4⟩, h5, h6⟩ p B
  dsimp only [argN] at *
  refine ds_mid' (fun G => ∃ st' c, Stt.ok st' ∧ G = [.o (some p) (encS st'), .d (nD n), c, .un]) ?_ ?_
  · walk_at "go"
    refine ite_k (fun c1 => ?_) (fun c1 => ?_)
    · walk_at "go"
      refine ite_k (fun c2 => ?_) (fun c2 => ?_)
      · have c2 := of_decide_eq_true c2
        obtain ⟨v, hv⟩ : ∃ v, st.xs[st.i]? = some v := by
          rw [List.length_map] at c2
          exact ⟨_, List.getElem?_eq_getElem (by omega)⟩
        walk_at "go"
        refine rw_ixL rfl (ati hv) ?_
        walk_at "go"
        walk_at "go"
        refine ds_augL (i := 0) (a := some p) (ds := encS st) (j := 1) (x := (st.i : Int)) ?_
        walk_at "go"
        refine rw_pow ⟨by decide, by decide, by decide⟩ ?_
        walk_at "go"
        refine ite_k (fun c3 => ?_) (fun c3 => ?_)
        · refine ds_setL (i := 0) (a := some p) (ds := encS { st with i := st.i + 1 }) (j := 2) (d := .int v) ?_
          walk_at "go"
          refine ⟨by simp, ?_⟩
          walk_at "go"
          refine ⟨{ st with i := st.i + 1, c := v }, _, ⟨?_, h2, h3, h4⟩, rfl⟩
          have c3 : (10 : Int) ^ 18 ≤ v := of_decide_eq_true c3
          exact Int.le_trans (by decide) c3
        · refine ds_setL (i := 0) (a := some p) (ds := encS { st with i := st.i + 1 }) (j := 3) (d := .int ((st.s * 48271 + v % 2147483647 + 7) % 2147483647)) ?_
          walk_at "go"
          refine ⟨by simp, ?_⟩
          walk_at "go"
          exact ⟨{ st with i := st.i + 1, s := (st.s * 48271 + v % 2147483647 + 7) % 2147483647 }, _, ⟨h1, Int.emod_nonneg _ (by decide), Int.emod_lt_of_pos _ (by decide), h4⟩, rfl⟩
      · walk_at "go"
        exact ⟨st, _, ⟨h1, h2, h3, h4⟩, rfl⟩
    · walk_at "go"
      exact ⟨st, _, ⟨h1, h2, h3, h4⟩, rfl⟩
  · rintro G1 ⟨st', c, ⟨g1, g2, g3, g4⟩, rfl⟩
    have nn : (0 : Int) < (n : Int) := by omega
    walk_at "go"
    refine ite_k (fun c1 => ?_) (fun c1 => ?_)
    · have c1 := of_decide_eq_true c1
      walk_at "go"
      refine ds_setL (i := 0) (a := some p) (ds := encS st') (j := 2) (d := .int (st'.c / n)) ?_
      walk_at "go"
      refine ⟨by simp, ?_⟩
      walk_at "go"
      refine rt_E1 (ls := encS { st' with c := st'.c / n }) rfl ?_
      refine ⟨{ st' with c := st'.c / n }, (st'.c % n).toNat, ⟨Int.ediv_nonneg g1 (by omega), g2, g3, g4⟩, rfl, ?_, ?_⟩
      · have := Int.emod_nonneg st'.c (b := n) (by omega)
        show PyData.int _ = PyData.int _
        congr 1
        omega
      · have := Int.emod_lt_of_pos st'.c nn
        have := Int.emod_nonneg st'.c (b := n) (by omega)
        show (st'.c % n).toNat < n
        omega
    · walk_at "go"
      refine ds_setL (i := 0) (a := some p) (ds := encS st') (j := 3) (d := .int ((st'.s * 69621 + 12345) % 2147483647)) ?_
      walk_at "go"
      refine ⟨by simp, ?_⟩
      walk_at "go"
      refine rt_E1 (ls := encS { st' with s := (st'.s * 69621 + 12345) % 2147483647 }) rfl ?_
      refine ⟨{ st' with s := (st'.s * 69621 + 12345) % 2147483647 }, ((st'.s * 69621 + 12345) % 2147483647 / 7 % n).toNat, ⟨g1, Int.emod_nonneg _ (by decide), Int.emod_lt_of_pos _ (by decide), g4⟩, rfl, ?_, ?_⟩
      · have := Int.emod_nonneg ((st'.s * 69621 + 12345) % 2147483647 / 7) (b := n) (by omega)
        show PyData.int _ = PyData.int _
        congr 1
        omega
      · have := Int.emod_lt_of_pos ((st'.s * 69621 + 12345) % 2147483647 / 7) nn
        have := Int.emod_nonneg ((st'.s * 69621 + 12345) % 2147483647 / 7) (b := n) (by omega)
        show ((st'.s * 69621 + 12345) % 2147483647 / 7 % n).toNat < n
        omega
/-! _law_same -/
def SD : Nat → PyData → Prop
  | 0, _ => False
  | n + 1, .tuple xs => xs.length ≤ 1000000 ∧ ∀ x ∈ xs, SD n x
  | n + 1, .list xs => xs.length ≤ 1000000 ∧ ∀ x ∈ xs, SD n x
  | _ + 1, .none => True
  | _ + 1, .bool _ => True
  | _ + 1, .int _ => True
  | _ + 1, .str _ => True
  | _ + 1, _ => False
abbrev spQ (K : PySem.W.Frag) (n : Nat) := spI K (fun d : PyData => [d, d]) (SD n) (fun _ r => r = .p (.d (.bool true)))
theorem ok_law_same (T : Tx K mg a) : ∀ n : Nat, FnOk P w K mg base CX0 (n + 1) a.f10 a.d10 ["actual", "expected"] (spQ K n)
  | 0 => fnEx fun x h => h.elim
  | n + 1 => by
    have G_law_same := ok_law_same T n
    refine fnI T.F_law_same sc_law_same (fun x => ⟨rfl, by decide⟩) fun cdv A outer s H E hr => ⟨_, (pss_cons (ps_if (pt_cmpR op_isN (pv 1) pe_non (nomark _)) (pss_one (ps_ret (pe_cmpR op_isN (pv 0) pe_non (nomark _)))) pss_nil) (pss_cons (ps_if (kTRUTH K rfl (pe_callB (kISI K rfl) (by rfl) T.z_isinstance (by decide +kernel) (pa_cons (pv 1) (pa_cons (pe_bltn (v := .ty "bool") (by rfl) T.z_bool (by decide +kernel) rfl) pa_nil))) (by intro _; rfl)) (pss_one (ps_ret (pe_and (pe_callB (kISI K rfl) (by rfl) T.z_isinstance (by decide +kernel) (pa_cons (pv 0) (pa_cons (pe_bltn (v := .ty "bool") (by rfl) T.z_bool (by decide +kernel) rfl) pa_nil))) (pe_one (pe_cmpR (kEQ K rfl hr.units) (pv 0) (pv 1) (nomark _)))))) pss_nil) (pss_cons (ps_if (kTRUTH K rfl (pe_callB (kISI K rfl) (by rfl) T.z_isinstance (by decide +kernel) (pa_cons (pv 1) (pa_cons (pe_bltn (v := .ty "int") (by rfl) T.z_int (by decide +kernel) rfl) pa_nil))) (by intro _; rfl)) (pss_one (ps_ret (pe_and (pe_callB (kISI K rfl) (by rfl) T.z_isinstance (by decide +kernel) (pa_cons (pv 0) (pa_cons (pe_bltn (v := .ty "int") (by rfl) T.z_int (by decide +kernel) rfl) pa_nil))) (pe_and (pe_not (pe_callB (kISI K rfl) (by rfl) T.z_isinstance (by decide +kernel) (pa_cons (pv 0) (pa_cons (pe_bltn (v := .ty "bool") (by rfl) T.z_bool (by decide +kernel) rfl) pa_nil)))) (pe_one (pe_cmpR (kEQ K rfl hr.units) (pv 0) (pv 1) (nomark _))))))) pss_nil) (pss_cons (ps_if (kTRUTH K rfl (pe_callB (kISI K rfl) (by rfl) T.z_isinstance (by decide +kernel) (pa_cons (pv 1) (pa_cons (pe_bltn (v := .ty "str") (by rfl) T.z_str (by decide +kernel) rfl) pa_nil))) (by intro _; rfl)) (pss_one (ps_ret (pe_and (pe_callB (kISI K rfl) (by rfl) T.z_isinstance (by decide +kernel) (pa_cons (pv 0) (pa_cons (pe_bltn (v := .ty "str") (by rfl) T.z_str (by decide +kernel) rfl) pa_nil))) (pe_one (pe_cmpR (kEQ K rfl hr.units) (pv 0) (pv 1) (nomark _)))))) pss_nil) (pss_cons (ps_if (PW.pt (pw_and (kTRUTH K rfl (pe_callB (kISI K rfl) (by rfl) T.z_isinstance (by decide +kernel) (pa_cons (pv 1) (pa_cons (pe_bltn (v := .ty "tuple") (by rfl) T.z_tuple (by decide +kernel) rfl) pa_nil))) (by intro _; rfl)) (pw_and1 (pt_not (kTRUTH K rfl (pe_callB (kISI K rfl) (by rfl) T.z_isinstance (by decide +kernel) (pa_cons (pv 0) (pa_cons (pe_bltn (v := .ty "tuple") (by rfl) T.z_tuple (by decide +kernel) rfl) pa_nil))) (by intro _; rfl)))))) (pss_one (ps_ret pe_bl)) pss_nil) (pss_cons (ps_if (PW.pt (pw_and (kTRUTH K rfl (pe_callB (kISI K rfl) (by rfl) T.z_isinstance (by decide +kernel) (pa_cons (pv 1) (pa_cons (pe_bltn (v := .ty "list") (by rfl) T.z_list (by decide +kernel) rfl) pa_nil))) (by intro _; rfl)) (pw_and1 (pt_not (kTRUTH K rfl (pe_callB (kISI K rfl) (by rfl) T.z_isinstance (by decide +kernel) (pa_cons (pv 0) (pa_cons (pe_bltn (v := .ty "list") (by rfl) T.z_list (by decide +kernel) rfl) pa_nil))) (by intro _; rfl)))))) (pss_one (ps_ret pe_bl)) pss_nil) (pss_cons (ps_if (pt_cmpR (kNE K rfl hr.units) (pe_callB (kLEN K rfl) (by rfl) T.z_len (by decide +kernel) (pa_cons (pv 0) pa_nil)) (pe_callB (kLEN K rfl) (by rfl) T.z_len (by decide +kernel) (pa_cons (pv 1) pa_nil)) (nomark _)) (pss_one (ps_ret pe_bl)) pss_nil) (pss_cons (ps_for PassesOwn.never rfl (pi_range1 (by rfl) T.z_range (pa_cons (pe_callB (kLEN K rfl) (by rfl) T.z_len (by decide +kernel) (pa_cons (pv 1) pa_nil)) pa_nil)) (pg_name (i := 2) sc_law_same.nd rfl (Or.inl rfl)) (pss_one (ps_if (pt_not (kTRUTH K rfl (pe_call G_law_same hr (by rfl) T.m_law_same T.k_law_same T.b_law_same .nil pass0 (pa_cons (pe_ix (kIX K rfl) (pv 0) (pv 2) (fun _ _ => rfl)) (pa_cons (pe_ix (kIX K rfl) (pv 1) (pv 2) (fun _ _ => rfl)) pa_nil))) (by intro _; rfl))) (pss_one (ps_ret pe_bl)) pss_nil))) (pss_one (ps_ret pe_bl)))))))))), ?_⟩
    intro d hd B
    walk_at "go"
    cases d with
    | none => walk_at "go"
    | bool b =>
      walk_at "go"
      simp
    | int i =>
      walk_at "go"
      simp
    | str s =>
      walk_at "go"
      simp
    | list xs =>
      obtain ⟨hz, hx⟩ := hd
      walk_at "go"
      refine ite_F (by simp) ?_
      walk_at "go"
      refine ds_forE' (ch := [2]) ?_
      refine di_rng1 ?_
      walk_at "go"
      refine ⟨by omega, by omega, fun i G => ∃ s, G = [.d (.list xs), .d (.list xs), s], ⟨_, rfl⟩, fun i G2 d hd ⟨s, hG⟩ => ?_, fun G2 ⟨s, hG⟩ => ?_⟩
      · subst hG
        obtain ⟨hi, rfl⟩ := rngD_get hd
        have hi : i < xs.length := by simpa using hi
        have hg : xs[i]? = some xs[i] := List.getElem?_eq_getElem hi
        have e0 : (0 : Int) + (i : Int) = (i : Int) := by omega
        rw [e0]
        refine dg_name ?_
        walk_at "go"
        refine rw_ixL rfl (atn hg) ?_
        walk_at "go"
        refine rw_ixL rfl (atn hg) ?_
        walk_at "go"
        refine ⟨xs[i], hx _ (List.getElem_mem hi), rfl, ?_⟩
        rintro _ rfl
        walk_at "go"
        exact ⟨_, rfl⟩
      · subst hG
        walk_at "go"
    | dict xs => exact hd.elim
    | tuple xs =>
      obtain ⟨hz, hx⟩ := hd
      walk_at "go"
      refine ite_F (by simp) ?_
      walk_at "go"
      refine ds_forE' (ch := [2]) ?_
      refine di_rng1 ?_
      walk_at "go"
      refine ⟨by omega, by omega, fun i G => ∃ s, G = [.d (.tuple xs), .d (.tuple xs), s], ⟨_, rfl⟩, fun i G2 d hd ⟨s, hG⟩ => ?_, fun G2 ⟨s, hG⟩ => ?_⟩
      · subst hG
        obtain ⟨hi, rfl⟩ := rngD_get hd
        have hi : i < xs.length := by simpa using hi
        have hg : xs[i]? = some xs[i] := List.getElem?_eq_getElem hi
        have e0 : (0 : Int) + (i : Int) = (i : Int) := by omega
        rw [e0]
        refine dg_name ?_
        walk_at "go"
        refine rw_ixT (atn hg) ?_
        walk_at "go"
        refine rw_ixT (atn hg) ?_
        walk_at "go"
        refine ⟨xs[i], hx _ (List.getElem_mem hi), rfl, ?_⟩
        rintro _ rfl
        walk_at "go"
        exact ⟨_, rfl⟩
      · subst hG
        walk_at "go"
/-! _law_signs -/
def sigs : List (List Nat) := [[97, 98], [97, 98, 99], [97, 99], [98, 100, 122], [97, 98]]
theorem sigs_ok {z : List Nat} (h : z ∈ sigs) : z.Nodup ∧ 2 ≤ z.length ∧ z.length ≤ 3 ∧ ∀ c ∈ z, c < 0x110000 := (by decide : ∀ z ∈ sigs, z.Nodup ∧ 2 ≤ z.length ∧ z.length ≤ 3 ∧ ∀ c ∈ z, c < 0x110000) z h
def resS (_ : Stt) (l : List PyData) (d : PyData) : Prop := ∃ (st : Stt) (z : List Nat), st.ok ∧ l = encS st ∧ d = zD z ∧ z ∈ sigs
abbrev spS (K : PySem.W.Frag) := spJ K (fun x : Stt => encS x) (fun _ => []) (fun x => x.ok) resS
theorem ok_law_signs (T : Tx K mg a) (G_law_next : FnOk P w K mg base CX0 1 a.f9 a.d9 ["state", "limit"] (spN K)) : FnOk P w K mg base CX0 2 a.f11 a.d11 ["state"] (spS K) := by
  refine fnJ T.F_law_signs sc_law_signs (fun x => ⟨rfl, by decide⟩) fun cdv A outer s H E hr => ⟨_, (pss_one (ps_ret (pe_ix (kIX K rfl) (pe_lst (pa_cons (pe_strM [97, 98] rfl) (pa_cons (pe_strM [97, 98, 99] rfl) (pa_cons (pe_strM [97, 99] rfl) (pa_cons (pe_strM [98, 100, 122] rfl) (pa_cons (pe_strM [97, 98] rfl) pa_nil)))))) (pe_call G_law_next hr (by rfl) T.m_law_next T.k_law_next T.b_law_next .nil pass0 (pa_cons (pv 0) (pa_cons pe_int pa_nil))) (fun _ _ => rfl)))), ?_⟩
  rintro st hst p B
  walk_at "go"
  refine ⟨(st, 5), 0, some p, _, ⟨hst, by simp, by simp⟩, rfl, rfl, rfl, ?_⟩
  rintro _ _ ⟨st', k, hst', rfl, rfl, hk⟩
  walk_at "go"
  obtain ⟨z, hz⟩ : ∃ z, sigs[k]? = some z := ⟨_, List.getElem?_eq_getElem hk⟩
  refine rw_ixL rfl (ati (f := zD) (xs := sigs) hz) ?_
  walk_at "go"
  exact rt_E1 rfl ⟨st', z, hst', rfl, rfl, List.mem_of_getElem? hz⟩
/-! _law_word -/
abbrev argW (x : Stt × List Nat × Nat) : List PyData := [zD x.2.1, nD x.2.2]
def resW (x : Stt × List Nat × Nat) (l : List PyData) (d : PyData) : Prop := ∃ (st : Stt) (row : List Nat), st.ok ∧ l = encS st ∧ d = zD row ∧ 1 ≤ row.length ∧ row.length ≤ x.2.2 ∧ ∀ c ∈ row, c ∈ x.2.1
abbrev spW (K : PySem.W.Frag) := spJ K (fun x : Stt × List Nat × Nat => encS x.1) argW (fun x => x.1.ok ∧ 0 < x.2.1.length ∧ x.2.1.length ≤ 1000 ∧ 0 < x.2.2 ∧ x.2.2 ≤ 1000) resW
theorem ok_law_word (T : Tx K mg a) (G_law_next : FnOk P w K mg base CX0 1 a.f9 a.d9 ["state", "limit"] (spN K)) : FnOk P w K mg base CX0 2 a.f12 a.d12 ["state", "signs", "most"] (spW K) := by
  refine fnJ T.F_law_word sc_law_word (fun x => ⟨rfl, by decide⟩) fun cdv A outer s H E hr => ⟨_, (pss_one (ps_ret (kBM K rfl (pe_bm PySem.F.plainAttrs_str PySem.F.slot_str_join PySem.F.type_str_join (kJOIN K rfl) (pe_strM [] rfl) (pa_cons (pe_lc (own := [("k", 3)]) (g := gName 3) (by rfl) sc_law_word.nd (pi_range1 (by rfl) T.z_range (pa_cons (pe_op (kADD K rfl) pe_int (pe_call G_law_next hr (by rfl) T.m_law_next T.k_law_next T.b_law_next .nil pass0 (pa_cons (pv 0) (pa_cons (pv 2) pa_nil)))) pa_nil)) (blkOk_by (own := [("k", 3)]) (N := ["state", "signs", "most", "k"]) (sc := defScope s_law_word) (by decide +kernel)) (fun _ _ _ _ _ => (pg_name (i := 3) sc_law_word.nd rfl (by first | exact Or.inl rfl | exact Or.inr rfl))) (fun _ _ _ _ _ => pts_nil) (fun _ _ _ _ _ => (pe_ix (kIX K rfl) (pv 1) (pe_call G_law_next hr (by rfl) T.m_law_next T.k_law_next T.b_law_next .nil pass0 (pa_cons (pv 0) (pa_cons (pe_callB (kLEN K rfl) (by rfl) T.z_len (by decide +kernel) (pa_cons (pv 1) pa_nil)) pa_nil))) (fun _ _ => rfl)))) pa_nil))))), ?_⟩
  rintro ⟨st, z, n⟩ ⟨hst, h1, h2, h0, h3⟩ p B
  dsimp only [argW] at *
  walk_at "go"
  refine dw_lcE (ch := [3]) (fun k hk => hk) ?_
  refine di_rng1 ?_
  walk_at "go"
  refine ⟨(st, n), 0, some p, _, ⟨hst, h0, by show n < 1000000000; omega⟩, rfl, rfl, rfl, ?_⟩
  rintro _ _ ⟨st1, k, hst1, rfl, rfl, hk⟩
  have hk : k < n := hk
  walk_at "go"
  refine ⟨by omega, by omega, fun i acc G => ∃ st' cs, Stt.ok st' ∧ acc = cs.map (fun c => zD [c]) ∧ cs.length = i ∧ (∀ c ∈ cs, c ∈ z) ∧ G = [.o (some p) (encS st'), .d (zD z), .d (nD n), .un], ⟨st1, [], hst1, rfl, rfl, (fun c h => (nomatch h)), rfl⟩, fun B' i acc G2 d hd ⟨st', cs, hst', ha, hl, hc, hG⟩ => ?_, fun acc G2 ⟨st', cs, hst', ha, hl, hc, hG⟩ => ?_⟩
  · subst hG ha
    have hi : i < 1 + k := by
      obtain ⟨h, _⟩ := rngD_get hd
      have : ((1 : Int) + (k : Int)).toNat = 1 + k := by omega
      omega
    refine dg_name ?_
    walk_at "go"
    refine rn_lenZ (by omega) ?_
    walk_at "go"
    refine ⟨(st', z.length), 0, some p, _, ⟨hst', h1, by show z.length < 1000000000; omega⟩, rfl, rfl, rfl, ?_⟩
    rintro _ _ ⟨st2, j, hst2, rfl, rfl, hj⟩
    have hj : j < z.length := hj
    walk_at "go"
    obtain ⟨c, hc'⟩ : ∃ c, z[j]? = some c := ⟨_, List.getElem?_eq_getElem hj⟩
    refine rw_ixS (szl (by omega)) (atn hc') ?_
    walk_at "go"
    refine ⟨szlt (by rw [List.length_map]; omega), st2, cs ++ [c], hst2, by rw [List.map_append]; rfl, by simp [hl], fun q hq => ?_, rfl⟩
    rcases List.mem_append.mp hq with hq | hq
    · exact hc q hq
    · rw [List.mem_singleton.mp hq]
      exact List.mem_of_getElem? hc'
  · subst hG ha
    rw [rngD_len] at hl
    have hl : cs.length = 1 + k := by omega
    walk_at "go"
    refine rm_join0 rfl (by omega) ?_
    walk_at "go"
    exact rt_E1 rfl ⟨st', cs, hst', rfl, rfl, by omega, by show cs.length ≤ n; omega, hc⟩
end
end K65
namespace K65
open PySem PySem.Spec PyProof.Rows L2 DL
local macro_rules | `(tactic| walk_at "st") => `(tactic| with_reducible first
  | refine pw_p ?_ | refine pw_o ?_ | refine dw_op ?_ | refine dw_un ?_ | refine dw_int ?_ | refine dw_str ?_ | refine dw_bl ?_ | refine dw_non ?_ | refine dw_ty ?_ | refine da_nil' ?_ | refine da_cons' ?_ | refine dw_sortSetT ?_ | refine dw_CB ?_ | refine dw_BM ?_ | refine dw_BM0 ?_
  | refine dw_tup ?_ | refine dw_lst ?_ | refine dw_notV ?_ | refine dw_and ?_ | refine dw_or ?_ | refine dw_if ?_ | refine dw_chain ?_ | refine dw_sl3 ?_ | refine dw_revT ?_ | refine dw_tupRg1 ?_ | refine dw_lstRg1 ?_ | refine dw_callI ?_ | refine dw_callJ ?_
  | refine dt_test ?_ | refine dt_B ?_ | refine dt_and ?_ | refine dt_or ?_ | refine dt_not ?_ | refine dt_yes ?_ | refine dt_truth ?_
  | refine ds_ret ?_ | refine ds_retN ?_ | refine ds_next ?_ | refine ds_break ?_ | refine ds_cont ?_ | refine ds_drop ?_ | refine ds_if ?_ | refine ds_set ?_
  | refine nx_nxt ?_ | refine rt_nxt ?_ | refine bk_nxt ?_ | refine ct_nxt ?_ | refine nx_lp ?_ | refine rt_lp ?_ | refine bk_lp ?_ | refine ct_lp ?_ | refine asn_d ?_ | refine asn_fr ?_ | refine rt_E0 ?_ | refine rt_E0o ?_ | refine nx_E0 ?_
  | refine dw_newK ?_ | refine dw_dInK ?_ | refine dw_dNotInK ?_ | refine dw_dGetK ?_ | refine ds_dPutK ?_ | refine dw_callH ?_
  | refine tr_b ?_ | refine tr_i ?_ | refine tr_n ?_ | refine tr_T ?_ | refine tr_L ?_
  | refine do_none ?_ | refine do_some ?_ | refine ite_t ?_ | refine ite_f ?_
  | refine rw_addI ?_ | refine rw_sub ?_ | refine rw_cmp ?_ | refine rw_eqI ?_ | refine rw_neI ?_ | refine rw_eqZ ?_ | refine rw_neZ ?_ | refine rw_eqS ?_ | refine rw_neS ?_ | refine rw_eqB ?_ | refine rw_neB ?_ | refine isN_d ?_ | refine notN_d ?_ | refine rw_isB ?_ | refine rw_notB ?_
  | refine rn_intI ?_ | refine rn_intB ?_ | refine rn_max ?_ | refine rn_min ?_ | refine rn_lenT ?_ | refine rn_lenD ?_ | refine rm_sw ?_ | refine isi_int ?_ | refine isi_bool ?_ | refine isi_str ?_ | refine isi_tuple ?_ | refine isi_list ?_ | refine rn_tupT ?_ | refine rn_listT ?_
  | refine ⟨_, rfl, ?_⟩
  | fail)
local macro_rules | `(tactic| walk_at "va") => `(tactic| first
  | ((with_reducible apply dw_var); rfl) | ((with_reducible apply dw_sl); rfl) | ((with_reducible apply dw_slK); rfl)
  | ((with_reducible apply rw_ixL); rfl; rfl) | ((with_reducible apply rw_ixT); rfl)
  | ((with_reducible apply ite_T); rfl) | ((with_reducible apply ite_F); rfl) | ((with_reducible apply tr_o); rfl)
  | refine ⟨_, rfl, szl (Nat.le_of_ble_eq_true rfl), ?_⟩
  | (with_reducible refine rw_mod (by omega) ?_)
  | (with_reducible refine rw_fdiv (by unfold CDiv; omega) ?_)
  | (with_reducible refine rw_mul (by unfold CMul; omega) ?_)
  | refine ⟨szl (Nat.le_of_ble_eq_true rfl), ?_⟩
  | refine ⟨⟨rfl, _, _, rfl⟩, ?_⟩
  | refine ⟨rfl, ?_⟩
  | rfl
  | fail)
local macro_rules | `(tactic| walk_at "go") => `(tactic| repeat' (first | walk_at "st" | (with_reducible refine ds_seq' ?_) | walk_at "va" | fail))
local macro_rules | `(tactic| walk_at "gs") => `(tactic| repeat' (first | walk_at "st" | walk_at "va" | fail))
/-! rows -/
structure RowsOk (z : List Nat) (rows : List Row) : Prop where
  ne : NE rows
  nd : rows.Nodup
  l1 : 1 ≤ rows.length
  l5 : rows.length ≤ 5
  len : ∀ w ∈ rows, w.length ≤ 12
  sg : ∀ w ∈ rows, ∀ c ∈ w, c ∈ z
  len2 : ∀ j w, rows[j]? = some w → w.length ≤ 4 + 2 * j
abbrev lD (rows : List Row) : PyData := .list (rows.map zD)
/-- letters of the signs -/
def Lt (w : Row) : Prop := ∀ c ∈ w, c < 0x110000
theorem shp_z {w : Row} (n : Nat) (h : Lt w) : Shp n (zD w) := shp_str n h
theorem Lt.drop {w : Row} (h : Lt w) (n : Nat) : Lt (w.drop n) := fun c hc => h c (List.mem_of_mem_drop hc)
theorem Lt.take {w : Row} (h : Lt w) (n : Nat) : Lt (w.take n) := fun c hc => h c (List.mem_of_mem_take hc)
theorem Lt.app {v w : Row} (h : Lt v) (h' : Lt w) : Lt (v ++ w) := fun c hc => (List.mem_append.mp hc).elim (h c) (h' c)
theorem RowsOk.lt {z : List Nat} {rows : List Row} (R : RowsOk z rows) (hz : z ∈ sigs) {w : Row} (hw : w ∈ rows) : Lt w := fun c hc => (sigs_ok hz).2.2.2 c (R.sg w hw c hc)
section
variable {P : Program} {w : World} {K : PySem.W.Frag} {mg : Str → Option Value} {base : Heap} {a : Ad}
structure RI (z : List Nat) (i : Nat) (rows : List Row) : Prop where
  ne : NE rows
  nd : rows.Nodup
  l1 : 1 ≤ i → 1 ≤ rows.length
  l5 : rows.length ≤ i
  len2 : ∀ j w, rows[j]? = some w → w.length ≤ 4 + 2 * j
  sg : ∀ w ∈ rows, ∀ c ∈ w, c ∈ z
theorem RI.len {z : List Nat} {i : Nat} {rows : List Row} (R : RI z i rows) : ∀ w ∈ rows, w.length ≤ 2 + 2 * rows.length := fun w hw => by
  obtain ⟨j, hj, rfl⟩ := List.mem_iff_getElem.mp hw
  have := R.len2 j _ (List.getElem?_eq_getElem hj)
  omega
def resR (x : Stt × List Nat) (l : List PyData) (d : PyData) : Prop := ∃ (st : Stt) (rows : List Row), st.ok ∧ l = encS st ∧ d = lD rows ∧ RowsOk x.2 rows
abbrev spR (K : PySem.W.Frag) := spJ K (fun x : Stt × List Nat => encS x.1) (fun x => [zD x.2]) (fun x => x.1.ok ∧ x.2 ∈ sigs) resR
theorem ok_law_rows (T : Tx K mg a) (G_law_next : FnOk P w K mg base CX0 1 a.f9 a.d9 ["state", "limit"] (spN K)) (G_law_word : FnOk P w K mg base CX0 2 a.f12 a.d12 ["state", "signs", "most"] (spW K)) : FnOk P w K mg base CX0 3 a.f13 a.d13 ["state", "signs"] (spR K) := by
  have G_law_next := G_law_next.mono (show 1 ≤ 2 by decide)
  refine fnJ T.F_law_rows sc_law_rows (fun x => ⟨rfl, by decide⟩) fun cdv A outer s H E hr => ⟨_, (pss_cons (ps_set (i := 2) sc_law_rows.nd rfl (Or.inl rfl) (pe_lst pa_nil)) (pss_cons (ps_for PassesOwn.never rfl (pi_range1 (by rfl) T.z_range (pa_cons (pe_op (kADD K rfl) pe_int (pe_call G_law_next hr (by rfl) T.m_law_next T.k_law_next T.b_law_next .nil pass0 (pa_cons (pv 0) (pa_cons pe_int pa_nil)))) pa_nil)) (pg_name (i := 3) sc_law_rows.nd rfl (Or.inl rfl)) (pss_cons (ps_set (i := 4) sc_law_rows.nd rfl (Or.inl rfl) (pe_call G_law_next hr (by rfl) T.m_law_next T.k_law_next T.b_law_next .nil pass0 (pa_cons (pv 0) (pa_cons pe_int pa_nil)))) (pss_cons (ps_set (i := 5) sc_law_rows.nd rfl (Or.inl rfl) (pe_call G_law_word hr (by rfl) T.m_law_word T.k_law_word T.b_law_word .nil pass0 (pa_cons (pv 0) (pa_cons (pv 1) (pa_cons pe_int pa_nil))))) (pss_cons (ps_if (PW.pt (pw_and (pt_cmpR (kNE K rfl hr.units) (pv 2) (pe_lst pa_nil) (nomark _)) (pw_and1 (pt_cmpR (kEQ K rfl hr.units) (pv 4) pe_int (nomark _))))) (pss_one (ps_set (i := 5) sc_law_rows.nd rfl (Or.inl rfl) (pe_op (kADD K rfl) (pe_ix (kIX K rfl) (pv 2) (pe_call G_law_next hr (by rfl) T.m_law_next T.k_law_next T.b_law_next .nil pass0 (pa_cons (pv 0) (pa_cons (pe_callB (kLEN K rfl) (by rfl) T.z_len (by decide +kernel) (pa_cons (pv 2) pa_nil)) pa_nil))) (fun _ _ => rfl)) (pe_slice (kSLC K rfl) (pv 5) po_none (po_some pe_int))))) (pss_one (ps_if (PW.pt (pw_and (pt_cmpR (kNE K rfl hr.units) (pv 2) (pe_lst pa_nil) (nomark _)) (pw_and1 (pt_cmpR (kEQ K rfl hr.units) (pv 4) pe_int (nomark _))))) (pss_one (ps_set (i := 5) sc_law_rows.nd rfl (Or.inl rfl) (pe_op (kADD K rfl) (pe_slice (kSLC K rfl) (pv 5) po_none (po_some pe_int)) (pe_ix (kIX K rfl) (pv 2) (pe_call G_law_next hr (by rfl) T.m_law_next T.k_law_next T.b_law_next .nil pass0 (pa_cons (pv 0) (pa_cons (pe_callB (kLEN K rfl) (by rfl) T.z_len (by decide +kernel) (pa_cons (pv 2) pa_nil)) pa_nil))) (fun _ _ => rfl))))) pss_nil))) (pss_one (ps_if (pt_cmpR (kNI K rfl (hu65 hr)) (pv 5) (pv 2) (by rfl)) (pss_one (ps_expr (kBM K rfl (pe_bm PySem.F.plainAttrs_list PySem.F.slot_list_append PySem.F.type_list_append mt_append (pv 2) (pa_cons (pv 5) pa_nil))))) pss_nil)))))) (pss_one (ps_ret (pv 2))))), ?_⟩
  rintro ⟨st, z⟩ ⟨hst, hz⟩ p B
  have hz : z ∈ sigs := hz
  obtain ⟨z1, z2, z3, z4⟩ := sigs_ok hz
  walk_at "go"
  refine ds_forE' (ch := [3]) ?_
  refine di_rng1 ?_
  walk_at "go"
  refine ⟨(st, 5), 0, some p, _, ⟨hst, by simp, by simp⟩, rfl, rfl, rfl, ?_⟩
  rintro _ _ ⟨st1, k, hst1, rfl, rfl, hk⟩
  have hk : k < 5 := hk
  walk_at "go"
  refine ⟨by omega, by omega, fun i G => ∃ st' rows s3 s4 s5, Stt.ok st' ∧ RI z i rows ∧ G = [.o (some p) (encS st'), .d (zD z), .o none (rows.map zD), s3, s4, s5], ⟨st1, [], _, _, _, hst1, ⟨fun _ h => (nomatch h), .nil, (by omega), by simp, fun _ _ h => (by simp at h), fun _ h => (nomatch h)⟩, rfl⟩, fun i G2 d hd ⟨st', rows, s3, s4, s5, hst', R, hG⟩ => ?_, fun G2 ⟨st', rows, s3, s4, s5, hst', R, hG⟩ => ?_⟩
  · subst hG
    have hi : i < 5 := by
      obtain ⟨h, _⟩ := rngD_get hd
      omega
    have hrl := R.l5
    have hemp : (rows.map zD).isEmpty = false → 1 ≤ rows.length := fun h => by
      cases rows with
      | nil => cases h
      | cons _ _ => simp
    have hsz : ∀ x ∈ rows.map zD, Shp 60 x := fun x hx => by
      obtain ⟨v, hv, rfl⟩ := List.mem_map.mp hx
      exact shp_str 60 fun c hc => z4 c (R.sg v hv c hc)
    refine dg_name ?_
    refine ds_seq' ?_
    walk_at "gs"
    refine ⟨(st', 4), 0, some p, _, ⟨hst', by simp, by simp⟩, rfl, rfl, rfl, ?_⟩
    rintro _ _ ⟨st2, pk, hst2, rfl, rfl, hpk⟩
    walk_at "gs"
    refine ds_seq' ?_
    walk_at "gs"
    refine ⟨(st2, z, 4), 0, some p, _, ⟨hst2, by show 0 < z.length; omega, by show z.length ≤ 1000; omega, by simp, by simp⟩, rfl, rfl, rfl, ?_⟩
    rintro _ _ ⟨st3, row, hst3, rfl, rfl, hr1, hr4, hrz⟩
    have hr4 : row.length ≤ 4 := hr4
    walk_at "gs"
    refine ds_mid' (fun G => ∃ st' row', Stt.ok st' ∧ row' ≠ [] ∧ row'.length ≤ 4 + 2 * rows.length ∧ (∀ c ∈ row', c ∈ z) ∧ G = [.o (some p) (encS st'), .d (zD z), .o none (rows.map zD), .d d, .d (nD pk), .d (zD row')]) ?_ ?_
    · walk_at "gs"
      have other : ∀ {Q : En → Prop} (h : ∀ G, (∃ st' row', Stt.ok st' ∧ row' ≠ [] ∧ row'.length ≤ 4 + 2 * rows.length ∧ (∀ c ∈ row', c ∈ z) ∧ G = [Sl.o (some p) (encS st'), .d (zD z), .o none (rows.map zD), .d d, .d (nD pk), .d (zD row')]) → Q G), Q [.o (some p) (encS st3), .d (zD z), .o none (rows.map zD), .d d, .d (nD pk), .d (zD row)] := fun h => h _ ⟨st3, row, hst3, (fun e => by rw [e] at hr1; simp at hr1), by omega, hrz, rfl⟩
      refine rw_neNil rfl hsz ?_
      walk_at "gs"
      refine ite_k (fun c => ?_) (fun c => ?_)
      · have hr0 := hemp (by simpa using c)
        walk_at "gs"
        refine ite_k (fun c2 => ?_) (fun c2 => ?_)
        · walk_at "gs"
          refine rn_lenL rfl ?_
          walk_at "gs"
          rw [List.length_map]
          refine ⟨(st3, rows.length), 0, some p, _, ⟨hst3, hr0, by show rows.length < 1000000000; omega⟩, rfl, rfl, rfl, ?_⟩
          rintro _ _ ⟨st4, j, hst4, rfl, rfl, hj⟩
          have hj : j < rows.length := hj
          walk_at "gs"
          obtain ⟨v, hv⟩ : ∃ v, rows[j]? = some v := ⟨_, List.getElem?_eq_getElem hj⟩
          have hvm := List.mem_of_getElem? hv
          have hvl := R.len v hvm
          refine rw_ixL rfl (ati hv) ?_
          walk_at "gs"
          refine rs_to (n := 2) (by omega) ?_
          walk_at "gs"
          refine rw_addZ (by rw [List.length_take]; omega) ?_
          walk_at "gs"
          refine ⟨st4, v ++ row.take 2, hst4, fun e => R.ne v hvm (List.append_eq_nil_iff.mp e).1, by rw [List.length_append, List.length_take]; omega, fun c hc => ?_, rfl⟩
          rcases List.mem_append.mp hc with hc | hc
          · exact R.sg v hvm c hc
          · exact hrz c (List.mem_of_mem_take hc)
        · walk_at "gs"
          refine rw_neNil rfl hsz ?_
          walk_at "gs"
          refine ite_k (fun c3 => ?_) (fun c3 => ?_)
          · walk_at "gs"
            refine ite_k (fun c4 => ?_) (fun c4 => ?_)
            · walk_at "gs"
              refine rs_to (n := 1) (by omega) ?_
              walk_at "gs"
              refine rn_lenL rfl ?_
              walk_at "gs"
              rw [List.length_map]
              refine ⟨(st3, rows.length), 0, some p, _, ⟨hst3, hr0, by show rows.length < 1000000000; omega⟩, rfl, rfl, rfl, ?_⟩
              rintro _ _ ⟨st4, j, hst4, rfl, rfl, hj⟩
              have hj : j < rows.length := hj
              walk_at "gs"
              obtain ⟨v, hv⟩ : ∃ v, rows[j]? = some v := ⟨_, List.getElem?_eq_getElem hj⟩
              have hvm := List.mem_of_getElem? hv
              have hvl := R.len v hvm
              refine rw_ixL rfl (ati hv) ?_
              walk_at "gs"
              refine rw_addZ (by rw [List.length_take]; omega) ?_
              walk_at "gs"
              refine ⟨st4, row.take 1 ++ v, hst4, fun e => R.ne v hvm (List.append_eq_nil_iff.mp e).2, by rw [List.length_append, List.length_take]; omega, fun c hc => ?_, rfl⟩
              rcases List.mem_append.mp hc with hc | hc
              · exact hrz c (List.mem_of_mem_take hc)
              · exact R.sg v hvm c hc
            · walk_at "gs"
              exact other fun _ h => h
          · walk_at "gs"
            exact other fun _ h => h
      · walk_at "gs"
        refine rw_neNil rfl hsz ?_
        walk_at "gs"
        rw [c]
        walk_at "gs"
        exact other fun _ h => h
    · rintro G1 ⟨st4, row', hst4, hn', hl', hs', rfl⟩
      have hrl' : Lt row' := fun c hc => z4 c (hs' c hc)
      walk_at "gs"
      refine rw_niLE (f := zD) eqv_zD (x := row') rfl rfl (shp_z 50 hrl') (fun v hv => shp_str 50 fun c hc => z4 c (R.sg v hv c hc)) ?_
      walk_at "gs"
      refine ite_k (fun c => ?_) (fun c => ?_)
      · have c : row' ∉ rows := by simpa using c
        walk_at "gs"
        refine rm_app (i := 2) (ds := rows.map zD) rfl (szlt (by rw [List.length_map]; omega)) ?_
        walk_at "gs"
        refine ⟨st4, rows ++ [row'], _, _, _, hst4, ⟨fun v hv => ?_, ?_, fun _ => by simp, by simp; omega, fun j v hv => ?_, fun v hv => ?_⟩, by rw [List.map_append]; rfl⟩
        · rcases List.mem_append.mp hv with hv | hv
          · exact R.ne v hv
          · rw [List.mem_singleton.mp hv]
            exact hn'
        · rw [List.nodup_append]
          exact ⟨R.nd, by simp, fun x hx y hy => fun e => c (by rw [List.mem_singleton.mp hy] at e; rw [← e]; exact hx)⟩
        · rcases Nat.lt_or_ge j rows.length with hj | hj
          · rw [List.getElem?_append_left hj] at hv
            exact R.len2 j v hv
          · rw [List.getElem?_append_right hj] at hv
            have : j - rows.length = 0 := by
              have := (List.getElem?_eq_some_iff.mp hv).1
              simp at this
              omega
            rw [this] at hv
            cases hv
            omega
        · rcases List.mem_append.mp hv with hv | hv
          · exact R.sg v hv
          · rw [List.mem_singleton.mp hv]
            exact hs'
      · have c : row' ∈ rows := by simpa using c
        walk_at "gs"
        exact ⟨st4, rows, _, _, _, hst4, ⟨R.ne, R.nd, fun _ => List.length_pos_of_mem c, by omega, R.len2, R.sg⟩, rfl⟩
  · subst hG
    rw [rngD_len] at R
    refine ds_freeze 2 rfl ?_
    walk_at "go"
    have e5 : ((1 : Int) + (k : Int)).toNat = 1 + k := by omega
    rw [e5] at R
    exact rt_E1 rfl ⟨st', rows, hst', rfl, rfl, R.ne, R.nd, R.l1 (by omega), by have := R.l5; omega, fun v hv => by have := R.len v hv; have := R.l5; omega, R.sg, R.len2⟩
end
end K65
namespace K65
open PySem PySem.Spec PyProof.Rows L2 DL
local macro_rules | `(tactic| walk_at "st") => `(tactic| with_reducible first
  | refine pw_p ?_ | refine pw_o ?_ | refine dw_op ?_ | refine dw_un ?_ | refine dw_int ?_ | refine dw_str ?_ | refine dw_bl ?_ | refine dw_non ?_ | refine dw_ty ?_ | refine da_nil' ?_ | refine da_cons' ?_ | refine dw_sortSetT ?_ | refine dw_CB ?_ | refine dw_BM ?_ | refine dw_BM0 ?_
  | refine dw_tup ?_ | refine dw_lst ?_ | refine dw_notV ?_ | refine dw_and ?_ | refine dw_or ?_ | refine dw_if ?_ | refine dw_chain ?_ | refine dw_sl3 ?_ | refine dw_revT ?_ | refine dw_tupRg1 ?_ | refine dw_lstRg1 ?_ | refine dw_callI ?_ | refine dw_callJ ?_
  | refine dt_test ?_ | refine dt_B ?_ | refine dt_and ?_ | refine dt_or ?_ | refine dt_not ?_ | refine dt_yes ?_ | refine dt_truth ?_
  | refine ds_ret ?_ | refine ds_retN ?_ | refine ds_next ?_ | refine ds_break ?_ | refine ds_cont ?_ | refine ds_drop ?_ | refine ds_if ?_ | refine ds_set ?_
  | refine nx_nxt ?_ | refine rt_nxt ?_ | refine bk_nxt ?_ | refine ct_nxt ?_ | refine nx_lp ?_ | refine rt_lp ?_ | refine bk_lp ?_ | refine ct_lp ?_ | refine asn_d ?_ | refine asn_fr ?_ | refine rt_E0 ?_ | refine rt_E0o ?_ | refine nx_E0 ?_
  | refine dw_newK ?_ | refine dw_dInK ?_ | refine dw_dNotInK ?_ | refine dw_dGetK ?_ | refine ds_dPutK ?_ | refine dw_callH ?_
  | refine tr_b ?_ | refine tr_i ?_ | refine tr_n ?_ | refine tr_T ?_ | refine tr_L ?_
  | refine do_none ?_ | refine do_some ?_ | refine ite_t ?_ | refine ite_f ?_
  | refine rw_addI ?_ | refine rw_sub ?_ | refine rw_cmp ?_ | refine rw_eqI ?_ | refine rw_neI ?_ | refine rw_eqZ ?_ | refine rw_neZ ?_ | refine rw_eqS ?_ | refine rw_neS ?_ | refine rw_eqB ?_ | refine rw_neB ?_ | refine isN_d ?_ | refine notN_d ?_ | refine rw_isB ?_ | refine rw_notB ?_
  | refine rn_intI ?_ | refine rn_intB ?_ | refine rn_max ?_ | refine rn_min ?_ | refine rn_lenT ?_ | refine rn_lenD ?_ | refine rm_sw ?_ | refine isi_int ?_ | refine isi_bool ?_ | refine isi_str ?_ | refine isi_tuple ?_ | refine isi_list ?_ | refine rn_tupT ?_ | refine rn_listT ?_
  | refine ⟨_, rfl, ?_⟩
  | fail)
local macro_rules | `(tactic| walk_at "va") => `(tactic| first
  | ((with_reducible apply dw_var); rfl) | ((with_reducible apply dw_sl); rfl) | ((with_reducible apply dw_slK); rfl)
  | ((with_reducible apply rw_ixL); rfl; rfl) | ((with_reducible apply rw_ixT); rfl)
  | ((with_reducible apply ite_T); rfl) | ((with_reducible apply ite_F); rfl) | ((with_reducible apply tr_o); rfl)
  | refine ⟨_, rfl, szl (Nat.le_of_ble_eq_true rfl), ?_⟩
  | (with_reducible refine rw_mod (by omega) ?_)
  | (with_reducible refine rw_fdiv (by unfold CDiv; omega) ?_)
  | (with_reducible refine rw_mul (by unfold CMul; omega) ?_)
  | refine ⟨szl (Nat.le_of_ble_eq_true rfl), ?_⟩
  | refine ⟨⟨rfl, _, _, rfl⟩, ?_⟩
  | refine ⟨rfl, ?_⟩
  | rfl
  | fail)
local macro_rules | `(tactic| walk_at "go") => `(tactic| repeat' (first | walk_at "st" | (with_reducible refine ds_seq' ?_) | walk_at "va" | fail))
local macro_rules | `(tactic| walk_at "gs") => `(tactic| repeat' (first | walk_at "st" | walk_at "va" | fail))
/-! sorted lists of rows -/
def srtR (L : List Row) : List Row := srtD zD L
theorem le_zD : PySem.W.dataLe false zD = fun a b : Row => decide (a ≤ b) := by
  have := PySem.W.dataLe_str (fun b : Row => mkS b)
  rw [show (fun b : Row => PyData.str (mkS b)) = zD from rfl] at this
  rw [this]
  funext a b
  rw [mkS_cps, mkS_cps]
theorem srtR_perm (L : List Row) : (srtR L).Perm L := List.mergeSort_perm _ _
theorem srtR_pw (L : List Row) : (srtR L).Pairwise (· ≤ ·) := by
  unfold srtR srtD
  rw [le_zD]
  refine (List.pairwise_mergeSort (fun a b c h1 h2 => ?_) (fun a b => ?_) L).imp fun {a b} h => of_decide_eq_true h
  · exact decide_eq_true (List.le_trans (of_decide_eq_true h1) (of_decide_eq_true h2))
  · rw [Bool.or_eq_true, decide_eq_true_eq, decide_eq_true_eq]
    exact List.le_total a b
theorem srtR_mem {L : List Row} {x : Row} : x ∈ srtR L ↔ x ∈ L := (srtR_perm L).mem_iff
theorem srtR_len (L : List Row) : (srtR L).length = L.length := (srtR_perm L).length_eq
theorem srtR_eq {L M : List Row} (h : L.Perm M) : srtR L = srtR M :=
  List.Perm.eq_of_pairwise (le := (· ≤ ·)) (fun a b _ _ h1 h2 => List.le_antisymm h1 h2) (srtR_pw L) (srtR_pw M) ((srtR_perm L).trans (h.trans (srtR_perm M).symm))
theorem srtR_nd {L : List Row} (h : L.Nodup) : (srtR L).Nodup := (srtR_perm L).nodup_iff.mpr h
theorem srtR_set {L M : List Row} (h1 : L.Nodup) (h2 : M.Nodup) (h : ∀ x, x ∈ L ↔ x ∈ M) : srtR L = srtR M := srtR_eq ((List.perm_ext_iff_of_nodup h1 h2).mpr h)
/-- what the library's sorted set of texts is -/
theorem srt_ms {ms : List Str} (hn : ms.Nodup) {found : List Row} (h : ∀ k, k ∈ ms ↔ k ∈ found.map mkS) : ∃ L : List Row, L.Nodup ∧ (∀ x, x ∈ L ↔ x ∈ found) ∧ (srtD PyData.str ms).map PyData.str = (srtR L).map zD := by
  have e : (ms.map fun s => s.cps.toList).map mkS = ms := by
    rw [List.map_map]
    conv => rhs; rw [← List.map_id ms]
    exact List.map_congr_left fun s _ => mkS_of s
  refine ⟨ms.map fun s => s.cps.toList, ?_, fun x => ?_, ?_⟩
  · refine List.Pairwise.map _ (fun a b hab => ?_) hn
    intro z
    exact hab (by rw [← mkS_of a, ← mkS_of b, z])
  · rw [List.mem_map]
    constructor
    · rintro ⟨s, hs, rfl⟩
      obtain ⟨r, hr, rfl⟩ := List.mem_map.mp ((h s).mp hs)
      rw [mkS_cps]
      exact hr
    · intro hx
      exact ⟨mkS x, (h _).mpr (List.mem_map.mpr ⟨x, hx, rfl⟩), mkS_cps x⟩
  · unfold srtR srtD
    have := List.map_mergeSort (r := PySem.W.dataLe false zD) (s := PySem.W.dataLe false PyData.str) (f := mkS) (l := ms.map fun s => s.cps.toList) (fun a _ b _ => rfl)
    rw [e] at this
    rw [← this, List.map_map]
    rfl
open Classical in
noncomputable def clo (rows : List Row) : List Row := if h : ∃ F : List Row, F.Nodup ∧ ∀ r, r ∈ F ↔ Cl rows r then srtR h.choose else []
theorem clo_eq {rows F : List Row} (h1 : F.Nodup) (h2 : ∀ r, r ∈ F ↔ Cl rows r) : srtR F = clo rows := by
  have e : ∃ F : List Row, F.Nodup ∧ ∀ r, r ∈ F ↔ Cl rows r := ⟨F, h1, h2⟩
  unfold clo
  rw [dif_pos e]
  exact srtR_set h1 e.choose_spec.1 fun x => (h2 x).trans (e.choose_spec.2 x).symm
theorem clo_mem {rows F : List Row} (h1 : F.Nodup) (h2 : ∀ r, r ∈ F ↔ Cl rows r) (x : Row) : x ∈ clo rows ↔ Cl rows x := by
  rw [← clo_eq h1 h2, srtR_mem, h2]
/-! sizes -/
theorem sum_len_le {β : Type} (f : Row → List β) (n : Nat) : ∀ {l : List Row}, (∀ x ∈ l, (f x).length ≤ n) → (l.flatMap f).length ≤ l.length * n
  | [], _ => by simp
  | x :: l, h => by
    rw [List.flatMap_cons, List.length_append, List.length_cons, Nat.succ_mul]
    have := h x List.mem_cons_self
    have := sum_len_le f n fun y hy => h y (List.mem_cons_of_mem _ hy)
    omega
theorem base_len {z : List Nat} {rows : List Row} (R : RowsOk z rows) : (base rows).length ≤ 25 := by
  have h : (base rows).length ≤ rows.length * 5 := sum_len_le _ 5 fun x _ => by
    rw [List.length_map]
    exact Nat.le_trans (List.length_filter_le _ _) R.l5
  have := R.l5
  omega
theorem uni_len {z : List Nat} {rows : List Row} (R : RowsOk z rows) : (uni rows).length ≤ 65 := by
  have h : (uni rows).length ≤ rows.length * 13 := sum_len_le _ 13 fun x hx => by
    rw [List.length_map, List.length_range]
    have := R.len x hx
    omega
  have := R.l5
  omega
theorem rests_len {z : List Nat} {rows : List Row} (R : RowsOk z rows) (r : Row) : (rests rows r).length ≤ 10 := by
  unfold rests
  rw [List.length_append, List.length_map, List.length_map]
  have h1 := List.length_filter_le (fun w => decide (w.take r.length = r)) rows
  have h2 := List.length_filter_le (fun w => decide (r.take w.length = w)) rows
  have := R.l5
  omega
theorem restsL_len {z : List Nat} {rows : List Row} (R : RowsOk z rows) (r : Row) : (restsL rows r).length ≤ 10 := by
  have h : (restsL rows r).length ≤ rows.length * 2 := sum_len_le _ 2 fun x _ => by
    rw [List.length_append]
    split <;> split <;> simp
  have := R.l5
  omega
theorem uni_small {z : List Nat} {rows : List Row} (R : RowsOk z rows) (hz : z ∈ sigs) {r : Row} (h : r ∈ uni rows) : r.length ≤ 12 ∧ Lt r := by
  obtain ⟨w, hw, n, rfl⟩ := mem_uni.mp h
  refine ⟨?_, (R.lt hz hw).drop n⟩
  have := R.len w hw
  rw [List.length_drop]
  omega
section
variable {P : Program} {w : World} {K : PySem.W.Frag} {mg : Str → Option Value} {base' : Heap} {a : Ad}
/-! rests_of, _law_rests -/
abbrev argT (x : List Nat × List Row × Row) : List PyData := [lD x.2.1, zD x.2.2]
def preT (x : List Nat × List Row × Row) : Prop := x.1 ∈ sigs ∧ RowsOk x.1 x.2.1 ∧ x.2.2.length ≤ 1000
abbrev spT (K : PySem.W.Frag) (f : List Row → Row → List Row) := spI K argT preT (fun x r => r = .fr (.o none ((f x.2.1 x.2.2).map zD)))
theorem ok_rests_of (T : Tx K mg a) : FnOk P w K mg base' CX0 1 a.f2 a.d2 ["rows", "rest"] (spT K rests) := by
  refine fnI T.F_rests_of sc_rests_of (fun x => ⟨rfl, by decide⟩) fun cdv A outer s H E hr => ⟨_, (pss_cons (ps_setLc (i := 2) (own := [("row", 3)]) (g := gName 3) (by rfl) sc_rests_of.nd rfl rfl (sw_true rfl rfl rfl (by decide +kernel)) (kANY K rfl (pv 0)) (blkOk_by (own := [("row", 3)]) (N := ["rows", "rest", "found", "row"]) (sc := defScope s_rests_of) (by decide +kernel)) (fun _ _ _ _ _ => (pg_name (i := 3) sc_rests_of.nd rfl (by first | exact Or.inl rfl | exact Or.inr rfl))) (fun _ _ _ _ _ => (pts_one (kTRUTH K rfl (kBM K rfl (pe_bm PySem.F.plainAttrs_str PySem.F.slot_str_startswith PySem.F.type_str_startswith mt_startswith (pv 3) (pa_cons (pv 1) pa_nil))) (by intro _; rfl)))) (fun _ _ _ _ _ => (pe_slice (kSLC K rfl) (pv 3) (po_some (pe_callB (kLEN K rfl) (by rfl) T.z_len (by decide +kernel) (pa_cons (pv 1) pa_nil))) po_none))) (pss_one (ps_ret (pe_op (kADD K rfl) (pv 2) (pe_lc (own := [("row", 3)]) (g := gName 3) (by rfl) sc_rests_of.nd (kANY K rfl (pv 0)) (blkOk_by (own := [("row", 3)]) (N := ["rows", "rest", "found", "row"]) (sc := defScope s_rests_of) (by decide +kernel)) (fun _ _ _ _ _ => (pg_name (i := 3) sc_rests_of.nd rfl (by first | exact Or.inl rfl | exact Or.inr rfl))) (fun _ _ _ _ _ => (pts_one (kTRUTH K rfl (kBM K rfl (pe_bm PySem.F.plainAttrs_str PySem.F.slot_str_startswith PySem.F.type_str_startswith mt_startswith (pv 1) (pa_cons (pv 3) pa_nil))) (by intro _; rfl)))) (fun _ _ _ _ _ => (pe_slice (kSLC K rfl) (pv 1) (po_some (pe_callB (kLEN K rfl) (by rfl) T.z_len (by decide +kernel) (pa_cons (pv 3) pa_nil))) po_none))))))), ?_⟩
  rintro ⟨z, rows, r⟩ ⟨hz, R, hl⟩ B
  dsimp only [argT] at *
  have R5 := R.l5
  refine ds_seq' ?_
  walk_at "gs"
  refine dw_lcF rows zD (fun w => decide (w.take r.length = r)) (fun w => zD (w.drop r.length)) ?_
  refine di_anyL (di_list ?_)
  walk_at "gs"
  refine ⟨szl (by omega), fun B' v hv => ?_, ?_⟩
  · have hvl := R.len v hv
    walk_at "gs"
    intro _
    walk_at "gs"
    refine rn_lenZ (by omega) ?_
    walk_at "gs"
    refine rs_from (by omega) ?_
    walk_at "gs"
  · walk_at "gs"
    refine dw_lcF rows zD (fun w => decide (r.take w.length = w)) (fun w => zD (r.drop w.length)) ?_
    refine di_anyL (di_list ?_)
    walk_at "gs"
    refine ⟨szl (by omega), fun B' v hv => ?_, ?_⟩
    · have hvl := R.len v hv
      walk_at "gs"
      intro _
      walk_at "gs"
      refine rn_lenZ (by omega) ?_
      walk_at "gs"
      refine rs_from (by omega) ?_
      walk_at "gs"
    · walk_at "gs"
      refine rw_addL rfl rfl (szl (by rw [List.length_map, List.length_map]; exact Nat.le_trans (Nat.add_le_add (List.length_filter_le _ _) (List.length_filter_le _ _)) (by omega))) ?_
      walk_at "gs"
      unfold rests
      rw [List.map_append, List.map_map, List.map_map]
      rfl
theorem ok_law_rests (T : Tx K mg a) : FnOk P w K mg base' CX0 1 a.f14 a.d14 ["rows", "rest"] (spT K restsL) := by
  refine fnI T.F_law_rests sc_law_rests (fun x => ⟨rfl, by decide⟩) fun cdv A outer s H E hr => ⟨_, (pss_cons (ps_set (i := 2) sc_law_rests.nd rfl (Or.inl rfl) (pe_lst pa_nil)) (pss_cons (ps_for PassesOwn.never rfl (kANY K rfl (pv 0)) (pg_name (i := 3) sc_law_rests.nd rfl (Or.inl rfl)) (pss_cons (ps_if (pt_cmpR (kEQ K rfl hr.units) (pe_slice (kSLC K rfl) (pv 3) po_none (po_some (pe_callB (kLEN K rfl) (by rfl) T.z_len (by decide +kernel) (pa_cons (pv 1) pa_nil)))) (pv 1) (nomark _)) (pss_one (ps_expr (kBM K rfl (pe_bm PySem.F.plainAttrs_list PySem.F.slot_list_append PySem.F.type_list_append mt_append (pv 2) (pa_cons (pe_slice (kSLC K rfl) (pv 3) (po_some (pe_callB (kLEN K rfl) (by rfl) T.z_len (by decide +kernel) (pa_cons (pv 1) pa_nil))) po_none) pa_nil))))) pss_nil) (pss_one (ps_if (pt_cmpR (kEQ K rfl hr.units) (pe_slice (kSLC K rfl) (pv 1) po_none (po_some (pe_callB (kLEN K rfl) (by rfl) T.z_len (by decide +kernel) (pa_cons (pv 3) pa_nil)))) (pv 3) (nomark _)) (pss_one (ps_expr (kBM K rfl (pe_bm PySem.F.plainAttrs_list PySem.F.slot_list_append PySem.F.type_list_append mt_append (pv 2) (pa_cons (pe_slice (kSLC K rfl) (pv 1) (po_some (pe_callB (kLEN K rfl) (by rfl) T.z_len (by decide +kernel) (pa_cons (pv 3) pa_nil))) po_none) pa_nil))))) pss_nil)))) (pss_one (ps_ret (pv 2))))), ?_⟩
  rintro ⟨z, rows, r⟩ ⟨hz, R, hl⟩ B
  dsimp only [argT] at *
  have R5 := R.l5
  walk_at "go"
  refine ds_forE' (ch := [3]) ?_
  refine di_anyL (di_list ?_)
  walk_at "go"
  refine ⟨fun i G => ∃ s3, G = [.d (lD rows), .d (zD r), .o none ((restsL (rows.take i) r).map zD), s3], ⟨_, rfl⟩, fun i G2 d hd ⟨s3, hG⟩ => ?_, fun G2 ⟨s3, hG⟩ => ?_⟩
  · subst hG
    rw [List.getElem?_map] at hd
    obtain ⟨v, hv, rfl⟩ := Option.map_eq_some_iff.mp hd
    have hvm := List.mem_of_getElem? hv
    have hvl := R.len v hvm
    have e1 : restsL (rows.take (i + 1)) r = restsL (rows.take i) r ++ ((if v.take r.length = r then [v.drop r.length] else []) ++ (if r.take v.length = v then [r.drop v.length] else [])) := by
      unfold restsL
      rw [List.take_succ, hv, List.flatMap_append]
      simp
    have hlen : (restsL (rows.take i) r).length ≤ 10 := by
      have h : (restsL (rows.take i) r).length ≤ (rows.take i).length * 2 := sum_len_le _ 2 fun x _ => by
        rw [List.length_append]
        split <;> split <;> simp
      have := List.length_take_le i rows
      have : (rows.take i).length ≤ 5 := by rw [List.length_take]; omega
      omega
    refine dg_name ?_
    refine ds_mid' (fun G => G = [.d (lD rows), .d (zD r), .o none ((restsL (rows.take i) r ++ (if v.take r.length = r then [v.drop r.length] else [])).map zD), .d (zD v)]) ?_ ?_
    · walk_at "gs"
      refine rn_lenZ (by omega) ?_
      walk_at "gs"
      refine rs_to (by omega) ?_
      walk_at "gs"
      refine ite_k (fun c => ?_) (fun c => ?_)
      · have c := of_decide_eq_true c
        walk_at "gs"
        refine rn_lenZ (by omega) ?_
        walk_at "gs"
        refine rs_from (by omega) ?_
        walk_at "gs"
        refine rm_app rfl (szlt (by rw [List.length_map]; omega)) ?_
        walk_at "gs"
        rw [if_pos c, List.map_append]
        rfl
      · have c := of_decide_eq_false c
        walk_at "gs"
        rw [if_neg c, List.append_nil]
        rfl
    · rintro G1 rfl
      have hlen2 : (restsL (rows.take i) r ++ (if v.take r.length = r then [v.drop r.length] else [])).length ≤ 11 := by
        rw [List.length_append]
        split <;> simp <;> omega
      walk_at "gs"
      refine rn_lenZ (by omega) ?_
      walk_at "gs"
      refine rs_to (by omega) ?_
      walk_at "gs"
      refine ite_k (fun c => ?_) (fun c => ?_)
      · have c := of_decide_eq_true c
        walk_at "gs"
        refine rn_lenZ (by omega) ?_
        walk_at "gs"
        refine rs_from (by omega) ?_
        walk_at "gs"
        refine rm_app rfl (szlt (by rw [List.length_map]; omega)) ?_
        walk_at "gs"
        refine ⟨.d (zD v), ?_⟩
        rw [e1, if_pos c, ← List.append_assoc, List.map_append (l₂ := [_])]
        rfl
      · have c := of_decide_eq_false c
        walk_at "gs"
        refine ⟨.d (zD v), ?_⟩
        rw [e1, if_neg c, List.append_nil]
        first | done | rfl
  · subst hG
    rw [List.length_map, List.take_length]
    walk_at "go"
    exact rt_E0s rfl rfl
end
end K65
namespace K65
open PySem PySem.Spec PyProof.Rows L2 DL
local macro_rules | `(tactic| walk_at "st") => `(tactic| with_reducible first
  | refine pw_p ?_ | refine pw_o ?_ | refine dw_op ?_ | refine dw_un ?_ | refine dw_int ?_ | refine dw_str ?_ | refine dw_bl ?_ | refine dw_non ?_ | refine dw_ty ?_ | refine da_nil' ?_ | refine da_cons' ?_ | refine dw_sortSetT ?_ | refine dw_CB ?_ | refine dw_BM ?_ | refine dw_BM0 ?_
  | refine dw_tup ?_ | refine dw_lst ?_ | refine dw_notV ?_ | refine dw_and ?_ | refine dw_or ?_ | refine dw_if ?_ | refine dw_chain ?_ | refine dw_sl3 ?_ | refine dw_revT ?_ | refine dw_tupRg1 ?_ | refine dw_lstRg1 ?_ | refine dw_callI ?_ | refine dw_callJ ?_
  | refine dt_test ?_ | refine dt_B ?_ | refine dt_and ?_ | refine dt_or ?_ | refine dt_not ?_ | refine dt_yes ?_ | refine dt_truth ?_
  | refine ds_ret ?_ | refine ds_retN ?_ | refine ds_next ?_ | refine ds_break ?_ | refine ds_cont ?_ | refine ds_drop ?_ | refine ds_if ?_ | refine ds_set ?_
  | refine nx_nxt ?_ | refine rt_nxt ?_ | refine bk_nxt ?_ | refine ct_nxt ?_ | refine nx_lp ?_ | refine rt_lp ?_ | refine bk_lp ?_ | refine ct_lp ?_ | refine asn_d ?_ | refine asn_fr ?_ | refine rt_E0 ?_ | refine rt_E0o ?_ | refine nx_E0 ?_
  | refine dw_newK ?_ | refine dw_dInK ?_ | refine dw_dNotInK ?_ | refine dw_dGetK ?_ | refine ds_dPutK ?_ | refine dw_callH ?_
  | refine tr_b ?_ | refine tr_i ?_ | refine tr_n ?_ | refine tr_T ?_ | refine tr_L ?_
  | refine do_none ?_ | refine do_some ?_ | refine ite_t ?_ | refine ite_f ?_
  | refine rw_addI ?_ | refine rw_sub ?_ | refine rw_cmp ?_ | refine rw_eqI ?_ | refine rw_neI ?_ | refine rw_eqZ ?_ | refine rw_neZ ?_ | refine rw_eqS ?_ | refine rw_neS ?_ | refine rw_eqB ?_ | refine rw_neB ?_ | refine isN_d ?_ | refine notN_d ?_ | refine rw_isB ?_ | refine rw_notB ?_
  | refine rn_intI ?_ | refine rn_intB ?_ | refine rn_max ?_ | refine rn_min ?_ | refine rn_lenT ?_ | refine rn_lenD ?_ | refine rm_sw ?_ | refine isi_int ?_ | refine isi_bool ?_ | refine isi_str ?_ | refine isi_tuple ?_ | refine isi_list ?_ | refine rn_tupT ?_ | refine rn_listT ?_
  | refine ⟨_, rfl, ?_⟩
  | fail)
local macro_rules | `(tactic| walk_at "va") => `(tactic| first
  | ((with_reducible apply dw_var); rfl) | ((with_reducible apply dw_sl); rfl) | ((with_reducible apply dw_slK); rfl)
  | ((with_reducible apply rw_ixL); rfl; rfl) | ((with_reducible apply rw_ixT); rfl)
  | ((with_reducible apply ite_T); rfl) | ((with_reducible apply ite_F); rfl) | ((with_reducible apply tr_o); rfl)
  | refine ⟨_, rfl, szl (Nat.le_of_ble_eq_true rfl), ?_⟩
  | (with_reducible refine rw_mod (by omega) ?_)
  | (with_reducible refine rw_fdiv (by unfold CDiv; omega) ?_)
  | (with_reducible refine rw_mul (by unfold CMul; omega) ?_)
  | refine ⟨szl (Nat.le_of_ble_eq_true rfl), ?_⟩
  | refine ⟨⟨rfl, _, _, rfl⟩, ?_⟩
  | refine ⟨rfl, ?_⟩
  | rfl
  | fail)
local macro_rules | `(tactic| walk_at "go") => `(tactic| repeat' (first | walk_at "st" | (with_reducible refine ds_seq' ?_) | walk_at "va" | fail))
local macro_rules | `(tactic| walk_at "gs") => `(tactic| repeat' (first | walk_at "st" | walk_at "va" | fail))
theorem snoc_of {α : Type} {l : List α} (h : l ≠ []) : ∃ i x, l = i ++ [x] := ⟨l.dropLast, l.getLast h, (List.dropLast_concat_getLast h).symm⟩
theorem base_take {rows : List Row} {i : Nat} {v : Row} (hv : rows[i]? = some v) : ((rows.take (i + 1)).flatMap fun one => (prs rows one).map fun o => o.drop one.length) = ((rows.take i).flatMap fun one => (prs rows one).map fun o => o.drop one.length) ++ (prs rows v).map fun o => o.drop v.length := by
  rw [List.take_succ, hv, List.flatMap_append]
  simp
theorem base_part {z : List Nat} {rows : List Row} (R : RowsOk z rows) (i : Nat) : ((rows.take i).flatMap fun one => (prs rows one).map fun o => o.drop one.length).length ≤ 25 := by
  have h : ((rows.take i).flatMap fun one => (prs rows one).map fun o => o.drop one.length).length ≤ (rows.take i).length * 5 := sum_len_le _ 5 fun x _ => by
    rw [List.length_map]
    exact Nat.le_trans (List.length_filter_le _ _) R.l5
  have : (rows.take i).length ≤ 5 := by
    rw [List.length_take]
    have := R.l5
    omega
  omega
section
variable {P : Program} {w : World} {K : PySem.W.Frag} {mg : Str → Option Value} {base' : Heap} {a : Ad}
abbrev argM (x : List Nat × List Row) : List PyData := [lD x.2]
def preM (x : List Nat × List Row) : Prop := x.1 ∈ sigs ∧ RowsOk x.1 x.2
abbrev spM (K : PySem.W.Frag) := spI K argM preM (fun x r => r = .fr (.o none ((clo x.2).map zD)))
theorem ok_remainders (T : Tx K mg a) (G_rests_of : FnOk P w K mg base' CX0 1 a.f2 a.d2 ["rows", "rest"] (spT K rests)) : FnOk P w K mg base' CX0 2 a.f1 a.d1 ["rows"] (spM K) := by
  refine fnI T.F_remainders sc_remainders (fun x => ⟨rfl, by decide⟩) fun cdv A outer s H E hr => ⟨_, (pss_cons (ps_set (i := 1) sc_remainders.nd rfl (Or.inl rfl) (pe_lst pa_nil)) (pss_cons (ps_set (i := 2) sc_remainders.nd rfl (Or.inl rfl) (pe_lst pa_nil)) (pss_cons (ps_for PassesOwn.never rfl (kANY K rfl (pv 0)) (pg_name (i := 3) sc_remainders.nd rfl (Or.inr rfl)) (pss_one (ps_expr (kBM K rfl (pe_bm PySem.F.plainAttrs_list PySem.F.slot_list_extend PySem.F.type_list_extend mt_extend (pv 2) (pa_cons (pe_lc (own := [("second", 5)]) (g := gName 5) (by rfl) sc_remainders.nd (kANY K rfl (pv 0)) (blkOk_by (own := [("second", 5)]) (N := ["rows", "found", "left", "first", "rest", "second"]) (sc := defScope s_remainders) (by decide +kernel)) (fun _ _ _ _ _ => (pg_name (i := 5) sc_remainders.nd rfl (by first | exact Or.inl rfl | exact Or.inr rfl))) (fun _ _ _ _ _ => (pts_one (PW.pt (pw_and (pt_cmpR (kNE K rfl hr.units) (pv 5) (pv 3) (nomark _)) (pw_and1 (kTRUTH K rfl (kBM K rfl (pe_bm PySem.F.plainAttrs_str PySem.F.slot_str_startswith PySem.F.type_str_startswith mt_startswith (pv 5) (pa_cons (pv 3) pa_nil))) (by intro _; rfl))))))) (fun _ _ _ _ _ => (pe_slice (kSLC K rfl) (pv 5) (po_some (pe_callB (kLEN K rfl) (by rfl) T.z_len (by decide +kernel) (pa_cons (pv 3) pa_nil))) po_none))) pa_nil)))))) (pss_cons (ps_while PassesOwn.never (kTRUTH K rfl (pv 2) (by intro _; rfl)) (pss_cons (ps_set (i := 4) sc_remainders.nd rfl (Or.inl rfl) (kBM0 K rfl (pe_bm0 PySem.F.plainAttrs_list PySem.F.slot_list_pop PySem.F.type_list_pop mt_pop (pv 2)))) (pss_one (ps_if (pt_cmpR (kNI K rfl (hu65 hr)) (pv 4) (pv 1) (by rfl)) (pss_cons (ps_expr (kBM K rfl (pe_bm PySem.F.plainAttrs_list PySem.F.slot_list_append PySem.F.type_list_append mt_append (pv 1) (pa_cons (pv 4) pa_nil)))) (pss_one (ps_if (pt_cmpR (kNE K rfl hr.units) (pv 4) (pe_strM [] rfl) (nomark _)) (pss_one (ps_expr (kBM K rfl (pe_bm PySem.F.plainAttrs_list PySem.F.slot_list_extend PySem.F.type_list_extend mt_extend (pv 2) (pa_cons (pe_call G_rests_of hr (by rfl) T.m_rests_of T.k_rests_of T.b_rests_of .nil pass0 (pa_cons (pv 0) (pa_cons (pv 4) pa_nil))) pa_nil))))) pss_nil))) pss_nil)))) (pss_one (ps_ret (pe_callB (kSORTD K rfl (hu65 hr)) (by rfl) T.z_sorted (by decide +kernel) (pa_cons (pv 1) pa_nil)))))))), ?_⟩
  rintro ⟨z, rows⟩ ⟨hz, R⟩ B
  dsimp only [argM] at *
  have R5 := R.l5
  refine ds_seq' ?_
  walk_at "gs"
  refine ds_seq' ?_
  walk_at "gs"
  refine ds_mid' (fun G => ∃ s3 s4 s5, G = [.d (lD rows), .o none [], .o none ((base rows).map zD), s3, s4, s5]) ?_ ?_
  · refine ds_forE' (ch := [3]) ?_
    refine di_anyL (di_list ?_)
    walk_at "gs"
    refine ⟨fun i G => ∃ s3 s4 s5, G = [.d (lD rows), .o none [], .o none (((rows.take i).flatMap fun one => (prs rows one).map fun o => o.drop one.length).map zD), s3, s4, s5], ⟨_, _, _, rfl⟩, fun i G2 d hd ⟨s3, s4, s5, hG⟩ => ?_, fun G2 ⟨s3, s4, s5, hG⟩ => ?_⟩
    · subst hG
      rw [List.getElem?_map] at hd
      obtain ⟨v, hv, rfl⟩ := Option.map_eq_some_iff.mp hd
      have hvl := R.len v (List.mem_of_getElem? hv)
      refine dg_name ?_
      walk_at "gs"
      refine dw_lcF rows zD (fun o => decide (o ≠ v) && decide (o.take v.length = v)) (fun o => zD (o.drop v.length)) ?_
      refine di_anyL (di_list ?_)
      walk_at "gs"
      refine ⟨szl (by omega), fun B' o ho => ?_, ?_⟩
      · have hol := R.len o ho
        walk_at "gs"
        refine ite_k (fun c => ?_) (fun c => ?_)
        · have c : o ≠ v := by simpa using c
          walk_at "gs"
          refine ⟨by simp [c], rfl, fun _ => ?_⟩
          walk_at "gs"
          refine rn_lenZ (by omega) ?_
          walk_at "gs"
          refine rs_from (by omega) ?_
          walk_at "gs"
        · have c : o = v := by simpa using c
          walk_at "gs"
          exact ⟨by simp [c], rfl, fun h => by simp [c] at h⟩
      · walk_at "gs"
        have hb := base_part R i
        refine rm_ext rfl rfl (szl (by
          rw [List.length_map, List.length_map]
          exact Nat.le_trans (Nat.add_le_add hb (List.length_filter_le _ _)) (by omega))) ?_
        walk_at "gs"
        refine ⟨.d (zD v), s4, .un, ?_⟩
        rw [base_take hv, List.map_append, List.map_map]
        rfl
    · subst hG
      rw [List.length_map, List.take_length]
      exact ⟨_, _, _, rfl⟩
  · rintro G1 ⟨s3, s4, s5, rfl⟩
    refine ds_mid' (fun G => ∃ (found : List Row) (s2 s3 s4 s5 : Sl), found.Nodup ∧ (∀ r, r ∈ found ↔ Cl rows r) ∧ G = [.d (lD rows), .o none (found.map zD), s2, s3, s4, s5]) ?_ ?_
    · refine ds_while' (fun m G => ∃ (found left : List Row) (s3 s4 s5 : Sl), m = (66 - found.length) * 12 + left.length ∧ found.Nodup ∧ (∀ r ∈ found, Cl rows r) ∧ (∀ r ∈ left, Cl rows r) ∧ (∀ r ∈ base rows, r ∈ found ∨ r ∈ left) ∧ (∀ r ∈ found, r ≠ [] → ∀ x ∈ rests rows r, x ∈ found ∨ x ∈ left) ∧ left.length ≤ 1000 - 12 * (66 - found.length) ∧ G = [.d (lD rows), .o none (found.map zD), .o none (left.map zD), s3, s4, s5]) _ ⟨[], base rows, s3, s4, s5, rfl, .nil, fun _ h => (nomatch h), fun r h => .base h, fun r h => .inr h, fun _ h => (nomatch h), by have := base_len R; simp; omega, rfl⟩ ?_
      rintro m G1 ⟨found, left, s3, s4, s5, rfl, hn, h1, h2, h3, h4, h5, rfl⟩
      have hfl : found.length ≤ 65 := Nat.le_trans (hn.length_le_of_subset fun x hx => (h1 x hx).uni) (uni_len R)
      walk_at "gs"
      refine ite_k (fun c => ?_) (fun c => ?_)
      · have hne : left ≠ [] := by
          rintro rfl
          cases c
        obtain ⟨init, r, rfl⟩ := snoc_of hne
        have hr := h2 r (by simp)
        obtain ⟨hrl, hrt⟩ := uni_small R hz hr.uni
        rw [List.map_append]
        refine ds_seq' ?_
        walk_at "gs"
        refine rm_pop (d := zD r) (ds := init.map zD) rfl ?_
        walk_at "gs"
        refine rw_niLE (f := zD) eqv_zD (x := r) rfl rfl (shp_z 50 hrt) (fun v hv => shp_z 50 (uni_small R hz (h1 v hv).uni).2) ?_
        walk_at "gs"
        rw [List.length_append, List.length_singleton] at h5
        refine ite_k (fun c => ?_) (fun c => ?_)
        · have c : r ∉ found := by simpa using c
          refine ds_seq' ?_
          walk_at "gs"
          refine rm_app (ds := found.map zD) rfl (szlt (by rw [List.length_map]; omega)) ?_
          walk_at "gs"
          have hn' : (found ++ [r]).Nodup := List.nodup_append.mpr ⟨hn, by simp, fun x hx y hy => fun e => c (by rw [List.mem_singleton.mp hy] at e; rw [← e]; exact hx)⟩
          have hf' : ∀ x ∈ found ++ [r], Cl rows x := fun x hx => (List.mem_append.mp hx).elim (h1 x) fun q => by rw [List.mem_singleton.mp q]; exact hr
          refine ite_k (fun c2 => ?_) (fun c2 => ?_)
          · have c2 : r ≠ [] := by simpa using c2
            walk_at "gs"
            refine ⟨(z, rows, r), ⟨hz, R, by show r.length ≤ 1000; omega⟩, rfl, ?_⟩
            rintro _ rfl
            walk_at "gs"
            have hl10 := rests_len R r
            refine rm_ext rfl rfl (szl (by rw [List.length_map, List.length_map]; dsimp only; omega)) ?_
            walk_at "gs"
            refine ⟨_, ?_, found ++ [r], init ++ rests rows r, s3, .d (zD r), s5, rfl, hn', hf', fun x hx => ?_, fun x hx => ?_, fun x hx hxn y hy => ?_, ?_, by rw [List.map_append, List.map_append]; rfl⟩
            · simp only [List.length_append, List.length_singleton]
              omega
            · rcases List.mem_append.mp hx with q | q
              · exact h2 x (List.mem_append_left _ q)
              · exact .step hr c2 q
            · rcases h3 x hx with q | q
              · exact .inl (List.mem_append_left _ q)
              · rcases List.mem_append.mp q with q | q
                · exact .inr (List.mem_append_left _ q)
                · exact .inl (List.mem_append_right _ q)
            · rcases List.mem_append.mp hx with q | q
              · rcases h4 x q hxn y hy with q | q
                · exact .inl (List.mem_append_left _ q)
                · rcases List.mem_append.mp q with q | q
                  · exact .inr (List.mem_append_left _ q)
                  · exact .inl (List.mem_append_right _ q)
              · rw [List.mem_singleton.mp q] at hy
                exact .inr (List.mem_append_right _ hy)
            · simp only [List.length_append, List.length_singleton]
              omega
          · have c2 : r = [] := by simpa using c2
            walk_at "gs"
            refine ⟨_, ?_, found ++ [r], init, s3, .d (zD r), s5, rfl, hn', hf', fun x hx => h2 x (List.mem_append_left _ hx), fun x hx => ?_, fun x hx hxn y hy => ?_, ?_, by rw [List.map_append]; rfl⟩
            · simp only [List.length_append, List.length_singleton]
              omega
            · rcases h3 x hx with q | q
              · exact .inl (List.mem_append_left _ q)
              · rcases List.mem_append.mp q with q | q
                · exact .inr q
                · exact .inl (List.mem_append_right _ q)
            · rcases List.mem_append.mp hx with q | q
              · rcases h4 x q hxn y hy with q | q
                · exact .inl (List.mem_append_left _ q)
                · rcases List.mem_append.mp q with q | q
                  · exact .inr q
                  · exact .inl (List.mem_append_right _ q)
              · exact absurd ((List.mem_singleton.mp q).trans c2) hxn
            · simp only [List.length_append, List.length_singleton]
              omega
        · have c : r ∈ found := by simpa using c
          walk_at "gs"
          refine ⟨_, ?_, found, init, s3, .d (zD r), s5, rfl, hn, h1, fun x hx => h2 x (List.mem_append_left _ hx), fun x hx => ?_, fun x hx hxn y hy => ?_, by omega, rfl⟩
          · simp only [List.length_append, List.length_singleton]
            omega
          · rcases h3 x hx with q | q
            · exact .inl q
            · rcases List.mem_append.mp q with q | q
              · exact .inr q
              · exact .inl (by rw [List.mem_singleton.mp q]; exact c)
          · rcases h4 x hx hxn y hy with q | q
            · exact .inl q
            · rcases List.mem_append.mp q with q | q
              · exact .inr q
              · exact .inl (by rw [List.mem_singleton.mp q]; exact c)
      · have hne : left = [] := by
          cases left with
          | nil => rfl
          | cons _ _ => cases c
        subst hne
        walk_at "gs"
        exact ⟨found, _, _, _, _, hn, cl_of h1 (fun r hr => (h3 r hr).elim id fun q => (nomatch q)) (fun r hr hrn x hx => (h4 r hr hrn x hx).elim id fun q => (nomatch q)), rfl⟩
    · rintro G1 ⟨found, s2, s3, s4, s5, hn, h1, rfl⟩
      walk_at "gs"
      refine rn_sortD (enc := zD) (bs := found) rfl (PySem.W.AllAlike.of fun _ _ => by simp [PySem.W.alike]) (PySem.W.Sortable.others fun b => ⟨(nomatch ·), fun xs => (nomatch ·)⟩) (fun b _ => by simp [PyData.depth]) ?_
      walk_at "gs"
      show Rs.fr (.o none ((srtR found).map zD)) = _
      rw [clo_eq hn h1]
end
end K65
namespace K65
open PySem PySem.Spec PyProof.Rows L2 DL
local macro_rules | `(tactic| walk_at "st") => `(tactic| with_reducible first
  | refine pw_p ?_ | refine pw_o ?_ | refine dw_op ?_ | refine dw_un ?_ | refine dw_int ?_ | refine dw_str ?_ | refine dw_bl ?_ | refine dw_non ?_ | refine dw_ty ?_ | refine da_nil' ?_ | refine da_cons' ?_ | refine dw_sortSetT ?_ | refine dw_CB ?_ | refine dw_BM ?_ | refine dw_BM0 ?_
  | refine dw_tup ?_ | refine dw_lst ?_ | refine dw_notV ?_ | refine dw_and ?_ | refine dw_or ?_ | refine dw_if ?_ | refine dw_chain ?_ | refine dw_sl3 ?_ | refine dw_revT ?_ | refine dw_tupRg1 ?_ | refine dw_lstRg1 ?_ | refine dw_callI ?_ | refine dw_callJ ?_
  | refine dt_test ?_ | refine dt_B ?_ | refine dt_and ?_ | refine dt_or ?_ | refine dt_not ?_ | refine dt_yes ?_ | refine dt_truth ?_
  | refine ds_ret ?_ | refine ds_retN ?_ | refine ds_next ?_ | refine ds_break ?_ | refine ds_cont ?_ | refine ds_drop ?_ | refine ds_if ?_ | refine ds_set ?_
  | refine nx_nxt ?_ | refine rt_nxt ?_ | refine bk_nxt ?_ | refine ct_nxt ?_ | refine nx_lp ?_ | refine rt_lp ?_ | refine bk_lp ?_ | refine ct_lp ?_ | refine asn_d ?_ | refine asn_fr ?_ | refine rt_E0 ?_ | refine rt_E0o ?_ | refine nx_E0 ?_
  | refine dw_newK ?_ | refine dw_dInK ?_ | refine dw_dNotInK ?_ | refine dw_dGetK ?_ | refine ds_dPutK ?_ | refine dw_callH ?_
  | refine tr_b ?_ | refine tr_i ?_ | refine tr_n ?_ | refine tr_T ?_ | refine tr_L ?_
  | refine do_none ?_ | refine do_some ?_ | refine ite_t ?_ | refine ite_f ?_
  | refine rw_addI ?_ | refine rw_sub ?_ | refine rw_cmp ?_ | refine rw_eqI ?_ | refine rw_neI ?_ | refine rw_eqZ ?_ | refine rw_neZ ?_ | refine rw_eqS ?_ | refine rw_neS ?_ | refine rw_eqB ?_ | refine rw_neB ?_ | refine isN_d ?_ | refine notN_d ?_ | refine rw_isB ?_ | refine rw_notB ?_
  | refine rn_intI ?_ | refine rn_intB ?_ | refine rn_max ?_ | refine rn_min ?_ | refine rn_lenT ?_ | refine rn_lenD ?_ | refine rm_sw ?_ | refine isi_int ?_ | refine isi_bool ?_ | refine isi_str ?_ | refine isi_tuple ?_ | refine isi_list ?_ | refine rn_tupT ?_ | refine rn_listT ?_
  | refine ⟨_, rfl, ?_⟩
  | fail)
local macro_rules | `(tactic| walk_at "va") => `(tactic| first
  | ((with_reducible apply dw_var); rfl) | ((with_reducible apply dw_sl); rfl) | ((with_reducible apply dw_slK); rfl)
  | ((with_reducible apply rw_ixL); rfl; rfl) | ((with_reducible apply rw_ixT); rfl)
  | ((with_reducible apply ite_T); rfl) | ((with_reducible apply ite_F); rfl) | ((with_reducible apply tr_o); rfl)
  | refine ⟨_, rfl, szl (Nat.le_of_ble_eq_true rfl), ?_⟩
  | (with_reducible refine rw_mod (by omega) ?_)
  | (with_reducible refine rw_fdiv (by unfold CDiv; omega) ?_)
  | (with_reducible refine rw_mul (by unfold CMul; omega) ?_)
  | refine ⟨szl (Nat.le_of_ble_eq_true rfl), ?_⟩
  | refine ⟨⟨rfl, _, _, rfl⟩, ?_⟩
  | refine ⟨rfl, ?_⟩
  | rfl
  | fail)
local macro_rules | `(tactic| walk_at "go") => `(tactic| repeat' (first | walk_at "st" | (with_reducible refine ds_seq' ?_) | walk_at "va" | fail))
local macro_rules | `(tactic| walk_at "gs") => `(tactic| repeat' (first | walk_at "st" | walk_at "va" | fail))
def mu (rows found : List Row) : Nat := ((uni rows).filter fun x => decide (x ∉ found)).length
theorem filter_two {α : Type} (p q : α → Bool) : ∀ l : List α, (l.filter p).length = (l.filter fun x => p x && q x).length + (l.filter fun x => p x && !q x).length
  | [] => rfl
  | x :: l => by
    have := filter_two p q l
    rw [List.filter_cons, List.filter_cons, List.filter_cons]
    cases p x <;> cases q x <;> simp <;> omega
theorem mu_add {rows found new : List Row} (hn : new.Nodup) (h : ∀ x ∈ new, x ∈ uni rows ∧ x ∉ found) : mu rows (found ++ new) + new.length ≤ mu rows found := by
  unfold mu
  rw [filter_two (fun x => decide (x ∉ found)) (fun x => decide (x ∈ new))]
  have h1 : new.length ≤ ((uni rows).filter fun x => decide (x ∉ found) && decide (x ∈ new)).length := hn.length_le_of_subset fun x hx => List.mem_filter.mpr ⟨(h x hx).1, by simp [(h x hx).2, hx]⟩
  have h2 : ((uni rows).filter fun x => decide (x ∉ found ++ new)) = (uni rows).filter fun x => decide (x ∉ found) && !decide (x ∈ new) := List.filter_congr fun x _ => by
    by_cases a : x ∈ found <;> by_cases b : x ∈ new <;> simp [a, b]
  rw [h2]
  omega
theorem mu_lt {rows found new : List Row} {x : Row} (hx : x ∈ new) (h1 : x ∈ uni rows) (h2 : x ∉ found) : mu rows (found ++ new) < mu rows found := by
  unfold mu
  rw [filter_two (fun x => decide (x ∉ found)) (fun x => decide (x ∈ new))]
  have h3 : 0 < ((uni rows).filter fun x => decide (x ∉ found) && decide (x ∈ new)).length := List.length_pos_of_mem (List.mem_filter.mpr ⟨h1, by simp [h2, hx]⟩)
  have h2 : ((uni rows).filter fun x => decide (x ∉ found ++ new)) = (uni rows).filter fun x => decide (x ∉ found) && !decide (x ∈ new) := List.filter_congr fun x _ => by
    by_cases a : x ∈ found <;> by_cases b : x ∈ new <;> simp [a, b]
  rw [h2]
  omega
theorem mu_le (rows found : List Row) : mu rows found ≤ (uni rows).length := List.length_filter_le _ _
def nextB (rows : List Row) (r : Row) : List Row := if r ≠ [] then restsL rows r else []
section
variable {P : Program} {w : World} {K : PySem.W.Frag} {mg : Str → Option Value} {base' : Heap} {a : Ad}
theorem ok_law_left_over (T : Tx K mg a) (G_law_rests : FnOk P w K mg base' CX0 1 a.f14 a.d14 ["rows", "rest"] (spT K restsL)) : FnOk P w K mg base' CX0 2 a.f15 a.d15 ["rows"] (spM K) := by
  refine fnI T.F_law_left_over sc_law_left_over (fun x => ⟨rfl, by decide⟩) fun cdv A outer s H E hr => ⟨_, (pss_cons (ps_set (i := 1) sc_law_left_over.nd rfl (Or.inr rfl) (pe_lst pa_nil)) (pss_cons (ps_set (i := 2) sc_law_left_over.nd rfl (Or.inl rfl) (pe_lst pa_nil)) (pss_cons (ps_for PassesOwn.never rfl (kANY K rfl (pv 0)) (pg_name (i := 3) sc_law_left_over.nd rfl (Or.inr rfl)) (pss_one (ps_set (i := 2) sc_law_left_over.nd rfl (Or.inl rfl) (pe_op (kADD K rfl) (pv 2) (pe_lc (own := [("other", 6)]) (g := gName 6) (by rfl) sc_law_left_over.nd (kANY K rfl (pv 0)) (blkOk_by (own := [("other", 6)]) (N := ["rows", "found", "behind", "one", "made", "rest", "other"]) (sc := defScope s_law_left_over) (by decide +kernel)) (fun _ _ _ _ _ => (pg_name (i := 6) sc_law_left_over.nd rfl (by first | exact Or.inl rfl | exact Or.inr rfl))) (fun _ _ _ _ _ => (pts_one (PW.pt (pw_and (pt_cmpR (kNE K rfl hr.units) (pv 6) (pv 3) (nomark _)) (pw_and1 (pt_cmpR (kEQ K rfl hr.units) (pe_slice (kSLC K rfl) (pv 6) po_none (po_some (pe_callB (kLEN K rfl) (by rfl) T.z_len (by decide +kernel) (pa_cons (pv 3) pa_nil)))) (pv 3) (nomark _))))))) (fun _ _ _ _ _ => (pe_slice (kSLC K rfl) (pv 6) (po_some (pe_callB (kLEN K rfl) (by rfl) T.z_len (by decide +kernel) (pa_cons (pv 3) pa_nil))) po_none))))))) (pss_cons (ps_while PassesOwn.never (pt_cmpR (kNE K rfl hr.units) (pe_lc (own := [("rest", 5)]) (g := gName 5) (by rfl) sc_law_left_over.nd (kANY K rfl (pv 2)) (blkOk_by (own := [("rest", 5)]) (N := ["rows", "found", "behind", "one", "made", "rest", "other"]) (sc := defScope s_law_left_over) (by decide +kernel)) (fun _ _ _ _ _ => (pg_name (i := 5) sc_law_left_over.nd rfl (by first | exact Or.inl rfl | exact Or.inr rfl))) (fun _ _ _ _ _ => (pts_one (pt_cmpR (kNI K rfl (hu65 hr)) (pv 5) (pv 1) (by rfl)))) (fun _ _ _ _ _ => (pv 5))) (pe_lst pa_nil) (nomark _)) (pss_cons (ps_set (i := 1) sc_law_left_over.nd rfl (Or.inr rfl) (pe_op (kADD K rfl) (pv 1) (pe_lc (own := [("rest", 5)]) (g := gName 5) (by rfl) sc_law_left_over.nd (kANY K rfl (pv 2)) (blkOk_by (own := [("rest", 5)]) (N := ["rows", "found", "behind", "one", "made", "rest", "other"]) (sc := defScope s_law_left_over) (by decide +kernel)) (fun _ _ _ _ _ => (pg_name (i := 5) sc_law_left_over.nd rfl (by first | exact Or.inl rfl | exact Or.inr rfl))) (fun _ _ _ _ _ => (pts_one (pt_cmpR (kNI K rfl (hu65 hr)) (pv 5) (pv 1) (by rfl)))) (fun _ _ _ _ _ => (pv 5))))) (pss_cons (ps_set (i := 4) sc_law_left_over.nd rfl (Or.inl rfl) (pe_lst pa_nil)) (pss_cons (ps_for PassesOwn.never rfl (kANY K rfl (pv 2)) (pg_name (i := 5) sc_law_left_over.nd rfl (Or.inl rfl)) (pss_one (ps_set (i := 4) sc_law_left_over.nd rfl (Or.inl rfl) (pe_op (kADD K rfl) (pv 4) (pe_ifExp (pt_cmpR (kNE K rfl hr.units) (pv 5) (pe_strM [] rfl) (nomark _)) (pe_call G_law_rests hr (by rfl) T.m_law_rests T.k_law_rests T.b_law_rests .nil pass0 (pa_cons (pv 0) (pa_cons (pv 5) pa_nil))) (pe_lst pa_nil)))))) (pss_one (ps_set (i := 2) sc_law_left_over.nd rfl (Or.inl rfl) (pe_callB (kSORTSETT w rfl rfl (hu65 hr)) (by rfl) T.z_sorted (by decide +kernel) (pa_cons (pe_callTy (kSETT w K rfl rfl rfl) (by rfl) T.z_set (by decide +kernel) (pa_cons (pv 4) pa_nil)) pa_nil)))))))) (pss_one (ps_ret (pe_callB (kSORTSETT w rfl rfl (hu65 hr)) (by rfl) T.z_sorted (by decide +kernel) (pa_cons (pe_callTy (kSETT w K rfl rfl rfl) (by rfl) T.z_set (by decide +kernel) (pa_cons (pv 1) pa_nil)) pa_nil)))))))), ?_⟩
  rintro ⟨z, rows⟩ ⟨hz, R⟩ B
  dsimp only [argM] at *
  have R5 := R.l5
  have hU := uni_len R
  refine ds_seq' ?_
  walk_at "gs"
  refine ds_seq' ?_
  walk_at "gs"
  refine ds_mid' (fun G => ∃ s3 s4 s5 s6, G = [.d (lD rows), .o none [], .o none ((base rows).map zD), s3, s4, s5, s6]) ?_ ?_
  · refine ds_forE' (ch := [3]) ?_
    refine di_anyL (di_list ?_)
    walk_at "gs"
    refine ⟨fun i G => ∃ s3 s4 s5 s6, G = [.d (lD rows), .o none [], .o none (((rows.take i).flatMap fun one => (prs rows one).map fun o => o.drop one.length).map zD), s3, s4, s5, s6], ⟨_, _, _, _, rfl⟩, fun i G2 d hd ⟨s3, s4, s5, s6, hG⟩ => ?_, fun G2 ⟨s3, s4, s5, s6, hG⟩ => ?_⟩
    · subst hG
      rw [List.getElem?_map] at hd
      obtain ⟨v, hv, rfl⟩ := Option.map_eq_some_iff.mp hd
      have hvl := R.len v (List.mem_of_getElem? hv)
      refine dg_name ?_
      walk_at "gs"
      refine dw_lcF rows zD (fun o => decide (o ≠ v) && decide (o.take v.length = v)) (fun o => zD (o.drop v.length)) ?_
      refine di_anyL (di_list ?_)
      walk_at "gs"
      refine ⟨szl (by omega), fun B' o ho => ?_, ?_⟩
      · have hol := R.len o ho
        walk_at "gs"
        refine ite_k (fun c => ?_) (fun c => ?_)
        · have c : o ≠ v := by simpa using c
          walk_at "gs"
          refine rn_lenZ (by omega) ?_
          walk_at "gs"
          refine rs_to (by omega) ?_
          walk_at "gs"
          refine ⟨by simp [c], rfl, fun _ => ?_⟩
          walk_at "gs"
          refine rn_lenZ (by omega) ?_
          walk_at "gs"
          refine rs_from (by omega) ?_
          walk_at "gs"
        · have c : o = v := by simpa using c
          walk_at "gs"
          exact ⟨by simp [c], rfl, fun h => by simp [c] at h⟩
      · have hb := base_part R i
        walk_at "gs"
        refine rw_addL rfl rfl (szl (by
          rw [List.length_map, List.length_map]
          exact Nat.le_trans (Nat.add_le_add hb (List.length_filter_le _ _)) (by omega))) ?_
        walk_at "gs"
        refine ⟨.d (zD v), s4, s5, .un, ?_⟩
        rw [base_take hv, List.map_append, List.map_map]
        rfl
    · subst hG
      rw [List.length_map, List.take_length]
      exact ⟨_, _, _, _, rfl⟩
  · rintro G1 ⟨s3, s4, s5, s6, rfl⟩
    refine ds_freeze 2 rfl ?_
    refine ds_mid' (fun G => ∃ (found : List Row) (s2 s3 s4 s5 s6 : Sl), found.length ≤ 90 ∧ (∀ r, r ∈ found ↔ Cl rows r) ∧ G = [.d (lD rows), .o none (found.map zD), s2, s3, s4, s5, s6]) ?_ ?_
    · refine ds_while' (fun m G => ∃ (found behind : List Row) (s3 s4 s5 s6 : Sl), m = mu rows found ∧ (∀ r ∈ found, Cl rows r) ∧ (∀ r ∈ behind, Cl rows r) ∧ (∀ r ∈ base rows, r ∈ found ∨ r ∈ behind) ∧ (∀ r ∈ found, r ≠ [] → ∀ x ∈ rests rows r, x ∈ found ∨ x ∈ behind) ∧ (behind.Nodup ∨ (found = [] ∧ behind.length ≤ 25)) ∧ found.length + mu rows found ≤ 90 ∧ G = [.d (lD rows), .o none (found.map zD), .d (lD behind), s3, s4, s5, s6]) _ ⟨[], base rows, s3, s4, s5, s6, rfl, fun _ h => (nomatch h), fun r h => .base h, fun r h => .inr h, fun _ h => (nomatch h), .inr ⟨rfl, base_len R⟩, by have := mu_le rows []; simp; omega, rfl⟩ ?_
      rintro m G1 ⟨found, behind, s3, s4, s5, s6, rfl, h1, h2, h3, h4, h5, h6, rfl⟩
      have hbl : behind.length ≤ 65 := by
        rcases h5 with q | ⟨_, q⟩
        · exact Nat.le_trans (q.length_le_of_subset fun x hx => (h2 x hx).uni) hU
        · omega
      have hfs : ∀ v ∈ found, Shp 50 (zD v) := fun v hv => shp_z 50 (uni_small R hz (h1 v hv).uni).2
      have comp : ∀ {B' : Bs} {G : En} {Q : Po}, True := fun {_ _ _} => trivial
      walk_at "gs"
      refine dw_lcF behind zD (fun r => decide (r ∉ found)) zD ?_
      refine di_anyL (di_list ?_)
      walk_at "gs"
      refine ⟨szl (by omega), fun B' r hr => ?_, ?_⟩
      · walk_at "gs"
        refine rw_niLE (f := zD) eqv_zD (x := r) rfl rfl (shp_z 50 (uni_small R hz (h2 r hr).uni).2) hfs ?_
        walk_at "gs"
        refine ⟨by simp, rfl, fun _ => ?_⟩
        walk_at "gs"
      · walk_at "gs"
        refine rw_neF (fun r hr => shp_mono (shp_z 50 (uni_small R hz (h2 r hr).uni).2) (by decide)) ?_
        walk_at "gs"
        refine ite_k (fun c => ?_) (fun c => ?_)
        · obtain ⟨x0, hx0, hx1⟩ := List.any_eq_true.mp c
          have hx1 : x0 ∉ found := by simpa using hx1
          refine ds_seq' ?_
          walk_at "gs"
          refine dw_lcF behind zD (fun r => decide (r ∉ found)) zD ?_
          refine di_anyL (di_list ?_)
          walk_at "gs"
          refine ⟨szl (by omega), fun B' r hr => ?_, ?_⟩
          · walk_at "gs"
            refine rw_niLE (f := zD) eqv_zD (x := r) rfl rfl (shp_z 50 (uni_small R hz (h2 r hr).uni).2) hfs ?_
            walk_at "gs"
            refine ⟨by simp, rfl, fun _ => ?_⟩
            walk_at "gs"
          · walk_at "gs"
            refine rw_addL rfl rfl (szl (by
              rw [List.length_map, List.length_map]
              exact Nat.le_trans (Nat.add_le_add_left (List.length_filter_le _ _) _) (by omega))) ?_
            walk_at "gs"
            refine ds_seq' ?_
            walk_at "gs"
            have hnew : ∀ x ∈ behind.filter (fun r => decide (r ∉ found)), x ∈ uni rows ∧ x ∉ found := fun x hx => by
              obtain ⟨a1, a2⟩ := List.mem_filter.mp hx
              exact ⟨(h2 x a1).uni, by simpa using a2⟩
            have hlt : mu rows (found ++ behind.filter fun r => decide (r ∉ found)) < mu rows found := mu_lt (x := x0) (List.mem_filter.mpr ⟨hx0, by simpa using hx1⟩) (h2 _ hx0).uni hx1
            have hsz : (found ++ behind.filter fun r => decide (r ∉ found)).length + mu rows (found ++ behind.filter fun r => decide (r ∉ found)) ≤ 90 := by
              rw [List.length_append]
              rcases h5 with q | ⟨q1, q2⟩
              · have := mu_add (rows := rows) (q.filter (fun r => decide (r ∉ found))) hnew
                omega
              · subst q1
                have a1 := List.length_filter_le (fun r => decide (r ∉ ([] : List Row))) behind
                have a2 := mu_le rows ([] ++ behind.filter fun r => decide (r ∉ ([] : List Row)))
                simp only [List.length_nil]
                omega
            have hmem : ∀ x, x ∈ found ++ behind.filter (fun r => decide (r ∉ found)) ↔ x ∈ found ∨ x ∈ behind := fun x => by
              rw [List.mem_append, List.mem_filter]
              by_cases q : x ∈ found <;> simp [q]
            rw [← List.map_append]
            generalize found ++ behind.filter (fun r => decide (r ∉ found)) = F at hlt hsz hmem ⊢
            refine ds_mid' (fun G => ∃ s5, G = [.d (lD rows), .o none (F.map zD), .d (lD behind), s3, .o none ((behind.flatMap (nextB rows)).map zD), s5, s6]) ?_ ?_
            · refine ds_forE' (ch := [5]) ?_
              refine di_anyL (di_list ?_)
              walk_at "gs"
              refine ⟨fun i G => ∃ s5, G = [.d (lD rows), .o none (F.map zD), .d (lD behind), s3, .o none (((behind.take i).flatMap (nextB rows)).map zD), s5, s6], ⟨_, rfl⟩, fun i G2 d hd ⟨s5, hG⟩ => ?_, fun G2 ⟨s5, hG⟩ => ?_⟩
              · subst hG
                rw [List.getElem?_map] at hd
                obtain ⟨v, hv, rfl⟩ := Option.map_eq_some_iff.mp hd
                have hvm := List.mem_of_getElem? hv
                have hvl := (uni_small R hz (h2 v hvm).uni).1
                have hml : ((behind.take i).flatMap (nextB rows)).length ≤ 650 := by
                  have q : ((behind.take i).flatMap (nextB rows)).length ≤ (behind.take i).length * 10 := sum_len_le _ 10 fun x _ => by
                    unfold nextB
                    split
                    · exact restsL_len R x
                    · simp
                  have : (behind.take i).length ≤ 65 := by
                    rw [List.length_take]
                    omega
                  omega
                have e1 : (behind.take (i + 1)).flatMap (nextB rows) = (behind.take i).flatMap (nextB rows) ++ nextB rows v := by
                  rw [List.take_succ, hv, List.flatMap_append]
                  simp
                refine dg_name ?_
                walk_at "gs"
                refine ite_k (fun c => ?_) (fun c => ?_)
                · have c : v ≠ [] := by simpa using c
                  walk_at "gs"
                  refine ⟨(z, rows, v), ⟨hz, R, by show v.length ≤ 1000; omega⟩, rfl, ?_⟩
                  rintro _ rfl
                  walk_at "gs"
                  have := restsL_len R v
                  refine rw_addL rfl rfl (szl (by rw [List.length_map, List.length_map]; dsimp only; omega)) ?_
                  walk_at "gs"
                  refine ⟨.d (zD v), ?_⟩
                  rw [e1, show nextB rows v = restsL rows v from if_pos c, List.map_append (l₂ := restsL rows v)]
                  rfl
                · have c : v = [] := by simpa using c
                  walk_at "gs"
                  refine rw_addL rfl rfl (szl (by rw [List.length_map]; exact Nat.le_trans hml (by decide))) ?_
                  walk_at "gs"
                  refine ⟨.d (zD v), ?_⟩
                  rw [e1, show nextB rows v = [] from if_neg (by simp [c]), List.append_nil, List.append_nil]
                  rfl
              · subst hG
                rw [List.length_map, List.take_length]
                exact ⟨_, rfl⟩
            · rintro G1 ⟨s5, rfl⟩
              refine ds_setF ?_
              walk_at "gs"
              have hml : (behind.flatMap (nextB rows)).length ≤ 650 := by
                have q : (behind.flatMap (nextB rows)).length ≤ behind.length * 10 := sum_len_le _ 10 fun x _ => by
                  unfold nextB
                  split
                  · exact restsL_len R x
                  · simp
                omega
              refine ⟨(behind.flatMap (nextB rows)).map mkS, by rw [List.map_map]; rfl, by rw [List.length_map]; omega, fun ms hn hm => ?_⟩
              obtain ⟨L, l1, l2, l3⟩ := srt_ms hn hm
              rw [l3]
              walk_at "gs"
              have hL : ∀ x, x ∈ srtR L ↔ ∃ r ∈ behind, r ≠ [] ∧ x ∈ rests rows r := fun x => by
                rw [srtR_mem, l2 x, List.mem_flatMap]
                constructor
                · rintro ⟨r, hr, hx⟩
                  unfold nextB at hx
                  split at hx
                  · rename_i c
                    exact ⟨r, hr, c, mem_restsL.mp hx⟩
                  · cases hx
                · rintro ⟨r, hr, c, hx⟩
                  exact ⟨r, hr, by unfold nextB; rw [if_pos c]; exact mem_restsL.mpr hx⟩
              refine ⟨_, hlt, F, srtR L, _, _, _, _, rfl, fun r hr => ?_, fun r hr => ?_, fun r hr => .inl ((hmem r).mpr (h3 r hr)), fun r hr hrn x hx => ?_, .inl (srtR_nd l1), hsz, rfl⟩
              · exact ((hmem r).mp hr).elim (h1 r) (h2 r)
              · obtain ⟨q, hq, hqn, hx⟩ := (hL r).mp hr
                exact .step (h2 q hq) hqn hx
              · rcases (hmem r).mp hr with q | q
                · exact .inl ((hmem x).mpr (h4 r q hrn x hx))
                · exact .inr ((hL x).mpr ⟨r, q, hrn, hx⟩)
        · walk_at "gs"
          have c : ∀ x ∈ behind, x ∈ found := fun x hx => by
            have := List.any_eq_false.mp c x hx
            simpa using this
          exact ⟨found, _, _, _, _, _, by omega, cl_of h1 (fun r hr => (h3 r hr).elim id (c r)) (fun r hr hrn x hx => (h4 r hr hrn x hx).elim id (c x)), rfl⟩
    · rintro G1 ⟨found, s2, s3, s4, s5, s6, hl, h1, rfl⟩
      walk_at "gs"
      refine ⟨found.map mkS, by rw [List.map_map]; rfl, by rw [List.length_map]; omega, fun ms hn hm => ?_⟩
      obtain ⟨L, l1, l2, l3⟩ := srt_ms hn hm
      rw [l3]
      walk_at "gs"
      rw [clo_eq l1 fun r => (l2 r).trans (h1 r)]
end
end K65
namespace K65
open PySem PySem.Spec PyProof.Rows L2 DL
local macro_rules | `(tactic| walk_at "st") => `(tactic| with_reducible first
  | refine pw_p ?_ | refine pw_o ?_ | refine dw_op ?_ | refine dw_un ?_ | refine dw_int ?_ | refine dw_str ?_ | refine dw_bl ?_ | refine dw_non ?_ | refine dw_ty ?_ | refine da_nil' ?_ | refine da_cons' ?_ | refine dw_sortSetT ?_ | refine dw_CB ?_ | refine dw_BM ?_ | refine dw_BM0 ?_
  | refine dw_tup ?_ | refine dw_lst ?_ | refine dw_notV ?_ | refine dw_and ?_ | refine dw_or ?_ | refine dw_if ?_ | refine dw_chain ?_ | refine dw_sl3 ?_ | refine dw_revT ?_ | refine dw_tupRg1 ?_ | refine dw_lstRg1 ?_ | refine dw_callI ?_ | refine dw_callJ ?_
  | refine dt_test ?_ | refine dt_B ?_ | refine dt_and ?_ | refine dt_or ?_ | refine dt_not ?_ | refine dt_yes ?_ | refine dt_truth ?_
  | refine ds_ret ?_ | refine ds_retN ?_ | refine ds_next ?_ | refine ds_break ?_ | refine ds_cont ?_ | refine ds_drop ?_ | refine ds_if ?_ | refine ds_set ?_
  | refine nx_nxt ?_ | refine rt_nxt ?_ | refine bk_nxt ?_ | refine ct_nxt ?_ | refine nx_lp ?_ | refine rt_lp ?_ | refine bk_lp ?_ | refine ct_lp ?_ | refine asn_d ?_ | refine asn_fr ?_ | refine rt_E0 ?_ | refine rt_E0o ?_ | refine nx_E0 ?_
  | refine dw_newK ?_ | refine dw_dInK ?_ | refine dw_dNotInK ?_ | refine dw_dGetK ?_ | refine ds_dPutK ?_ | refine dw_callH ?_
  | refine tr_b ?_ | refine tr_i ?_ | refine tr_n ?_ | refine tr_T ?_ | refine tr_L ?_
  | refine do_none ?_ | refine do_some ?_ | refine ite_t ?_ | refine ite_f ?_
  | refine rw_addI ?_ | refine rw_sub ?_ | refine rw_cmp ?_ | refine rw_eqI ?_ | refine rw_neI ?_ | refine rw_eqZ ?_ | refine rw_neZ ?_ | refine rw_eqS ?_ | refine rw_neS ?_ | refine rw_eqB ?_ | refine rw_neB ?_ | refine isN_d ?_ | refine notN_d ?_ | refine rw_isB ?_ | refine rw_notB ?_
  | refine rn_intI ?_ | refine rn_intB ?_ | refine rn_max ?_ | refine rn_min ?_ | refine rn_lenT ?_ | refine rn_lenD ?_ | refine rm_sw ?_ | refine isi_int ?_ | refine isi_bool ?_ | refine isi_str ?_ | refine isi_tuple ?_ | refine isi_list ?_ | refine rn_tupT ?_ | refine rn_listT ?_
  | refine ⟨_, rfl, ?_⟩
  | fail)
local macro_rules | `(tactic| walk_at "va") => `(tactic| first
  | ((with_reducible apply dw_var); rfl) | ((with_reducible apply dw_sl); rfl) | ((with_reducible apply dw_slK); rfl)
  | ((with_reducible apply rw_ixL); rfl; rfl) | ((with_reducible apply rw_ixT); rfl)
  | ((with_reducible apply ite_T); rfl) | ((with_reducible apply ite_F); rfl) | ((with_reducible apply tr_o); rfl)
  | refine ⟨_, rfl, szl (Nat.le_of_ble_eq_true rfl), ?_⟩
  | (with_reducible refine rw_mod (by omega) ?_)
  | (with_reducible refine rw_fdiv (by unfold CDiv; omega) ?_)
  | (with_reducible refine rw_mul (by unfold CMul; omega) ?_)
  | refine ⟨szl (Nat.le_of_ble_eq_true rfl), ?_⟩
  | refine ⟨⟨rfl, _, _, rfl⟩, ?_⟩
  | refine ⟨rfl, ?_⟩
  | rfl
  | fail)
local macro_rules | `(tactic| walk_at "go") => `(tactic| repeat' (first | walk_at "st" | (with_reducible refine ds_seq' ?_) | walk_at "va" | fail))
local macro_rules | `(tactic| walk_at "gs") => `(tactic| repeat' (first | walk_at "st" | walk_at "va" | fail))
/-! the search's entries as data: (length, text, rest) -/
abbrev eD (p : Row × Row) : PyData := .tuple [nD p.1.length, zD p.1, zD p.2]
def optD : Option Row → PyData
  | some t => zD t
  | none => .none
theorem eqv_eD (p q : Row × Row) : PyData.eqv (eD p) (eD q) = decide (p = q) := by
  have e : PyData.eqv (eD p) (eD q) = (PyData.eqv (nD p.1.length) (nD q.1.length) && (PyData.eqv (zD p.1) (zD q.1) && (PyData.eqv (zD p.2) (zD q.2) && true))) := by
    simp only [PyData.eqv, PyData.eqvAll]
  rw [e, eqv_zD, eqv_zD, eqv_iD]
  by_cases h1 : p.1 = q.1
  · by_cases h2 : p.2 = q.2
    · simp [h1, h2, Prod.ext_iff]
    · simp [h1, h2, Prod.ext_iff]
  · simp [h1, Prod.ext_iff]
theorem alike_eD (p q : Row × Row) : PySem.W.alike (eD p) (eD q) = true := by simp [PySem.W.alike, PySem.W.alikeAll]
theorem shp_eD {p : Row × Row} (h1 : Lt p.1) (h2 : Lt p.2) : Shp 2 (eD p) := shp_tup fun x hx => by
  simp at hx
  rcases hx with rfl | rfl | rfl
  · exact shp_int 1 _
  · exact shp_z 1 h1
  · exact shp_z 1 h2
/-- what is not less has no lesser text -/
theorem lt_eD {p q : Row × Row} (h : PySem.W.dataLt (eD q) (eD p) = false) : kle p.1 q.1 := by
  rw [PySem.W.dataLt_tuple, PySem.W.dataLt_cons (by simp [PySem.W.alike]), PySem.W.dataLt_cons (by simp [PySem.W.alike]), PySem.W.dataLt_int, PySem.W.dataLt_str, eqv_iD, eqv_zD, mkS_cps, mkS_cps] at h
  by_cases h1 : q.1.length = p.1.length
  · rw [if_pos (decide_eq_true h1)] at h
    by_cases h2 : q.1 = p.1
    · rw [h2]
      exact kle_refl _
    · rw [if_neg (by simp [h2])] at h
      exact .inr ⟨h1.symm, of_decide_eq_false h⟩
  · rw [if_neg (by simp [h1])] at h
    have := of_decide_eq_false h
    exact .inl (by omega)
theorem srtD_pw {β : Type} (enc : β → PyData) (bs : List β) : (srtD enc bs).Pairwise fun a b => PySem.W.dataLt (enc b) (enc a) = false := by
  refine (PySem.W.sort_pairwise (PySem.W.sortLe_total (PyProof.Rows.listOrd PyProof.Rows.itemOrd) false fun b => PySem.W.keyToks (enc b)) bs).imp fun {a b} h => ?_
  have h : (!PySem.W.dataLt (enc b) (enc a)) = true := h
  simpa using h
theorem srtD_perm {β : Type} (enc : β → PyData) (bs : List β) : (srtD enc bs).Perm bs := List.mergeSort_perm _ _
theorem dl_trans {a b c : PyData} (h1 : PySem.W.dataLt a b = true) (h2 : PySem.W.dataLt b c = true) : PySem.W.dataLt a c = true := (PyProof.Rows.listOrd PyProof.Rows.itemOrd).trans _ _ _ h1 h2
theorem dl_irrefl (a : PyData) : PySem.W.dataLt a a = false := (PyProof.Rows.listOrd PyProof.Rows.itemOrd).irrefl _
theorem minD_spec : ∀ (ds : List PyData) (d : PyData), PySem.W.minD d ds ∈ d :: ds ∧ ∀ x ∈ d :: ds, PySem.W.dataLt x (PySem.W.minD d ds) = false
  | [], d => ⟨List.mem_cons_self, fun x hx => by rw [List.mem_singleton.mp hx]; exact dl_irrefl d⟩
  | y :: ds, d => by
    have e : PySem.W.minD d (y :: ds) = PySem.W.minD (if PySem.W.dataLt y d then y else d) ds := rfl
    obtain ⟨h1, h2⟩ := minD_spec ds (if PySem.W.dataLt y d then y else d)
    rw [e]
    by_cases c : PySem.W.dataLt y d = true
    · rw [if_pos c] at h1 h2 ⊢
      refine ⟨List.mem_cons_of_mem _ h1, fun x hx => ?_⟩
      rcases List.mem_cons.mp hx with rfl | hx
      · have h3 := h2 y List.mem_cons_self
        cases q : PySem.W.dataLt x (PySem.W.minD y ds) with
        | false => rfl
        | true => rw [dl_trans c q] at h3; cases h3
      · exact h2 x hx
    · rw [if_neg c] at h1 h2 ⊢
      refine ⟨?_, fun x hx => ?_⟩
      · rcases List.mem_cons.mp h1 with h | h
        · rw [h]
          exact List.mem_cons_self
        · exact List.mem_cons_of_mem _ (List.mem_cons_of_mem _ h)
      · rcases List.mem_cons.mp hx with rfl | hx
        · exact h2 x List.mem_cons_self
        · rcases List.mem_cons.mp hx with rfl | hx
          · have h3 := h2 d List.mem_cons_self
            rcases List.mem_cons.mp h1 with h | h
            · rw [h]
              simpa using c
            · cases q : PySem.W.dataLt x (PySem.W.minD d ds) with
              | false => rfl
              | true =>
                have hm := h2 d List.mem_cons_self
                rcases (PyProof.Rows.listOrd PyProof.Rows.itemOrd).negTrans (PySem.W.keyToks x) (PySem.W.keyToks d) (PySem.W.keyToks (PySem.W.minD d ds)) q with z | z
                · exact absurd z c
                · rw [show PySem.W.dataLt d (PySem.W.minD d ds) = true from z] at hm
                  cases hm
          · exact h2 x (List.mem_cons_of_mem _ hx)
theorem mem_fst {bs : List (Row × Row)} {r : Row} : r ∈ bs.map (·.1) ↔ ∃ b, (r, b) ∈ bs := by
  rw [List.mem_map]
  constructor
  · rintro ⟨⟨r', b⟩, h, rfl⟩
    exact ⟨b, h⟩
  · rintro ⟨b, h⟩
    exact ⟨_, h, rfl⟩
theorem pairs_take {rows : List Row} {i : Nat} {v : Row} (hv : rows[i]? = some v) : ((rows.take (i + 1)).flatMap fun one => (prs rows one).map fun o => (o, o.drop one.length)) = ((rows.take i).flatMap fun one => (prs rows one).map fun o => (o, o.drop one.length)) ++ (prs rows v).map fun o => (o, o.drop v.length) := by
  rw [List.take_succ, hv, List.flatMap_append]
  simp
theorem sum_len_le2 {α β : Type} (f : α → List β) (n : Nat) : ∀ {l : List α}, (∀ x ∈ l, (f x).length ≤ n) → (l.flatMap f).length ≤ l.length * n
  | [], _ => by simp
  | x :: l, h => by
    rw [List.flatMap_cons, List.length_append, List.length_cons, Nat.succ_mul]
    have := h x List.mem_cons_self
    have := sum_len_le2 f n fun y hy => h y (List.mem_cons_of_mem _ hy)
    omega
theorem pairs_part {z : List Nat} {rows : List Row} (R : RowsOk z rows) (i : Nat) : ((rows.take i).flatMap fun one => (prs rows one).map fun o => (o, o.drop one.length)).length ≤ 25 := by
  have h : ((rows.take i).flatMap fun one => (prs rows one).map fun o => (o, o.drop one.length)).length ≤ (rows.take i).length * 5 := sum_len_le2 _ 5 fun x _ => by
    rw [List.length_map]
    exact Nat.le_trans (List.length_filter_le _ _) R.l5
  have : (rows.take i).length ≤ 5 := by
    rw [List.length_take]
    have := R.l5
    omega
  omega
def succT (rows : List Row) (t r : Row) (i : Nat) : List (Row × Row) := succs (rows.take i) t r
theorem succT_step {rows : List Row} {t r : Row} {i : Nat} {v : Row} (hv : rows[i]? = some v) : succT rows t r (i + 1) = succT rows t r i ++ (if r.take v.length = v then [(t, r.drop v.length)] else if v.take r.length = r then [(t ++ v.drop r.length, v.drop r.length)] else []) := by
  unfold succT succs
  rw [List.take_succ, hv, List.flatMap_append]
  simp
theorem succT_len {z : List Nat} {rows : List Row} (R : RowsOk z rows) (t r : Row) (i : Nat) : (succT rows t r i).length ≤ 5 := by
  have h : (succT rows t r i).length ≤ (rows.take i).length * 1 := sum_len_le2 _ 1 fun x _ => by
    split
    · simp
    · split <;> simp
  have : (rows.take i).length ≤ 5 := by
    rw [List.length_take]
    have := R.l5
    omega
  omega
/-- what the entries of the search are like -/
structure EOk (rows : List Row) (n : Nat) (p : Row × Row) : Prop where
  un : p.2 ∈ uni rows
  len : p.1.length ≤ 12 + n + p.2.length
  lt : Lt p.1
theorem eok_pairs {z : List Nat} {rows : List Row} (R : RowsOk z rows) (hz : z ∈ sigs) {p : Row × Row} (h : p ∈ pairs rows) : EOk rows 0 p := by
  obtain ⟨t, r⟩ := p
  obtain ⟨one, _, ht, _, _, rfl⟩ := mem_pairs.mp h
  exact ⟨uni_row ht _, by have := R.len t ht; show t.length ≤ 12 + 0 + _; omega, R.lt hz ht⟩
theorem eok_succ {z : List Nat} {rows : List Row} (R : RowsOk z rows) (hz : z ∈ sigs) {n : Nat} {t r : Row} {p : Row × Row} (h : p ∈ succs rows t r) (e : EOk rows n (t, r)) : EOk rows (n + r.length) p := by
  obtain ⟨t', r'⟩ := p
  have hl := e.len
  have hl : t.length ≤ 12 + n + r.length := hl
  obtain ⟨w, hw, ⟨_, rfl, rfl⟩ | ⟨_, _, rfl, rfl⟩⟩ := mem_succs.mp h
  · exact ⟨uni_drop e.un _, by show t'.length ≤ 12 + (n + r.length) + (r.drop w.length).length; omega, e.lt⟩
  · refine ⟨uni_row hw _, ?_, e.lt.app ((R.lt hz hw).drop _)⟩
    show (t ++ w.drop r.length).length ≤ 12 + (n + r.length) + (w.drop r.length).length
    rw [List.length_append]
    omega
theorem EOk.mono {rows : List Row} {n m : Nat} {p : Row × Row} (h : EOk rows n p) (hm : n ≤ m) : EOk rows m p := ⟨h.un, by have := h.len; omega, h.lt⟩
def sumL (bs : List (Row × Row)) : Nat := ((bs.map (·.1)).map List.length).sum
theorem sumL_app (bs : List (Row × Row)) (r t : Row) : sumL (bs ++ [(r, t)]) = sumL bs + r.length := by
  unfold sumL
  simp [List.map_append, List.sum_append]
theorem sum_sub {f : Row → Nat} : ∀ {l m : List Row}, l.Nodup → (∀ x ∈ l, x ∈ m) → (l.map f).sum ≤ (m.map f).sum
  | [], _, _, _ => by simp
  | x :: l, m, hn, h => by
    obtain ⟨h1, h2⟩ := List.nodup_cons.mp hn
    obtain ⟨a, b, rfl⟩ := List.append_of_mem (h x List.mem_cons_self)
    have := sum_sub (f := f) (l := l) (m := a ++ b) h2 fun y hy => by
      have := h y (List.mem_cons_of_mem _ hy)
      rcases List.mem_append.mp this with q | q
      · exact List.mem_append_left _ q
      · rcases List.mem_cons.mp q with rfl | q
        · exact absurd hy h1
        · exact List.mem_append_right _ q
    simp only [List.map_append, List.map_cons, List.sum_append, List.sum_cons] at this ⊢
    omega
theorem sum_bound {α : Type} (f : α → Nat) (n : Nat) : ∀ {l : List α}, (∀ x ∈ l, f x ≤ n) → (l.map f).sum ≤ l.length * n
  | [], _ => by simp
  | x :: l, h => by
    rw [List.map_cons, List.sum_cons, List.length_cons, Nat.succ_mul]
    have := h x List.mem_cons_self
    have := sum_bound f n fun y hy => h y (List.mem_cons_of_mem _ hy)
    omega
theorem sum_flat {α : Type} (f : Row → Nat) (g : α → List Row) : ∀ l : List α, ((l.flatMap g).map f).sum = (l.map fun x => ((g x).map f).sum).sum
  | [] => rfl
  | x :: l => by
    rw [List.flatMap_cons, List.map_append, List.sum_append, List.map_cons, List.sum_cons, sum_flat f g l]
theorem drops_sum (w : Row) (m : Nat) (h1 : w.length ≤ m) (h2 : m ≤ 12) : (((List.range (w.length + 1)).map fun k => w.drop k).map List.length).sum ≤ m * (m + 1) / 2 := by
  have e : (((List.range (w.length + 1)).map fun k => w.drop k).map List.length) = (List.range (w.length + 1)).map fun k => w.length - k := by
    rw [List.map_map]
    exact List.map_congr_left fun k _ => List.length_drop
  rw [e]
  have : ∀ m ≤ 12, ∀ l ≤ m, ((List.range (l + 1)).map fun k => l - k).sum ≤ m * (m + 1) / 2 := by decide
  exact this m h2 w.length h1
theorem sum_ix {f : Row → Nat} {b : Nat → Nat} : ∀ {l : List Row}, (∀ j x, l[j]? = some x → f x ≤ b j) → (l.map f).sum ≤ ((List.range l.length).map b).sum := by
  intro l
  induction l generalizing b with
  | nil => intro _; simp
  | cons x l ih =>
    intro h
    have h1 := h 0 x rfl
    have h2 := ih (b := fun j => b (j + 1)) fun j y hy => h (j + 1) y (by simpa using hy)
    rw [List.map_cons, List.sum_cons, List.length_cons, List.range_succ_eq_map, List.map_cons, List.sum_cons, List.map_map]
    have e : (List.map (b ∘ Nat.succ) (List.range l.length)) = (List.range l.length).map fun j => b (j + 1) := rfl
    rw [e]
    omega
theorem sumL_le {z : List Nat} {rows : List Row} (R : RowsOk z rows) {bs : List (Row × Row)} (hn : (bs.map (·.1)).Nodup) (hu : ∀ r ∈ bs.map (·.1), r ∈ uni rows) : sumL bs ≤ 200 := by
  have h1 := sum_sub (f := List.length) hn hu
  have h2 : ((uni rows).map List.length).sum ≤ ((List.range rows.length).map fun j => (4 + 2 * j) * (4 + 2 * j + 1) / 2).sum := by
    unfold uni
    rw [sum_flat]
    refine sum_ix fun j w hw => ?_
    have := R.len2 j w hw
    have hj := (List.getElem?_eq_some_iff.mp hw).1
    have := R.l5
    exact drops_sum w (4 + 2 * j) (by omega) (by omega)
  have h3 : ∀ n ≤ 5, ((List.range n).map fun j => (4 + 2 * j) * (4 + 2 * j + 1) / 2).sum ≤ 200 := by decide
  have := h3 rows.length R.l5
  unfold sumL
  omega
theorem succT_all {rows : List Row} (R5 : rows.length ≤ 5) (t r : Row) : succT rows t r rows.length = succs rows t r := by
  unfold succT
  rw [List.take_length]
section
variable {P : Program} {w : World} {K : PySem.W.Frag} {mg : Str → Option Value} {base' : Heap} {a : Ad}
abbrev spDb (K : PySem.W.Frag) := spI K argM preM (fun x r => r = .p (.d (optD (dbl x.2))) ∧ ∀ t, dbl x.2 = some t → t.length ≤ 212 ∧ Lt t)
theorem ok_least_double (T : Tx K mg a) : FnOk P w K mg base' CX0 1 a.f3 a.d3 ["rows"] (spDb K) := by
  refine fnI T.F_least_double sc_least_double (fun x => ⟨rfl, by decide⟩) fun cdv A outer s H E hr => ⟨_, (pss_cons (ps_set (i := 1) sc_least_double.nd rfl (Or.inl rfl) (pe_lst pa_nil)) (pss_cons (ps_for PassesOwn.never rfl (kANY K rfl (pv 0)) (pg_name (i := 2) sc_least_double.nd rfl (Or.inr rfl)) (pss_cons (ps_setLc (i := 3) (own := [("second", 10)]) (g := gName 10) (by rfl) sc_least_double.nd rfl rfl (sw_true rfl rfl rfl (by decide +kernel)) (kANY K rfl (pv 0)) (blkOk_by (own := [("second", 10)]) (N := ["rows", "left", "first", "longer", "met", "length", "text", "rest", "row", "other", "second"]) (sc := defScope s_least_double) (by decide +kernel)) (fun _ _ _ _ _ => (pg_name (i := 10) sc_least_double.nd rfl (by first | exact Or.inl rfl | exact Or.inr rfl))) (fun _ _ _ _ _ => (pts_one (PW.pt (pw_and (pt_cmpR (kNE K rfl hr.units) (pv 10) (pv 2) (nomark _)) (pw_and1 (kTRUTH K rfl (kBM K rfl (pe_bm PySem.F.plainAttrs_str PySem.F.slot_str_startswith PySem.F.type_str_startswith mt_startswith (pv 10) (pa_cons (pv 2) pa_nil))) (by intro _; rfl))))))) (fun _ _ _ _ _ => (pv 10))) (pss_one (ps_expr (kBM K rfl (pe_bm PySem.F.plainAttrs_list PySem.F.slot_list_extend PySem.F.type_list_extend mt_extend (pv 1) (pa_cons (pe_lc (own := [("second", 10)]) (g := gName 10) (by rfl) sc_least_double.nd (kANY K rfl (pv 3)) (blkOk_by (own := [("second", 10)]) (N := ["rows", "left", "first", "longer", "met", "length", "text", "rest", "row", "other", "second"]) (sc := defScope s_least_double) (by decide +kernel)) (fun _ _ _ _ _ => (pg_name (i := 10) sc_least_double.nd rfl (by first | exact Or.inl rfl | exact Or.inr rfl))) (fun _ _ _ _ _ => pts_nil) (fun _ _ _ _ _ => (pe_tup (pa_cons (pe_callB (kLEN K rfl) (by rfl) T.z_len (by decide +kernel) (pa_cons (pv 10) pa_nil)) (pa_cons (pv 10) (pa_cons (pe_slice (kSLC K rfl) (pv 10) (po_some (pe_callB (kLEN K rfl) (by rfl) T.z_len (by decide +kernel) (pa_cons (pv 2) pa_nil))) po_none) pa_nil)))))) pa_nil))))))) (pss_cons (ps_set (i := 4) sc_least_double.nd rfl (Or.inl rfl) (pe_lst pa_nil)) (pss_cons (ps_while PassesOwn.never (kTRUTH K rfl (pv 1) (by intro _; rfl)) (pss_cons (ps_expr (kBM0 K rfl (pe_bm0 PySem.F.plainAttrs_list PySem.F.slot_list_sort PySem.F.type_list_sort (kLSORTD K rfl (hu65 hr)) (pv 1)))) (pss_cons (ps_asg (kBM K rfl (pe_bm PySem.F.plainAttrs_list PySem.F.slot_list_pop PySem.F.type_list_pop mt_popAt (pv 1) (pa_cons pe_int pa_nil))) (kTG K rfl rfl (pgs_cons (pg_name (i := 5) sc_least_double.nd rfl (Or.inl rfl)) (pgs_cons (pg_name (i := 6) sc_least_double.nd rfl (Or.inl rfl)) (pgs_cons (pg_name (i := 7) sc_least_double.nd rfl (Or.inl rfl)) pgs_nil))))) (pss_cons (ps_if (pt_cmpR (kEQ K rfl hr.units) (pv 7) (pe_strM [] rfl) (nomark _)) (pss_one (ps_ret (pv 6))) pss_nil) (pss_one (ps_if (pt_cmpR (kNI K rfl (hu65 hr)) (pv 7) (pv 4) (by rfl)) (pss_cons (ps_expr (kBM K rfl (pe_bm PySem.F.plainAttrs_list PySem.F.slot_list_append PySem.F.type_list_append mt_append (pv 4) (pa_cons (pv 7) pa_nil)))) (pss_one (ps_for PassesOwn.never rfl (kANY K rfl (pv 0)) (pg_name (i := 8) sc_least_double.nd rfl (Or.inl rfl)) (pss_one (ps_if (kTRUTH K rfl (kBM K rfl (pe_bm PySem.F.plainAttrs_str PySem.F.slot_str_startswith PySem.F.type_str_startswith mt_startswith (pv 7) (pa_cons (pv 8) pa_nil))) (by intro _; rfl)) (pss_one (ps_expr (kBM K rfl (pe_bm PySem.F.plainAttrs_list PySem.F.slot_list_append PySem.F.type_list_append mt_append (pv 1) (pa_cons (pe_tup (pa_cons (pv 5) (pa_cons (pv 6) (pa_cons (pe_slice (kSLC K rfl) (pv 7) (po_some (pe_callB (kLEN K rfl) (by rfl) T.z_len (by decide +kernel) (pa_cons (pv 8) pa_nil))) po_none) pa_nil)))) pa_nil))))) (pss_one (ps_if (kTRUTH K rfl (kBM K rfl (pe_bm PySem.F.plainAttrs_str PySem.F.slot_str_startswith PySem.F.type_str_startswith mt_startswith (pv 8) (pa_cons (pv 7) pa_nil))) (by intro _; rfl)) (pss_cons (ps_set (i := 9) sc_least_double.nd rfl (Or.inl rfl) (pe_slice (kSLC K rfl) (pv 8) (po_some (pe_callB (kLEN K rfl) (by rfl) T.z_len (by decide +kernel) (pa_cons (pv 7) pa_nil))) po_none)) (pss_one (ps_expr (kBM K rfl (pe_bm PySem.F.plainAttrs_list PySem.F.slot_list_append PySem.F.type_list_append mt_append (pv 1) (pa_cons (pe_tup (pa_cons (pe_op (kADD K rfl) (pv 5) (pe_callB (kLEN K rfl) (by rfl) T.z_len (by decide +kernel) (pa_cons (pv 9) pa_nil))) (pa_cons (pe_op (kADD K rfl) (pv 6) (pv 9)) (pa_cons (pv 9) pa_nil)))) pa_nil)))))) pss_nil))))))) pss_nil)))))) (pss_one (ps_ret pe_non)))))), ?_⟩
  rintro ⟨z, rows⟩ ⟨hz, R⟩ B
  dsimp only [argM] at *
  have R5 := R.l5
  have hU := uni_len R
  refine ds_seq' ?_
  walk_at "gs"
  refine ds_mid' (fun G => ∃ s2 s3 s4 s5 s6 s7 s8 s9 s10, G = [.d (lD rows), .o none ((pairs rows).map eD), s2, s3, s4, s5, s6, s7, s8, s9, s10]) ?_ ?_
  · refine ds_forE' (ch := [2]) ?_
    refine di_anyL (di_list ?_)
    walk_at "gs"
    refine ⟨fun i G => ∃ s2 s3 s4 s5 s6 s7 s8 s9 s10, G = [.d (lD rows), .o none (((rows.take i).flatMap fun one => (prs rows one).map fun o => (o, o.drop one.length)).map eD), s2, s3, s4, s5, s6, s7, s8, s9, s10], ⟨_, _, _, _, _, _, _, _, _, rfl⟩, fun i G2 d hd ⟨s2, s3, s4, s5, s6, s7, s8, s9, s10, hG⟩ => ?_, fun G2 ⟨s2, s3, s4, s5, s6, s7, s8, s9, s10, hG⟩ => ?_⟩
    · subst hG
      rw [List.getElem?_map] at hd
      obtain ⟨v, hv, rfl⟩ := Option.map_eq_some_iff.mp hd
      have hvl := R.len v (List.mem_of_getElem? hv)
      have hb := pairs_part R i
      refine dg_name ?_
      refine ds_seq' ?_
      walk_at "gs"
      refine dw_lcF rows zD (fun o => decide (o ≠ v) && decide (o.take v.length = v)) zD ?_
      refine di_anyL (di_list ?_)
      walk_at "gs"
      refine ⟨szl (by omega), fun B' o ho => ?_, ?_⟩
      · have hol := R.len o ho
        walk_at "gs"
        refine ite_k (fun c => ?_) (fun c => ?_)
        · have c : o ≠ v := by simpa using c
          walk_at "gs"
          refine ⟨by simp [c], rfl, fun _ => ?_⟩
          walk_at "gs"
        · have c : o = v := by simpa using c
          walk_at "gs"
          exact ⟨by simp [c], rfl, fun h => by simp [c] at h⟩
      · refine asn_fr (nx_nxt ?_)
        refine ds_freeze 3 rfl ?_
        walk_at "gs"
        refine dw_lcM (prs rows v) zD (fun o => eD (o, o.drop v.length)) ?_
        refine di_anyL (di_list ?_)
        walk_at "gs"
        have hpl : (prs rows v).length ≤ 5 := Nat.le_trans (List.length_filter_le _ _) R5
        refine ⟨szl (by omega), fun B' o ho => ?_, ?_⟩
        · have hol := R.len o (mem_prs.mp ho).1
          walk_at "gs"
          refine rn_lenZ (by omega) ?_
          walk_at "gs"
          refine rn_lenZ (by omega) ?_
          walk_at "gs"
          refine rs_from (by omega) ?_
          walk_at "gs"
        · walk_at "gs"
          refine rm_ext rfl rfl (szl (by
            rw [List.length_map, List.length_map]
            omega)) ?_
          walk_at "gs"
          refine ⟨.d (zD v), .d (.list ((prs rows v).map zD)), s4, s5, s6, s7, s8, s9, .un, ?_⟩
          rw [pairs_take hv, List.map_append, List.map_map]
          rfl
    · subst hG
      rw [List.length_map, List.take_length]
      exact ⟨_, _, _, _, _, _, _, _, _, rfl⟩
  · rintro G1 ⟨s2, s3, s4, s5, s6, s7, s8, s9, s10, rfl⟩
    refine ds_seq' ?_
    walk_at "gs"
    refine ds_mid' (fun G => dbl rows = none) ?_ ?_
    · refine ds_while' (fun m G => ∃ (bs left : List (Row × Row)) (s2 s3 s5 s6 s7 s8 s9 s10 : Sl), m = (66 - bs.length) * 6 + left.length ∧ SI rows bs (· ∈ left) ∧ (bs.map (·.1)).Nodup ∧ (∀ p ∈ left, EOk rows (sumL bs) p) ∧ left.length ≤ 25 + 6 * bs.length ∧ G = [.d (lD rows), .o none (left.map eD), s2, s3, .o none (bs.map fun q => zD q.1), s5, s6, s7, s8, s9, s10]) _ ⟨[], pairs rows, s2, s3, s5, s6, s7, s8, s9, s10, rfl, si_start, .nil, fun p h => eok_pairs R hz h, by have := pairs_part R rows.length; rw [List.take_length] at this; exact this, rfl⟩ ?_
      rintro m G1 ⟨bs, left, s2, s3, s5, s6, s7, s8, s9, s10, rfl, S, hn, hE, hl, rfl⟩
      have hbu : ∀ r ∈ bs.map (·.1), r ∈ uni rows := fun r hr => by
        obtain ⟨b, hb⟩ := mem_fst.mp hr
        exact (rc_cl (S.p2 r b hb).2.1).uni
      have hbl : bs.length ≤ 65 := by
        have := hn.length_le_of_subset hbu
        rw [List.length_map] at this
        omega
      walk_at "gs"
      refine ite_k (fun c => ?_) (fun c => ?_)
      · have hne : left ≠ [] := by
          rintro rfl
          cases c
        refine ds_seq' ?_
        walk_at "gs"
        refine rm_sortD (enc := eD) (bs := left) rfl (PySem.W.AllAlike.of alike_eD) (PySem.W.Sortable.tuples fun b => ⟨_, _, rfl⟩) (fun b _ => by simp [PyData.depth, PyData.depthAll, noL, noLs]) ?_
        walk_at "gs"
        have hperm := srtD_perm eD left
        have hpw := srtD_pw eD left
        cases eL : srtD eD left with
        | nil =>
          have := hperm.length_eq
          rw [eL] at this
          exact absurd (List.eq_nil_of_length_eq_zero this.symm) hne
        | cons p L =>
          rw [eL] at hperm hpw
          obtain ⟨t, r⟩ := p
          have hpm : (t, r) ∈ left := hperm.mem_iff.mp List.mem_cons_self
          have hLm : ∀ q ∈ L, q ∈ left := fun q hq => hperm.mem_iff.mp (List.mem_cons_of_mem _ hq)
          have hLc : ∀ q ∈ left, q = (t, r) ∨ q ∈ L := fun q hq => List.mem_cons.mp (hperm.mem_iff.mpr hq)
          have hmin : ∀ t' r', (t', r') ∈ left → kle t t' := fun t' r' h => by
            rcases hLc _ h with e | h
            · cases e
              exact kle_refl _
            · exact lt_eD (p := (t, r)) (q := (t', r')) ((List.pairwise_cons.mp hpw).1 _ h)
          have hLl : L.length + 1 = left.length := hperm.length_eq
          have he := hE _ hpm
          obtain ⟨hrl, hrt⟩ := uni_small R hz he.un
          have hrl : r.length ≤ 12 := hrl
          have hsum := sumL_le R hn hbu
          have htl : t.length ≤ 12 + sumL bs + r.length := he.len
          refine ds_seq' ?_
          refine ds_asg (cs := [5, 6, 7]) ?_
          walk_at "gs"
          refine rm_pop0 (d := eD (t, r)) (ds := L.map eD) rfl ?_
          walk_at "gs"
          refine dg_tup rfl (dgs_cons (c := [5]) (cs := [6, 7]) (dg_name (dgs_cons (c := [6]) (cs := [7]) (dg_name (dgs_cons (c := [7]) (cs := []) (dg_name (dgs_nil ?_)))))))
          refine ds_seq' ?_
          walk_at "gs"
          refine ite_k (fun c => ?_) (fun c => ?_)
          · have c : r = [] := by simpa using c
            subst c
            walk_at "gs"
            rw [dbl_some (S.found hpm hmin)]
            refine ⟨rfl, fun t' e => ?_⟩
            cases e
            exact ⟨by have : ([] : Row).length = 0 := rfl
                      omega, he.lt⟩
          · have c : r ≠ [] := by simpa using c
            walk_at "gs"
            refine rw_niLE (f := fun q : Row => zD q) (xs := bs.map (·.1)) eqv_zD (x := r) rfl (by rw [List.map_map]; rfl) (shp_z 50 hrt) (fun v hv => shp_z 50 (uni_small R hz (hbu v hv)).2) ?_
            walk_at "gs"
            refine ite_k (fun c2 => ?_) (fun c2 => ?_)
            · have c2 : r ∉ bs.map (·.1) := by simpa using c2
              have hnb : ∀ b, (r, b) ∉ bs := fun b h => c2 (mem_fst.mpr ⟨b, h⟩)
              refine ds_seq' ?_
              walk_at "gs"
              refine rm_app rfl (szlt (by rw [List.length_map]; omega)) ?_
              walk_at "gs"
              have hn' : ((bs ++ [(r, t)]).map (·.1)).Nodup := by
                rw [List.map_append]
                exact List.nodup_append.mpr ⟨hn, by simp, fun x hx y hy e => c2 ((e.trans (by simpa using hy)) ▸ hx)⟩
              refine ds_forE' (ch := [8]) ?_
              refine di_anyL (di_list ?_)
              walk_at "gs"
              refine ⟨fun i G => ∃ s8 s9, G = [.d (lD rows), .o none ((L ++ succT rows t r i).map eD), s2, s3, .o none ((bs ++ [(r, t)]).map fun q => zD q.1), .d (nD t.length), .d (zD t), .d (zD r), s8, s9, s10], ⟨s8, s9, ?_⟩, fun i G2 d hd ⟨s8, s9, hG⟩ => ?_, fun G2 ⟨s8, s9, hG⟩ => ?_⟩
              · rw [show succT rows t r 0 = [] from rfl, List.append_nil, List.map_append]
                rfl
              · subst hG
                rw [List.getElem?_map] at hd
                obtain ⟨v, hv, rfl⟩ := Option.map_eq_some_iff.mp hd
                have hvl := R.len v (List.mem_of_getElem? hv)
                have hsl := succT_len R t r i
                refine dg_name ?_
                walk_at "gs"
                refine ite_k (fun c3 => ?_) (fun c3 => ?_)
                · have c3 := of_decide_eq_true c3
                  walk_at "gs"
                  refine rn_lenZ (by omega) ?_
                  walk_at "gs"
                  refine rs_from (by omega) ?_
                  walk_at "gs"
                  refine rm_app rfl (szlt (by rw [List.length_map, List.length_append]; omega)) ?_
                  walk_at "gs"
                  refine ⟨.d (zD v), s9, ?_⟩
                  have e6 : (L ++ succT rows t r (i + 1)).map eD = (L ++ succT rows t r i).map eD ++ [eD (t, r.drop v.length)] := by
                    rw [succT_step hv, if_pos c3, ← List.append_assoc, List.map_append]
                    rfl
                  rw [e6]
                  rfl
                · have c3 := of_decide_eq_false c3
                  walk_at "gs"
                  refine ite_k (fun c4 => ?_) (fun c4 => ?_)
                  · have c4 := of_decide_eq_true c4
                    refine ds_seq' ?_
                    walk_at "gs"
                    refine rn_lenZ (by omega) ?_
                    walk_at "gs"
                    refine rs_from (by omega) ?_
                    walk_at "gs"
                    have hdl : (v.drop r.length).length ≤ 12 := by rw [List.length_drop]; omega
                    refine rn_lenZ (by omega) ?_
                    walk_at "gs"
                    refine rw_addZ (by omega) ?_
                    walk_at "gs"
                    refine rm_app rfl (szlt (by rw [List.length_map, List.length_append]; omega)) ?_
                    walk_at "gs"
                    refine ⟨.d (zD v), .d (zD (v.drop r.length)), ?_⟩
                    have e5 : (nD (t ++ v.drop r.length).length) = PyData.int ((t.length : Int) + ((v.drop r.length).length : Int)) := by
                      rw [List.length_append]
                      rfl
                    have e6 : (L ++ succT rows t r (i + 1)).map eD = (L ++ succT rows t r i).map eD ++ [.tuple [.int ((t.length : Int) + ((v.drop r.length).length : Int)), zD (t ++ v.drop r.length), zD (v.drop r.length)]] := by
                      rw [succT_step hv, if_neg c3, if_pos c4, ← List.append_assoc, List.map_append, ← e5]
                      rfl
                    rw [e6]
                    rfl
                  · have c4 := of_decide_eq_false c4
                    walk_at "gs"
                    refine ⟨.d (zD v), s9, ?_⟩
                    have e6 : succT rows t r (i + 1) = succT rows t r i := by
                      rw [succT_step hv, if_neg c3, if_neg c4, List.append_nil]
                    rw [e6]
                    rfl
              · subst hG
                rw [List.length_map, succT_all R5]
                walk_at "gs"
                have hsl : (succs rows t r).length ≤ 5 := by
                  have := succT_len R t r rows.length
                  rw [succT_all R5] at this
                  exact this
                refine ⟨_, ?_, bs ++ [(r, t)], L ++ succs rows t r, _, _, _, _, _, _, _, _, rfl, ?_, hn', fun p hp => ?_, ?_, rfl⟩
                · simp only [List.length_append, List.length_singleton]
                  omega
                · exact S.new hpm hmin c hnb (fun p hp => (hLc p hp).imp id fun q => List.mem_append_left _ q) (fun p hp => List.mem_append_right _ hp) (fun p hp => (List.mem_append.mp hp).imp (hLm p) id)
                · rw [sumL_app]
                  rcases List.mem_append.mp hp with q | q
                  · exact (hE p (hLm p q)).mono (Nat.le_add_right _ _)
                  · exact eok_succ R hz q he
                · simp only [List.length_append, List.length_singleton]
                  omega
            · have c2 : r ∈ bs.map (·.1) := by simpa using c2
              obtain ⟨b, hb⟩ := mem_fst.mp c2
              walk_at "gs"
              refine ⟨_, ?_, bs, L, _, _, _, _, _, _, _, _, rfl, S.old hpm hb (fun p hp => hLc p hp) (fun p hp => hLm p hp), hn, fun p hp => hE p (hLm p hp), by omega, rfl⟩
              omega
      · have hne : left = [] := by
          cases left with
          | nil => rfl
          | cons _ _ => cases c
        subst hne
        walk_at "gs"
        exact dbl_none (S.none fun p h => (nomatch h))
    · rintro G1 hd
      walk_at "gs"
      rw [hd]
      exact ⟨rfl, fun t e => (nomatch e)⟩
end
end K65
namespace K65
open PySem PySem.Spec PyProof.Rows L2 DL
local macro_rules | `(tactic| walk_at "st") => `(tactic| with_reducible first
  | refine pw_p ?_ | refine pw_o ?_ | refine dw_op ?_ | refine dw_un ?_ | refine dw_int ?_ | refine dw_str ?_ | refine dw_bl ?_ | refine dw_non ?_ | refine dw_ty ?_ | refine da_nil' ?_ | refine da_cons' ?_ | refine dw_sortSetT ?_ | refine dw_CB ?_ | refine dw_BM ?_ | refine dw_BM0 ?_
  | refine dw_tup ?_ | refine dw_lst ?_ | refine dw_notV ?_ | refine dw_and ?_ | refine dw_or ?_ | refine dw_if ?_ | refine dw_chain ?_ | refine dw_sl3 ?_ | refine dw_revT ?_ | refine dw_tupRg1 ?_ | refine dw_lstRg1 ?_ | refine dw_callI ?_ | refine dw_callJ ?_
  | refine dt_test ?_ | refine dt_B ?_ | refine dt_and ?_ | refine dt_or ?_ | refine dt_not ?_ | refine dt_yes ?_ | refine dt_truth ?_
  | refine ds_ret ?_ | refine ds_retN ?_ | refine ds_next ?_ | refine ds_break ?_ | refine ds_cont ?_ | refine ds_drop ?_ | refine ds_if ?_ | refine ds_set ?_
  | refine nx_nxt ?_ | refine rt_nxt ?_ | refine bk_nxt ?_ | refine ct_nxt ?_ | refine nx_lp ?_ | refine rt_lp ?_ | refine bk_lp ?_ | refine ct_lp ?_ | refine asn_d ?_ | refine asn_fr ?_ | refine rt_E0 ?_ | refine rt_E0o ?_ | refine nx_E0 ?_
  | refine dw_newK ?_ | refine dw_dInK ?_ | refine dw_dNotInK ?_ | refine dw_dGetK ?_ | refine ds_dPutK ?_ | refine dw_callH ?_
  | refine tr_b ?_ | refine tr_i ?_ | refine tr_n ?_ | refine tr_T ?_ | refine tr_L ?_
  | refine do_none ?_ | refine do_some ?_ | refine ite_t ?_ | refine ite_f ?_
  | refine rw_addI ?_ | refine rw_sub ?_ | refine rw_cmp ?_ | refine rw_eqI ?_ | refine rw_neI ?_ | refine rw_eqZ ?_ | refine rw_neZ ?_ | refine rw_eqS ?_ | refine rw_neS ?_ | refine rw_eqB ?_ | refine rw_neB ?_ | refine isN_d ?_ | refine notN_d ?_ | refine rw_isB ?_ | refine rw_notB ?_
  | refine rn_intI ?_ | refine rn_intB ?_ | refine rn_max ?_ | refine rn_min ?_ | refine rn_lenT ?_ | refine rn_lenD ?_ | refine rm_sw ?_ | refine isi_int ?_ | refine isi_bool ?_ | refine isi_str ?_ | refine isi_tuple ?_ | refine isi_list ?_ | refine rn_tupT ?_ | refine rn_listT ?_
  | refine ⟨_, rfl, ?_⟩
  | fail)
local macro_rules | `(tactic| walk_at "va") => `(tactic| first
  | ((with_reducible apply dw_var); rfl) | ((with_reducible apply dw_sl); rfl) | ((with_reducible apply dw_slK); rfl)
  | ((with_reducible apply rw_ixL); rfl; rfl) | ((with_reducible apply rw_ixT); rfl)
  | ((with_reducible apply ite_T); rfl) | ((with_reducible apply ite_F); rfl) | ((with_reducible apply tr_o); rfl)
  | refine ⟨_, rfl, szl (Nat.le_of_ble_eq_true rfl), ?_⟩
  | (with_reducible refine rw_mod (by omega) ?_)
  | (with_reducible refine rw_fdiv (by unfold CDiv; omega) ?_)
  | (with_reducible refine rw_mul (by unfold CMul; omega) ?_)
  | refine ⟨szl (Nat.le_of_ble_eq_true rfl), ?_⟩
  | refine ⟨⟨rfl, _, _, rfl⟩, ?_⟩
  | refine ⟨rfl, ?_⟩
  | rfl
  | fail)
local macro_rules | `(tactic| walk_at "go") => `(tactic| repeat' (first | walk_at "st" | (with_reducible refine ds_seq' ?_) | walk_at "va" | fail))
local macro_rules | `(tactic| walk_at "gs") => `(tactic| repeat' (first | walk_at "st" | walk_at "va" | fail))
def kZ (q : Row × Row) : Key × PyData := (Sum.inr (mkS q.1), zD q.2)
theorem lkZ {bs : List (Row × Row)} {r : Row} : (lkG (bs.map kZ) (Sum.inr (mkS r) : Key)).isSome = decide (r ∈ bs.map (·.1)) := by
  induction bs with
  | nil => rfl
  | cons q bs ih =>
    unfold lkG at ih ⊢
    rw [List.map_cons, List.find?_cons]
    by_cases h : q.1 = r
    · have : decide ((kZ q).1 = (Sum.inr (mkS r) : Key)) = true := decide_eq_true (by rw [← h]; rfl)
      rw [this]
      simp [h]
    · have : decide ((kZ q).1 = (Sum.inr (mkS r) : Key)) = false := decide_eq_false fun z => h (mkS_inj.mp (Sum.inr.inj z))
      rw [this]
      have h' : ¬ r = q.1 := fun z => h z.symm
      refine Eq.trans ih ?_
      simp only [List.map_cons, List.mem_cons, h', false_or]
theorem putZ {bs : List (Row × Row)} {r t : Row} (h : r ∉ bs.map (·.1)) : putG (bs.map kZ) (Sum.inr (mkS r) : Key) (zD t) = (bs ++ [(r, t)]).map kZ := by
  unfold putG
  rw [if_neg]
  · rw [List.map_append]
    rfl
  · intro e
    rw [List.any_eq_true] at e
    obtain ⟨x, hx, e⟩ := e
    obtain ⟨q, hq, rfl⟩ := List.mem_map.mp hx
    have e := of_decide_eq_true e
    exact h (List.mem_map.mpr ⟨q, hq, mkS_inj.mp (Sum.inr.inj e)⟩)
section
variable {P : Program} {w : World} {K : PySem.W.Frag} {mg : Str → Option Value} {base' : Heap} {a : Ad}
theorem ok_law_least_double (T : Tx K mg a) : FnOk P w K mg base' CX0 1 a.f17 a.d17 ["rows"] (spDb K) := by
  refine fnI T.F_law_least_double sc_law_least_double (fun x => ⟨rfl, by decide⟩) fun cdv A outer s H E hr => ⟨_, (pss_cons (ps_set (i := 1) sc_law_least_double.nd rfl (Or.inl rfl) pe_dnewK) (pss_cons (ps_set (i := 2) sc_law_least_double.nd rfl (Or.inl rfl) (pe_lst pa_nil)) (pss_cons (ps_for PassesOwn.never rfl (kANY K rfl (pv 0)) (pg_name (i := 3) sc_law_least_double.nd rfl (Or.inr rfl)) (pss_one (ps_set (i := 2) sc_law_least_double.nd rfl (Or.inl rfl) (pe_op (kADD K rfl) (pv 2) (pe_lc (own := [("other", 8)]) (g := gName 8) (by rfl) sc_law_least_double.nd (kANY K rfl (pv 0)) (blkOk_by (own := [("other", 8)]) (N := ["rows", "best", "front", "one", "size", "text", "rest", "row", "other", "each"]) (sc := defScope s_law_least_double) (by decide +kernel)) (fun _ _ _ _ _ => (pg_name (i := 8) sc_law_least_double.nd rfl (by first | exact Or.inl rfl | exact Or.inr rfl))) (fun _ _ _ _ _ => (pts_one (PW.pt (pw_and (pt_cmpR (kNE K rfl hr.units) (pv 8) (pv 3) (nomark _)) (pw_and1 (pt_cmpR (kEQ K rfl hr.units) (pe_slice (kSLC K rfl) (pv 8) po_none (po_some (pe_callB (kLEN K rfl) (by rfl) T.z_len (by decide +kernel) (pa_cons (pv 3) pa_nil)))) (pv 3) (nomark _))))))) (fun _ _ _ _ _ => (pe_tup (pa_cons (pe_callB (kLEN K rfl) (by rfl) T.z_len (by decide +kernel) (pa_cons (pv 8) pa_nil)) (pa_cons (pv 8) (pa_cons (pe_slice (kSLC K rfl) (pv 8) (po_some (pe_callB (kLEN K rfl) (by rfl) T.z_len (by decide +kernel) (pa_cons (pv 3) pa_nil))) po_none) pa_nil)))))))))) (pss_cons (ps_while PassesOwn.never (pt_cmpR (kNE K rfl hr.units) (pv 2) (pe_lst pa_nil) (nomark _)) (pss_cons (ps_asg (pe_callB (kMIND K rfl rfl (hu65 hr)) (by rfl) T.z_min (by decide +kernel) (pa_cons (pv 2) pa_nil)) (kTG K rfl rfl (pgs_cons (pg_name (i := 4) sc_law_least_double.nd rfl (Or.inr rfl)) (pgs_cons (pg_name (i := 5) sc_law_least_double.nd rfl (Or.inr rfl)) (pgs_cons (pg_name (i := 6) sc_law_least_double.nd rfl (Or.inr rfl)) pgs_nil))))) (pss_cons (ps_setLc (i := 2) (own := [("each", 9)]) (g := gName 9) (by rfl) sc_law_least_double.nd rfl rfl (sw_true rfl rfl rfl (by decide +kernel)) (kANY K rfl (pv 2)) (blkOk_by (own := [("each", 9)]) (N := ["rows", "best", "front", "one", "size", "text", "rest", "row", "other", "each"]) (sc := defScope s_law_least_double) (by decide +kernel)) (fun _ _ _ _ _ => (pg_name (i := 9) sc_law_least_double.nd rfl (by first | exact Or.inl rfl | exact Or.inr rfl))) (fun _ _ _ _ _ => (pts_one (pt_cmpR (kNE K rfl hr.units) (pv 9) (pe_tup (pa_cons (pv 4) (pa_cons (pv 5) (pa_cons (pv 6) pa_nil)))) (nomark _)))) (fun _ _ _ _ _ => (pv 9))) (pss_cons (ps_if (pt_cmpR (kEQ K rfl hr.units) (pv 6) (pe_strM [] rfl) (nomark _)) (pss_one (ps_ret (pv 5))) pss_nil) (pss_one (ps_if (pt_cmp (pc_dnotin (hu_of hr) (pv 6) (pv 1)) rfl) (pss_cons (ps_dput (hu_of hr) (pv 1) (pv 6) (pv 5) rfl) (pss_one (ps_for PassesOwn.never rfl (kANY K rfl (pv 0)) (pg_name (i := 7) sc_law_least_double.nd rfl (Or.inl rfl)) (pss_one (ps_if (pt_cmpR (kEQ K rfl hr.units) (pe_slice (kSLC K rfl) (pv 6) po_none (po_some (pe_callB (kLEN K rfl) (by rfl) T.z_len (by decide +kernel) (pa_cons (pv 7) pa_nil)))) (pv 7) (nomark _)) (pss_one (ps_expr (kBM K rfl (pe_bm PySem.F.plainAttrs_list PySem.F.slot_list_append PySem.F.type_list_append mt_append (pv 2) (pa_cons (pe_tup (pa_cons (pv 4) (pa_cons (pv 5) (pa_cons (pe_slice (kSLC K rfl) (pv 6) (po_some (pe_callB (kLEN K rfl) (by rfl) T.z_len (by decide +kernel) (pa_cons (pv 7) pa_nil))) po_none) pa_nil)))) pa_nil))))) (pss_one (ps_if (pt_cmpR (kEQ K rfl hr.units) (pe_slice (kSLC K rfl) (pv 7) po_none (po_some (pe_callB (kLEN K rfl) (by rfl) T.z_len (by decide +kernel) (pa_cons (pv 6) pa_nil)))) (pv 6) (nomark _)) (pss_one (ps_expr (kBM K rfl (pe_bm PySem.F.plainAttrs_list PySem.F.slot_list_append PySem.F.type_list_append mt_append (pv 2) (pa_cons (pe_tup (pa_cons (pe_op op_sub (pe_op (kADD K rfl) (pv 4) (pe_callB (kLEN K rfl) (by rfl) T.z_len (by decide +kernel) (pa_cons (pv 7) pa_nil))) (pe_callB (kLEN K rfl) (by rfl) T.z_len (by decide +kernel) (pa_cons (pv 6) pa_nil))) (pa_cons (pe_op (kADD K rfl) (pv 5) (pe_slice (kSLC K rfl) (pv 7) (po_some (pe_callB (kLEN K rfl) (by rfl) T.z_len (by decide +kernel) (pa_cons (pv 6) pa_nil))) po_none)) (pa_cons (pe_slice (kSLC K rfl) (pv 7) (po_some (pe_callB (kLEN K rfl) (by rfl) T.z_len (by decide +kernel) (pa_cons (pv 6) pa_nil))) po_none) pa_nil)))) pa_nil))))) pss_nil))))))) pss_nil)))))) (pss_one (ps_ret pe_non)))))), ?_⟩
  rintro ⟨z, rows⟩ ⟨hz, R⟩ B
  dsimp only [argM] at *
  have R5 := R.l5
  have hU := uni_len R
  refine ds_seq' ?_
  walk_at "gs"
  refine ds_seq' ?_
  walk_at "gs"
  refine ds_mid' (fun G => ∃ s3 s4 s5 s6 s7 s8 s9, G = [.d (lD rows), .k none [], .o none ((pairs rows).map eD), s3, s4, s5, s6, s7, s8, s9]) ?_ ?_
  · refine ds_forE' (ch := [3]) ?_
    refine di_anyL (di_list ?_)
    walk_at "gs"
    refine ⟨fun i G => ∃ s3 s4 s5 s6 s7 s8 s9, G = [.d (lD rows), .k none [], .o none (((rows.take i).flatMap fun one => (prs rows one).map fun o => (o, o.drop one.length)).map eD), s3, s4, s5, s6, s7, s8, s9], ⟨_, _, _, _, _, _, _, rfl⟩, fun i G2 d hd ⟨s3, s4, s5, s6, s7, s8, s9, hG⟩ => ?_, fun G2 ⟨s3, s4, s5, s6, s7, s8, s9, hG⟩ => ?_⟩
    · subst hG
      rw [List.getElem?_map] at hd
      obtain ⟨v, hv, rfl⟩ := Option.map_eq_some_iff.mp hd
      have hvl := R.len v (List.mem_of_getElem? hv)
      have hb := pairs_part R i
      refine dg_name ?_
      walk_at "gs"
      refine dw_lcF rows zD (fun o => decide (o ≠ v) && decide (o.take v.length = v)) (fun o => eD (o, o.drop v.length)) ?_
      refine di_anyL (di_list ?_)
      walk_at "gs"
      refine ⟨szl (by omega), fun B' o ho => ?_, ?_⟩
      · have hol := R.len o ho
        walk_at "gs"
        refine ite_k (fun c => ?_) (fun c => ?_)
        · have c : o ≠ v := by simpa using c
          walk_at "gs"
          refine rn_lenZ (by omega) ?_
          walk_at "gs"
          refine rs_to (by omega) ?_
          walk_at "gs"
          refine ⟨by simp [c], rfl, fun _ => ?_⟩
          walk_at "gs"
          refine rn_lenZ (by omega) ?_
          walk_at "gs"
          refine rn_lenZ (by omega) ?_
          walk_at "gs"
          refine rs_from (by omega) ?_
          walk_at "gs"
        · have c : o = v := by simpa using c
          walk_at "gs"
          exact ⟨by simp [c], rfl, fun h => by simp [c] at h⟩
      · walk_at "gs"
        refine rw_addL rfl rfl (szl (by
          rw [List.length_map, List.length_map]
          exact Nat.le_trans (Nat.add_le_add hb (List.length_filter_le _ _)) (by omega))) ?_
        walk_at "gs"
        refine ⟨.d (zD v), s4, s5, s6, s7, .un, s9, ?_⟩
        rw [pairs_take hv, List.map_append, List.map_map]
        rfl
    · subst hG
      rw [List.length_map, List.take_length]
      exact ⟨_, _, _, _, _, _, _, rfl⟩
  · rintro G1 ⟨s3, s4, s5, s6, s7, s8, s9, rfl⟩
    refine ds_mid' (fun G => dbl rows = none) ?_ ?_
    · refine ds_while' (fun m G => ∃ (bs left : List (Row × Row)) (s3 s4 s5 s6 s7 s8 s9 : Sl), m = (66 - bs.length) * 6 + left.length ∧ SI rows bs (· ∈ left) ∧ (bs.map (·.1)).Nodup ∧ (∀ p ∈ left, EOk rows (sumL bs) p) ∧ left.length ≤ 25 + 6 * bs.length ∧ G = [.d (lD rows), .k none (bs.map kZ), .o none (left.map eD), s3, s4, s5, s6, s7, s8, s9]) _ ⟨[], pairs rows, s3, s4, s5, s6, s7, s8, s9, rfl, si_start, .nil, fun p h => eok_pairs R hz h, by have := pairs_part R rows.length; rw [List.take_length] at this; exact this, rfl⟩ ?_
      rintro m G1 ⟨bs, left, s3, s4, s5, s6, s7, s8, s9, rfl, S, hn, hE, hl, rfl⟩
      have hbu : ∀ r ∈ bs.map (·.1), r ∈ uni rows := fun r hr => by
        obtain ⟨b, hb⟩ := mem_fst.mp hr
        exact (rc_cl (S.p2 r b hb).2.1).uni
      have hbl : bs.length ≤ 65 := by
        have := hn.length_le_of_subset hbu
        rw [List.length_map] at this
        omega
      have hES : ∀ p ∈ left, Shp 2 (eD p) := fun p hp => shp_eD (hE p hp).lt (uni_small R hz (hE p hp).un).2
      walk_at "gs"
      refine rw_neNil rfl (fun x hx => by
        obtain ⟨p, hp, rfl⟩ := List.mem_map.mp hx
        exact shp_mono (hES p hp) (by decide)) ?_
      walk_at "gs"
      refine ite_k (fun c => ?_) (fun c => ?_)
      · cases left with
        | nil => cases c
        | cons p0 left =>
        clear c
        refine ds_seq' ?_
        refine ds_asg (cs := [4, 5, 6]) ?_
        walk_at "gs"
        refine rn_minD (d := eD p0) (ds := left.map eD) rfl ⟨fun x hx y hy => ?_, fun x hx => ?_⟩ ?_ ?_
        · obtain ⟨p, _, rfl⟩ := List.mem_map.mp (show x ∈ (p0 :: left).map eD from hx)
          obtain ⟨q, _, rfl⟩ := List.mem_map.mp (show y ∈ (p0 :: left).map eD from hy)
          exact alike_eD p q
        · obtain ⟨p, _, rfl⟩ := List.mem_map.mp (show x ∈ (p0 :: left).map eD from hx)
          exact fun z => nomatch z
        · have : PyData.depthAll ((p0 :: left).map eD) ≤ 2 := (shp_all (n := 2) fun x hx => by
            obtain ⟨p, hp, rfl⟩ := List.mem_map.mp hx
            exact hES p hp).2
          have this : PyData.depthAll (eD p0 :: left.map eD) ≤ 2 := this
          omega
        obtain ⟨m1, m2⟩ := minD_spec (left.map eD) (eD p0)
        obtain ⟨⟨t, r⟩, hpm, em⟩ := List.mem_map.mp (show _ ∈ (p0 :: left).map eD from m1)
        rw [← em] at m2 ⊢
        clear em m1
        generalize hL0 : p0 :: left = L0 at *
        have hmin : ∀ t' r', (t', r') ∈ L0 → kle t t' := fun t' r' h => lt_eD (p := (t, r)) (q := (t', r')) (m2 _ (by
          have : eD (t', r') ∈ L0.map eD := List.mem_map.mpr ⟨_, h, rfl⟩
          rw [← hL0] at this
          exact this))
        have he := hE _ hpm
        obtain ⟨hrl, hrt⟩ := uni_small R hz he.un
        have hrl : r.length ≤ 12 := hrl
        have hsum := sumL_le R hn hbu
        have htl : t.length ≤ 12 + sumL bs + r.length := he.len
        walk_at "gs"
        refine dg_tup rfl (dgs_cons (c := [4]) (cs := [5, 6]) (dg_name (dgs_cons (c := [5]) (cs := [6]) (dg_name (dgs_cons (c := [6]) (cs := []) (dg_name (dgs_nil ?_)))))))
        refine ds_freeze 2 rfl ?_
        refine ds_seq' ?_
        walk_at "gs"
        refine dw_lcF L0 eD (fun p => decide (p ≠ (t, r))) eD ?_
        refine di_anyL (di_list ?_)
        walk_at "gs"
        refine ⟨szl (by omega), fun B' p hp => ?_, ?_⟩
        · walk_at "gs"
          refine rw_neD rfl rfl (shp_ok (hES p hp) (by decide)) (shp_ok (hES (t, r) hpm) (by decide)) ?_
          rw [show PyData.eqv (eD p) (PyData.tuple [nD t.length, zD t, zD r]) = decide (p = (t, r)) from eqv_eD p (t, r)]
          walk_at "gs"
          refine ⟨by simp, rfl, fun _ => ?_⟩
          walk_at "gs"
        · have hL : ∀ q, q ∈ L0.filter (fun p => decide (p ≠ (t, r))) ↔ q ∈ L0 ∧ q ≠ (t, r) := fun q => by simp [List.mem_filter]
          have hLl : (L0.filter (fun p => decide (p ≠ (t, r)))).length < L0.length := by
            refine Nat.lt_of_le_of_ne (List.length_filter_le _ _) fun z => ?_
            have := List.length_filter_eq_length_iff.mp z (t, r) hpm
            simp at this
          generalize L0.filter (fun p => decide (p ≠ (t, r))) = L at hL hLl
          have hLm : ∀ q ∈ L, q ∈ L0 := fun q hq => ((hL q).mp hq).1
          have hLc : ∀ q ∈ L0, q = (t, r) ∨ q ∈ L := fun q hq => by
            by_cases e : q = (t, r)
            · exact .inl e
            · exact .inr ((hL q).mpr ⟨hq, e⟩)
          refine asn_fr (nx_nxt ?_)
          refine ds_seq' ?_
          walk_at "gs"
          refine ite_k (fun c => ?_) (fun c => ?_)
          · have c : r = [] := by simpa using c
            subst c
            walk_at "gs"
            rw [dbl_some (S.found hpm hmin)]
            refine ⟨rfl, fun t' e => ?_⟩
            cases e
            exact ⟨by have : ([] : Row).length = 0 := rfl
                      omega, he.lt⟩
          · have c : r ≠ [] := by simpa using c
            walk_at "gs"
            refine ⟨1, none, Sum.inr (mkS r), bs.map kZ, rfl, rfl, rfl, ?_⟩
            rw [lkZ]
            walk_at "gs"
            refine ite_k (fun c2 => ?_) (fun c2 => ?_)
            · have c2 : r ∉ bs.map (·.1) := by simpa using c2
              have hnb : ∀ b, (r, b) ∉ bs := fun b h => c2 (mem_fst.mpr ⟨b, h⟩)
              refine ds_seq' ?_
              walk_at "gs"
              refine ⟨1, none, Sum.inr (mkS r), bs.map kZ, zD t, rfl, rfl, rfl, rfl, szlt (by rw [List.length_map]; omega), ?_⟩
              rw [putZ c2]
              have hn' : ((bs ++ [(r, t)]).map (·.1)).Nodup := by
                rw [List.map_append]
                exact List.nodup_append.mpr ⟨hn, by simp, fun x hx y hy e => c2 ((e.trans (by simpa using hy)) ▸ hx)⟩
              walk_at "gs"
              refine ds_forE' (ch := [7]) ?_
              refine di_anyL (di_list ?_)
              walk_at "gs"
              refine ⟨fun i G => ∃ s7, G = [.d (lD rows), .k none ((bs ++ [(r, t)]).map kZ), .o none ((L ++ succT rows t r i).map eD), s3, .d (nD t.length), .d (zD t), .d (zD r), s7, s8, .un], ⟨s7, ?_⟩, fun i G2 d hd ⟨s7, hG⟩ => ?_, fun G2 ⟨s7, hG⟩ => ?_⟩
              · rw [show succT rows t r 0 = [] from rfl, List.append_nil]
                rfl
              · subst hG
                rw [List.getElem?_map] at hd
                obtain ⟨v, hv, rfl⟩ := Option.map_eq_some_iff.mp hd
                have hvl := R.len v (List.mem_of_getElem? hv)
                have hsl := succT_len R t r i
                refine dg_name ?_
                walk_at "gs"
                refine rn_lenZ (by omega) ?_
                walk_at "gs"
                refine rs_to (by omega) ?_
                walk_at "gs"
                refine ite_k (fun c3 => ?_) (fun c3 => ?_)
                · have c3 := of_decide_eq_true c3
                  walk_at "gs"
                  refine rn_lenZ (by omega) ?_
                  walk_at "gs"
                  refine rs_from (by omega) ?_
                  walk_at "gs"
                  refine rm_app rfl (szlt (by rw [List.length_map, List.length_append]; omega)) ?_
                  walk_at "gs"
                  refine ⟨.d (zD v), ?_⟩
                  have e6 : (L ++ succT rows t r (i + 1)).map eD = (L ++ succT rows t r i).map eD ++ [eD (t, r.drop v.length)] := by
                    rw [succT_step hv, if_pos c3, ← List.append_assoc, List.map_append]
                    rfl
                  rw [e6]
                  rfl
                · have c3 := of_decide_eq_false c3
                  walk_at "gs"
                  refine rn_lenZ (by omega) ?_
                  walk_at "gs"
                  refine rs_to (by omega) ?_
                  walk_at "gs"
                  refine ite_k (fun c4 => ?_) (fun c4 => ?_)
                  · have c4 := of_decide_eq_true c4
                    have hdl : (v.drop r.length).length ≤ 12 := by rw [List.length_drop]; omega
                    have hvr : r.length ≤ v.length := by
                      have := congrArg List.length c4
                      rw [List.length_take] at this
                      omega
                    walk_at "gs"
                    refine rn_lenZ (by omega) ?_
                    walk_at "gs"
                    refine rn_lenZ (by omega) ?_
                    walk_at "gs"
                    refine rn_lenZ (by omega) ?_
                    walk_at "gs"
                    refine rs_from (by omega) ?_
                    walk_at "gs"
                    refine rw_addZ (by omega) ?_
                    walk_at "gs"
                    refine rn_lenZ (by omega) ?_
                    walk_at "gs"
                    refine rs_from (by omega) ?_
                    walk_at "gs"
                    refine rm_app rfl (szlt (by rw [List.length_map, List.length_append]; omega)) ?_
                    walk_at "gs"
                    refine ⟨.d (zD v), ?_⟩
                    have e5 : (nD (t ++ v.drop r.length).length) = PyData.int ((t.length : Int) + (v.length : Int) - (r.length : Int)) := by
                      rw [List.length_append, List.length_drop]
                      show PyData.int _ = PyData.int _
                      congr 1
                      omega
                    have e6 : (L ++ succT rows t r (i + 1)).map eD = (L ++ succT rows t r i).map eD ++ [.tuple [.int ((t.length : Int) + (v.length : Int) - (r.length : Int)), zD (t ++ v.drop r.length), zD (v.drop r.length)]] := by
                      rw [succT_step hv, if_neg c3, if_pos c4, ← List.append_assoc, List.map_append, ← e5]
                      rfl
                    rw [e6]
                    rfl
                  · have c4 := of_decide_eq_false c4
                    walk_at "gs"
                    refine ⟨.d (zD v), ?_⟩
                    have e6 : succT rows t r (i + 1) = succT rows t r i := by
                      rw [succT_step hv, if_neg c3, if_neg c4, List.append_nil]
                    rw [e6]
                    rfl
              · subst hG
                rw [List.length_map, succT_all R5]
                walk_at "gs"
                have hsl : (succs rows t r).length ≤ 5 := by
                  have := succT_len R t r rows.length
                  rw [succT_all R5] at this
                  exact this
                refine ⟨_, ?_, bs ++ [(r, t)], L ++ succs rows t r, _, _, _, _, _, _, _, rfl, ?_, hn', fun p hp => ?_, ?_, rfl⟩
                · simp only [List.length_append, List.length_singleton]
                  omega
                · exact S.new hpm hmin c hnb (fun p hp => (hLc p hp).imp id fun q => List.mem_append_left _ q) (fun p hp => List.mem_append_right _ hp) (fun p hp => (List.mem_append.mp hp).imp (hLm p) id)
                · rw [sumL_app]
                  rcases List.mem_append.mp hp with q | q
                  · exact (hE p (hLm p q)).mono (Nat.le_add_right _ _)
                  · exact eok_succ R hz q he
                · simp only [List.length_append, List.length_singleton]
                  omega
            · have c2 : r ∈ bs.map (·.1) := by simpa using c2
              obtain ⟨b, hb⟩ := mem_fst.mp c2
              walk_at "gs"
              refine ⟨_, ?_, bs, L, _, _, _, _, _, _, _, rfl, S.old hpm hb (fun p hp => hLc p hp) (fun p hp => hLm p hp), hn, fun p hp => hE p (hLm p hp), by omega, rfl⟩
              omega
      · have hne : left = [] := by
          cases left with
          | nil => rfl
          | cons _ _ => cases c
        subst hne
        walk_at "gs"
        exact dbl_none (S.none fun p h => (nomatch h))
    · rintro G1 hd
      walk_at "gs"
      rw [hd]
      exact ⟨rfl, fun t e => (nomatch e)⟩
end
end K65
namespace K65
open PySem PySem.Spec PyProof.Rows L2 DL
local macro_rules | `(tactic| walk_at "st") => `(tactic| with_reducible first
  | refine pw_p ?_ | refine pw_o ?_ | refine dw_op ?_ | refine dw_un ?_ | refine dw_int ?_ | refine dw_str ?_ | refine dw_bl ?_ | refine dw_non ?_ | refine dw_ty ?_ | refine da_nil' ?_ | refine da_cons' ?_ | refine dw_sortSetT ?_ | refine dw_CB ?_ | refine dw_BM ?_ | refine dw_BM0 ?_
  | refine dw_tup ?_ | refine dw_lst ?_ | refine dw_notV ?_ | refine dw_and ?_ | refine dw_or ?_ | refine dw_if ?_ | refine dw_chain ?_ | refine dw_sl3 ?_ | refine dw_revT ?_ | refine dw_tupRg1 ?_ | refine dw_lstRg1 ?_ | refine dw_callI ?_ | refine dw_callJ ?_
  | refine dt_test ?_ | refine dt_B ?_ | refine dt_and ?_ | refine dt_or ?_ | refine dt_not ?_ | refine dt_yes ?_ | refine dt_truth ?_
  | refine ds_ret ?_ | refine ds_retN ?_ | refine ds_next ?_ | refine ds_break ?_ | refine ds_cont ?_ | refine ds_drop ?_ | refine ds_if ?_ | refine ds_set ?_
  | refine nx_nxt ?_ | refine rt_nxt ?_ | refine bk_nxt ?_ | refine ct_nxt ?_ | refine nx_lp ?_ | refine rt_lp ?_ | refine bk_lp ?_ | refine ct_lp ?_ | refine asn_d ?_ | refine asn_fr ?_ | refine rt_E0 ?_ | refine rt_E0o ?_ | refine nx_E0 ?_
  | refine dw_newK ?_ | refine dw_dInK ?_ | refine dw_dNotInK ?_ | refine dw_dGetK ?_ | refine ds_dPutK ?_ | refine dw_callH ?_
  | refine tr_b ?_ | refine tr_i ?_ | refine tr_n ?_ | refine tr_T ?_ | refine tr_L ?_
  | refine do_none ?_ | refine do_some ?_ | refine ite_t ?_ | refine ite_f ?_
  | refine rw_addI ?_ | refine rw_sub ?_ | refine rw_cmp ?_ | refine rw_eqI ?_ | refine rw_neI ?_ | refine rw_eqZ ?_ | refine rw_neZ ?_ | refine rw_eqS ?_ | refine rw_neS ?_ | refine rw_eqB ?_ | refine rw_neB ?_ | refine isN_d ?_ | refine notN_d ?_ | refine rw_isB ?_ | refine rw_notB ?_
  | refine rn_intI ?_ | refine rn_intB ?_ | refine rn_max ?_ | refine rn_min ?_ | refine rn_lenT ?_ | refine rn_lenD ?_ | refine rm_sw ?_ | refine isi_int ?_ | refine isi_bool ?_ | refine isi_str ?_ | refine isi_tuple ?_ | refine isi_list ?_ | refine rn_tupT ?_ | refine rn_listT ?_
  | refine ⟨_, rfl, ?_⟩
  | fail)
local macro_rules | `(tactic| walk_at "va") => `(tactic| first
  | ((with_reducible apply dw_var); rfl) | ((with_reducible apply dw_sl); rfl) | ((with_reducible apply dw_slK); rfl)
  | ((with_reducible apply rw_ixL); rfl; rfl) | ((with_reducible apply rw_ixT); rfl)
  | ((with_reducible apply ite_T); rfl) | ((with_reducible apply ite_F); rfl) | ((with_reducible apply tr_o); rfl)
  | refine ⟨_, rfl, szl (Nat.le_of_ble_eq_true rfl), ?_⟩
  | (with_reducible refine rw_mod (by omega) ?_)
  | (with_reducible refine rw_fdiv (by unfold CDiv; omega) ?_)
  | (with_reducible refine rw_mul (by unfold CMul; omega) ?_)
  | refine ⟨szl (Nat.le_of_ble_eq_true rfl), ?_⟩
  | refine ⟨⟨rfl, _, _, rfl⟩, ?_⟩
  | refine ⟨rfl, ?_⟩
  | rfl
  | fail)
local macro_rules | `(tactic| walk_at "go") => `(tactic| repeat' (first | walk_at "st" | (with_reducible refine ds_seq' ?_) | walk_at "va" | fail))
local macro_rules | `(tactic| walk_at "gs") => `(tactic| repeat' (first | walk_at "st" | walk_at "va" | fail))
/-! ways at places -/
def LW (rows : List Row) (t : Row) (n p : Nat) : List (List Nat) := (ways rows (t.drop p)).take n
abbrev wL (l : List (List Nat)) : PyData := .list (l.map wD)
def kW (rows : List Row) (t : Row) (n p : Nat) : Key × PyData := (Sum.inl (p : Int), wL (LW rows t n p))
theorem lkW {rows : List Row} {t : Row} {n p : Nat} : ∀ {ps : List Nat}, p ∈ ps → lkG (ps.map (kW rows t n)) (Sum.inl (p : Int) : Key) = some (wL (LW rows t n p))
  | x :: ps, h => by
    unfold lkG
    rw [List.map_cons, List.find?_cons]
    by_cases e : x = p
    · have : decide ((kW rows t n x).1 = (Sum.inl (p : Int) : Key)) = true := decide_eq_true (by rw [e]; rfl)
      rw [this, e]
      rfl
    · have : decide ((kW rows t n x).1 = (Sum.inl (p : Int) : Key)) = false := decide_eq_false fun z => e (by
        have := Sum.inl.inj z
        omega)
      rw [this]
      rcases List.mem_cons.mp h with h | h
      · exact absurd h.symm e
      · exact lkW h
theorem lkW_is {rows : List Row} {t : Row} {n p : Nat} : ∀ {ps : List Nat}, (lkG (ps.map (kW rows t n)) (Sum.inl (p : Int) : Key)).isSome = decide (p ∈ ps)
  | [] => rfl
  | x :: ps => by
    by_cases h : p ∈ x :: ps
    · rw [lkW h, decide_eq_true h]
      rfl
    · unfold lkG
      rw [List.map_cons, List.find?_cons]
      have e : x ≠ p := fun z => h (by rw [z]; exact List.mem_cons_self)
      have : decide ((kW rows t n x).1 = (Sum.inl (p : Int) : Key)) = false := decide_eq_false fun z => e (by
        have := Sum.inl.inj z
        omega)
      rw [this, decide_eq_false h]
      have h2 := lkW_is (rows := rows) (t := t) (n := n) (p := p) (ps := ps)
      rw [decide_eq_false fun z => h (List.mem_cons_of_mem _ z)] at h2
      exact h2
theorem putW {rows : List Row} {t : Row} {n p : Nat} {ps : List Nat} (h : p ∉ ps) : putG (ps.map (kW rows t n)) (Sum.inl (p : Int) : Key) (wL (LW rows t n p)) = (ps ++ [p]).map (kW rows t n) := by
  unfold putG
  rw [if_neg]
  · rw [List.map_append]
    rfl
  · intro e
    rw [List.any_eq_true] at e
    obtain ⟨x, hx, e⟩ := e
    obtain ⟨q, hq, rfl⟩ := List.mem_map.mp hx
    have e := Sum.inl.inj (of_decide_eq_true e)
    have : q = p := by omega
    exact h (this ▸ hq)
theorem flat_len {rows : List Row} (hn : NE rows) : ∀ {way : List Nat}, (∀ k ∈ way, k < rows.length) → way.length ≤ (flat rows way).length
  | [], _ => by simp
  | k :: way, h => by
    rw [flat_cons, List.length_append, List.length_cons]
    have := hn.at (h k List.mem_cons_self)
    have := flat_len hn (way := way) fun j hj => h j (List.mem_cons_of_mem _ hj)
    omega
theorem way_len {rows : List Row} (hn : NE rows) {t : Row} {way : List Nat} (h : way ∈ ways rows t) : way.length ≤ t.length := by
  obtain ⟨h1, h2⟩ := (mem_ways hn _ t (Nat.le_refl _) way).mp h
  have := flat_len hn h1
  rwa [h2] at this
/-- the ways from the first rows on -/
def wayPart (rows : List Row) (t : Row) (g : Row → List (List Nat)) (i : Nat) : List (List Nat) := (List.range i).flatMap fun k => if t.take (rows[k]?.getD []).length = rows[k]?.getD [] then (g (t.drop (rows[k]?.getD []).length)).map (k :: ·) else []
theorem wayPart_succ {rows : List Row} {t : Row} {g : Row → List (List Nat)} {i : Nat} {v : Row} (hv : rows[i]? = some v) : wayPart rows t g (i + 1) = wayPart rows t g i ++ (if t.take v.length = v then (g (t.drop v.length)).map (i :: ·) else []) := by
  unfold wayPart
  rw [List.range_succ, List.flatMap_append, List.flatMap_singleton, hv]
  rfl
theorem wayPart_all (rows : List Row) (t : Row) (g : Row → List (List Nat)) : wayPart rows t g rows.length = wayStep rows t g := rfl
theorem wayPart_len {rows : List Row} {t : Row} {n : Nat} {i : Nat} : (wayPart rows t (fun x => (ways rows x).take n) i).length ≤ i * n := by
  have h := sum_len_le2 (fun k => if t.take (rows[k]?.getD []).length = rows[k]?.getD [] then ((ways rows (t.drop (rows[k]?.getD []).length)).take n).map (k :: ·) else []) n (l := List.range i) fun x _ => by
    split
    · rw [List.length_map, List.length_take]
      omega
    · simp
  rw [List.length_range] at h
  exact h
section
variable {P : Program} {w : World} {K : PySem.W.Frag} {mg : Str → Option Value} {base' : Heap} {a : Ad}
def preT2 (x : List Nat × List Row × Row) : Prop := x.1 ∈ sigs ∧ RowsOk x.1 x.2.1 ∧ x.2.2.length ≤ 1000
abbrev spRd (K : PySem.W.Frag) := spI K argT preT2 (fun x r => r = .p (.d (wL ((ways x.2.1 x.2.2).take 2))))
theorem ok_readings (T : Tx K mg a) : FnOk P w K mg base' CX0 1 a.f4 a.d4 ["rows", "text"] (spRd K) := by
  refine fnI T.F_readings sc_readings (fun x => ⟨rfl, by decide⟩) fun cdv A outer s H E hr => ⟨_, (pss_cons (ps_set (i := 2) sc_readings.nd rfl (Or.inl rfl) (pe_disp (pps_cons (pe_callB (kLEN K rfl) (by rfl) T.z_len (by decide +kernel) (pa_cons (pv 1) pa_nil)) (pe_lst (pa_cons (pe_tup pa_nil) pa_nil)) pps_nil) (by rfl) (by rfl) (by simp) (by decide))) (pss_cons (ps_for PassesOwn.never rfl (pi_revR (by rfl) T.z_reversed (prg_1 (by rfl) T.z_range (pe_callB (kLEN K rfl) (by rfl) T.z_len (by decide +kernel) (pa_cons (pv 1) pa_nil)))) (pg_name (i := 3) sc_readings.nd rfl (Or.inl rfl)) (pss_cons (ps_set (i := 4) sc_readings.nd rfl (Or.inl rfl) (pe_lst pa_nil)) (pss_cons (ps_for PassesOwn.never rfl (kENUM K rfl (by rfl) T.z_enumerate (pa_cons (pv 0) pa_nil)) (kTG K rfl rfl (pgs_cons (pg_name (i := 5) sc_readings.nd rfl (Or.inr rfl)) (pgs_cons (pg_name (i := 6) sc_readings.nd rfl (Or.inl rfl)) pgs_nil))) (pss_one (ps_if (kTRUTH K rfl (kBM K rfl (pe_bm PySem.F.plainAttrs_str PySem.F.slot_str_startswith PySem.F.type_str_startswith mt_startswith3 (pv 1) (pa_cons (pv 6) (pa_cons (pv 3) pa_nil)))) (by intro _; rfl)) (pss_one (ps_expr (kBM K rfl (pe_bm PySem.F.plainAttrs_list PySem.F.slot_list_extend PySem.F.type_list_extend mt_extend (pv 4) (pa_cons (pe_lc (own := [("way", 7)]) (g := gName 7) (by rfl) sc_readings.nd (kANY K rfl (pe_dget (hu_of hr) (pv 2) (pe_op (kADD K rfl) (pv 3) (pe_callB (kLEN K rfl) (by rfl) T.z_len (by decide +kernel) (pa_cons (pv 6) pa_nil))) (fun _ _ => rfl))) (blkOk_by (own := [("way", 7)]) (N := ["rows", "text", "found", "place", "ways", "number", "row", "way"]) (sc := defScope s_readings) (by decide +kernel)) (fun _ _ _ _ _ => (pg_name (i := 7) sc_readings.nd rfl (by first | exact Or.inl rfl | exact Or.inr rfl))) (fun _ _ _ _ _ => pts_nil) (fun _ _ _ _ _ => (pe_op (kADD K rfl) (pe_tup (pa_cons (pv 5) pa_nil)) (pv 7)))) pa_nil))))) pss_nil))) (pss_one (ps_dput (hu_of hr) (pv 2) (pv 3) (pe_slice (kSLC K rfl) (pe_callB (kSORTD K rfl (hu65 hr)) (by rfl) T.z_sorted (by decide +kernel) (pa_cons (pv 4) pa_nil)) po_none (po_some pe_int)) rfl))))) (pss_one (ps_ret (pe_dget (hu_of hr) (pv 2) pe_int (fun _ _ => rfl)))))), ?_⟩
  rintro ⟨z, rows, t⟩ ⟨hz, R, hl⟩ B
  dsimp only [argT] at *
  have hl : t.length ≤ 1000 := hl
  have R5 := R.l5
  refine ds_seq' ?_
  walk_at "gs"
  refine dw_disp1K fun B' => ?_
  walk_at "gs"
  refine rn_lenZ (by omega) ?_
  walk_at "gs"
  refine ⟨Sum.inl (t.length : Int), _, rfl, rfl, ?_⟩
  walk_at "gs"
  refine ds_mid' (fun G => ∃ s3 s4 s5 s6 s7, G = [.d (lD rows), .d (zD t), .k none (((List.range (t.length + 1)).map fun j => t.length - j).map (kW rows t 2)), s3, s4, s5, s6, s7]) ?_ ?_
  · refine ds_forE' (ch := [3]) ?_
    refine di_revR1 ?_
    walk_at "gs"
    refine rn_lenZ (by omega) ?_
    walk_at "gs"
    refine ⟨by omega, ?_⟩
    refine ⟨fun i G => ∃ s3 s4 s5 s6 s7, G = [.d (lD rows), .d (zD t), .k none (((List.range (i + 1)).map fun j => t.length - j).map (kW rows t 2)), s3, s4, s5, s6, s7], ⟨.un, .un, .un, .un, .un, ?_⟩, fun i G2 d hd ⟨s3, s4, s5, s6, s7, hG⟩ => ?_, fun G2 ⟨s3, s4, s5, s6, s7, hG⟩ => ?_⟩
    · have e : LW rows t 2 t.length = [[]] := by
        unfold LW
        rw [List.drop_length]
        rfl
      have e2 : (((List.range (0 + 1)).map fun j => t.length - j).map (kW rows t 2)) = [(Sum.inl (t.length : Int), wL [[]])] := by
        show [kW rows t 2 (t.length - 0)] = _
        rw [Nat.sub_zero]
        unfold kW
        rw [e]
      rw [e2]
      rfl
    · subst hG
      obtain ⟨hi, rfl⟩ := rngR_get hd
      have hp : ∀ q, t.length - i ≤ q → q ≤ t.length → q ∈ (List.range (i + 1)).map fun j => t.length - j := fun q h1 h2 => List.mem_map.mpr ⟨t.length - q, List.mem_range.mpr (by omega), by omega⟩
      have hpl : t.length - 1 - i < t.length := by omega
      have hnot : t.length - 1 - i ∉ (List.range (i + 1)).map fun j => t.length - j := fun h => by
        obtain ⟨j, hj, e⟩ := List.mem_map.mp h
        have := List.mem_range.mp hj
        omega
      have hps : ((List.range (i + 1)).map fun j => t.length - j) ++ [t.length - 1 - i] = (List.range (i + 1 + 1)).map fun j => t.length - j := by
        rw [List.range_succ (n := i + 1), List.map_append]
        have : t.length - 1 - i = t.length - (i + 1) := by omega
        rw [this]
        rfl
      have hpsl : ((List.range (i + 1)).map fun j => t.length - j).length = i + 1 := by rw [List.length_map, List.length_range]
      generalize t.length - 1 - i = p at hpl hnot hps ⊢
      have hq : ∀ q, p < q → q ≤ t.length → q ∈ (List.range (i + 1)).map fun j => t.length - j := fun q h1 h2 => by
        refine Classical.byContradiction fun h => ?_
        have h3 : q ∉ ((List.range (i + 1)).map fun j => t.length - j) := h
        have := hp q
        have h4 : ¬ (t.length - i ≤ q) := fun z => h (hp q z h2)
        have : p ∈ (List.range (i + 1 + 1)).map fun j => t.length - j := by rw [← hps]; simp
        obtain ⟨j, hj, e⟩ := List.mem_map.mp this
        have := List.mem_range.mp hj
        omega
      generalize ((List.range (i + 1)).map fun j => t.length - j) = ps at hnot hps hpsl hq ⊢
      refine dg_name ?_
      refine ds_seq' ?_
      walk_at "gs"
      have ht0 : t.drop p ≠ [] := fun e => by
        have := congrArg List.length e
        rw [List.length_drop] at this
        simp at this
        omega
      refine ds_mid' (fun G => ∃ s5 s6 s7, G = [.d (lD rows), .d (zD t), .k none (ps.map (kW rows t 2)), .d (nD p), .o none ((wayStep rows (t.drop p) fun x => (ways rows x).take 2).map wD), s5, s6, s7]) ?_ ?_
      · refine ds_forE' (ch := [5, 6]) ?_
        refine di_enumL ?_
        walk_at "gs"
        refine ⟨fun j G => ∃ s5 s6 s7, G = [.d (lD rows), .d (zD t), .k none (ps.map (kW rows t 2)), .d (nD p), .o none ((wayPart rows (t.drop p) (fun x => (ways rows x).take 2) j).map wD), s5, s6, s7], ⟨_, _, _, rfl⟩, fun j G2 d hd ⟨s5, s6, s7, hG⟩ => ?_, fun G2 ⟨s5, s6, s7, hG⟩ => ?_⟩
        · subst hG
          obtain ⟨x, hx, rfl⟩ := enD_get hd
          rw [List.getElem?_map] at hx
          obtain ⟨v, hv, rfl⟩ := Option.map_eq_some_iff.mp hx
          have hvm := List.mem_of_getElem? hv
          have hvl := R.len v hvm
          have hv1 : 1 ≤ v.length := by
            cases hve : v with
            | nil => exact absurd hve (R.ne v hvm)
            | cons _ _ => simp
          have hj : j < rows.length := (List.getElem?_eq_some_iff.mp hv).1
          have hwl := wayPart_len (rows := rows) (t := t.drop p) (n := 2) (i := j)
          refine dg_tup rfl (dgs_cons (c := [5]) (cs := [6]) (dg_name (dgs_cons (c := [6]) (cs := []) (dg_name (dgs_nil ?_)))))
          walk_at "gs"
          refine rm_sw3 (by omega) ?_
          walk_at "gs"
          refine ite_k (fun c => ?_) (fun c => ?_)
          · have c := of_decide_eq_true c
            have hle : p + v.length ≤ t.length := by
              have := congrArg List.length c
              rw [List.length_take, List.length_drop] at this
              omega
            walk_at "gs"
            refine dw_lcM (LW rows t 2 (p + v.length)) wD (fun way => wD (j :: way)) ?_
            refine di_anyL (di_list ?_)
            walk_at "gs"
            refine rn_lenZ (by omega) ?_
            walk_at "gs"
            have hLWl : (LW rows t 2 (p + v.length)).length ≤ 2 := by
              unfold LW
              rw [List.length_take]
              omega
            refine ⟨2, none, Sum.inl ((p + v.length : Nat) : Int), _, _, rfl, rfl, rfl, lkW (hq _ (by omega) hle), ?_⟩
            walk_at "gs"
            refine ⟨szl (by omega), fun B' way hw => ?_, ?_⟩
            · have hwa := way_len R.ne (List.mem_of_mem_take hw)
              rw [List.length_drop] at hwa
              walk_at "gs"
              refine rw_addT (szl (by rw [List.length_map]; simp; omega)) ?_
              walk_at "gs"
            · walk_at "gs"
              refine rm_ext rfl rfl (szl (by rw [List.length_map, List.length_map]; omega)) ?_
              walk_at "gs"
              refine ⟨.d (nD j), .d (zD v), .un, ?_⟩
              rw [wayPart_succ hv, if_pos c, List.map_append, List.map_map]
              unfold LW
              rw [← List.drop_drop]
              rfl
          · have c := of_decide_eq_false c
            walk_at "gs"
            refine ⟨.d (nD j), .d (zD v), s7, ?_⟩
            rw [wayPart_succ hv, if_neg c, List.append_nil]
            rfl
        · subst hG
          rw [enD_len, List.length_map]
          exact ⟨_, _, _, rfl⟩
      · rintro G1 ⟨s5, s6, s7, rfl⟩
        have hpw : (wayStep rows (t.drop p) fun x => (ways rows x).take 2).Pairwise (· < ·) := wayStep_pw fun x => (ways_pw R.ne _ x (Nat.le_refl _)).sublist (List.take_sublist _ _)
        walk_at "gs"
        refine rn_sortD (enc := wD) (bs := wayStep rows (t.drop p) fun x => (ways rows x).take 2) rfl (PySem.W.AllAlike.of alike_wD) ?_ (fun b _ => (shp_mono (shp_wD b) (by decide : 1 ≤ 60)).2) ?_
        · refine .inl fun d hd => ?_
          obtain ⟨way, hw, rfl⟩ := List.mem_map.mp hd
          obtain ⟨k, _, hk⟩ := List.mem_flatMap.mp hw
          split at hk
          · obtain ⟨way', _, rfl⟩ := List.mem_map.mp hk
            exact ⟨_, _, rfl⟩
          · cases hk
        · rw [srt_wD hpw]
          walk_at "gs"
          refine rs_Lto rfl ?_
          walk_at "gs"
          have e2 : ((wayStep rows (t.drop p) fun x => (ways rows x).take 2).map wD).take 2 = (LW rows t 2 p).map wD := by
            rw [← List.map_take, wayStep_take R.ne ht0]
            rfl
          rw [e2]
          refine ⟨2, none, Sum.inl (p : Int), _, _, rfl, rfl, rfl, rfl, szlt (by rw [List.length_map]; omega), ?_⟩
          rw [putW hnot, hps]
          walk_at "gs"
          exact ⟨_, _, _, _, _, rfl⟩
    · subst hG
      rw [rngR_len]
      exact ⟨_, _, _, _, _, rfl⟩
  · rintro G1 ⟨s3, s4, s5, s6, s7, rfl⟩
    walk_at "gs"
    refine ⟨2, none, Sum.inl ((0 : Nat) : Int), _, _, rfl, rfl, rfl, lkW (List.mem_map.mpr ⟨t.length, List.mem_range.mpr (by omega), by omega⟩), ?_⟩
    walk_at "gs"
end
end K65
namespace K65
open PySem PySem.Spec PyProof.Rows L2 DL
local macro_rules | `(tactic| walk_at "st") => `(tactic| with_reducible first
  | refine pw_p ?_ | refine pw_o ?_ | refine dw_op ?_ | refine dw_un ?_ | refine dw_int ?_ | refine dw_str ?_ | refine dw_bl ?_ | refine dw_non ?_ | refine dw_ty ?_ | refine da_nil' ?_ | refine da_cons' ?_ | refine dw_sortSetT ?_ | refine dw_CB ?_ | refine dw_BM ?_ | refine dw_BM0 ?_
  | refine dw_tup ?_ | refine dw_lst ?_ | refine dw_notV ?_ | refine dw_and ?_ | refine dw_or ?_ | refine dw_if ?_ | refine dw_chain ?_ | refine dw_sl3 ?_ | refine dw_revT ?_ | refine dw_tupRg1 ?_ | refine dw_lstRg1 ?_ | refine dw_callI ?_ | refine dw_callJ ?_
  | refine dt_test ?_ | refine dt_B ?_ | refine dt_and ?_ | refine dt_or ?_ | refine dt_not ?_ | refine dt_yes ?_ | refine dt_truth ?_
  | refine ds_ret ?_ | refine ds_retN ?_ | refine ds_next ?_ | refine ds_break ?_ | refine ds_cont ?_ | refine ds_drop ?_ | refine ds_if ?_ | refine ds_set ?_
  | refine nx_nxt ?_ | refine rt_nxt ?_ | refine bk_nxt ?_ | refine ct_nxt ?_ | refine nx_lp ?_ | refine rt_lp ?_ | refine bk_lp ?_ | refine ct_lp ?_ | refine asn_d ?_ | refine asn_fr ?_ | refine rt_E0 ?_ | refine rt_E0o ?_ | refine nx_E0 ?_
  | refine dw_newK ?_ | refine dw_dInK ?_ | refine dw_dNotInK ?_ | refine dw_dGetK ?_ | refine ds_dPutK ?_ | refine dw_callH ?_
  | refine tr_b ?_ | refine tr_i ?_ | refine tr_n ?_ | refine tr_T ?_ | refine tr_L ?_
  | refine do_none ?_ | refine do_some ?_ | refine ite_t ?_ | refine ite_f ?_
  | refine rw_addI ?_ | refine rw_sub ?_ | refine rw_cmp ?_ | refine rw_eqI ?_ | refine rw_neI ?_ | refine rw_eqZ ?_ | refine rw_neZ ?_ | refine rw_eqS ?_ | refine rw_neS ?_ | refine rw_eqB ?_ | refine rw_neB ?_ | refine isN_d ?_ | refine notN_d ?_ | refine rw_isB ?_ | refine rw_notB ?_
  | refine rn_intI ?_ | refine rn_intB ?_ | refine rn_max ?_ | refine rn_min ?_ | refine rn_lenT ?_ | refine rn_lenD ?_ | refine rm_sw ?_ | refine isi_int ?_ | refine isi_bool ?_ | refine isi_str ?_ | refine isi_tuple ?_ | refine isi_list ?_ | refine rn_tupT ?_ | refine rn_listT ?_
  | refine ⟨_, rfl, ?_⟩
  | fail)
local macro_rules | `(tactic| walk_at "va") => `(tactic| first
  | ((with_reducible apply dw_var); rfl) | ((with_reducible apply dw_sl); rfl) | ((with_reducible apply dw_slK); rfl)
  | ((with_reducible apply rw_ixL); rfl; rfl) | ((with_reducible apply rw_ixT); rfl)
  | ((with_reducible apply ite_T); rfl) | ((with_reducible apply ite_F); rfl) | ((with_reducible apply tr_o); rfl)
  | refine ⟨_, rfl, szl (Nat.le_of_ble_eq_true rfl), ?_⟩
  | (with_reducible refine rw_mod (by omega) ?_)
  | (with_reducible refine rw_fdiv (by unfold CDiv; omega) ?_)
  | (with_reducible refine rw_mul (by unfold CMul; omega) ?_)
  | refine ⟨szl (Nat.le_of_ble_eq_true rfl), ?_⟩
  | refine ⟨⟨rfl, _, _, rfl⟩, ?_⟩
  | refine ⟨rfl, ?_⟩
  | rfl
  | fail)
local macro_rules | `(tactic| walk_at "go") => `(tactic| repeat' (first | walk_at "st" | (with_reducible refine ds_seq' ?_) | walk_at "va" | fail))
local macro_rules | `(tactic| walk_at "gs") => `(tactic| repeat' (first | walk_at "st" | walk_at "va" | fail))
structure Wx where
  z : List Nat
  rows : List Row
  t : Row
  at' : Nat
  ps : List Nat
abbrev argY (x : Wx) : List PyData := [lD x.rows, zD x.t, nD x.at']
abbrev ownY (x : Wx) : Sl := .k none (x.ps.map (kW x.rows x.t 3))
def preY (n : Nat) (x : Wx) : Prop := x.z ∈ sigs ∧ RowsOk x.z x.rows ∧ x.t.length ≤ 1000 ∧ x.at' ≤ x.t.length ∧ x.t.length - x.at' < n ∧ x.ps.Nodup ∧ ∀ q ∈ x.ps, q ≤ x.t.length
def resY (x : Wx) (s : Sl) (r : Rs) : Prop := ∃ ps : List Nat, s = .k none (ps.map (kW x.rows x.t 3)) ∧ ps.Nodup ∧ (∀ q ∈ ps, q ≤ x.t.length) ∧ (∀ q ∈ ps, q ∈ x.ps ∨ x.at' ≤ q) ∧ r = .p (.d (wL (LW x.rows x.t 3 x.at')))
abbrev spY (K : PySem.W.Frag) (n : Nat) := spH K argY ownY (fun _ : Wx => []) (preY n) resY (fun _ _ _ => False)
theorem wayPart_nil {rows : List Row} (hn : NE rows) (g : Row → List (List Nat)) {i : Nat} (hi : i ≤ rows.length) : wayPart rows [] g i = [] := by
  unfold wayPart
  rw [List.flatMap_eq_nil_iff]
  intro k hk
  have := hn.at (k := k) (by have := List.mem_range.mp hk; omega)
  rw [if_neg]
  intro e
  rw [List.take_nil] at e
  rw [← e] at this
  simp at this
section
variable {P : Program} {w : World} {K : PySem.W.Frag} {mg : Str → Option Value} {base' : Heap} {a : Ad}
theorem ok_law_ways (T : Tx K mg a) : ∀ n : Nat, FnOk P w K mg base' CX0 (n + 1) a.f16 a.d16 ["rows", "text", "at", "known"] (spY K n)
  | 0 => by
    unfold spY spH
    exact fnEx fun x h => absurd h.2.2.2.2.1 (Nat.not_lt_zero _)
  | n + 1 => by
    have G_law_ways := ok_law_ways T n
    refine fnH (j := 3) T.F_law_ways sc_law_ways (fun x => ⟨rfl, rfl, by decide⟩) fun cdv A outer s H E hr => ⟨_, (pss_cons (ps_if (pt_cmp (pc_dnotin (hu_of hr) (pv 2) (pv 3)) rfl) (pss_cons (ps_set (i := 4) sc_law_ways.nd rfl (Or.inl rfl) (pe_ifExp (pt_cmpR (kEQ K rfl hr.units) (pv 2) (pe_callB (kLEN K rfl) (by rfl) T.z_len (by decide +kernel) (pa_cons (pv 1) pa_nil)) (nomark _)) (pe_lst (pa_cons (pe_tup pa_nil) pa_nil)) (pe_lst pa_nil))) (pss_cons (ps_for PassesOwn.never rfl (pi_range1 (by rfl) T.z_range (pa_cons (pe_callB (kLEN K rfl) (by rfl) T.z_len (by decide +kernel) (pa_cons (pv 0) pa_nil)) pa_nil)) (pg_name (i := 5) sc_law_ways.nd rfl (Or.inr rfl)) (pss_one (ps_if (pt_cmpR (kEQ K rfl hr.units) (pe_slice (kSLC K rfl) (pv 1) (po_some (pv 2)) (po_some (pe_op (kADD K rfl) (pv 2) (pe_callB (kLEN K rfl) (by rfl) T.z_len (by decide +kernel) (pa_cons (pe_ix (kIX K rfl) (pv 0) (pv 5) (fun _ _ => rfl)) pa_nil))))) (pe_ix (kIX K rfl) (pv 0) (pv 5) (fun _ _ => rfl)) (nomark _)) (pss_one (ps_set (i := 4) sc_law_ways.nd rfl (Or.inl rfl) (pe_op (kADD K rfl) (pv 4) (pe_lc (own := [("way", 6)]) (g := gName 6) (by rfl) sc_law_ways.nd (kANY K rfl (pe_call G_law_ways hr (by rfl) T.m_law_ways T.k_law_ways T.b_law_ways .nil pass0 (pa_cons (pv 0) (pa_cons (pv 1) (pa_cons (pe_op (kADD K rfl) (pv 2) (pe_callB (kLEN K rfl) (by rfl) T.z_len (by decide +kernel) (pa_cons (pe_ix (kIX K rfl) (pv 0) (pv 5) (fun _ _ => rfl)) pa_nil))) (pa_cons (pv 3) pa_nil)))))) (blkOk_by (own := [("way", 6)]) (N := ["rows", "text", "at", "known", "found", "k", "way"]) (sc := defScope s_law_ways) (by decide +kernel)) (fun _ _ _ _ _ => (pg_name (i := 6) sc_law_ways.nd rfl (by first | exact Or.inl rfl | exact Or.inr rfl))) (fun _ _ _ _ _ => pts_nil) (fun _ _ _ _ _ => (pe_op (kADD K rfl) (pe_tup (pa_cons (pv 5) pa_nil)) (pv 6))))))) pss_nil))) (pss_one (ps_dput (hu_of hr) (pv 3) (pv 2) (pe_slice (kSLC K rfl) (pe_callB (kSORTU K rfl (hu65 hr)) (by rfl) T.z_sorted (by decide +kernel) (pa_cons (pv 4) pa_nil)) po_none (po_some pe_int)) rfl)))) pss_nil) (pss_one (ps_ret (pe_dget (hu_of hr) (pv 3) (pv 2) (fun _ _ => rfl))))), ?_⟩
    rintro ⟨z, rows, t, at', ps⟩ ⟨hz, R, hl, ha, hn, hpn, hpl⟩ p B
    dsimp only [argY, ownY] at *
    have R5 := R.l5
    have hpsl : ∀ ps : List Nat, ps.Nodup → (∀ q ∈ ps, q ≤ t.length) → ps.length ≤ 1001 := fun ps h1 h2 => by
      have := h1.length_le_of_subset (l₂ := List.range (t.length + 1)) fun q hq => List.mem_range.mpr (by have := h2 q hq; omega)
      rw [List.length_range] at this
      omega
    refine ds_mid' (fun G => ∃ (ps' : List Nat) (s4 s5 s6 : Sl), ps'.Nodup ∧ (∀ q ∈ ps', q ≤ t.length) ∧ (∀ q ∈ ps', q ∈ ps ∨ at' ≤ q) ∧ at' ∈ ps' ∧ G = [.d (lD rows), .d (zD t), .d (nD at'), .k (some p) (ps'.map (kW rows t 3)), s4, s5, s6]) ?_ ?_
    · walk_at "gs"
      refine ⟨3, some p, Sum.inl (at' : Int), ps.map (kW rows t 3), rfl, rfl, rfl, ?_⟩
      rw [lkW_is]
      walk_at "gs"
      refine ite_k (fun c => ?_) (fun c => ?_)
      · have c : at' ∉ ps := by simpa using c
        refine ds_mid' (fun G => ∃ F0, F0 = (if at' = t.length then [[]] else ([] : List (List Nat))) ∧ G = [.d (lD rows), .d (zD t), .d (nD at'), .k (some p) (ps.map (kW rows t 3)), .o none (F0.map wD), .un, .un]) ?_ ?_
        · walk_at "gs"
          refine rn_lenZ (by omega) ?_
          walk_at "gs"
          refine ite_k (fun c2 => ?_) (fun c2 => ?_)
          · have c2 : at' = t.length := by
              have := of_decide_eq_true c2
              omega
            walk_at "gs"
            rw [if_pos c2]
            rfl
          · have c2 : at' ≠ t.length := fun e => (of_decide_eq_false c2) (by rw [e])
            walk_at "gs"
            rw [if_neg c2]
            rfl
        · rintro G1 ⟨F0, hF0, rfl⟩
          have hF0l : F0.length ≤ 1 := by
            rw [hF0]
            split <;> simp
          refine ds_mid' (fun G => ∃ (ps' : List Nat) (s5 s6 : Sl), ps'.Nodup ∧ (∀ q ∈ ps', q ≤ t.length) ∧ (∀ q ∈ ps', q ∈ ps ∨ at' < q) ∧ G = [.d (lD rows), .d (zD t), .d (nD at'), .k (some p) (ps'.map (kW rows t 3)), .o none ((F0 ++ wayStep rows (t.drop at') fun x => (ways rows x).take 3).map wD), s5, s6]) ?_ ?_
          · refine ds_forE' (ch := [5]) ?_
            refine di_rng1 ?_
            walk_at "gs"
            rw [List.length_map]
            refine ⟨by omega, by omega, ?_⟩
            rw [rng_nD]
            refine ⟨fun i G => ∃ (ps' : List Nat) (s5 s6 : Sl), ps'.Nodup ∧ (∀ q ∈ ps', q ≤ t.length) ∧ (∀ q ∈ ps', q ∈ ps ∨ at' < q) ∧ G = [.d (lD rows), .d (zD t), .d (nD at'), .k (some p) (ps'.map (kW rows t 3)), .o none ((F0 ++ wayPart rows (t.drop at') (fun x => (ways rows x).take 3) i).map wD), s5, s6], ⟨ps, _, _, hpn, hpl, fun q hq => .inl hq, by rw [show wayPart rows (t.drop at') (fun x => (ways rows x).take 3) 0 = [] from rfl, List.append_nil]⟩, fun i G2 d hd ⟨ps', s5, s6, q1, q2, q3, hG⟩ => ?_, fun G2 ⟨ps', s5, s6, q1, q2, q3, hG⟩ => ?_⟩
            · subst hG
              rw [List.getElem?_map] at hd
              obtain ⟨k, hk, rfl⟩ := Option.map_eq_some_iff.mp hd
              obtain ⟨hik, hk⟩ := List.getElem?_eq_some_iff.mp hk
              rw [List.getElem_range] at hk
              subst hk
              rw [List.length_range] at hik
              obtain ⟨v, hv⟩ : ∃ v, rows[i]? = some v := ⟨_, List.getElem?_eq_getElem hik⟩
              have hvm := List.mem_of_getElem? hv
              have hvl := R.len v hvm
              have hv1 : 1 ≤ v.length := by
                cases hve : v with
                | nil => exact absurd hve (R.ne v hvm)
                | cons _ _ => simp
              have hwl := wayPart_len (rows := rows) (t := t.drop at') (n := 3) (i := i)
              refine dg_name ?_
              walk_at "gs"
              refine rw_ixL rfl (ati hv) ?_
              walk_at "gs"
              refine rn_lenZ (by omega) ?_
              walk_at "gs"
              refine rs_mid (n := v.length) rfl (by omega) ?_
              walk_at "gs"
              refine rw_ixL rfl (ati hv) ?_
              walk_at "gs"
              refine ite_k (fun c3 => ?_) (fun c3 => ?_)
              · have c3 := of_decide_eq_true c3
                have hle : at' + v.length ≤ t.length := by
                  have := congrArg List.length c3
                  rw [List.length_take, List.length_drop] at this
                  omega
                walk_at "gs"
                refine dw_lcM (LW rows t 3 (at' + v.length)) wD (fun way => wD (i :: way)) ?_
                refine di_anyL (di_list ?_)
                walk_at "gs"
                refine rw_ixL rfl (ati hv) ?_
                walk_at "gs"
                refine rn_lenZ (by omega) ?_
                walk_at "gs"
                refine ⟨⟨z, rows, t, at' + v.length, ps'⟩, 3, _, ⟨hz, R, hl, hle, by show t.length - (at' + v.length) < n; omega, q1, q2⟩, rfl, rfl, rfl, rfl, ?_, fun _ _ h => h⟩
                rintro s' r _ ⟨ps2, rfl, u1, u2, u3, rfl⟩
                walk_at "gs"
                have hLWl : (LW rows t 3 (at' + v.length)).length ≤ 3 := by
                  unfold LW
                  rw [List.length_take]
                  omega
                refine ⟨szl (by omega), fun B' way hw => ?_, ?_⟩
                · have hwa := way_len R.ne (List.mem_of_mem_take hw)
                  rw [List.length_drop] at hwa
                  walk_at "gs"
                  refine rw_addT (szl (by rw [List.length_map]; simp; omega)) ?_
                  walk_at "gs"
                · walk_at "gs"
                  refine rw_addL rfl rfl (szl (by rw [List.length_map, List.length_map, List.length_append]; omega)) ?_
                  walk_at "gs"
                  refine ⟨ps2, .d (nD i), .un, u1, u2, fun q hq => ?_, ?_⟩
                  · rcases u3 q hq with h | h
                    · exact q3 q h
                    · exact .inr (by have h : at' + v.length ≤ q := h; omega)
                  · rw [wayPart_succ hv, if_pos c3, ← List.append_assoc, List.map_append (l₁ := F0 ++ _)]
                    unfold LW
                    rw [List.map_map, ← List.drop_drop]
                    rfl
              · have c3 := of_decide_eq_false c3
                walk_at "gs"
                refine ⟨ps', .d (nD i), s6, q1, q2, q3, ?_⟩
                rw [wayPart_succ hv, if_neg c3, List.append_nil]
                rfl
            · subst hG
              rw [List.length_map, List.length_range]
              exact ⟨ps', _, _, q1, q2, q3, rfl⟩
          · rintro G1 ⟨ps', s5, s6, q1, q2, q3, rfl⟩
            have hnp : at' ∉ ps' := fun h => (q3 at' h).elim c (Nat.lt_irrefl _)
            have hput : ps'.Nodup ∧ (∀ q ∈ ps', q ≤ t.length) → (ps' ++ [at']).Nodup := fun h => List.nodup_append.mpr ⟨h.1, by simp, fun x hx y hy e => hnp ((e.trans (by simpa using hy)) ▸ hx)⟩
            have fin : ∀ {l : List (List Nat)}, l.take 3 = LW rows t 3 at' → DS K B [.d (lD rows), .d (zD t), .d (nD at'), .k (some p) (ps'.map (kW rows t 3)), .o none (l.map wD), s5, s6] tNext (De.nxt (EH 3 p (resY ⟨z, rows, t, at', ps⟩)) fun G => True) → True := fun _ _ => trivial
            walk_at "gs"
            by_cases ce : at' = t.length
            · have e1 : t.drop at' = [] := by rw [ce, List.drop_length]
              have e2 : wayStep rows (t.drop at') (fun x => (ways rows x).take 3) = [] := by
                rw [e1, ← wayPart_all]
                exact wayPart_nil R.ne _ (Nat.le_refl _)
              rw [e2, List.append_nil]
              refine rn_sortU1 rfl (by rw [List.length_map]; omega) ?_
              walk_at "gs"
              refine rs_Lto rfl ?_
              walk_at "gs"
              have e3 : (F0.map wD).take 3 = (LW rows t 3 at').map wD := by
                unfold LW
                rw [e1, hF0, if_pos ce]
                rfl
              rw [e3]
              refine ⟨3, some p, Sum.inl (at' : Int), _, _, rfl, rfl, rfl, rfl, szlt (by rw [List.length_map]; have := hpsl ps' q1 q2; omega), ?_⟩
              rw [putW hnp]
              walk_at "gs"
              exact ⟨ps' ++ [at'], _, _, _, hput ⟨q1, q2⟩, fun q hq => (List.mem_append.mp hq).elim (q2 q) fun h => by rw [List.mem_singleton.mp h]; exact ha, fun q hq => (List.mem_append.mp hq).elim (fun h => (q3 q h).imp id Nat.le_of_lt) fun h => .inr (by rw [List.mem_singleton.mp h]; exact Nat.le_refl _), by simp, rfl⟩
            · have e0 : F0 = [] := by rw [hF0, if_neg ce]
              rw [e0, List.nil_append]
              have ht0 : t.drop at' ≠ [] := fun e => by
                have := congrArg List.length e
                rw [List.length_drop] at this
                simp at this
                omega
              have hpw : (wayStep rows (t.drop at') fun x => (ways rows x).take 3).Pairwise (· < ·) := wayStep_pw fun x => (ways_pw R.ne _ x (Nat.le_refl _)).sublist (List.take_sublist _ _)
              refine rn_sortU (enc := wD) (bs := wayStep rows (t.drop at') fun x => (ways rows x).take 3) rfl (PySem.W.AllAlike.of alike_wD) ?_ (fun b _ => (shp_mono (shp_wD b) (by decide : 1 ≤ 60)).2) ?_
              · refine .inl fun d hd => ?_
                obtain ⟨way, hw, rfl⟩ := List.mem_map.mp hd
                obtain ⟨k, _, hk⟩ := List.mem_flatMap.mp hw
                split at hk
                · obtain ⟨way', _, rfl⟩ := List.mem_map.mp hk
                  exact ⟨_, _, rfl⟩
                · cases hk
              · rw [srt_wD hpw]
                walk_at "gs"
                refine rs_Lto rfl ?_
                walk_at "gs"
                have e2 : ((wayStep rows (t.drop at') fun x => (ways rows x).take 3).map wD).take 3 = (LW rows t 3 at').map wD := by
                  rw [← List.map_take, wayStep_take R.ne ht0]
                  rfl
                rw [e2]
                refine ⟨3, some p, Sum.inl (at' : Int), _, _, rfl, rfl, rfl, rfl, szlt (by rw [List.length_map]; have := hpsl ps' q1 q2; omega), ?_⟩
                rw [putW hnp]
                walk_at "gs"
                exact ⟨ps' ++ [at'], _, _, _, hput ⟨q1, q2⟩, fun q hq => (List.mem_append.mp hq).elim (q2 q) fun h => by rw [List.mem_singleton.mp h]; exact ha, fun q hq => (List.mem_append.mp hq).elim (fun h => (q3 q h).imp id Nat.le_of_lt) fun h => .inr (by rw [List.mem_singleton.mp h]; exact Nat.le_refl _), by simp, rfl⟩
      · have c : at' ∈ ps := by simpa using c
        walk_at "gs"
        exact ⟨ps, _, _, _, hpn, hpl, fun q hq => .inl hq, c, rfl⟩
    · rintro G1 ⟨ps', s4, s5, s6, q1, q2, q3, hm, rfl⟩
      walk_at "gs"
      refine ⟨3, some p, Sum.inl (at' : Int), _, _, rfl, rfl, rfl, lkW hm, ?_⟩
      exact ⟨_, rfl, rfl, rfl, ps', rfl, q1, q2, q3, rfl⟩
end
end K65
namespace K65
open PySem PySem.Spec PyProof.Rows L2 DL
local macro_rules | `(tactic| walk_at "st") => `(tactic| with_reducible first
  | refine pw_p ?_ | refine pw_o ?_ | refine dw_op ?_ | refine dw_un ?_ | refine dw_int ?_ | refine dw_str ?_ | refine dw_bl ?_ | refine dw_non ?_ | refine dw_ty ?_ | refine da_nil' ?_ | refine da_cons' ?_ | refine dw_sortSetT ?_ | refine dw_CB ?_ | refine dw_BM ?_ | refine dw_BM0 ?_
  | refine dw_tup ?_ | refine dw_lst ?_ | refine dw_notV ?_ | refine dw_and ?_ | refine dw_or ?_ | refine dw_if ?_ | refine dw_chain ?_ | refine dw_sl3 ?_ | refine dw_revT ?_ | refine dw_tupRg1 ?_ | refine dw_lstRg1 ?_ | refine dw_callI ?_ | refine dw_callJ ?_
  | refine dt_test ?_ | refine dt_B ?_ | refine dt_and ?_ | refine dt_or ?_ | refine dt_not ?_ | refine dt_yes ?_ | refine dt_truth ?_
  | refine ds_ret ?_ | refine ds_retN ?_ | refine ds_next ?_ | refine ds_break ?_ | refine ds_cont ?_ | refine ds_drop ?_ | refine ds_if ?_ | refine ds_set ?_
  | refine nx_nxt ?_ | refine rt_nxt ?_ | refine bk_nxt ?_ | refine ct_nxt ?_ | refine nx_lp ?_ | refine rt_lp ?_ | refine bk_lp ?_ | refine ct_lp ?_ | refine asn_d ?_ | refine asn_fr ?_ | refine rt_E0 ?_ | refine rt_E0o ?_ | refine nx_E0 ?_
  | refine dw_newK ?_ | refine dw_dInK ?_ | refine dw_dNotInK ?_ | refine dw_dGetK ?_ | refine ds_dPutK ?_
  | refine tr_b ?_ | refine tr_i ?_ | refine tr_n ?_ | refine tr_T ?_ | refine tr_L ?_
  | refine do_none ?_ | refine do_some ?_ | refine ite_t ?_ | refine ite_f ?_
  | refine rw_addI ?_ | refine rw_sub ?_ | refine rw_cmp ?_ | refine rw_eqI ?_ | refine rw_neI ?_ | refine rw_eqZ ?_ | refine rw_neZ ?_ | refine rw_eqS ?_ | refine rw_neS ?_ | refine rw_eqB ?_ | refine rw_neB ?_ | refine isN_d ?_ | refine notN_d ?_ | refine rw_isB ?_ | refine rw_notB ?_
  | refine rn_intI ?_ | refine rn_intB ?_ | refine rn_max ?_ | refine rn_min ?_ | refine rn_lenT ?_ | refine rn_lenD ?_ | refine rm_sw ?_ | refine isi_int ?_ | refine isi_bool ?_ | refine isi_str ?_ | refine isi_tuple ?_ | refine isi_list ?_ | refine rn_tupT ?_ | refine rn_listT ?_
  | refine ⟨_, rfl, ?_⟩
  | fail)
local macro_rules | `(tactic| walk_at "va") => `(tactic| first
  | ((with_reducible apply dw_var); rfl) | ((with_reducible apply dw_sl); rfl) | ((with_reducible apply dw_slK); rfl)
  | ((with_reducible apply rw_ixL); rfl; rfl) | ((with_reducible apply rw_ixT); rfl)
  | ((with_reducible apply ite_T); rfl) | ((with_reducible apply ite_F); rfl) | ((with_reducible apply tr_o); rfl)
  | refine ⟨_, rfl, szl (Nat.le_of_ble_eq_true rfl), ?_⟩
  | (with_reducible refine rw_mod (by omega) ?_)
  | (with_reducible refine rw_fdiv (by unfold CDiv; omega) ?_)
  | (with_reducible refine rw_mul (by unfold CMul; omega) ?_)
  | refine ⟨szl (Nat.le_of_ble_eq_true rfl), ?_⟩
  | refine ⟨⟨rfl, _, _, rfl⟩, ?_⟩
  | refine ⟨rfl, ?_⟩
  | rfl
  | fail)
local macro_rules | `(tactic| walk_at "go") => `(tactic| repeat' (first | walk_at "st" | (with_reducible refine ds_seq' ?_) | walk_at "va" | fail))
local macro_rules | `(tactic| walk_at "gs") => `(tactic| repeat' (first | walk_at "st" | walk_at "va" | fail))
def longer (z : List Nat) (front : List Row) : List Row := front.flatMap fun r => z.map fun c => r ++ [c]
theorem lt_pair {t r : Row} (h : PySem.W.dataLt (.tuple [nD r.length, zD r]) (.tuple [nD t.length, zD t]) = true) : ¬ kle t r := by
  rw [PySem.W.dataLt_pair (by simp [PySem.W.alike]) (by simp [PySem.W.alike]), PySem.W.dataLt_int, PySem.W.dataLt_str, eqv_iD, eqv_zD, mkS_cps, mkS_cps] at h
  by_cases h1 : r.length = t.length
  · rw [if_pos (decide_eq_true h1)] at h
    by_cases h2 : r = t
    · rw [if_pos (decide_eq_true h2)] at h
      cases h
    · rw [if_neg (by simp [h2])] at h
      have := of_decide_eq_true h
      rintro (q | ⟨_, q⟩)
      · omega
      · exact q this
  · rw [if_neg (by simp [h1])] at h
    have := of_decide_eq_true h
    rintro (q | ⟨q, _⟩) <;> omega
/-- rows of one length -/
structure Fr6 (z : List Nat) (n : Nat) (front : List Row) : Prop where
  len : ∀ r ∈ front, r.length = n
  sg : ∀ r ∈ front, ∀ c ∈ r, c ∈ z
  few : front.length ≤ 3 ^ n
theorem longer_len {z : List Nat} (hz : z.length ≤ 3) (front : List Row) : (longer z front).length ≤ front.length * 3 := by
  refine sum_len_le _ 3 fun x _ => ?_
  rw [List.length_map]
  exact hz
theorem longer_ok {z : List Nat} (hz : z.length ≤ 3) {n : Nat} {front : List Row} (h : Fr6 z n front) : Fr6 z (n + 1) (longer z front) := by
  refine ⟨fun r hr => ?_, fun r hr c hc => ?_, ?_⟩
  · obtain ⟨q, hq, hr⟩ := List.mem_flatMap.mp hr
    obtain ⟨c, hc, rfl⟩ := List.mem_map.mp hr
    rw [List.length_append, h.len q hq]
    rfl
  · obtain ⟨q, hq, hr⟩ := List.mem_flatMap.mp hr
    obtain ⟨c', hc', rfl⟩ := List.mem_map.mp hr
    rcases List.mem_append.mp hc with k | k
    · exact h.sg q hq c k
    · rw [List.mem_singleton.mp k]
      exact hc'
  · have := longer_len hz front
    have := h.few
    rw [Nat.pow_succ]
    omega
section
variable {P : Program} {w : World} {K : PySem.W.Frag} {mg : Str → Option Value} {base' : Heap} {a : Ad}
abbrev argG (x : List Nat × List Row) : List PyData := [lD x.2, zD x.1]
def preG (x : List Nat × List Row) : Prop := x.1.length ≤ 3 ∧ x.2.length ≤ 1000 ∧ ∀ r ∈ x.2, r.length ≤ 100
abbrev spLg (K : PySem.W.Frag) := spI K argG preG (fun x r => r = .fr (.o none ((longer x.1 x.2).map zD)))
theorem ok_law_longer (T : Tx K mg a) : FnOk P w K mg base' CX0 1 a.f19 a.d19 ["front", "signs"] (spLg K) := by
  refine fnI T.F_law_longer sc_law_longer (fun x => ⟨rfl, by decide⟩) fun cdv A outer s H E hr => ⟨_, (pss_cons (ps_set (i := 2) sc_law_longer.nd rfl (Or.inl rfl) (pe_lst pa_nil)) (pss_cons (ps_for PassesOwn.never rfl (kANY K rfl (pv 0)) (pg_name (i := 3) sc_law_longer.nd rfl (Or.inr rfl)) (pss_one (ps_set (i := 2) sc_law_longer.nd rfl (Or.inl rfl) (pe_op (kADD K rfl) (pv 2) (pe_lc (own := [("sign", 4)]) (g := gName 4) (by rfl) sc_law_longer.nd (kANY K rfl (pv 1)) (blkOk_by (own := [("sign", 4)]) (N := ["front", "signs", "found", "row", "sign"]) (sc := defScope s_law_longer) (by decide +kernel)) (fun _ _ _ _ _ => (pg_name (i := 4) sc_law_longer.nd rfl (by first | exact Or.inl rfl | exact Or.inr rfl))) (fun _ _ _ _ _ => pts_nil) (fun _ _ _ _ _ => (pe_op (kADD K rfl) (pv 3) (pv 4)))))))) (pss_one (ps_ret (pv 2))))), ?_⟩
  rintro ⟨z, front⟩ ⟨hz, hl, hr'⟩ B
  dsimp only [argG] at *
  have hz : z.length ≤ 3 := hz
  have hl : front.length ≤ 1000 := hl
  walk_at "go"
  refine ds_forE' (ch := [3]) ?_
  refine di_anyL (di_list ?_)
  walk_at "go"
  refine ⟨fun i G => ∃ s3 s4, G = [.d (lD front), .d (zD z), .o none ((longer z (front.take i)).map zD), s3, s4], ⟨_, _, rfl⟩, fun i G2 d hd ⟨s3, s4, hG⟩ => ?_, fun G2 ⟨s3, s4, hG⟩ => ?_⟩
  · subst hG
    rw [List.getElem?_map] at hd
    obtain ⟨v, hv, rfl⟩ := Option.map_eq_some_iff.mp hd
    have hvl := hr' v (List.mem_of_getElem? hv)
    have hll := longer_len hz (front.take i)
    have htl : (front.take i).length ≤ 1000 := by
      rw [List.length_take]
      omega
    refine dg_name ?_
    walk_at "go"
    refine dw_lcM z (fun c => zD [c]) (fun c => zD (v ++ [c])) ?_
    refine di_anyS (di_str ?_)
    walk_at "go"
    refine ⟨szl (by omega), fun B' c hc => ?_, ?_⟩
    · walk_at "go"
      have hvl : v.length ≤ 100 := hvl
      refine rw_addZ (by simp; omega) ?_
      walk_at "go"
    · walk_at "go"
      refine rw_addL rfl rfl (szl (by rw [List.length_map, List.length_map]; omega)) ?_
      walk_at "go"
      refine ⟨.d (zD v), .un, ?_⟩
      have e1 : longer z (front.take (i + 1)) = longer z (front.take i) ++ z.map fun c => v ++ [c] := by
        unfold longer
        rw [List.take_succ, hv, List.flatMap_append]
        simp
      rw [e1, List.map_append, List.map_map]
      rfl
  · subst hG
    rw [List.length_map, List.take_length]
    walk_at "go"
    exact rt_E0s rfl rfl
abbrev argNl (x : List Nat × List Row × Row) : List PyData := [lD x.2.1, zD x.2.2, zD x.1]
def preNl (x : List Nat × List Row × Row) : Prop := x.1 ∈ sigs ∧ RowsOk x.1 x.2.1 ∧ x.2.2.length ≤ 1000 ∧ IsDbl x.2.1 x.2.2
abbrev spNl (K : PySem.W.Frag) := spI K argNl preNl (fun _ r => r = .p (.d (.bool true)))
theorem ok_law_no_lesser (T : Tx K mg a) (G_law_ways : FnOk P w K mg base' CX0 8 a.f16 a.d16 ["rows", "text", "at", "known"] (spY K 7)) (G_law_longer : FnOk P w K mg base' CX0 1 a.f19 a.d19 ["front", "signs"] (spLg K)) : FnOk P w K mg base' CX0 9 a.f18 a.d18 ["rows", "text", "signs"] (spNl K) := by
  have G_law_longer := G_law_longer.mono (show 1 ≤ 8 by decide)
  refine fnI T.F_law_no_lesser sc_law_no_lesser (fun x => ⟨rfl, by decide⟩) fun cdv A outer s H E hr => ⟨_, (pss_cons (ps_set (i := 3) sc_law_no_lesser.nd rfl (Or.inl rfl) (pe_lst (pa_cons (pe_strM [] rfl) pa_nil))) (pss_cons (ps_for PassesOwn.never rfl (pi_range1 (by rfl) T.z_range (pa_cons (pe_callB (call_min2 rfl) (by rfl) T.z_min (by decide +kernel) (pa_cons (pe_op (kADD K rfl) (pe_callB (kLEN K rfl) (by rfl) T.z_len (by decide +kernel) (pa_cons (pv 1) pa_nil)) pe_int) (pa_cons pe_int pa_nil))) pa_nil)) (pg_name (i := 4) sc_law_no_lesser.nd rfl (Or.inl rfl)) (pss_cons (ps_for PassesOwn.never rfl (kANY K rfl (pv 3)) (pg_name (i := 5) sc_law_no_lesser.nd rfl (Or.inl rfl)) (pss_one (ps_if (PW.pt (pw_and (pt_cmpR (kLTD K rfl (hu65 hr)) (pe_tup (pa_cons (pe_callB (kLEN K rfl) (by rfl) T.z_len (by decide +kernel) (pa_cons (pv 5) pa_nil)) (pa_cons (pv 5) pa_nil))) (pe_tup (pa_cons (pe_callB (kLEN K rfl) (by rfl) T.z_len (by decide +kernel) (pa_cons (pv 1) pa_nil)) (pa_cons (pv 1) pa_nil))) (nomark _)) (pw_and1 (pt_cmpR op_gt (pe_callB (kLEN K rfl) (by rfl) T.z_len (by decide +kernel) (pa_cons (pe_call G_law_ways hr (by rfl) T.m_law_ways T.k_law_ways T.b_law_ways .nil pass0 (pa_cons (pv 0) (pa_cons (pv 5) (pa_cons pe_int (pa_cons pe_dnewK pa_nil))))) pa_nil)) pe_int (nomark _))))) (pss_one (ps_ret pe_bl)) pss_nil))) (pss_one (ps_set (i := 3) sc_law_no_lesser.nd rfl (Or.inl rfl) (pe_call G_law_longer hr (by rfl) T.m_law_longer T.k_law_longer T.b_law_longer .nil pass0 (pa_cons (pv 3) (pa_cons (pv 2) pa_nil))))))) (pss_one (ps_ret pe_bl)))), ?_⟩
  rintro ⟨z, rows, t⟩ ⟨hz, R, hl, hD⟩ B
  dsimp only [argNl] at *
  have hl : t.length ≤ 1000 := hl
  have hD : IsDbl rows t := hD
  have hz : z ∈ sigs := hz
  obtain ⟨z1, z2, z3, z4⟩ := sigs_ok hz
  have R5 := R.l5
  refine ds_seq' ?_
  walk_at "gs"
  refine ds_mid' (fun _ => True) ?_ ?_
  · refine ds_forE' (ch := [4]) ?_
    refine di_rng1 ?_
    walk_at "gs"
    refine rn_lenZ (by omega) ?_
    walk_at "gs"
    refine ⟨by split <;> omega, by split <;> omega, ?_⟩
    have e7 : (if (7 : Int) < (t.length : Int) + 1 then (7 : Int) else (t.length : Int) + 1).toNat ≤ 7 := by split <;> omega
    generalize (if (7 : Int) < (t.length : Int) + 1 then (7 : Int) else (t.length : Int) + 1).toNat = m at e7
    refine ⟨fun i G => ∃ (front : List Row) (s4 s5 : Sl), Fr6 z i front ∧ G = [.d (lD rows), .d (zD t), .d (zD z), .o none (front.map zD), s4, s5], ⟨[[]], _, _, ⟨by simp, by simp, by simp⟩, rfl⟩, fun i G2 d hd ⟨front, s4, s5, F6, hG⟩ => ?_, fun G2 _ => trivial⟩
    subst hG
    have hi : i < 7 := by
      obtain ⟨h, _⟩ := rngD_get hd
      omega
    have hfl : front.length ≤ 1000 := by
      have := F6.few
      have : 3 ^ i ≤ 3 ^ 6 := Nat.pow_le_pow_right (by decide) (by omega)
      omega
    refine dg_name (ds_freeze 3 rfl ?_)
    refine ds_mid' (fun G => ∃ s5, G = [.d (lD rows), .d (zD t), .d (zD z), .d (lD front), .d d, s5]) ?_ ?_
    · refine ds_forE' (ch := [5]) ?_
      refine di_anyL (di_list ?_)
      walk_at "gs"
      refine ⟨fun _ G => ∃ s5, G = [.d (lD rows), .d (zD t), .d (zD z), .d (lD front), .d d, s5], ⟨_, rfl⟩, fun j G2 d2 hd2 ⟨s5, hG⟩ => ?_, fun G2 ⟨s5, hG⟩ => ⟨s5, hG⟩⟩
      subst hG
      rw [List.getElem?_map] at hd2
      obtain ⟨v, hv, rfl⟩ := Option.map_eq_some_iff.mp hd2
      have hvm := List.mem_of_getElem? hv
      have hvl := F6.len v hvm
      refine dg_name ?_
      walk_at "gs"
      refine rn_lenZ (by omega) ?_
      walk_at "gs"
      refine rn_lenZ (by omega) ?_
      walk_at "gs"
      refine rw_ltD rfl rfl (by simp [PySem.W.alike, PySem.W.alikeAll]) (fun z => nomatch z) (by simp [PyData.depth, PyData.depthAll]) ?_
      walk_at "gs"
      refine ite_k (fun c => ?_) (fun c => ?_)
      · have hk := no_lesser R.ne R.nd hD (lt_pair c)
        walk_at "gs"
        refine dw_callHL ?_
        refine daf_cons ?_
        walk_at "gs"
        refine daf_cons ?_
        walk_at "gs"
        refine daf_cons ?_
        walk_at "gs"
        refine daf_last ?_
        walk_at "gs"
        refine ⟨⟨z, rows, v, 0, []⟩, ⟨hz, R, by show v.length ≤ 1000; omega, Nat.zero_le _, by show v.length - 0 < 7; omega, .nil, fun _ h => (nomatch h)⟩, rfl, rfl, rfl, rfl, ?_, fun _ _ h => h⟩
        rintro s' r _ ⟨ps, rfl, u1, u2, u3, rfl⟩
        refine ⟨_, rfl, ?_⟩
        walk_at "gs"
        have hk2 : ((LW rows v 3 0).map wD).length ≤ 1 := by
          rw [List.length_map]
          unfold LW
          rw [List.length_take, List.drop_zero]
          omega
        have e0 : decide (((((LW rows v 3 0).map wD).length : Nat) : Int) > 1) = false := decide_eq_false (by omega)
        refine ite_F e0 ?_
        walk_at "gs"
        exact ⟨_, rfl⟩
      · walk_at "gs"
        exact ⟨_, rfl⟩
    · rintro G1 ⟨s5, rfl⟩
      walk_at "gs"
      refine ⟨(z, front), ⟨z3, hfl, fun r hr => by rw [F6.len r hr]; omega⟩, rfl, ?_⟩
      rintro _ rfl
      walk_at "gs"
      exact ⟨longer z front, _, _, longer_ok z3 F6, rfl⟩
  · rintro G1 _
    walk_at "gs"
end
end K65
namespace K65
open PySem PySem.Spec PyProof.Rows L2 DL
local macro_rules | `(tactic| walk_at "st") => `(tactic| with_reducible first
  | refine pw_p ?_ | refine pw_o ?_ | refine dw_op ?_ | refine dw_un ?_ | refine dw_int ?_ | refine dw_str ?_ | refine dw_bl ?_ | refine dw_non ?_ | refine dw_ty ?_ | refine da_nil' ?_ | refine da_cons' ?_ | refine dw_sortSetT ?_ | refine dw_CB ?_ | refine dw_BM ?_ | refine dw_BM0 ?_
  | refine dw_tup ?_ | refine dw_lst ?_ | refine dw_notV ?_ | refine dw_and ?_ | refine dw_or ?_ | refine dw_if ?_ | refine dw_chain ?_ | refine dw_sl3 ?_ | refine dw_revT ?_ | refine dw_tupRg1 ?_ | refine dw_lstRg1 ?_ | refine dw_callI ?_ | refine dw_callJ ?_
  | refine dt_test ?_ | refine dt_B ?_ | refine dt_and ?_ | refine dt_or ?_ | refine dt_not ?_ | refine dt_yes ?_ | refine dt_truth ?_
  | refine ds_ret ?_ | refine ds_retN ?_ | refine ds_next ?_ | refine ds_break ?_ | refine ds_cont ?_ | refine ds_drop ?_ | refine ds_if ?_ | refine ds_set ?_
  | refine nx_nxt ?_ | refine rt_nxt ?_ | refine bk_nxt ?_ | refine ct_nxt ?_ | refine nx_lp ?_ | refine rt_lp ?_ | refine bk_lp ?_ | refine ct_lp ?_ | refine asn_d ?_ | refine asn_fr ?_ | refine rt_E0 ?_ | refine rt_E0o ?_ | refine nx_E0 ?_
  | refine dw_newK ?_ | refine dw_dInK ?_ | refine dw_dNotInK ?_ | refine dw_dGetK ?_ | refine ds_dPutK ?_ | refine dw_callH ?_
  | refine tr_b ?_ | refine tr_i ?_ | refine tr_n ?_ | refine tr_T ?_ | refine tr_L ?_
  | refine do_none ?_ | refine do_some ?_ | refine ite_t ?_ | refine ite_f ?_
  | refine rw_addI ?_ | refine rw_sub ?_ | refine rw_cmp ?_ | refine rw_eqI ?_ | refine rw_neI ?_ | refine rw_eqZ ?_ | refine rw_neZ ?_ | refine rw_eqS ?_ | refine rw_neS ?_ | refine rw_eqB ?_ | refine rw_neB ?_ | refine isN_d ?_ | refine notN_d ?_ | refine rw_isB ?_ | refine rw_notB ?_
  | refine rn_intI ?_ | refine rn_intB ?_ | refine rn_max ?_ | refine rn_min ?_ | refine rn_lenT ?_ | refine rn_lenD ?_ | refine rm_sw ?_ | refine isi_int ?_ | refine isi_bool ?_ | refine isi_str ?_ | refine isi_tuple ?_ | refine isi_list ?_ | refine rn_tupT ?_ | refine rn_listT ?_
  | refine ⟨_, rfl, ?_⟩
  | fail)
local macro_rules | `(tactic| walk_at "va") => `(tactic| first
  | ((with_reducible apply dw_var); rfl) | ((with_reducible apply dw_sl); rfl) | ((with_reducible apply dw_slK); rfl)
  | ((with_reducible apply rw_ixL); rfl; rfl) | ((with_reducible apply rw_ixT); rfl)
  | ((with_reducible apply ite_T); rfl) | ((with_reducible apply ite_F); rfl) | ((with_reducible apply tr_o); rfl)
  | refine ⟨_, rfl, szl (Nat.le_of_ble_eq_true rfl), ?_⟩
  | (with_reducible refine rw_mod (by omega) ?_)
  | (with_reducible refine rw_fdiv (by unfold CDiv; omega) ?_)
  | (with_reducible refine rw_mul (by unfold CMul; omega) ?_)
  | refine ⟨szl (Nat.le_of_ble_eq_true rfl), ?_⟩
  | refine ⟨⟨rfl, _, _, rfl⟩, ?_⟩
  | refine ⟨rfl, ?_⟩
  | rfl
  | fail)
local macro_rules | `(tactic| walk_at "go") => `(tactic| repeat' (first | walk_at "st" | (with_reducible refine ds_seq' ?_) | walk_at "va" | fail))
local macro_rules | `(tactic| walk_at "gs") => `(tactic| repeat' (first | walk_at "st" | walk_at "va" | fail))
def yesL : List Nat := [121, 101, 115]
def noL' : List Nat := [110, 111]
/-- data that is not too large -/
def Nc : Nat → PyData → Prop
  | 0, _ => False
  | n + 1, .tuple xs => xs.length ≤ 1000 ∧ ∀ x ∈ xs, Nc n x
  | n + 1, .list xs => xs.length ≤ 1000 ∧ ∀ x ∈ xs, Nc n x
  | _ + 1, .none => True
  | _ + 1, .bool _ => True
  | _ + 1, .int _ => True
  | _ + 1, .str s => s.cps.toList.length ≤ 1000 ∧ Lt s.cps.toList
  | _ + 1, .dict _ => False
theorem Nc.shp : ∀ {n : Nat} {d : PyData}, Nc n d → Shp n d
  | _ + 1, .tuple xs, h => shp_tup fun x hx => (h.2 x hx).shp
  | _ + 1, .list xs, h => shp_list fun x hx => (h.2 x hx).shp
  | _ + 1, .none, _ => shp_none _
  | _ + 1, .bool _, _ => shp_bool _ _
  | _ + 1, .int _, _ => shp_int _ _
  | n + 1, .str s, h => by
    have := shp_str (n + 1) (z := s.cps.toList) h.2
    rwa [mkS_of] at this
def vN (n : Nat) : PyData → Bool
  | .int i => decide (0 ≤ i) && decide (i < (n : Int))
  | _ => false
def toN : PyData → Nat
  | .int i => i.toNat
  | _ => 0
def isRd (n : Nat) : PyData → Bool
  | .tuple xs => xs.all (vN n)
  | _ => false
def accN (rows : List Row) : List PyData → Bool
  | [.tuple a, .tuple b] => a.all (vN rows.length) && b.all (vN rows.length) && decide (flat rows (a.map toN) = flat rows (b.map toN)) && !PyData.eqv (.tuple a) (.tuple b)
  | _ => false
def isS : PyData → Bool
  | .str s => decide (s.cps.toList ≠ [])
  | _ => false
def toZ : PyData → Row
  | .str s => s.cps.toList
  | _ => []
def accY (rows : List Row) (ps : List PyData) : Bool := ps.all isS && (base rows ++ (ps.map toZ).flatMap (rests rows)).all fun r => decide (r ∈ ps.map toZ)
def accC (rows : List Row) : PyData → Bool
  | .tuple [x, .tuple ps] => if PyData.eqv (zD yesL) x then accY rows ps else if PyData.eqv (zD noL') x then accN rows ps else false
  | _ => false
noncomputable def dueD (rows : List Row) : PyData := match dbl rows with
  | none => .tuple [zD yesL, .tuple ((clo rows).map zD)]
  | some t => .tuple [zD noL', .tuple (((ways rows t).take 2).map wD)]
section
variable {P : Program} {w : World} {K : PySem.W.Frag} {mg : Str → Option Value} {base' : Heap} {a : Ad}
theorem ok_code (T : Tx K mg a) (G_least_double : FnOk P w K mg base' CX0 1 a.f3 a.d3 ["rows"] (spDb K)) (G_remainders : FnOk P w K mg base' CX0 2 a.f1 a.d1 ["rows"] (spM K)) (G_readings : FnOk P w K mg base' CX0 1 a.f4 a.d4 ["rows", "text"] (spRd K)) :
    FnOk P w K mg base' CX0 3 a.f5 a.d5 ["rows"] (spI K argM preM (fun x r => r = .p (.d (dueD x.2)))) := by
  have G_least_double := G_least_double.mono (show 1 ≤ 2 by decide)
  have G_readings := G_readings.mono (show 1 ≤ 2 by decide)
  refine fnI T.F_code sc_code (fun x => ⟨rfl, by decide⟩) fun cdv A outer s H E hr => ⟨_, (pss_cons (ps_set (i := 1) sc_code.nd rfl (Or.inl rfl) (pe_call G_least_double hr (by rfl) T.m_least_double T.k_least_double T.b_least_double .nil pass0 (pa_cons (pv 0) pa_nil))) (pss_cons (ps_if (pt_cmpR op_isN (pv 1) pe_non (nomark _)) (pss_one (ps_ret (pe_tup (pa_cons (pe_strM [121, 101, 115] rfl) (pa_cons (pe_callTy (kTUP K rfl) (by rfl) T.z_tuple (by decide +kernel) (pa_cons (pe_call G_remainders hr (by rfl) T.m_remainders T.k_remainders T.b_remainders .nil pass0 (pa_cons (pv 0) pa_nil)) pa_nil)) pa_nil))))) pss_nil) (pss_one (ps_ret (pe_tup (pa_cons (pe_strM [110, 111] rfl) (pa_cons (pe_callTy (kTUP K rfl) (by rfl) T.z_tuple (by decide +kernel) (pa_cons (pe_call G_readings hr (by rfl) T.m_readings T.k_readings T.b_readings .nil pass0 (pa_cons (pv 0) (pa_cons (pv 1) pa_nil))) pa_nil)) pa_nil))))))), ?_⟩
  rintro ⟨z, rows⟩ ⟨hz, R⟩ B
  dsimp only [argM] at *
  refine ds_seq' ?_
  walk_at "gs"
  refine ⟨(z, rows), ⟨hz, R⟩, rfl, ?_⟩
  rintro _ ⟨rfl, hb⟩
  unfold dueD
  cases e : dbl rows with
  | none =>
    refine ds_seq' ?_
    walk_at "gs"
    refine ⟨(z, rows), ⟨hz, R⟩, rfl, ?_⟩
    rintro _ rfl
    walk_at "gs"
    refine rn_tupL rfl ?_
    walk_at "gs"
  | some t =>
    have ht := hb t e
    refine ds_seq' ?_
    walk_at "gs"
    refine ⟨(z, rows, t), ⟨hz, R, by show t.length ≤ 1000; omega⟩, rfl, ?_⟩
    rintro _ rfl
    walk_at "gs"
    refine rn_tupL rfl ?_
    walk_at "gs"
/-! is_reading, _law_is_number -/
theorem vN_not {n : Nat} {d : PyData} (h : isiD d "int" = false) : vN n d = false := by
  cases d <;> first | rfl | exact absurd h (by simp [isiD, tyN])
theorem ok_law_is_number (T : Tx K mg a) : FnOk P w K mg base' CX0 1 a.f20 a.d20 ["value", "limit"] (spI K (fun x : PyData × Nat => [x.1, nD x.2]) (fun _ => True) (fun x r => r = .p (.d (.bool (vN x.2 x.1))))) := by
  refine fnI T.F_law_is_number sc_law_is_number (fun x => ⟨rfl, by decide⟩) fun cdv A outer s H E hr => ⟨_, (pss_one (ps_ret (pe_and (pe_callB (kISI K rfl) (by rfl) T.z_isinstance (by decide +kernel) (pa_cons (pv 0) (pa_cons (pe_bltn (v := .ty "int") (by rfl) T.z_int (by decide +kernel) rfl) pa_nil))) (pe_and (pe_not (pe_callB (kISI K rfl) (by rfl) T.z_isinstance (by decide +kernel) (pa_cons (pv 0) (pa_cons (pe_bltn (v := .ty "bool") (by rfl) T.z_bool (by decide +kernel) rfl) pa_nil)))) (pe_one (pe_chain op_le op_lt pe_int (pv 0) (pv 1))))))), ?_⟩
  rintro ⟨d, n⟩ _ B
  dsimp only at *
  walk_at "go"
  refine ite_k (fun h => ?_) (fun h => ?_)
  · walk_at "go"
    refine ite_k (fun h' => ?_) (fun h' => ?_)
    · obtain ⟨i, rfl⟩ := isi_i h (not_f h')
      walk_at "go"
      refine ite_k (fun h1 => ?_) (fun h1 => ?_)
      · walk_at "go"
        simp [vN, h1]
      · walk_at "go"
        simp [vN, h1]
    · obtain ⟨b, rfl⟩ := isi_b (not_t h')
      walk_at "go"
  · walk_at "go"
    rw [vN_not h]
def isI (d : PyData) : Bool := isiD d "int" && !isiD d "bool"
theorem isI_int {d : PyData} (h : isI d = true) : ∃ i, d = .int i := by
  unfold isI at h
  rw [Bool.and_eq_true] at h
  exact isi_i h.1 (not_f h.2)
theorem vN_isI {n : Nat} {d : PyData} (h : isI d = false) : vN n d = false := by
  cases d <;> first | rfl | exact absurd h (by simp [isI, isiD, tyN])
theorem isRd_not {n : Nat} {d : PyData} (h : isiD d "tuple" = false) : isRd n d = false := by
  cases d <;> first | rfl | exact absurd h (by simp [isiD, tyN])
theorem ok_is_reading (T : Tx K mg a) : FnOk P w K mg base' CX0 1 a.f6 a.d6 ["rows", "reading"] (spI K (fun x : List Row × PyData => [lD x.1, x.2]) (fun x => ∃ n, Nc n x.2) (fun x r => r = .p (.d (.bool (isRd x.1.length x.2))))) := by
  refine fnI T.F_is_reading sc_is_reading (fun x => ⟨rfl, by decide⟩) fun cdv A outer s H E hr => ⟨_, (pss_cons (ps_if (pt_not (kTRUTH K rfl (pe_callB (kISI K rfl) (by rfl) T.z_isinstance (by decide +kernel) (pa_cons (pv 1) (pa_cons (pe_bltn (v := .ty "tuple") (by rfl) T.z_tuple (by decide +kernel) rfl) pa_nil))) (by intro _; rfl))) (pss_one (ps_ret pe_bl)) pss_nil) (pss_cons (ps_setLc (i := 2) (own := [("number", 3)]) (g := gName 3) (by rfl) sc_is_reading.nd rfl rfl (sw_true rfl rfl rfl (by decide +kernel)) (kANY K rfl (pv 1)) (blkOk_by (own := [("number", 3)]) (N := ["rows", "reading", "whole", "number"]) (sc := defScope s_is_reading) (by decide +kernel)) (fun _ _ _ _ _ => (pg_name (i := 3) sc_is_reading.nd rfl (by first | exact Or.inl rfl | exact Or.inr rfl))) (fun _ _ _ _ _ => pts_nil) (fun _ _ _ _ _ => (pe_and (pe_callB (kISI K rfl) (by rfl) T.z_isinstance (by decide +kernel) (pa_cons (pv 3) (pa_cons (pe_bltn (v := .ty "int") (by rfl) T.z_int (by decide +kernel) rfl) pa_nil))) (pe_one (pe_not (pe_callB (kISI K rfl) (by rfl) T.z_isinstance (by decide +kernel) (pa_cons (pv 3) (pa_cons (pe_bltn (v := .ty "bool") (by rfl) T.z_bool (by decide +kernel) rfl) pa_nil)))))))) (pss_one (ps_ret (pe_and (pe_cmpR (kNI K rfl (hu65 hr)) pe_bl (pv 2) (by rfl)) (pe_one (pe_cmpR (kNI K rfl (hu65 hr)) pe_bl (pe_lc (own := [("number", 3)]) (g := gName 3) (by rfl) sc_is_reading.nd (kANY K rfl (pv 1)) (blkOk_by (own := [("number", 3)]) (N := ["rows", "reading", "whole", "number"]) (sc := defScope s_is_reading) (by decide +kernel)) (fun _ _ _ _ _ => (pg_name (i := 3) sc_is_reading.nd rfl (by first | exact Or.inl rfl | exact Or.inr rfl))) (fun _ _ _ _ _ => pts_nil) (fun _ _ _ _ _ => (pe_chain op_le op_lt pe_int (pv 3) (pe_callB (kLEN K rfl) (by rfl) T.z_len (by decide +kernel) (pa_cons (pv 0) pa_nil))))) (by rfl)))))))), ?_⟩
  rintro ⟨rows, d⟩ ⟨n, hd⟩ B
  dsimp only at *
  refine ds_mid' (fun G => ∃ xs, d = .tuple xs ∧ G = [.d (lD rows), .d d, .un, .un]) ?_ ?_
  · walk_at "gs"
    refine ite_k (fun c => ?_) (fun c => ?_)
    · walk_at "gs"
      rw [isRd_not (not_f c)]
    · obtain ⟨xs, rfl⟩ := isi_t (not_t c)
      walk_at "gs"
  · rintro G1 ⟨xs, rfl, rfl⟩
    have hxl : xs.length ≤ 1000 := by
      cases n with
      | zero => exact hd.elim
      | succ n => exact hd.1
    refine ds_seq' ?_
    walk_at "gs"
    refine dw_lcM xs id (fun x => .bool (isI x)) ?_
    refine di_anyT (di_tup ?_)
    walk_at "gs"
    rw [List.map_id]
    refine ⟨rfl, szl (by omega), fun B' x hx => ?_, ?_⟩
    · dsimp only [id]
      walk_at "gs"
      refine ite_k (fun h => ?_) (fun h => ?_)
      · walk_at "gs"
        unfold isI
        rw [h]
        exact ⟨rfl, rfl⟩
      · walk_at "gs"
        unfold isI
        rw [h]
        exact ⟨rfl, rfl⟩
    · walk_at "gs"
      refine rw_niL rfl rfl (shp_ok (shp_bool 0 _) (by decide)) (shp_ok (shp_list fun x hx => by
        obtain ⟨k, _, rfl⟩ := List.mem_map.mp hx
        exact shp_bool 0 _) (by decide)) ?_
      rw [any_false]
      walk_at "gs"
      refine ite_k (fun c => ?_) (fun c => ?_)
      · have hall : ∀ x ∈ xs, ∃ i, x = .int i := fun x hx => isI_int (by
          cases q : isI x with
          | true => rfl
          | false =>
            have : (xs.any fun x => !isI x) = true := List.any_eq_true.mpr ⟨x, hx, by rw [q]; rfl⟩
            rw [this] at c
            cases c)
        walk_at "gs"
        refine dw_lcM xs id (fun x => .bool (vN rows.length x)) ?_
        refine di_anyT (di_tup ?_)
        walk_at "gs"
        rw [List.map_id]
        refine ⟨rfl, szl (by omega), fun B' x hx => ?_, ?_⟩
        · obtain ⟨i, rfl⟩ := hall x hx
          dsimp only [id]
          walk_at "gs"
          refine ite_k (fun h1 => ?_) (fun h1 => ?_)
          · walk_at "gs"
            rw [List.length_map]
            simp [vN, h1]
          · walk_at "gs"
            simp [vN, h1]
        · walk_at "gs"
          refine rw_niL rfl rfl (shp_ok (shp_bool 0 _) (by decide)) (shp_ok (shp_list fun x hx => by
            obtain ⟨k, _, rfl⟩ := List.mem_map.mp hx
            exact shp_bool 0 _) (by decide)) ?_
          rw [any_false]
          walk_at "gs"
          have : isRd rows.length (.tuple xs) = !xs.any fun x => !vN rows.length x := by
            show xs.all (vN rows.length) = _
            rw [List.not_any_eq_all_not]
            congr 1
            funext x
            simp
          rw [this]
      · walk_at "gs"
        have c : (xs.any fun x => !isI x) = true := by simpa using c
        obtain ⟨x, hx, hn⟩ := List.any_eq_true.mp c
        have : isRd rows.length (.tuple xs) = false := by
          show xs.all (vN rows.length) = false
          rw [List.all_eq_false]
          exact ⟨x, hx, by rw [vN_isI (by simpa using hn)]; simp⟩
        rw [this]
end
end K65
namespace K65
open PySem PySem.Spec PyProof.Rows L2 DL
local macro_rules | `(tactic| walk_at "st") => `(tactic| with_reducible first
  | refine pw_p ?_ | refine pw_o ?_ | refine dw_op ?_ | refine dw_un ?_ | refine dw_int ?_ | refine dw_str ?_ | refine dw_bl ?_ | refine dw_non ?_ | refine dw_ty ?_ | refine da_nil' ?_ | refine da_cons' ?_ | refine dw_sortSetT ?_ | refine dw_CB ?_ | refine dw_BM ?_ | refine dw_BM0 ?_
  | refine dw_tup ?_ | refine dw_lst ?_ | refine dw_notV ?_ | refine dw_and ?_ | refine dw_or ?_ | refine dw_if ?_ | refine dw_chain ?_ | refine dw_sl3 ?_ | refine dw_revT ?_ | refine dw_tupRg1 ?_ | refine dw_lstRg1 ?_ | refine dw_callI ?_ | refine dw_callJ ?_
  | refine dt_test ?_ | refine dt_B ?_ | refine dt_and ?_ | refine dt_or ?_ | refine dt_not ?_ | refine dt_yes ?_ | refine dt_truth ?_
  | refine ds_ret ?_ | refine ds_retN ?_ | refine ds_next ?_ | refine ds_break ?_ | refine ds_cont ?_ | refine ds_drop ?_ | refine ds_if ?_ | refine ds_set ?_
  | refine nx_nxt ?_ | refine rt_nxt ?_ | refine bk_nxt ?_ | refine ct_nxt ?_ | refine nx_lp ?_ | refine rt_lp ?_ | refine bk_lp ?_ | refine ct_lp ?_ | refine asn_d ?_ | refine asn_fr ?_ | refine rt_E0 ?_ | refine rt_E0o ?_ | refine nx_E0 ?_
  | refine dw_newK ?_ | refine dw_dInK ?_ | refine dw_dNotInK ?_ | refine dw_dGetK ?_ | refine ds_dPutK ?_ | refine dw_callH ?_
  | refine tr_b ?_ | refine tr_i ?_ | refine tr_n ?_ | refine tr_T ?_ | refine tr_L ?_
  | refine do_none ?_ | refine do_some ?_ | refine ite_t ?_ | refine ite_f ?_
  | refine rw_addI ?_ | refine rw_sub ?_ | refine rw_cmp ?_ | refine rw_eqI ?_ | refine rw_neI ?_ | refine rw_eqZ ?_ | refine rw_neZ ?_ | refine rw_eqS ?_ | refine rw_neS ?_ | refine rw_eqB ?_ | refine rw_neB ?_ | refine isN_d ?_ | refine notN_d ?_ | refine rw_isB ?_ | refine rw_notB ?_
  | refine rn_intI ?_ | refine rn_intB ?_ | refine rn_max ?_ | refine rn_min ?_ | refine rn_lenT ?_ | refine rn_lenD ?_ | refine rm_sw ?_ | refine isi_int ?_ | refine isi_bool ?_ | refine isi_str ?_ | refine isi_tuple ?_ | refine isi_list ?_ | refine rn_tupT ?_ | refine rn_listT ?_
  | refine ⟨_, rfl, ?_⟩
  | fail)
local macro_rules | `(tactic| walk_at "va") => `(tactic| first
  | ((with_reducible apply dw_var); rfl) | ((with_reducible apply dw_sl); rfl) | ((with_reducible apply dw_slK); rfl)
  | ((with_reducible apply rw_ixL); rfl; rfl) | ((with_reducible apply rw_ixT); rfl)
  | ((with_reducible apply ite_T); rfl) | ((with_reducible apply ite_F); rfl) | ((with_reducible apply tr_o); rfl)
  | refine ⟨_, rfl, szl (Nat.le_of_ble_eq_true rfl), ?_⟩
  | (with_reducible refine rw_mod (by omega) ?_)
  | (with_reducible refine rw_fdiv (by unfold CDiv; omega) ?_)
  | (with_reducible refine rw_mul (by unfold CMul; omega) ?_)
  | refine ⟨szl (Nat.le_of_ble_eq_true rfl), ?_⟩
  | refine ⟨⟨rfl, _, _, rfl⟩, ?_⟩
  | refine ⟨rfl, ?_⟩
  | rfl
  | fail)
local macro_rules | `(tactic| walk_at "go") => `(tactic| repeat' (first | walk_at "st" | (with_reducible refine ds_seq' ?_) | walk_at "va" | fail))
local macro_rules | `(tactic| walk_at "gs") => `(tactic| repeat' (first | walk_at "st" | walk_at "va" | fail))
theorem accC_len {rows : List Row} {ps : List PyData} (h : ps.length ≠ 2) : accC rows (.tuple ps) = false := by
  unfold accC
  split
  · rename_i e
    cases e
    exact absurd rfl h
  · rfl
theorem accC_not {rows : List Row} {d : PyData} (h : isiD d "tuple" = false) : accC rows d = false := by
  unfold accC
  split
  · exact absurd h (by simp [isiD, tyN])
  · rfl
theorem accC_not2 {rows : List Row} {x y : PyData} (h : isiD y "tuple" = false) : accC rows (.tuple [x, y]) = false := by
  cases y <;> first | rfl | exact absurd h (by simp [isiD, tyN])
theorem accC_no {rows : List Row} {x y : PyData} (h1 : PyData.eqv (zD yesL) x = false) (h2 : PyData.eqv (zD noL') x = false) : accC rows (.tuple [x, y]) = false := by
  cases y <;> first | rfl | (show (if PyData.eqv (zD yesL) x = true then _ else if PyData.eqv (zD noL') x = true then _ else false) = false; rw [h1, h2]; rfl)
theorem len2 {α : Type} {xs : List α} (h : xs.length = 2) : ∃ x y, xs = [x, y] := by
  match xs, h with
  | [x, y], _ => exact ⟨x, y, rfl⟩
theorem shp_yn : Shp 1 (.tuple [zD yesL, zD noL']) := shp_tup fun x hx => by
  simp at hx
  rcases hx with rfl | rfl <;> exact shp_str 0 (by decide)
theorem eqv_str {z : List Nat} {x : PyData} (h : PyData.eqv (zD z) x = true) : x = zD z := by
  cases x with
  | str s =>
    have e : PyData.eqv (zD z) (.str s) = (mkS z == s) := by simp only [PyData.eqv]
    rw [e] at h
    exact congrArg PyData.str (eq_of_beq h).symm
  | _ => simp [PyData.eqv] at h
theorem yn_any (x : PyData) : ((fun x => PyData.str (mkS [121, 101, 115]) :: x) ((fun x => PyData.str (mkS [110, 111]) :: x) [])).any (fun z => PyData.eqv z x) = (PyData.eqv (zD yesL) x || PyData.eqv (zD noL') x) := by
  show ([zD yesL, zD noL'].any fun z => PyData.eqv z x) = _
  simp
theorem accC_yes (rows : List Row) (ps : List PyData) : accC rows (.tuple [zD yesL, .tuple ps]) = accY rows ps := by
  show (if PyData.eqv (zD yesL) (zD yesL) = true then accY rows ps else if PyData.eqv (zD noL') (zD yesL) = true then accN rows ps else false) = _
  rw [eqv_zD, if_pos (decide_eq_true rfl)]
theorem accC_noo (rows : List Row) (ps : List PyData) : accC rows (.tuple [zD noL', .tuple ps]) = accN rows ps := by
  show (if PyData.eqv (zD yesL) (zD noL') = true then accY rows ps else if PyData.eqv (zD noL') (zD noL') = true then accN rows ps else false) = _
  rw [eqv_zD, if_neg (by decide), eqv_zD, if_pos (decide_eq_true rfl)]
theorem accN_len {rows : List Row} {ps : List PyData} (h : ps.length ≠ 2) : accN rows ps = false := by
  unfold accN
  split
  · exact absurd rfl h
  · rfl
theorem accN_rd {rows : List Row} {p q : PyData} (h : isRd rows.length p = false ∨ isRd rows.length q = false) : accN rows [p, q] = false := by
  unfold accN
  split
  · rename_i e
    cases e
    rcases h with h | h
    · have h : List.all _ (vN rows.length) = false := h
      rw [h]; rfl
    · have h : List.all _ (vN rows.length) = false := h
      rw [h, Bool.and_false]; rfl
  · rfl
theorem vN_nat {n : Nat} {d : PyData} (h : vN n d = true) : d = nD (toN d) ∧ toN d < n := by
  cases d with
  | int i =>
    have h : (decide (0 ≤ i) && decide (i < (n : Int))) = true := h
    rw [Bool.and_eq_true, decide_eq_true_eq, decide_eq_true_eq] at h
    refine ⟨?_, ?_⟩
    · show PyData.int i = PyData.int (i.toNat : Int)
      congr 1
      omega
    · show i.toNat < n
      omega
  | _ => cases h
theorem isRd_tup {n : Nat} {d : PyData} (h : isRd n d = true) : ∃ ks : List Nat, d = wD ks ∧ ∀ k ∈ ks, k < n := by
  cases d with
  | tuple xs =>
    have h : xs.all (vN n) = true := h
    rw [List.all_eq_true] at h
    refine ⟨xs.map toN, ?_, fun k hk => ?_⟩
    · show PyData.tuple xs = PyData.tuple ((xs.map toN).map nD)
      congr 1
      rw [List.map_map]
      conv => lhs; rw [← List.map_id xs]
      exact List.map_congr_left fun x hx => (vN_nat (h x hx)).1
    · obtain ⟨x, hx, rfl⟩ := List.mem_map.mp hk
      exact (vN_nat (h x hx)).2
  | _ => cases h
theorem toN_nD (ks : List Nat) : (ks.map nD).map toN = ks := by
  rw [List.map_map]
  conv => rhs; rw [← List.map_id ks]
  exact List.map_congr_left fun k _ => by simp [toN, nD]
theorem accN_is {rows : List Row} {as bs : List Nat} (ha : ∀ k ∈ as, k < rows.length) (hb : ∀ k ∈ bs, k < rows.length) : accN rows [wD as, wD bs] = (decide (flat rows as = flat rows bs) && !PyData.eqv (wD as) (wD bs)) := by
  have e : ∀ {ks : List Nat}, (∀ k ∈ ks, k < rows.length) → (ks.map nD).all (vN rows.length) = true := fun h => by
    rw [List.all_eq_true]
    intro x hx
    obtain ⟨k, hk, rfl⟩ := List.mem_map.mp hx
    have := h k hk
    show (decide ((0 : Int) ≤ (k : Int)) && decide ((k : Int) < (rows.length : Int))) = true
    rw [Bool.and_eq_true, decide_eq_true_eq, decide_eq_true_eq]
    omega
  show ((as.map nD).all (vN rows.length) && (bs.map nD).all (vN rows.length) && decide (flat rows ((as.map nD).map toN) = flat rows ((bs.map nD).map toN)) && !PyData.eqv (wD as) (wD bs)) = _
  rw [e ha, e hb, toN_nD, toN_nD, Bool.true_and, Bool.true_and]
theorem flat_small {z : List Nat} {rows : List Row} (R : RowsOk z rows) : ∀ way : List Nat, (flat rows way).length ≤ way.length * 12
  | [] => by simp [flat]
  | k :: way => by
    rw [flat_cons, List.length_append, List.length_cons, Nat.succ_mul]
    have := flat_small R way
    have : (rows[k]?.getD []).length ≤ 12 := by
      cases e : rows[k]? with
      | none => simp
      | some v => exact R.len v (List.mem_of_getElem? e)
    omega
theorem Nc.tup {n : Nat} {xs : List PyData} (h : Nc n (.tuple xs)) : xs.length ≤ 1000 ∧ ∃ m, ∀ x ∈ xs, Nc m x := by
  cases n with
  | zero => exact h.elim
  | succ n => exact ⟨h.1, n, h.2⟩
theorem accY_no {rows : List Row} {ps : List PyData} (h : (ps.any fun y => !isiD y "str") = true ∨ (ps.any fun y => PyData.eqv y (zD [])) = true) : accY rows ps = false := by
  have : ps.all isS = false := by
    rw [List.all_eq_false]
    rcases h with h | h
    · obtain ⟨x, hx, h⟩ := List.any_eq_true.mp h
      refine ⟨x, hx, ?_⟩
      cases x <;> first | (intro q; cases q; done) | exact absurd h (by simp [isiD, tyN])
    · obtain ⟨x, hx, h⟩ := List.any_eq_true.mp h
      refine ⟨x, hx, ?_⟩
      rw [PySem.W.eqv_comm] at h
      rw [eqv_str h]
      decide
  unfold accY
  rw [this, Bool.false_and]
theorem strs_of : ∀ {ps : List PyData}, (∀ y ∈ ps, Nc 38 y) → (ps.any fun y => !isiD y "str") = false → (ps.any fun y => PyData.eqv y (zD [])) = false → ∃ qs : List Row, ps = qs.map zD ∧ ∀ r ∈ qs, r ≠ [] ∧ r.length ≤ 1000 ∧ Lt r
  | [], _, _, _ => ⟨[], rfl, by simp⟩
  | p :: ps, h, h1, h2 => by
    rw [List.any_cons, Bool.or_eq_false_iff] at h1 h2
    obtain ⟨qs, rfl, hq⟩ := strs_of (fun y hy => h y (List.mem_cons_of_mem _ hy)) h1.2 h2.2
    have hp := h p List.mem_cons_self
    cases p with
    | str s =>
      refine ⟨s.cps.toList :: qs, by rw [List.map_cons]; show PyData.str s :: _ = PyData.str (mkS _) :: _; rw [mkS_of], fun r hr => ?_⟩
      rcases List.mem_cons.mp hr with rfl | hr
      · refine ⟨fun e => ?_, hp.1, hp.2⟩
        have h2 := h2.1
        rw [show PyData.str s = zD s.cps.toList from congrArg PyData.str (mkS_of s).symm, e, eqv_zD] at h2
        exact absurd h2 (by decide)
      · exact hq r hr
    | _ => exact absurd h1.1 (by simp [isiD, tyN])
theorem rests_lt {z : List Nat} {rows : List Row} (R : RowsOk z rows) (hz : z ∈ sigs) {q r : Row} (hq : Lt q) (h : r ∈ rests rows q) : Lt r := by
  rw [mem_rests] at h
  obtain ⟨w, hw, ⟨_, rfl⟩ | ⟨_, rfl⟩⟩ := h
  · exact (R.lt hz hw).drop _
  · exact hq.drop _
theorem due_lt {z : List Nat} {rows qs : List Row} (R : RowsOk z rows) (hz : z ∈ sigs) (hq : ∀ r ∈ qs, Lt r) {r : Row} (h : r ∈ base rows ++ qs.flatMap (rests rows)) : Lt r := by
  rcases List.mem_append.mp h with h | h
  · exact (uni_small R hz (Cl.base h).uni).2
  · obtain ⟨q, h1, h2⟩ := List.mem_flatMap.mp h
    exact rests_lt R hz (hq q h1) h2
theorem not_any {α : Type} (f : α → Bool) (xs : List α) : (!xs.any fun x => !f x) = xs.all f := by
  rw [List.not_any_eq_all_not]
  congr 1
  funext x
  simp
theorem accY_is {rows qs : List Row} (h : ∀ r ∈ qs, r ≠ []) : accY rows (qs.map zD) = (base rows ++ qs.flatMap (rests rows)).all fun r => decide (r ∈ qs) := by
  have e : ∀ q : Row, (mkS q).cps.toList = q := fun q => by simp [mkS]
  have e1 : (qs.map zD).map toZ = qs := by
    rw [List.map_map]
    conv => rhs; rw [← List.map_id qs]
    exact List.map_congr_left fun q _ => e q
  have e2 : (qs.map zD).all isS = true := by
    rw [List.all_eq_true]
    intro x hx
    obtain ⟨q, hq, rfl⟩ := List.mem_map.mp hx
    show decide ((mkS q).cps.toList ≠ []) = true
    rw [e q]
    exact decide_eq_true (h q hq)
  unfold accY
  rw [e1, e2, Bool.true_and]
section
variable {P : Program} {w : World} {K : PySem.W.Frag} {mg : Str → Option Value} {base' : Heap} {a : Ad}
abbrev argC (x : List Nat × List Row × PyData) : List PyData := [lD x.2.1, x.2.2]
def preC (x : List Nat × List Row × PyData) : Prop := x.1 ∈ sigs ∧ RowsOk x.1 x.2.1 ∧ Nc 40 x.2.2
abbrev spC (K : PySem.W.Frag) := spI K argC preC (fun x r => r = .p (.d (.bool (accC x.2.1 x.2.2))))
abbrev spIr (K : PySem.W.Frag) := spI K (fun x : List Row × PyData => [lD x.1, x.2]) (fun x => ∃ n, Nc n x.2) (fun x r => r = .p (.d (.bool (isRd x.1.length x.2))))
theorem ok_judge_code (T : Tx K mg a) (G_rests_of : FnOk P w K mg base' CX0 1 a.f2 a.d2 ["rows", "rest"] (spT K rests)) (G_is_reading : FnOk P w K mg base' CX0 1 a.f6 a.d6 ["rows", "reading"] (spIr K)) : FnOk P w K mg base' CX0 2 a.f7 a.d7 ["rows", "told"] (spC K) := by
  refine fnI T.F_judge_code sc_judge_code (fun x => ⟨rfl, by decide⟩) fun cdv A outer s H E hr => ⟨_, (pss_cons (ps_if (PW.pt (pw_or (pt_not (kTRUTH K rfl (pe_callB (kISI K rfl) (by rfl) T.z_isinstance (by decide +kernel) (pa_cons (pv 1) (pa_cons (pe_bltn (v := .ty "tuple") (by rfl) T.z_tuple (by decide +kernel) rfl) pa_nil))) (by intro _; rfl))) (pw_or (pt_cmpR (kNE K rfl hr.units) (pe_callB (kLEN K rfl) (by rfl) T.z_len (by decide +kernel) (pa_cons (pv 1) pa_nil)) pe_int (nomark _)) (pw_or (pt_cmpR (kNI K rfl (hu65 hr)) (pe_ix (kIX K rfl) (pv 1) pe_int (fun _ _ => rfl)) (pe_tup (pa_cons (pe_strM [121, 101, 115] rfl) (pa_cons (pe_strM [110, 111] rfl) pa_nil))) (by rfl)) (pw_or1 (pt_not (kTRUTH K rfl (pe_callB (kISI K rfl) (by rfl) T.z_isinstance (by decide +kernel) (pa_cons (pe_ix (kIX K rfl) (pv 1) pe_int (fun _ _ => rfl)) (pa_cons (pe_bltn (v := .ty "tuple") (by rfl) T.z_tuple (by decide +kernel) rfl) pa_nil))) (by intro _; rfl)))))))) (pss_one (ps_ret pe_bl)) pss_nil) (pss_cons (ps_if (pt_cmpR (kEQ K rfl hr.units) (pe_ix (kIX K rfl) (pv 1) pe_int (fun _ _ => rfl)) (pe_strM [110, 111] rfl) (nomark _)) (pss_cons (ps_if (PW.pt (pw_or (pt_cmpR (kNE K rfl hr.units) (pe_callB (kLEN K rfl) (by rfl) T.z_len (by decide +kernel) (pa_cons (pe_ix (kIX K rfl) (pv 1) pe_int (fun _ _ => rfl)) pa_nil)) pe_int (nomark _)) (pw_or (pt_cmpR (kIN K rfl (hu65 hr)) pe_bl (pe_lc (own := [("reading", 6)]) (g := gName 6) (by rfl) sc_judge_code.nd (kANY K rfl (pe_ix (kIX K rfl) (pv 1) pe_int (fun _ _ => rfl))) (blkOk_by (own := [("reading", 6)]) (N := ["rows", "told", "first", "second", "due", "rest", "reading", "number"]) (sc := defScope s_judge_code) (by decide +kernel)) (fun _ _ _ _ _ => (pg_name (i := 6) sc_judge_code.nd rfl (by first | exact Or.inl rfl | exact Or.inr rfl))) (fun _ _ _ _ _ => pts_nil) (fun _ _ _ _ _ => (pe_call G_is_reading hr (by rfl) T.m_is_reading T.k_is_reading T.b_is_reading .nil pass0 (pa_cons (pv 0) (pa_cons (pv 6) pa_nil))))) (by rfl)) (pw_or1 (pt_cmpR (kEQ K rfl hr.units) (pe_ix (kIX K rfl) (pe_ix (kIX K rfl) (pv 1) pe_int (fun _ _ => rfl)) pe_int (fun _ _ => rfl)) (pe_ix (kIX K rfl) (pe_ix (kIX K rfl) (pv 1) pe_int (fun _ _ => rfl)) pe_int (fun _ _ => rfl)) (nomark _)))))) (pss_one (ps_ret pe_bl)) pss_nil) (pss_cons (ps_asg (pe_lc (own := [("reading", 6)]) (g := gName 6) (by rfl) sc_judge_code.nd (kANY K rfl (pe_ix (kIX K rfl) (pv 1) pe_int (fun _ _ => rfl))) (blkOk_by (own := [("reading", 6)]) (N := ["rows", "told", "first", "second", "due", "rest", "reading", "number"]) (sc := defScope s_judge_code) (by decide +kernel)) (fun _ _ _ _ _ => (pg_name (i := 6) sc_judge_code.nd rfl (by first | exact Or.inl rfl | exact Or.inr rfl))) (fun _ _ _ _ _ => pts_nil) (fun _ _ _ _ _ => (kBM K rfl (pe_bm PySem.F.plainAttrs_str PySem.F.slot_str_join PySem.F.type_str_join (kJOIN K rfl) (pe_strM [] rfl) (pa_cons (pe_lc (own := [("number", 7)]) (g := gName 7) (by rfl) sc_judge_code.nd (kANY K rfl (pv 6)) (blkOk_by (own := [("number", 7)]) (N := ["rows", "told", "first", "second", "due", "rest", "reading", "number"]) (sc := relS _ (defScope s_judge_code)) (by decide +kernel)) (fun _ _ _ _ _ => (pg_name (i := 7) sc_judge_code.nd rfl (by first | exact Or.inl rfl | exact Or.inr rfl))) (fun _ _ _ _ _ => pts_nil) (fun _ _ _ _ _ => (pe_ix (kIX K rfl) (pv 0) (pv 7) (fun _ _ => rfl)))) pa_nil))))) (kTGL K rfl rfl (pgs_cons (pg_name (i := 2) sc_judge_code.nd rfl (Or.inr rfl)) (pgs_cons (pg_name (i := 3) sc_judge_code.nd rfl (Or.inl rfl)) pgs_nil)))) (pss_one (ps_ret (pe_cmpR (kEQ K rfl hr.units) (pv 2) (pv 3) (nomark _)))))) pss_nil) (pss_cons (ps_if (PW.pt (pw_or (pt_cmpR (kIN K rfl (hu65 hr)) pe_bl (pe_lc (own := [("rest", 5)]) (g := gName 5) (by rfl) sc_judge_code.nd (kANY K rfl (pe_ix (kIX K rfl) (pv 1) pe_int (fun _ _ => rfl))) (blkOk_by (own := [("rest", 5)]) (N := ["rows", "told", "first", "second", "due", "rest", "reading", "number"]) (sc := defScope s_judge_code) (by decide +kernel)) (fun _ _ _ _ _ => (pg_name (i := 5) sc_judge_code.nd rfl (by first | exact Or.inl rfl | exact Or.inr rfl))) (fun _ _ _ _ _ => pts_nil) (fun _ _ _ _ _ => (pe_callB (kISI K rfl) (by rfl) T.z_isinstance (by decide +kernel) (pa_cons (pv 5) (pa_cons (pe_bltn (v := .ty "str") (by rfl) T.z_str (by decide +kernel) rfl) pa_nil))))) (by rfl)) (pw_or1 (pt_cmpR (kIN K rfl (hu65 hr)) (pe_strM [] rfl) (pe_ix (kIX K rfl) (pv 1) pe_int (fun _ _ => rfl)) (by rfl))))) (pss_one (ps_ret pe_bl)) pss_nil) (pss_cons (ps_set (i := 4) sc_judge_code.nd rfl (Or.inl rfl) (pe_lst pa_nil)) (pss_cons (ps_for PassesOwn.never rfl (kANY K rfl (pv 0)) (pg_name (i := 2) sc_judge_code.nd rfl (Or.inr rfl)) (pss_one (ps_expr (kBM K rfl (pe_bm PySem.F.plainAttrs_list PySem.F.slot_list_extend PySem.F.type_list_extend mt_extend (pv 4) (pa_cons (pe_lc (own := [("second", 3)]) (g := gName 3) (by rfl) sc_judge_code.nd (kANY K rfl (pv 0)) (blkOk_by (own := [("second", 3)]) (N := ["rows", "told", "first", "second", "due", "rest", "reading", "number"]) (sc := defScope s_judge_code) (by decide +kernel)) (fun _ _ _ _ _ => (pg_name (i := 3) sc_judge_code.nd rfl (by first | exact Or.inl rfl | exact Or.inr rfl))) (fun _ _ _ _ _ => (pts_one (PW.pt (pw_and (pt_cmpR (kNE K rfl hr.units) (pv 3) (pv 2) (nomark _)) (pw_and1 (kTRUTH K rfl (kBM K rfl (pe_bm PySem.F.plainAttrs_str PySem.F.slot_str_startswith PySem.F.type_str_startswith mt_startswith (pv 3) (pa_cons (pv 2) pa_nil))) (by intro _; rfl))))))) (fun _ _ _ _ _ => (pe_slice (kSLC K rfl) (pv 3) (po_some (pe_callB (kLEN K rfl) (by rfl) T.z_len (by decide +kernel) (pa_cons (pv 2) pa_nil))) po_none))) pa_nil)))))) (pss_cons (ps_for PassesOwn.never rfl (kANY K rfl (pe_ix (kIX K rfl) (pv 1) pe_int (fun _ _ => rfl))) (pg_name (i := 5) sc_judge_code.nd rfl (Or.inl rfl)) (pss_one (ps_expr (kBM K rfl (pe_bm PySem.F.plainAttrs_list PySem.F.slot_list_extend PySem.F.type_list_extend mt_extend (pv 4) (pa_cons (pe_call G_rests_of hr (by rfl) T.m_rests_of T.k_rests_of T.b_rests_of .nil pass0 (pa_cons (pv 0) (pa_cons (pv 5) pa_nil))) pa_nil)))))) (pss_one (ps_ret (pe_cmpR (kNI K rfl (hu65 hr)) pe_bl (pe_lc (own := [("rest", 5)]) (g := gName 5) (by rfl) sc_judge_code.nd (kANY K rfl (pv 4)) (blkOk_by (own := [("rest", 5)]) (N := ["rows", "told", "first", "second", "due", "rest", "reading", "number"]) (sc := defScope s_judge_code) (by decide +kernel)) (fun _ _ _ _ _ => (pg_name (i := 5) sc_judge_code.nd rfl (by first | exact Or.inl rfl | exact Or.inr rfl))) (fun _ _ _ _ _ => pts_nil) (fun _ _ _ _ _ => (pe_cmpR (kIN K rfl (hu65 hr)) (pv 5) (pe_ix (kIX K rfl) (pv 1) pe_int (fun _ _ => rfl)) (by rfl)))) (by rfl)))))))))), ?_⟩
  rintro ⟨z, rows, told⟩ ⟨hz, R, ht⟩ B
  dsimp only [argC] at *
  have R5 := R.l5
  have ht : Nc 40 told := ht
  refine ds_mid' (fun G => ∃ x ps, told = .tuple [x, .tuple ps] ∧ (x = zD yesL ∨ x = zD noL') ∧ G = [.d (lD rows), .d told, .un, .un, .un, .un, .un, .un]) ?_ ?_
  · walk_at "gs"
    refine ite_k (fun c => ?_) (fun c => ?_)
    · walk_at "gs"
      rw [accC_not (not_f c)]
    · obtain ⟨ps, rfl⟩ := isi_t (not_t c)
      walk_at "gs"
      refine ite_k (fun c => ?_) (fun c => ?_)
      · walk_at "gs"
        rw [accC_len fun e => by rw [e] at c; cases c]
      · have hl : ps.length = 2 := by
          have := of_decide_eq_true (not_t c)
          omega
        obtain ⟨x, y, rfl⟩ := len2 hl
        have hx : Shp 39 x := (ht.2 x (by simp)).shp
        walk_at "gs"
        refine rw_niT rfl (shp_ok hx (by decide)) (shp_ok shp_yn (by decide)) ?_
        rw [yn_any]
        walk_at "gs"
        refine ite_k (fun c => ?_) (fun c => ?_)
        · walk_at "gs"
          have c := not_f c
          rw [Bool.or_eq_false_iff] at c
          rw [accC_no c.1 c.2]
        · have c := not_t c
          rw [Bool.or_eq_true] at c
          have hxe : x = zD yesL ∨ x = zD noL' := c.imp eqv_str eqv_str
          walk_at "gs"
          refine ite_k (fun c2 => ?_) (fun c2 => ?_)
          · walk_at "gs"
            rw [accC_not2 (not_f c2)]
          · obtain ⟨qs, rfl⟩ := isi_t (not_t c2)
            walk_at "gs"
            exact ⟨_, _, rfl, hxe, rfl⟩
  · rintro G1 ⟨x, ps, rfl, hx, rfl⟩
    have hpl : ps.length ≤ 1000 := (ht.2 (.tuple ps) (by simp)).1
    have hps : Shp 39 (.tuple ps) := (ht.2 (.tuple ps) (by simp)).shp
    have hp1 : ∀ y ∈ ps, Nc 38 y := (ht.2 (.tuple ps) (by simp)).2
    rcases hx with rfl | rfl
    · rw [accC_yes]
      refine ds_seq' ?_
      walk_at "gs"
      refine ds_mid' (fun G => ∃ (qs : List Row) (s5 : Sl), ps = qs.map zD ∧ (∀ r ∈ qs, r ≠ [] ∧ r.length ≤ 1000 ∧ Lt r) ∧ G = [.d (lD rows), .d (.tuple [zD yesL, .tuple ps]), .un, .un, .un, s5, .un, .un]) ?_ ?_
      · walk_at "gs"
        refine dw_lcM ps id (fun y => .bool (isiD y "str")) ?_
        refine di_anyT (di_tup ?_)
        walk_at "gs"
        rw [List.map_id]
        refine ⟨rfl, szl (by omega), fun B' y hy => ?_, ?_⟩
        · dsimp only [id]
          walk_at "gs"
        · walk_at "gs"
          refine rw_inL rfl rfl (shp_ok (shp_bool 0 _) (by decide)) (shp_ok (shp_list fun x hx => by
            obtain ⟨k, _, rfl⟩ := List.mem_map.mp hx
            exact shp_bool 0 _) (by decide)) ?_
          rw [any_false]
          walk_at "gs"
          refine ite_k (fun c2 => ?_) (fun c2 => ?_)
          · walk_at "gs"
            rw [accY_no (.inl c2)]
          · walk_at "gs"
            refine rw_inT rfl (shp_ok (shp_str 0 (by simp)) (by decide)) (shp_ok hps (by decide)) ?_
            walk_at "gs"
            refine ite_k (fun c3 => ?_) (fun c3 => ?_)
            · walk_at "gs"
              rw [accY_no (.inr c3)]
            · walk_at "gs"
              obtain ⟨qs, rfl, hq⟩ := strs_of hp1 c2 c3
              exact ⟨qs, .un, rfl, hq, rfl⟩
      · rintro G1 ⟨qs, s5, rfl, hq, rfl⟩
        rw [accY_is fun r hr => (hq r hr).1]
        rw [List.length_map] at hpl
        refine ds_seq' ?_
        walk_at "gs"
        refine ds_mid' (fun G => ∃ s2 s3 s5, G = [.d (lD rows), .d (.tuple [zD yesL, .tuple (qs.map zD)]), s2, s3, .o none ((base rows).map zD), s5, .un, .un]) ?_ ?_
        · refine ds_forE' (ch := [2]) ?_
          refine di_anyL (di_list ?_)
          walk_at "gs"
          refine ⟨fun i G => ∃ s2 s3 s5, G = [.d (lD rows), .d (.tuple [zD yesL, .tuple (qs.map zD)]), s2, s3, .o none (((rows.take i).flatMap fun one => (prs rows one).map fun o => o.drop one.length).map zD), s5, .un, .un], ⟨_, _, _, rfl⟩, fun i G2 d hd ⟨s2, s3, s5, hG⟩ => ?_, fun G2 ⟨s2, s3, s5, hG⟩ => ?_⟩
          · subst hG
            rw [List.getElem?_map] at hd
            obtain ⟨v, hv, rfl⟩ := Option.map_eq_some_iff.mp hd
            have hvl := R.len v (List.mem_of_getElem? hv)
            refine dg_name ?_
            walk_at "gs"
            refine dw_lcF rows zD (fun o => decide (o ≠ v) && decide (o.take v.length = v)) (fun o => zD (o.drop v.length)) ?_
            refine di_anyL (di_list ?_)
            walk_at "gs"
            refine ⟨szl (by omega), fun B' o ho => ?_, ?_⟩
            · have hol := R.len o ho
              walk_at "gs"
              refine ite_k (fun c => ?_) (fun c => ?_)
              · have c : o ≠ v := by simpa using c
                walk_at "gs"
                refine ⟨by simp [c], rfl, fun _ => ?_⟩
                walk_at "gs"
                refine rn_lenZ (by omega) ?_
                walk_at "gs"
                refine rs_from (by omega) ?_
                walk_at "gs"
              · have c : o = v := by simpa using c
                walk_at "gs"
                exact ⟨by simp [c], rfl, fun h => by simp [c] at h⟩
            · walk_at "gs"
              have hb := base_part R i
              refine rm_ext rfl rfl (szl (by
                rw [List.length_map, List.length_map]
                exact Nat.le_trans (Nat.add_le_add hb (List.length_filter_le _ _)) (by omega))) ?_
              walk_at "gs"
              refine ⟨.d (zD v), .un, s5, ?_⟩
              rw [base_take hv, List.map_append, List.map_map]
              rfl
          · subst hG
            rw [List.length_map, List.take_length]
            exact ⟨_, _, _, rfl⟩
        · rintro G1 ⟨s2, s3, s5, rfl⟩
          refine ds_mid' (fun G => ∃ s5, G = [.d (lD rows), .d (.tuple [zD yesL, .tuple (qs.map zD)]), s2, s3, .o none ((base rows ++ qs.flatMap (rests rows)).map zD), s5, .un, .un]) ?_ ?_
          · refine ds_forE' (ch := [5]) ?_
            refine di_anyT (di_tup ?_)
            walk_at "gs"
            refine ⟨fun i G => ∃ s5, G = [.d (lD rows), .d (.tuple [zD yesL, .tuple (qs.map zD)]), s2, s3, .o none ((base rows ++ (qs.take i).flatMap (rests rows)).map zD), s5, .un, .un], ⟨s5, by rw [show (qs.take 0).flatMap (rests rows) = [] from rfl, List.append_nil]⟩, fun i G2 d hd ⟨s5, hG⟩ => ?_, fun G2 ⟨s5, hG⟩ => ?_⟩
            · subst hG
              rw [List.getElem?_map] at hd
              obtain ⟨v, hv, rfl⟩ := Option.map_eq_some_iff.mp hd
              refine dg_name ?_
              walk_at "gs"
              refine ⟨(z, rows, v), ⟨hz, R, (hq v (List.mem_of_getElem? hv)).2.1⟩, rfl, ?_⟩
              rintro _ rfl
              walk_at "gs"
              have h1 := base_len R
              have h2 : ((qs.take i).flatMap (rests rows)).length ≤ (qs.take i).length * 10 := sum_len_le _ 10 fun x _ => rests_len R x
              have h3 : (qs.take i).length ≤ qs.length := by
                rw [List.length_take]
                omega
              have h4 : (rests (z, rows, v).2.1 (z, rows, v).2.2).length ≤ 10 := rests_len R v
              refine rm_ext rfl rfl (szl (by
                rw [List.length_map, List.length_map, List.length_append]
                omega)) ?_
              walk_at "gs"
              refine ⟨.d (zD v), ?_⟩
              rw [List.take_succ, hv, List.flatMap_append, ← List.append_assoc, List.map_append (l₁ := base rows ++ _)]
              simp
            · subst hG
              rw [List.length_map, List.take_length]
              exact ⟨_, rfl⟩
          · rintro G1 ⟨s5, rfl⟩
            have h1 := base_len R
            have h2 : (qs.flatMap (rests rows)).length ≤ qs.length * 10 := sum_len_le _ 10 fun x _ => rests_len R x
            refine ds_freeze 4 rfl ?_
            walk_at "gs"
            refine dw_lcM (base rows ++ qs.flatMap (rests rows)) zD (fun r => .bool (decide (r ∈ qs))) ?_
            refine di_anyL (di_list ?_)
            walk_at "gs"
            refine ⟨szl (by rw [List.length_append]; omega), fun B' y hy => ?_, ?_⟩
            · walk_at "gs"
              refine rw_inT rfl (shp_ok (shp_z 50 (due_lt R hz (fun r hr => (hq r hr).2.2) hy)) (by decide)) (shp_ok hps (by decide)) ?_
              rw [any_inj eqv_zD]
              walk_at "gs"
              refine ⟨?_, rfl⟩
              exact congrArg (fun b => W.d (PyData.bool b)) (decide_eq_decide.mpr Iff.rfl)
            · walk_at "gs"
              refine rw_niL rfl rfl (shp_ok (shp_bool 0 _) (by decide)) (shp_ok (shp_list fun x hx => by
                obtain ⟨k, _, rfl⟩ := List.mem_map.mp hx
                exact shp_bool 0 _) (by decide)) ?_
              rw [any_false, not_any]
              walk_at "gs"
    · rw [accC_noo]
      refine ds_seq' ?_
      walk_at "gs"
      refine ds_seq' ?_
      walk_at "gs"
      refine ite_k (fun c => ?_) (fun c => ?_)
      · walk_at "gs"
        rw [accN_len fun e => by rw [e] at c; cases c]
      · have hl : ps.length = 2 := by
          have := of_decide_eq_true (not_t c)
          omega
        obtain ⟨p, q, rfl⟩ := len2 hl
        walk_at "gs"
        refine dw_lcM [p, q] id (fun y => .bool (isRd rows.length y)) ?_
        refine di_anyT (di_tup ?_)
        walk_at "gs"
        refine ⟨fun B' y hy => ?_, ?_⟩
        · dsimp only [id]
          walk_at "gs"
          refine ⟨(rows, y), ⟨38, hp1 y hy⟩, rfl, ?_⟩
          rintro _ rfl
          walk_at "gs"
        · walk_at "gs"
          refine rw_inL rfl rfl (shp_ok (shp_bool 0 _) (by decide)) (shp_ok (shp_list fun x hx => by
            obtain ⟨k, _, rfl⟩ := List.mem_map.mp hx
            exact shp_bool 0 _) (by decide)) ?_
          rw [any_false]
          walk_at "gs"
          refine ite_k (fun c2 => ?_) (fun c2 => ?_)
          · walk_at "gs"
            rw [accN_rd (by simpa using c2)]
          · have c2 : isRd rows.length p = true ∧ isRd rows.length q = true := by simpa using c2
            obtain ⟨as, rfl, ha⟩ := isRd_tup c2.1
            obtain ⟨bs, rfl, hb⟩ := isRd_tup c2.2
            have hal : as.length ≤ 1000 := by
              have := (hp1 _ List.mem_cons_self).1
              rwa [List.length_map] at this
            have hbl : bs.length ≤ 1000 := by
              have := (hp1 _ (List.mem_cons_of_mem _ List.mem_cons_self)).1
              rwa [List.length_map] at this
            walk_at "gs"
            refine rw_eqD rfl rfl (shp_ok (hp1 _ List.mem_cons_self).shp (by decide)) (shp_ok (hp1 _ (List.mem_cons_of_mem _ List.mem_cons_self)).shp (by decide)) ?_
            walk_at "gs"
            rw [accN_is ha hb]
            refine ite_k (fun c3 => ?_) (fun c3 => ?_)
            · walk_at "gs"
              rw [c3, Bool.not_true, Bool.and_false]
            · walk_at "gs"
              refine ds_seq' ?_
              refine ds_asg (cs := [2, 3]) ?_
              refine dw_lcM [as, bs] wD (fun y => zD (flat rows y)) ?_
              refine di_anyT (di_tup ?_)
              walk_at "gs"
              refine ⟨fun B' y hy => ?_, ?_⟩
              · have hy : y.length ≤ 1000 ∧ ∀ k ∈ y, k < rows.length := by
                  simp at hy
                  rcases hy with rfl | rfl
                  · exact ⟨hal, ha⟩
                  · exact ⟨hbl, hb⟩
                walk_at "gs"
                refine dw_lcM y nD (fun k => zD (rows[k]?.getD [])) ?_
                refine di_anyT (di_tup ?_)
                walk_at "gs"
                refine ⟨szl (by omega), fun B' k hk => ?_, ?_⟩
                · obtain ⟨v, hv⟩ : ∃ v, rows[k]? = some v := ⟨_, List.getElem?_eq_getElem (hy.2 k hk)⟩
                  walk_at "gs"
                  refine rw_ixL rfl (ati hv) ?_
                  walk_at "gs"
                  rw [hv]
                  exact ⟨rfl, rfl⟩
                · walk_at "gs"
                  refine rm_joinR (cs := y.map fun k => rows[k]?.getD []) (by rw [List.map_map]; rfl) ?_ ?_
                  · have := flat_small R y
                    unfold flat at this
                    rw [List.length_flatten] at this
                    omega
                  · walk_at "gs"
              · walk_at "gs"
                refine dg_lst rfl (dgs_cons (dg_name (dgs_cons (dg_name (dgs_nil ?_)))))
                walk_at "gs"
                rw [c3, Bool.not_false, Bool.and_true]
end
end K65
namespace K65
open PySem PySem.Spec PyProof.Rows L2 DL
local macro_rules | `(tactic| walk_at "st") => `(tactic| with_reducible first
  | refine pw_p ?_ | refine pw_o ?_ | refine dw_op ?_ | refine dw_un ?_ | refine dw_int ?_ | refine dw_str ?_ | refine dw_bl ?_ | refine dw_non ?_ | refine dw_ty ?_ | refine da_nil' ?_ | refine da_cons' ?_ | refine dw_sortSetT ?_ | refine dw_CB ?_ | refine dw_BM ?_ | refine dw_BM0 ?_
  | refine dw_tup ?_ | refine dw_lst ?_ | refine dw_notV ?_ | refine dw_and ?_ | refine dw_or ?_ | refine dw_if ?_ | refine dw_chain ?_ | refine dw_sl3 ?_ | refine dw_revT ?_ | refine dw_tupRg1 ?_ | refine dw_lstRg1 ?_ | refine dw_callI ?_ | refine dw_callJ ?_
  | refine dt_test ?_ | refine dt_B ?_ | refine dt_and ?_ | refine dt_or ?_ | refine dt_not ?_ | refine dt_yes ?_ | refine dt_truth ?_
  | refine ds_ret ?_ | refine ds_retN ?_ | refine ds_next ?_ | refine ds_break ?_ | refine ds_cont ?_ | refine ds_drop ?_ | refine ds_if ?_ | refine ds_set ?_
  | refine nx_nxt ?_ | refine rt_nxt ?_ | refine bk_nxt ?_ | refine ct_nxt ?_ | refine nx_lp ?_ | refine rt_lp ?_ | refine bk_lp ?_ | refine ct_lp ?_ | refine asn_d ?_ | refine asn_fr ?_ | refine rt_E0 ?_ | refine rt_E0o ?_ | refine nx_E0 ?_
  | refine dw_newK ?_ | refine dw_dInK ?_ | refine dw_dNotInK ?_ | refine dw_dGetK ?_ | refine ds_dPutK ?_ | refine dw_callH ?_
  | refine tr_b ?_ | refine tr_i ?_ | refine tr_n ?_ | refine tr_T ?_ | refine tr_L ?_
  | refine do_none ?_ | refine do_some ?_ | refine ite_t ?_ | refine ite_f ?_
  | refine rw_addI ?_ | refine rw_sub ?_ | refine rw_cmp ?_ | refine rw_eqI ?_ | refine rw_neI ?_ | refine rw_eqZ ?_ | refine rw_neZ ?_ | refine rw_eqS ?_ | refine rw_neS ?_ | refine rw_eqB ?_ | refine rw_neB ?_ | refine isN_d ?_ | refine notN_d ?_ | refine rw_isB ?_ | refine rw_notB ?_
  | refine rn_intI ?_ | refine rn_intB ?_ | refine rn_max ?_ | refine rn_min ?_ | refine rn_lenT ?_ | refine rn_lenD ?_ | refine rm_sw ?_ | refine isi_int ?_ | refine isi_bool ?_ | refine isi_str ?_ | refine isi_tuple ?_ | refine isi_list ?_ | refine rn_tupT ?_ | refine rn_listT ?_
  | refine ⟨_, rfl, ?_⟩
  | fail)
local macro_rules | `(tactic| walk_at "va") => `(tactic| first
  | ((with_reducible apply dw_var); rfl) | ((with_reducible apply dw_sl); rfl) | ((with_reducible apply dw_slK); rfl)
  | ((with_reducible apply rw_ixL); rfl; rfl) | ((with_reducible apply rw_ixT); rfl)
  | ((with_reducible apply ite_T); rfl) | ((with_reducible apply ite_F); rfl) | ((with_reducible apply tr_o); rfl)
  | refine ⟨_, rfl, szl (Nat.le_of_ble_eq_true rfl), ?_⟩
  | (with_reducible refine rw_mod (by omega) ?_)
  | (with_reducible refine rw_fdiv (by unfold CDiv; omega) ?_)
  | (with_reducible refine rw_mul (by unfold CMul; omega) ?_)
  | refine ⟨szl (Nat.le_of_ble_eq_true rfl), ?_⟩
  | refine ⟨⟨rfl, _, _, rfl⟩, ?_⟩
  | refine ⟨rfl, ?_⟩
  | rfl
  | fail)
local macro_rules | `(tactic| walk_at "go") => `(tactic| repeat' (first | walk_at "st" | (with_reducible refine ds_seq' ?_) | walk_at "va" | fail))
local macro_rules | `(tactic| walk_at "gs") => `(tactic| repeat' (first | walk_at "st" | walk_at "va" | fail))
theorem isEmpty_filter {α : Type} (p : α → Bool) (xs : List α) : (xs.filter p).isEmpty = xs.all fun x => !p x := by
  induction xs with
  | nil => rfl
  | cons x xs ih =>
    rw [List.filter_cons, List.all_cons]
    cases h : p x
    · simpa using ih
    · rfl
theorem isEmpty_map {α β : Type} (f : α → β) (xs : List α) : (xs.map f).isEmpty = xs.isEmpty := by cases xs <;> rfl
theorem strs_of2 {ps : List PyData} (h : ∀ y ∈ ps, Nc 38 y) (h1 : ps.all isS = true) : ∃ qs : List Row, ps = qs.map zD ∧ ∀ r ∈ qs, r ≠ [] ∧ r.length ≤ 1000 ∧ Lt r := by
  rw [List.all_eq_true] at h1
  refine strs_of h ?_ ?_
  · rw [List.any_eq_false]
    intro x hx
    have := h1 x hx
    cases x <;> first | (simp [isiD, tyN]; done) | exact absurd this (by simp [isS])
  · rw [List.any_eq_false]
    intro x hx q
    have := h1 x hx
    rw [PySem.W.eqv_comm] at q
    rw [eqv_str q] at this
    exact absurd this (by decide)
theorem accY_f {rows : List Row} {ps : List PyData} (h : ps.all isS = false) : accY rows ps = false := by
  unfold accY
  rw [h, Bool.false_and]
theorem isS_not {y : PyData} (h : isiD y "str" = false) : isS y = false := by
  cases y <;> first | rfl | exact absurd h (by simp [isiD, tyN])
theorem restsL_lt {z : List Nat} {rows : List Row} (R : RowsOk z rows) (hz : z ∈ sigs) {q r : Row} (hq : Lt q) (h : r ∈ restsL rows q) : Lt r := rests_lt R hz hq (mem_restsL.mp h)
theorem dueL_lt {z : List Nat} {rows qs : List Row} (R : RowsOk z rows) (hz : z ∈ sigs) (hq : ∀ r ∈ qs, Lt r) {r : Row} (h : r ∈ base rows ++ qs.flatMap (restsL rows)) : Lt r := by
  rcases List.mem_append.mp h with h | h
  · exact (uni_small R hz (Cl.base h).uni).2
  · obtain ⟨q, h1, h2⟩ := List.mem_flatMap.mp h
    exact restsL_lt R hz (hq q h1) h2
theorem all_dueL (rows qs : List Row) : ((base rows ++ qs.flatMap (restsL rows)).all fun r => !!decide (r ∈ qs)) = (base rows ++ qs.flatMap (rests rows)).all fun r => decide (r ∈ qs) := by
  rw [Bool.eq_iff_iff, List.all_eq_true, List.all_eq_true]
  have e : ∀ r, r ∈ base rows ++ qs.flatMap (restsL rows) ↔ r ∈ base rows ++ qs.flatMap (rests rows) := fun r => by
    simp only [List.mem_append, List.mem_flatMap, mem_restsL]
  simp only [Bool.not_not]
  exact ⟨fun h r hr => h r ((e r).mpr hr), fun h r hr => h r ((e r).mp hr)⟩
theorem mem_fid {p : PyData → Bool} {xs : List PyData} {x : PyData} (h : x ∈ (xs.filter p).map id) : x ∈ xs := by
  rw [List.map_id] at h
  exact (List.mem_filter.mp h).1
theorem accN_rd' {rows : List Row} {p q x : PyData} (hx : x ∈ [p, q]) (h : isRd rows.length x = false) : accN rows [p, q] = false := by
  simp at hx
  rcases hx with rfl | rfl
  · exact accN_rd (.inl h)
  · exact accN_rd (.inr h)
section
variable {P : Program} {w : World} {K : PySem.W.Frag} {mg : Str → Option Value} {base' : Heap} {a : Ad}
abbrev spNb (K : PySem.W.Frag) := spI K (fun x : PyData × Nat => [x.1, nD x.2]) (fun _ => True) (fun x r => r = .p (.d (.bool (vN x.2 x.1))))
theorem ok_law_accepts (T : Tx K mg a) (G_law_rests : FnOk P w K mg base' CX0 1 a.f14 a.d14 ["rows", "rest"] (spT K restsL)) (G_law_is_number : FnOk P w K mg base' CX0 1 a.f20 a.d20 ["value", "limit"] (spNb K)) : FnOk P w K mg base' CX0 2 a.f21 a.d21 ["rows", "told"] (spC K) := by
  refine fnI T.F_law_accepts sc_law_accepts (fun x => ⟨rfl, by decide⟩) fun cdv A outer s H E hr => ⟨_, (pss_cons (ps_if (PW.pt (pw_or (pt_not (kTRUTH K rfl (pe_callB (kISI K rfl) (by rfl) T.z_isinstance (by decide +kernel) (pa_cons (pv 1) (pa_cons (pe_bltn (v := .ty "tuple") (by rfl) T.z_tuple (by decide +kernel) rfl) pa_nil))) (by intro _; rfl))) (pw_or (pt_cmpR (kNE K rfl hr.units) (pe_callB (kLEN K rfl) (by rfl) T.z_len (by decide +kernel) (pa_cons (pv 1) pa_nil)) pe_int (nomark _)) (pw_or (pt_cmpR (kNI K rfl (hu65 hr)) (pe_ix (kIX K rfl) (pv 1) pe_int (fun _ _ => rfl)) (pe_lst (pa_cons (pe_strM [121, 101, 115] rfl) (pa_cons (pe_strM [110, 111] rfl) pa_nil))) (by rfl)) (pw_or1 (pt_not (kTRUTH K rfl (pe_callB (kISI K rfl) (by rfl) T.z_isinstance (by decide +kernel) (pa_cons (pe_ix (kIX K rfl) (pv 1) pe_int (fun _ _ => rfl)) (pa_cons (pe_bltn (v := .ty "tuple") (by rfl) T.z_tuple (by decide +kernel) rfl) pa_nil))) (by intro _; rfl)))))))) (pss_one (ps_ret pe_bl)) pss_nil) (pss_cons (ps_if (pt_cmpR (kEQ K rfl hr.units) (pe_ix (kIX K rfl) (pv 1) pe_int (fun _ _ => rfl)) (pe_strM [110, 111] rfl) (nomark _)) (pss_cons (ps_if (PW.pt (pw_or (pt_cmpR (kNE K rfl hr.units) (pe_callB (kLEN K rfl) (by rfl) T.z_len (by decide +kernel) (pa_cons (pe_ix (kIX K rfl) (pv 1) pe_int (fun _ _ => rfl)) pa_nil)) pe_int (nomark _)) (pw_or1 (pt_cmpR (kNE K rfl hr.units) (pe_lc (own := [("way", 2)]) (g := gName 2) (by rfl) sc_law_accepts.nd (kANY K rfl (pe_ix (kIX K rfl) (pv 1) pe_int (fun _ _ => rfl))) (blkOk_by (own := [("way", 2)]) (N := ["rows", "told", "way", "texts", "due", "one", "rest", "number", "other"]) (sc := defScope s_law_accepts) (by decide +kernel)) (fun _ _ _ _ _ => (pg_name (i := 2) sc_law_accepts.nd rfl (by first | exact Or.inl rfl | exact Or.inr rfl))) (fun _ _ _ _ _ => (pts_one (pt_not (kTRUTH K rfl (pe_callB (kISI K rfl) (by rfl) T.z_isinstance (by decide +kernel) (pa_cons (pv 2) (pa_cons (pe_bltn (v := .ty "tuple") (by rfl) T.z_tuple (by decide +kernel) rfl) pa_nil))) (by intro _; rfl))))) (fun _ _ _ _ _ => (pv 2))) (pe_lst pa_nil) (nomark _))))) (pss_one (ps_ret pe_bl)) pss_nil) (pss_cons (ps_for PassesOwn.never rfl (kANY K rfl (pe_ix (kIX K rfl) (pv 1) pe_int (fun _ _ => rfl))) (pg_name (i := 2) sc_law_accepts.nd rfl (Or.inl rfl)) (pss_one (ps_if (pt_cmpR (kNE K rfl hr.units) (pe_lc (own := [("number", 7)]) (g := gName 7) (by rfl) sc_law_accepts.nd (kANY K rfl (pv 2)) (blkOk_by (own := [("number", 7)]) (N := ["rows", "told", "way", "texts", "due", "one", "rest", "number", "other"]) (sc := defScope s_law_accepts) (by decide +kernel)) (fun _ _ _ _ _ => (pg_name (i := 7) sc_law_accepts.nd rfl (by first | exact Or.inl rfl | exact Or.inr rfl))) (fun _ _ _ _ _ => (pts_one (pt_not (kTRUTH K rfl (pe_call G_law_is_number hr (by rfl) T.m_law_is_number T.k_law_is_number T.b_law_is_number .nil pass0 (pa_cons (pv 7) (pa_cons (pe_callB (kLEN K rfl) (by rfl) T.z_len (by decide +kernel) (pa_cons (pv 0) pa_nil)) pa_nil))) (by intro _; rfl))))) (fun _ _ _ _ _ => (pv 7))) (pe_lst pa_nil) (nomark _)) (pss_one (ps_ret pe_bl)) pss_nil))) (pss_cons (ps_setLc (i := 3) (own := [("way", 2)]) (g := gName 2) (by rfl) sc_law_accepts.nd rfl rfl (sw_true rfl rfl rfl (by decide +kernel)) (kANY K rfl (pe_ix (kIX K rfl) (pv 1) pe_int (fun _ _ => rfl))) (blkOk_by (own := [("way", 2)]) (N := ["rows", "told", "way", "texts", "due", "one", "rest", "number", "other"]) (sc := defScope s_law_accepts) (by decide +kernel)) (fun _ _ _ _ _ => (pg_name (i := 2) sc_law_accepts.nd rfl (by first | exact Or.inl rfl | exact Or.inr rfl))) (fun _ _ _ _ _ => pts_nil) (fun _ _ _ _ _ => (kBM K rfl (pe_bm PySem.F.plainAttrs_str PySem.F.slot_str_join PySem.F.type_str_join (kJOIN K rfl) (pe_strM [] rfl) (pa_cons (pe_lc (own := [("number", 7)]) (g := gName 7) (by rfl) sc_law_accepts.nd (kANY K rfl (pv 2)) (blkOk_by (own := [("number", 7)]) (N := ["rows", "told", "way", "texts", "due", "one", "rest", "number", "other"]) (sc := relS _ (defScope s_law_accepts)) (by decide +kernel)) (fun _ _ _ _ _ => (pg_name (i := 7) sc_law_accepts.nd rfl (by first | exact Or.inl rfl | exact Or.inr rfl))) (fun _ _ _ _ _ => pts_nil) (fun _ _ _ _ _ => (pe_ix (kIX K rfl) (pv 0) (pv 7) (fun _ _ => rfl)))) pa_nil))))) (pss_one (ps_ret (pe_and (pe_cmpR (kEQ K rfl hr.units) (pe_ix (kIX K rfl) (pv 3) pe_int (fun _ _ => rfl)) (pe_ix (kIX K rfl) (pv 3) pe_int (fun _ _ => rfl)) (nomark _)) (pe_one (pe_cmpR (kNE K rfl hr.units) (pe_ix (kIX K rfl) (pe_ix (kIX K rfl) (pv 1) pe_int (fun _ _ => rfl)) pe_int (fun _ _ => rfl)) (pe_ix (kIX K rfl) (pe_ix (kIX K rfl) (pv 1) pe_int (fun _ _ => rfl)) pe_int (fun _ _ => rfl)) (nomark _))))))))) pss_nil) (pss_cons (ps_if (pt_cmpR (kNE K rfl hr.units) (pe_lc (own := [("rest", 6)]) (g := gName 6) (by rfl) sc_law_accepts.nd (kANY K rfl (pe_ix (kIX K rfl) (pv 1) pe_int (fun _ _ => rfl))) (blkOk_by (own := [("rest", 6)]) (N := ["rows", "told", "way", "texts", "due", "one", "rest", "number", "other"]) (sc := defScope s_law_accepts) (by decide +kernel)) (fun _ _ _ _ _ => (pg_name (i := 6) sc_law_accepts.nd rfl (by first | exact Or.inl rfl | exact Or.inr rfl))) (fun _ _ _ _ _ => (pts_one (PW.pt (pw_or (pt_not (kTRUTH K rfl (pe_callB (kISI K rfl) (by rfl) T.z_isinstance (by decide +kernel) (pa_cons (pv 6) (pa_cons (pe_bltn (v := .ty "str") (by rfl) T.z_str (by decide +kernel) rfl) pa_nil))) (by intro _; rfl))) (pw_or1 (pt_cmpR (kEQ K rfl hr.units) (pv 6) (pe_strM [] rfl) (nomark _))))))) (fun _ _ _ _ _ => (pv 6))) (pe_lst pa_nil) (nomark _)) (pss_one (ps_ret pe_bl)) pss_nil) (pss_cons (ps_set (i := 4) sc_law_accepts.nd rfl (Or.inl rfl) (pe_lst pa_nil)) (pss_cons (ps_for PassesOwn.never rfl (kANY K rfl (pv 0)) (pg_name (i := 5) sc_law_accepts.nd rfl (Or.inr rfl)) (pss_one (ps_set (i := 4) sc_law_accepts.nd rfl (Or.inl rfl) (pe_op (kADD K rfl) (pv 4) (pe_lc (own := [("other", 8)]) (g := gName 8) (by rfl) sc_law_accepts.nd (kANY K rfl (pv 0)) (blkOk_by (own := [("other", 8)]) (N := ["rows", "told", "way", "texts", "due", "one", "rest", "number", "other"]) (sc := defScope s_law_accepts) (by decide +kernel)) (fun _ _ _ _ _ => (pg_name (i := 8) sc_law_accepts.nd rfl (by first | exact Or.inl rfl | exact Or.inr rfl))) (fun _ _ _ _ _ => (pts_one (PW.pt (pw_and (pt_cmpR (kNE K rfl hr.units) (pv 8) (pv 5) (nomark _)) (pw_and1 (pt_cmpR (kEQ K rfl hr.units) (pe_slice (kSLC K rfl) (pv 8) po_none (po_some (pe_callB (kLEN K rfl) (by rfl) T.z_len (by decide +kernel) (pa_cons (pv 5) pa_nil)))) (pv 5) (nomark _))))))) (fun _ _ _ _ _ => (pe_slice (kSLC K rfl) (pv 8) (po_some (pe_callB (kLEN K rfl) (by rfl) T.z_len (by decide +kernel) (pa_cons (pv 5) pa_nil))) po_none))))))) (pss_cons (ps_for PassesOwn.never rfl (kANY K rfl (pe_ix (kIX K rfl) (pv 1) pe_int (fun _ _ => rfl))) (pg_name (i := 6) sc_law_accepts.nd rfl (Or.inl rfl)) (pss_one (ps_set (i := 4) sc_law_accepts.nd rfl (Or.inl rfl) (pe_op (kADD K rfl) (pv 4) (pe_call G_law_rests hr (by rfl) T.m_law_rests T.k_law_rests T.b_law_rests .nil pass0 (pa_cons (pv 0) (pa_cons (pv 6) pa_nil))))))) (pss_one (ps_ret (pe_cmpR (kEQ K rfl hr.units) (pe_lc (own := [("rest", 6)]) (g := gName 6) (by rfl) sc_law_accepts.nd (kANY K rfl (pv 4)) (blkOk_by (own := [("rest", 6)]) (N := ["rows", "told", "way", "texts", "due", "one", "rest", "number", "other"]) (sc := defScope s_law_accepts) (by decide +kernel)) (fun _ _ _ _ _ => (pg_name (i := 6) sc_law_accepts.nd rfl (by first | exact Or.inl rfl | exact Or.inr rfl))) (fun _ _ _ _ _ => (pts_one (pt_cmpR (kNI K rfl (hu65 hr)) (pv 6) (pe_ix (kIX K rfl) (pv 1) pe_int (fun _ _ => rfl)) (by rfl)))) (fun _ _ _ _ _ => (pv 6))) (pe_lst pa_nil) (nomark _)))))))))), ?_⟩
  rintro ⟨z, rows, told⟩ ⟨hz, R, ht⟩ B
  dsimp only [argC] at *
  have R5 := R.l5
  have ht : Nc 40 told := ht
  refine ds_mid' (fun G => ∃ x ps, told = .tuple [x, .tuple ps] ∧ (x = zD yesL ∨ x = zD noL') ∧ G = [.d (lD rows), .d told, .un, .un, .un, .un, .un, .un, .un]) ?_ ?_
  · walk_at "gs"
    refine ite_k (fun c => ?_) (fun c => ?_)
    · walk_at "gs"
      rw [accC_not (not_f c)]
    · obtain ⟨ps, rfl⟩ := isi_t (not_t c)
      walk_at "gs"
      refine ite_k (fun c => ?_) (fun c => ?_)
      · walk_at "gs"
        rw [accC_len fun e => by rw [e] at c; cases c]
      · have hl : ps.length = 2 := by
          have := of_decide_eq_true (not_t c)
          omega
        obtain ⟨x, y, rfl⟩ := len2 hl
        have hx : Shp 39 x := (ht.2 x (by simp)).shp
        walk_at "gs"
        refine rw_niL rfl rfl (shp_ok hx (by decide)) (shp_ok (n := 1) (shp_list fun x hx => by
          simp at hx
          rcases hx with rfl | rfl <;> exact shp_str 0 (by decide)) (by decide)) ?_
        rw [yn_any]
        walk_at "gs"
        refine ite_k (fun c => ?_) (fun c => ?_)
        · walk_at "gs"
          have c := not_f c
          rw [Bool.or_eq_false_iff] at c
          rw [accC_no c.1 c.2]
        · have c := not_t c
          rw [Bool.or_eq_true] at c
          have hxe : x = zD yesL ∨ x = zD noL' := c.imp eqv_str eqv_str
          walk_at "gs"
          refine ite_k (fun c2 => ?_) (fun c2 => ?_)
          · walk_at "gs"
            rw [accC_not2 (not_f c2)]
          · obtain ⟨qs, rfl⟩ := isi_t (not_t c2)
            walk_at "gs"
            exact ⟨_, _, rfl, hxe, rfl⟩
  · rintro G1 ⟨x, ps, rfl, hx, rfl⟩
    have hpl : ps.length ≤ 1000 := (ht.2 (.tuple ps) (by simp)).1
    have hps : Shp 39 (.tuple ps) := (ht.2 (.tuple ps) (by simp)).shp
    have hp1 : ∀ y ∈ ps, Nc 38 y := (ht.2 (.tuple ps) (by simp)).2
    rcases hx with rfl | rfl
    · rw [accC_yes]
      refine ds_seq' ?_
      walk_at "gs"
      refine ds_mid' (fun G => ∃ (qs : List Row) (s5 : Sl), ps = qs.map zD ∧ (∀ r ∈ qs, r ≠ [] ∧ r.length ≤ 1000 ∧ Lt r) ∧ G = [.d (lD rows), .d (.tuple [zD yesL, .tuple ps]), .un, .un, .un, .un, s5, .un, .un]) ?_ ?_
      · walk_at "gs"
        refine dw_lcF ps id (fun y => !isS y) id ?_
        refine di_anyT (di_tup ?_)
        walk_at "gs"
        rw [List.map_id]
        refine ⟨rfl, szl (by omega), fun B' y hy => ?_, ?_⟩
        · dsimp only [id]
          walk_at "gs"
          refine ite_k (fun h => ?_) (fun h => ?_)
          · walk_at "gs"
            have e := isS_not (not_f h)
            refine ⟨by rw [e]; rfl, rfl, fun _ => ?_⟩
            walk_at "gs"
          · obtain ⟨q, rfl⟩ := isi_s (not_t h)
            walk_at "gs"
            have e : decide (q = []) = !isS (.str (mkS q)) := by
              show _ = !decide ((mkS q).cps.toList ≠ [])
              rw [mkS_cps, decide_not, Bool.not_not]
            refine ⟨e, rfl, fun _ => ?_⟩
            walk_at "gs"
        · walk_at "gs"
          refine rw_neNil rfl (fun x hx => shp_mono (hp1 x (mem_fid hx)).shp (by decide)) ?_
          rw [isEmpty_map, isEmpty_filter, show (ps.all fun x => !!isS x) = ps.all isS from by simp]
          walk_at "gs"
          refine ite_k (fun c2 => ?_) (fun c2 => ?_)
          · walk_at "gs"
            rw [accY_f (not_f c2)]
          · walk_at "gs"
            obtain ⟨qs, rfl, hq⟩ := strs_of2 hp1 (not_t c2)
            exact ⟨qs, .un, rfl, hq, rfl⟩
      · rintro G1 ⟨qs, s6, rfl, hq, rfl⟩
        rw [accY_is fun r hr => (hq r hr).1]
        rw [List.length_map] at hpl
        refine ds_seq' ?_
        walk_at "gs"
        refine ds_mid' (fun G => ∃ s5 s6 s8, G = [.d (lD rows), .d (.tuple [zD yesL, .tuple (qs.map zD)]), .un, .un, .o none ((base rows).map zD), s5, s6, .un, s8]) ?_ ?_
        · refine ds_forE' (ch := [5]) ?_
          refine di_anyL (di_list ?_)
          walk_at "gs"
          refine ⟨fun i G => ∃ s5 s6 s8, G = [.d (lD rows), .d (.tuple [zD yesL, .tuple (qs.map zD)]), .un, .un, .o none (((rows.take i).flatMap fun one => (prs rows one).map fun o => o.drop one.length).map zD), s5, s6, .un, s8], ⟨_, _, _, rfl⟩, fun i G2 d hd ⟨s5, s6, s8, hG⟩ => ?_, fun G2 ⟨s5, s6, s8, hG⟩ => ?_⟩
          · subst hG
            rw [List.getElem?_map] at hd
            obtain ⟨v, hv, rfl⟩ := Option.map_eq_some_iff.mp hd
            have hvl := R.len v (List.mem_of_getElem? hv)
            refine dg_name ?_
            walk_at "gs"
            refine dw_lcF rows zD (fun o => decide (o ≠ v) && decide (o.take v.length = v)) (fun o => zD (o.drop v.length)) ?_
            refine di_anyL (di_list ?_)
            walk_at "gs"
            refine ⟨szl (by omega), fun B' o ho => ?_, ?_⟩
            · have hol := R.len o ho
              walk_at "gs"
              refine ite_k (fun c => ?_) (fun c => ?_)
              · have c : o ≠ v := by simpa using c
                walk_at "gs"
                refine rn_lenZ (by omega) ?_
                walk_at "gs"
                refine rs_to (by omega) ?_
                walk_at "gs"
                refine ⟨by simp [c], rfl, fun _ => ?_⟩
                walk_at "gs"
                refine rn_lenZ (by omega) ?_
                walk_at "gs"
                refine rs_from (by omega) ?_
                walk_at "gs"
              · have c : o = v := by simpa using c
                walk_at "gs"
                exact ⟨by simp [c], rfl, fun h => by simp [c] at h⟩
            · have hb := base_part R i
              walk_at "gs"
              refine rw_addL rfl rfl (szl (by
                rw [List.length_map, List.length_map]
                exact Nat.le_trans (Nat.add_le_add hb (List.length_filter_le _ _)) (by omega))) ?_
              walk_at "gs"
              refine ⟨.d (zD v), s6, .un, ?_⟩
              rw [base_take hv, List.map_append, List.map_map]
              rfl
          · subst hG
            rw [List.length_map, List.take_length]
            exact ⟨_, _, _, rfl⟩
        · rintro G1 ⟨s5, s6, s8, rfl⟩
          refine ds_mid' (fun G => ∃ s6, G = [.d (lD rows), .d (.tuple [zD yesL, .tuple (qs.map zD)]), .un, .un, .o none ((base rows ++ qs.flatMap (restsL rows)).map zD), s5, s6, .un, s8]) ?_ ?_
          · refine ds_forE' (ch := [6]) ?_
            refine di_anyT (di_tup ?_)
            walk_at "gs"
            refine ⟨fun i G => ∃ s6, G = [.d (lD rows), .d (.tuple [zD yesL, .tuple (qs.map zD)]), .un, .un, .o none ((base rows ++ (qs.take i).flatMap (restsL rows)).map zD), s5, s6, .un, s8], ⟨s6, by rw [show (qs.take 0).flatMap (restsL rows) = [] from rfl, List.append_nil]⟩, fun i G2 d hd ⟨s6, hG⟩ => ?_, fun G2 ⟨s6, hG⟩ => ?_⟩
            · subst hG
              rw [List.getElem?_map] at hd
              obtain ⟨v, hv, rfl⟩ := Option.map_eq_some_iff.mp hd
              refine dg_name ?_
              walk_at "gs"
              refine ⟨(z, rows, v), ⟨hz, R, (hq v (List.mem_of_getElem? hv)).2.1⟩, rfl, ?_⟩
              rintro _ rfl
              walk_at "gs"
              have h1 := base_len R
              have h2 : ((qs.take i).flatMap (restsL rows)).length ≤ (qs.take i).length * 10 := sum_len_le _ 10 fun x _ => restsL_len R x
              have h3 : (qs.take i).length ≤ qs.length := by
                rw [List.length_take]
                omega
              have h4 : (restsL (z, rows, v).2.1 (z, rows, v).2.2).length ≤ 10 := restsL_len R v
              refine rw_addL rfl rfl (szl (by
                rw [List.length_map, List.length_map, List.length_append]
                omega)) ?_
              walk_at "gs"
              refine ⟨.d (zD v), ?_⟩
              rw [List.take_succ, hv, List.flatMap_append, ← List.append_assoc, List.map_append (l₁ := base rows ++ _)]
              simp
            · subst hG
              rw [List.length_map, List.take_length]
              exact ⟨_, rfl⟩
          · rintro G1 ⟨s6, rfl⟩
            have h1 := base_len R
            have h2 : (qs.flatMap (restsL rows)).length ≤ qs.length * 10 := sum_len_le _ 10 fun x _ => restsL_len R x
            refine ds_freeze 4 rfl ?_
            walk_at "gs"
            refine dw_lcF (base rows ++ qs.flatMap (restsL rows)) zD (fun r => !decide (r ∈ qs)) zD ?_
            refine di_anyL (di_list ?_)
            walk_at "gs"
            have hlt : ∀ y ∈ base rows ++ qs.flatMap (restsL rows), Lt y := fun y hy => dueL_lt R hz (fun r hr => (hq r hr).2.2) hy
            refine ⟨szl (by rw [List.length_append]; omega), fun B' y hy => ?_, ?_⟩
            · walk_at "gs"
              refine rw_niT rfl (shp_ok (shp_z 50 (hlt y hy)) (by decide)) (shp_ok hps (by decide)) ?_
              rw [any_inj eqv_zD]
              walk_at "gs"
              refine ⟨congrArg Bool.not (decide_eq_decide.mpr Iff.rfl), rfl, fun _ => ?_⟩
              walk_at "gs"
            · walk_at "gs"
              refine rw_eqNil rfl (fun x hx => ?_) ?_
              · obtain ⟨r, hr, rfl⟩ := List.mem_map.mp hx
                exact shp_z 60 (hlt r (List.mem_filter.mp hr).1)
              · rw [isEmpty_map, isEmpty_filter]
                walk_at "gs"
                rw [all_dueL]
    · rw [accC_noo]
      refine ds_seq' ?_
      walk_at "gs"
      refine ds_mid' (fun G => ∃ p q s2, ps = [.tuple p, .tuple q] ∧ G = [.d (lD rows), .d (.tuple [zD noL', .tuple ps]), s2, .un, .un, .un, .un, .un, .un]) ?_ ?_
      · walk_at "gs"
        refine ite_k (fun c => ?_) (fun c => ?_)
        · walk_at "gs"
          rw [accN_len fun e => by rw [e] at c; cases c]
        · have hl : ps.length = 2 := by
            have := of_decide_eq_true (not_t c)
            omega
          obtain ⟨p, q, rfl⟩ := len2 hl
          walk_at "gs"
          refine dw_lcF [p, q] id (fun y => !isiD y "tuple") id ?_
          refine di_anyT (di_tup ?_)
          walk_at "gs"
          refine ⟨fun B' y hy => ?_, ?_⟩
          · dsimp only [id]
            walk_at "gs"
            refine fun _ => ?_
            walk_at "gs"
          · walk_at "gs"
            refine rw_neNil rfl (fun x hx => shp_mono (hp1 x (mem_fid hx)).shp (by decide)) ?_
            rw [isEmpty_map, isEmpty_filter]
            walk_at "gs"
            refine ite_k (fun c2 => ?_) (fun c2 => ?_)
            · walk_at "gs"
              rw [accN_rd ((show isiD p "tuple" = false ∨ isiD q "tuple" = false by simpa using c2).imp isRd_not isRd_not)]
            · have c2 : isiD p "tuple" = true ∧ isiD q "tuple" = true := by simpa using c2
              obtain ⟨as, rfl⟩ := isi_t c2.1
              obtain ⟨bs, rfl⟩ := isi_t c2.2
              walk_at "gs"
              exact ⟨as, bs, _, rfl, rfl⟩
      · rintro G1 ⟨as, bs, s2, rfl, rfl⟩
        refine ds_mid' (fun G => ∃ s2, isRd rows.length (.tuple as) = true ∧ isRd rows.length (.tuple bs) = true ∧ G = [.d (lD rows), .d (.tuple [zD noL', .tuple [.tuple as, .tuple bs]]), s2, .un, .un, .un, .un, .un, .un]) ?_ ?_
        · refine ds_forE' (ch := [2]) ?_
          refine di_anyT (di_tup ?_)
          walk_at "gs"
          refine ⟨fun i G => ∃ s2, (∀ j < i, ∀ d, [PyData.tuple as, PyData.tuple bs][j]? = some d → isRd rows.length d = true) ∧ G = [.d (lD rows), .d (.tuple [zD noL', .tuple [.tuple as, .tuple bs]]), s2, .un, .un, .un, .un, .un, .un], ⟨s2, fun j h => absurd h (Nat.not_lt_zero _), rfl⟩, fun i G2 d hd ⟨s2, hi, hG⟩ => ?_, fun G2 ⟨s2, hi, hG⟩ => ?_⟩
          · subst hG
            have hdm := List.mem_of_getElem? hd
            obtain ⟨ys, rfl⟩ : ∃ ys, d = .tuple ys := by
              simp at hdm
              rcases hdm with rfl | rfl <;> exact ⟨_, rfl⟩
            obtain ⟨hyl, hyn⟩ : ys.length ≤ 1000 ∧ ∀ y ∈ ys, Nc 37 y := hp1 _ hdm
            refine dg_name ?_
            walk_at "gs"
            refine dw_lcF ys id (fun y => !vN rows.length y) id ?_
            refine di_anyT (di_tup ?_)
            walk_at "gs"
            rw [List.map_id]
            refine ⟨rfl, szl (by omega), fun B' y hy => ?_, ?_⟩
            · dsimp only [id]
              walk_at "gs"
              refine ⟨(y, (rows.map zD).length), trivial, rfl, ?_⟩
              rintro _ rfl
              walk_at "gs"
              dsimp only
              rw [List.length_map]
              refine ⟨rfl, rfl, fun _ => ?_⟩
              walk_at "gs"
            · walk_at "gs"
              refine rw_neNil rfl (fun x hx => shp_mono (hyn x (mem_fid hx)).shp (by decide)) ?_
              rw [isEmpty_map, isEmpty_filter, show (ys.all fun x => !!vN rows.length x) = isRd rows.length (.tuple ys) from by show _ = ys.all _; simp]
              walk_at "gs"
              refine ite_k (fun c2 => ?_) (fun c2 => ?_)
              · walk_at "gs"
                rw [accN_rd' hdm (not_f c2)]
              · walk_at "gs"
                refine ⟨.d (.tuple ys), fun j hj d hd2 => ?_, rfl⟩
                rcases Nat.lt_succ_iff_lt_or_eq.mp hj with h | rfl
                · exact hi j h d hd2
                · rw [hd] at hd2
                  cases hd2
                  exact not_t c2
          · subst hG
            exact ⟨s2, hi 0 (by simp) _ rfl, hi 1 (by simp) _ rfl, rfl⟩
        · rintro G1 ⟨s2, ra, rb, rfl⟩
          obtain ⟨as', ea, ha⟩ := isRd_tup ra
          obtain ⟨bs', eb, hb⟩ := isRd_tup rb
          obtain rfl : as = as'.map nD := PyData.tuple.inj ea
          obtain rfl : bs = bs'.map nD := PyData.tuple.inj eb
          have accN_is := accN_is ha hb
          unfold wD at accN_is
          have hal : as'.length ≤ 1000 := by
            have := (hp1 _ List.mem_cons_self).1
            rwa [List.length_map] at this
          have hbl : bs'.length ≤ 1000 := by
            have := (hp1 _ (List.mem_cons_of_mem _ List.mem_cons_self)).1
            rwa [List.length_map] at this
          rw [accN_is]
          refine ds_seq' ?_
          walk_at "gs"
          refine dw_lcM [as', bs'] wD (fun y => zD (flat rows y)) ?_
          refine di_anyT (di_tup ?_)
          walk_at "gs"
          refine ⟨fun B' y hy => ?_, ?_⟩
          · have hy : y.length ≤ 1000 ∧ ∀ k ∈ y, k < rows.length := by
              simp at hy
              rcases hy with rfl | rfl
              · exact ⟨hal, ha⟩
              · exact ⟨hbl, hb⟩
            walk_at "gs"
            refine dw_lcM y nD (fun k => zD (rows[k]?.getD [])) ?_
            refine di_anyT (di_tup ?_)
            walk_at "gs"
            refine ⟨szl (by omega), fun B' k hk => ?_, ?_⟩
            · obtain ⟨v, hv⟩ : ∃ v, rows[k]? = some v := ⟨_, List.getElem?_eq_getElem (hy.2 k hk)⟩
              walk_at "gs"
              refine rw_ixL rfl (ati hv) ?_
              walk_at "gs"
              rw [hv]
              exact ⟨rfl, rfl⟩
            · walk_at "gs"
              refine rm_joinR (cs := y.map fun k => rows[k]?.getD []) (by rw [List.map_map]; rfl) ?_ ?_
              · have := flat_small R y
                unfold flat at this
                rw [List.length_flatten] at this
                omega
              · walk_at "gs"
          · walk_at "gs"
            refine ite_k (fun c3 => ?_) (fun c3 => ?_)
            · walk_at "gs"
              refine rw_neD rfl rfl (shp_ok (hp1 _ List.mem_cons_self).shp (by decide)) (shp_ok (hp1 _ (List.mem_cons_of_mem _ List.mem_cons_self)).shp (by decide)) ?_
              walk_at "gs"
              rw [c3, Bool.true_and]
            · walk_at "gs"
              rw [c3, Bool.false_and]
end
end K65
namespace K65
open PySem PySem.Spec PyProof.Rows L2 DL
local macro_rules | `(tactic| walk_at "st") => `(tactic| with_reducible first
  | refine pw_p ?_ | refine pw_o ?_ | refine dw_op ?_ | refine dw_un ?_ | refine dw_int ?_ | refine dw_str ?_ | refine dw_bl ?_ | refine dw_non ?_ | refine dw_ty ?_ | refine da_nil' ?_ | refine da_cons' ?_ | refine dw_sortSetT ?_ | refine dw_CB ?_ | refine dw_BM ?_ | refine dw_BM0 ?_
  | refine dw_tup ?_ | refine dw_lst ?_ | refine dw_notV ?_ | refine dw_and ?_ | refine dw_or ?_ | refine dw_if ?_ | refine dw_chain ?_ | refine dw_sl3 ?_ | refine dw_revT ?_ | refine dw_tupRg1 ?_ | refine dw_lstRg1 ?_ | refine dw_callI ?_ | refine dw_callJ ?_
  | refine dt_test ?_ | refine dt_B ?_ | refine dt_and ?_ | refine dt_or ?_ | refine dt_not ?_ | refine dt_yes ?_ | refine dt_truth ?_
  | refine ds_ret ?_ | refine ds_retN ?_ | refine ds_next ?_ | refine ds_break ?_ | refine ds_cont ?_ | refine ds_drop ?_ | refine ds_if ?_ | refine ds_set ?_
  | refine nx_nxt ?_ | refine rt_nxt ?_ | refine bk_nxt ?_ | refine ct_nxt ?_ | refine nx_lp ?_ | refine rt_lp ?_ | refine bk_lp ?_ | refine ct_lp ?_ | refine asn_d ?_ | refine asn_fr ?_ | refine rt_E0 ?_ | refine rt_E0o ?_ | refine nx_E0 ?_
  | refine dw_newK ?_ | refine dw_dInK ?_ | refine dw_dNotInK ?_ | refine dw_dGetK ?_ | refine ds_dPutK ?_ | refine dw_callH ?_
  | refine tr_b ?_ | refine tr_i ?_ | refine tr_n ?_ | refine tr_T ?_ | refine tr_L ?_
  | refine do_none ?_ | refine do_some ?_ | refine ite_t ?_ | refine ite_f ?_
  | refine rw_addI ?_ | refine rw_sub ?_ | refine rw_cmp ?_ | refine rw_eqI ?_ | refine rw_neI ?_ | refine rw_eqZ ?_ | refine rw_neZ ?_ | refine rw_eqS ?_ | refine rw_neS ?_ | refine rw_eqB ?_ | refine rw_neB ?_ | refine isN_d ?_ | refine notN_d ?_ | refine rw_isB ?_ | refine rw_notB ?_
  | refine rn_intI ?_ | refine rn_intB ?_ | refine rn_max ?_ | refine rn_min ?_ | refine rn_lenT ?_ | refine rn_lenD ?_ | refine rm_sw ?_ | refine isi_int ?_ | refine isi_bool ?_ | refine isi_str ?_ | refine isi_tuple ?_ | refine isi_list ?_ | refine rn_tupT ?_ | refine rn_listT ?_
  | refine ⟨_, rfl, ?_⟩
  | fail)
local macro_rules | `(tactic| walk_at "va") => `(tactic| first
  | ((with_reducible apply dw_var); rfl) | ((with_reducible apply dw_sl); rfl) | ((with_reducible apply dw_slK); rfl)
  | ((with_reducible apply rw_ixL); rfl; rfl) | ((with_reducible apply rw_ixT); rfl)
  | ((with_reducible apply ite_T); rfl) | ((with_reducible apply ite_F); rfl) | ((with_reducible apply tr_o); rfl)
  | refine ⟨_, rfl, szl (Nat.le_of_ble_eq_true rfl), ?_⟩
  | (with_reducible refine rw_mod (by omega) ?_)
  | (with_reducible refine rw_fdiv (by unfold CDiv; omega) ?_)
  | (with_reducible refine rw_mul (by unfold CMul; omega) ?_)
  | refine ⟨szl (Nat.le_of_ble_eq_true rfl), ?_⟩
  | refine ⟨⟨rfl, _, _, rfl⟩, ?_⟩
  | refine ⟨rfl, ?_⟩
  | rfl
  | fail)
local macro_rules | `(tactic| walk_at "go") => `(tactic| repeat' (first | walk_at "st" | (with_reducible refine ds_seq' ?_) | walk_at "va" | fail))
local macro_rules | `(tactic| walk_at "gs") => `(tactic| repeat' (first | walk_at "st" | walk_at "va" | fail))
/-- a text or a way -/
def It (d : PyData) : Prop := (∃ r : Row, d = zD r ∧ r.length ≤ 100 ∧ Lt r) ∨ ∃ ks : List Nat, d = wD ks ∧ ks.length ≤ 500
theorem Nc.z {r : Row} (n : Nat) (h : r.length ≤ 1000) (h2 : Lt r) : Nc (n + 1) (zD r) := by
  show (mkS r).cps.toList.length ≤ 1000 ∧ Lt (mkS r).cps.toList
  rw [mkS_cps]
  exact ⟨h, h2⟩
theorem Nc.w {ks : List Nat} (n : Nat) (h : ks.length ≤ 1000) : Nc (n + 2) (wD ks) := by
  show (ks.map nD).length ≤ 1000 ∧ ∀ x ∈ ks.map nD, Nc (n + 1) x
  rw [List.length_map]
  refine ⟨h, fun x hx => ?_⟩
  obtain ⟨k, _, rfl⟩ := List.mem_map.mp hx
  trivial
theorem It.nc {d : PyData} (h : It d) (n : Nat) : Nc (n + 2) d := by
  rcases h with ⟨r, rfl, h1, h2⟩ | ⟨ks, rfl, h1⟩
  · exact Nc.z _ (by omega) h2
  · exact Nc.w _ (by omega)
theorem wD_app (a b : List Nat) : PyData.tuple (a.map nD ++ b.map nD) = wD (a ++ b) := by
  show _ = PyData.tuple ((a ++ b).map nD)
  rw [List.map_append]
theorem add_nc {z : List Nat} (h3 : z.length ≤ 3) (h4 : ∀ c ∈ z, c < 0x110000) {v : PyData} (h : v ∈ [PyData.tuple [.int 0], zD [97], zD z, .int 5]) : Nc 38 v := by
  simp only [List.mem_cons, List.not_mem_nil, or_false] at h
  rcases h with rfl | rfl | rfl | rfl
  · exact Nc.w (ks := [0]) 36 (by decide)
  · exact Nc.z 37 (by decide) fun c hc => by rw [List.mem_singleton.mp hc]; decide
  · exact Nc.z 37 (by omega) h4
  · trivial
theorem Nc.ap {ks : List Nat} (h : ks.length ≤ 500) (i : Int) : Nc 38 (.tuple (ks.map nD ++ [.int i])) := by
  show (ks.map nD ++ [PyData.int i]).length ≤ 1000 ∧ ∀ x ∈ ks.map nD ++ [PyData.int i], Nc 37 x
  refine ⟨by simp; omega, fun x hx => ?_⟩
  rcases List.mem_append.mp hx with hx | hx
  · obtain ⟨k, _, rfl⟩ := List.mem_map.mp hx
    trivial
  · rw [List.mem_singleton.mp hx]
    trivial
theorem Nc.dr {ks : List Nat} (h : ks.length ≤ 500) : Nc 38 (.tuple ((ks.map nD).drop 1)) := by
  rw [← List.map_drop]
  exact Nc.w 36 (by rw [List.length_drop]; omega)
theorem turn_nc {ps : List PyData} (hp : ∀ p ∈ ps, It p) {k : Nat} {v : PyData} (hv : Nc 38 v) : ∀ q ∈ ps.take k ++ [v] ++ ps.drop (k + 1), Nc 38 q := fun q hq => by
  rcases List.mem_append.mp hq with hq | hq
  · rcases List.mem_append.mp hq with hq | hq
    · exact (hp q (List.mem_of_mem_take hq)).nc 36
    · rw [List.mem_singleton.mp hq]
      exact hv
  · exact (hp q (List.mem_of_mem_drop hq)).nc 36
section
variable {P : Program} {w : World} {K : PySem.W.Frag} {mg : Str → Option Value} {base' : Heap} {a : Ad}
abbrev argJ (x : Stt × List Nat × List PyData) : List PyData := [zD x.2.1, .tuple x.2.2]
def preJ (x : Stt × List Nat × List PyData) : Prop := x.1.ok ∧ x.2.1 ∈ sigs ∧ x.2.2.length ≤ 100 ∧ ∀ p ∈ x.2.2, It p
def resJ (x : Stt × List Nat × List PyData) (l : List PyData) (d : PyData) : Prop := ∃ (st : Stt) (qs : List PyData), st.ok ∧ l = encS st ∧ d = .tuple qs ∧ qs.length ≤ 101 ∧ ∀ q ∈ qs, Nc 38 q
abbrev spJt (K : PySem.W.Frag) := spJ K (fun x : Stt × List Nat × List PyData => encS x.1) argJ preJ resJ
theorem ok_law_turned (T : Tx K mg a) (G_law_next : FnOk P w K mg base' CX0 1 a.f9 a.d9 ["state", "limit"] (spN K)) : FnOk P w K mg base' CX0 2 a.f22 a.d22 ["state", "signs", "paper"] (spJt K) := by
  refine fnJ T.F_law_turned sc_law_turned (fun x => ⟨rfl, by decide⟩) fun cdv A outer s H E hr => ⟨_, (pss_cons (ps_set (i := 3) sc_law_turned.nd rfl (Or.inl rfl) (pe_call G_law_next hr (by rfl) T.m_law_next T.k_law_next T.b_law_next .nil pass0 (pa_cons (pv 0) (pa_cons pe_int pa_nil)))) (pss_cons (ps_if (PW.pt (pw_or (pt_cmpR (kEQ K rfl hr.units) (pv 2) (pe_tup pa_nil) (nomark _)) (pw_or1 (pt_cmpR (kEQ K rfl hr.units) (pv 3) pe_int (nomark _))))) (pss_one (ps_ret (pe_op (kADD K rfl) (pv 2) (pe_tup (pa_cons (pe_ix (kIX K rfl) (pe_lst (pa_cons (pe_tup (pa_cons pe_int pa_nil)) (pa_cons (pe_strM [97] rfl) (pa_cons (pv 1) (pa_cons pe_int pa_nil))))) (pe_call G_law_next hr (by rfl) T.m_law_next T.k_law_next T.b_law_next .nil pass0 (pa_cons (pv 0) (pa_cons pe_int pa_nil))) (fun _ _ => rfl)) pa_nil))))) pss_nil) (pss_cons (ps_set (i := 4) sc_law_turned.nd rfl (Or.inl rfl) (pe_call G_law_next hr (by rfl) T.m_law_next T.k_law_next T.b_law_next .nil pass0 (pa_cons (pv 0) (pa_cons (pe_callB (kLEN K rfl) (by rfl) T.z_len (by decide +kernel) (pa_cons (pv 2) pa_nil)) pa_nil)))) (pss_cons (ps_if (pt_cmpR (kEQ K rfl hr.units) (pv 3) pe_int (nomark _)) (pss_one (ps_ret (pe_op (kADD K rfl) (pe_slice (kSLC K rfl) (pv 2) po_none (po_some (pv 4))) (pe_slice (kSLC K rfl) (pv 2) (po_some (pe_op (kADD K rfl) (pv 4) pe_int)) po_none)))) pss_nil) (pss_cons (ps_if (pt_cmpR (kEQ K rfl hr.units) (pv 3) pe_int (nomark _)) (pss_one (ps_ret (kREVT K rfl (pe_revT (pv 2))))) pss_nil) (pss_cons (ps_if (kTRUTH K rfl (pe_callB (kISI K rfl) (by rfl) T.z_isinstance (by decide +kernel) (pa_cons (pe_ix (kIX K rfl) (pv 2) (pv 4) (fun _ _ => rfl)) (pa_cons (pe_bltn (v := .ty "tuple") (by rfl) T.z_tuple (by decide +kernel) rfl) pa_nil))) (by intro _; rfl)) (pss_one (ps_ret (pe_op (kADD K rfl) (pe_op (kADD K rfl) (pe_slice (kSLC K rfl) (pv 2) po_none (po_some (pv 4))) (pe_tup (pa_cons (pe_ix (kIX K rfl) (pe_lst (pa_cons pe_non (pa_cons (pe_op (kADD K rfl) (pe_ix (kIX K rfl) (pv 2) (pv 4) (fun _ _ => rfl)) (pe_tup (pa_cons pe_int pa_nil))) (pa_cons (pe_slice (kSLC K rfl) (pe_ix (kIX K rfl) (pv 2) (pv 4) (fun _ _ => rfl)) (po_some pe_int) po_none) (pa_cons (pe_op (kADD K rfl) (pe_ix (kIX K rfl) (pv 2) (pv 4) (fun _ _ => rfl)) (pe_tup (pa_cons pe_int pa_nil))) pa_nil))))) (pe_op op_sub (pv 3) pe_int) (fun _ _ => rfl)) pa_nil))) (pe_slice (kSLC K rfl) (pv 2) (po_some (pe_op (kADD K rfl) (pv 4) pe_int)) po_none)))) pss_nil) (pss_one (ps_ret (pe_op (kADD K rfl) (pe_op (kADD K rfl) (pe_slice (kSLC K rfl) (pv 2) po_none (po_some (pv 4))) (pe_tup (pa_cons (pe_ix (kIX K rfl) (pe_lst (pa_cons (pe_op (kADD K rfl) (pe_ix (kIX K rfl) (pv 2) (pv 4) (fun _ _ => rfl)) (pe_ix (kIX K rfl) (pv 1) pe_int (fun _ _ => rfl))) (pa_cons (pe_slice (kSLC K rfl) (pe_ix (kIX K rfl) (pv 2) (pv 4) (fun _ _ => rfl)) (po_some pe_int) po_none) (pa_cons pe_int (pa_cons pe_non pa_nil))))) (pe_op op_sub (pv 3) pe_int) (fun _ _ => rfl)) pa_nil))) (pe_slice (kSLC K rfl) (pv 2) (po_some (pe_op (kADD K rfl) (pv 4) pe_int)) po_none)))))))))), ?_⟩
  rintro ⟨st, z, ps⟩ ⟨hst, hz, hl, hp⟩ p B
  dsimp only [argJ] at *
  have hz : z ∈ sigs := hz
  have hl : ps.length ≤ 100 := hl
  have hp : ∀ p ∈ ps, It p := hp
  obtain ⟨z1, z2, z3, z4⟩ := sigs_ok hz
  have hsh : Shp 39 (.tuple ps) := shp_tup fun x hx => ((hp x hx).nc 36).shp
  refine ds_seq' ?_
  walk_at "gs"
  refine ⟨(st, 6), 0, some p, _, ⟨hst, by simp, by simp⟩, rfl, rfl, rfl, ?_⟩
  rintro _ _ ⟨st1, pk, hst1, rfl, rfl, hpk⟩
  have hpk : pk < 6 := hpk
  walk_at "gs"
  refine ds_mid' (fun G => ps ≠ [] ∧ pk ≠ 0 ∧ G = [.o (some p) (encS st1), .d (zD z), .d (.tuple ps), .d (nD pk), .un]) ?_ ?_
  · walk_at "gs"
    refine rw_eqD rfl rfl (shp_ok hsh (by decide)) (shp_ok (n := 1) (shp_tup (by simp)) (by decide)) ?_
    walk_at "gs"
    refine ite_k (fun c => ?_) (fun c => ?_)
    · walk_at "gs"
      refine ⟨(st1, 4), 0, some p, _, ⟨hst1, by simp, by simp⟩, rfl, rfl, rfl, ?_⟩
      rintro _ _ ⟨st2, j, hst2, rfl, rfl, hj⟩
      have hj : j < 4 := hj
      obtain ⟨v, hv⟩ : ∃ v, [PyData.tuple [.int 0], zD [97], zD z, .int 5][j]? = some v := ⟨_, List.getElem?_eq_getElem hj⟩
      walk_at "gs"
      refine rw_ixL rfl (atn hv) ?_
      walk_at "gs"
      refine rw_addT (szl (by simp; omega)) ?_
      walk_at "gs"
      exact rt_E1 rfl ⟨st2, ps ++ [v], hst2, rfl, rfl, by simp; omega, fun q hq => (List.mem_append.mp hq).elim (fun h => (hp q h).nc 36) fun h => by rw [List.mem_singleton.mp h]; exact add_nc z3 z4 (List.mem_of_getElem? hv)⟩
    · walk_at "gs"
      refine ite_k (fun c2 => ?_) (fun c2 => ?_)
      · walk_at "gs"
        refine ⟨(st1, 4), 0, some p, _, ⟨hst1, by simp, by simp⟩, rfl, rfl, rfl, ?_⟩
        rintro _ _ ⟨st2, j, hst2, rfl, rfl, hj⟩
        have hj : j < 4 := hj
        obtain ⟨v, hv⟩ : ∃ v, [PyData.tuple [.int 0], zD [97], zD z, .int 5][j]? = some v := ⟨_, List.getElem?_eq_getElem hj⟩
        walk_at "gs"
        refine rw_ixL rfl (atn hv) ?_
        walk_at "gs"
        refine rw_addT (szl (by simp; omega)) ?_
        walk_at "gs"
        exact rt_E1 rfl ⟨st2, ps ++ [v], hst2, rfl, rfl, by simp; omega, fun q hq => (List.mem_append.mp hq).elim (fun h => (hp q h).nc 36) fun h => by rw [List.mem_singleton.mp h]; exact add_nc z3 z4 (List.mem_of_getElem? hv)⟩
      · walk_at "gs"
        refine ⟨fun e => ?_, fun e => ?_, rfl⟩
        · rw [e] at c
          cases c
        · rw [e] at c2
          cases c2
  · rintro G1 ⟨hne, hp0, rfl⟩
    have hlen : 0 < ps.length := List.length_pos_iff.mpr hne
    refine ds_seq' ?_
    walk_at "gs"
    refine ⟨(st1, ps.length), 0, some p, _, ⟨hst1, hlen, by show ps.length < 1000000000; omega⟩, rfl, rfl, rfl, ?_⟩
    rintro _ _ ⟨st2, k, hst2, rfl, rfl, hk⟩
    have hk : k < ps.length := hk
    obtain ⟨c0, hc0⟩ : ∃ c, z[0]? = some c := ⟨_, List.getElem?_eq_getElem (by omega)⟩
    obtain ⟨x, hx⟩ : ∃ x, ps[k]? = some x := ⟨_, List.getElem?_eq_getElem hk⟩
    walk_at "gs"
    obtain rfl | rfl | rfl | rfl | rfl : pk = 1 ∨ pk = 2 ∨ pk = 3 ∨ pk = 4 ∨ pk = 5 := by omega
    · walk_at "go"
      refine rs_Tto ?_
      walk_at "go"
      refine rs_Tfrom (n := k + 1) ?_
      walk_at "go"
      refine rw_addT (szl (by rw [List.length_take, List.length_drop]; omega)) ?_
      walk_at "go"
      exact rt_E1 rfl ⟨st2, ps.take k ++ ps.drop (k + 1), hst2, rfl, rfl, by rw [List.length_append, List.length_take, List.length_drop]; omega, fun q hq => (hp q ((List.mem_append.mp hq).elim List.mem_of_mem_take List.mem_of_mem_drop)).nc 36⟩
    · walk_at "go"
      exact rt_E1 rfl ⟨st2, ps.reverse, hst2, rfl, rfl, by rw [List.length_reverse]; omega, fun q hq => (hp q (List.mem_reverse.mp hq)).nc 36⟩
    · walk_at "go"
      refine rw_ixT (atn hx) ?_
      rcases hp x (List.mem_of_getElem? hx) with ⟨r, rfl, hr1, hr2⟩ | ⟨ks, rfl, hk1⟩
      · walk_at "go"
        refine rs_Tto ?_
        walk_at "go"
        refine rw_ixT (atn hx) ?_
        walk_at "go"
        refine rw_ixS (szl (by omega)) (atn (i := 0) hc0) ?_
        walk_at "go"
        refine rw_addZ (by simp; omega) ?_
        walk_at "go"
        refine rw_ixT (atn hx) ?_
        walk_at "go"
        refine rs_from (n := 1) (by omega) ?_
        walk_at "go"
        refine rw_addT (szl (by rw [List.length_take]; simp; omega)) ?_
        walk_at "go"
        refine rs_Tfrom (n := k + 1) ?_
        walk_at "go"
        refine rw_addT (szl (by simp; omega)) ?_
        walk_at "go"
        exact rt_E1 rfl ⟨st2, ps.take k ++ [zD (r.drop 1)] ++ ps.drop (k + 1), hst2, rfl, rfl, by simp; omega, turn_nc hp (Nc.z 37 (by rw [List.length_drop]; omega) (hr2.drop 1))⟩
      · walk_at "go"
        refine rs_Tto ?_
        walk_at "go"
        refine rw_ixT (atn hx) ?_
        walk_at "go"
        refine rw_addT (szl (by simp; omega)) ?_
        walk_at "go"
        refine rw_ixT (atn hx) ?_
        walk_at "go"
        refine rs_Tfrom (n := 1) ?_
        walk_at "go"
        refine rw_ixT (atn hx) ?_
        walk_at "go"
        refine rw_addT (szl (by simp; omega)) ?_
        walk_at "go"
        refine rw_addT (szl (by rw [List.length_take]; simp; omega)) ?_
        walk_at "go"
        refine rs_Tfrom (n := k + 1) ?_
        walk_at "go"
        refine rw_addT (szl (by simp; omega)) ?_
        walk_at "go"
        exact rt_E1 rfl ⟨st2, ps.take k ++ [.tuple (ks.map nD ++ [.int 0])] ++ ps.drop (k + 1), hst2, rfl, rfl, by simp; omega, turn_nc hp (Nc.ap (by omega) _)⟩
    · walk_at "go"
      refine rw_ixT (atn hx) ?_
      rcases hp x (List.mem_of_getElem? hx) with ⟨r, rfl, hr1, hr2⟩ | ⟨ks, rfl, hk1⟩
      · walk_at "go"
        refine rs_Tto ?_
        walk_at "go"
        refine rw_ixT (atn hx) ?_
        walk_at "go"
        refine rw_ixS (szl (by omega)) (atn (i := 0) hc0) ?_
        walk_at "go"
        refine rw_addZ (by simp; omega) ?_
        walk_at "go"
        refine rw_ixT (atn hx) ?_
        walk_at "go"
        refine rs_from (n := 1) (by omega) ?_
        walk_at "go"
        refine rw_addT (szl (by rw [List.length_take]; simp; omega)) ?_
        walk_at "go"
        refine rs_Tfrom (n := k + 1) ?_
        walk_at "go"
        refine rw_addT (szl (by simp; omega)) ?_
        walk_at "go"
        exact rt_E1 rfl ⟨st2, ps.take k ++ [.int 5] ++ ps.drop (k + 1), hst2, rfl, rfl, by simp; omega, turn_nc hp (by first | exact (show Nc 38 (.int 5) from trivial) | exact (show Nc 38 .none from trivial))⟩
      · walk_at "go"
        refine rs_Tto ?_
        walk_at "go"
        refine rw_ixT (atn hx) ?_
        walk_at "go"
        refine rw_addT (szl (by simp; omega)) ?_
        walk_at "go"
        refine rw_ixT (atn hx) ?_
        walk_at "go"
        refine rs_Tfrom (n := 1) ?_
        walk_at "go"
        refine rw_ixT (atn hx) ?_
        walk_at "go"
        refine rw_addT (szl (by simp; omega)) ?_
        walk_at "go"
        refine rw_addT (szl (by rw [List.length_take]; simp; omega)) ?_
        walk_at "go"
        refine rs_Tfrom (n := k + 1) ?_
        walk_at "go"
        refine rw_addT (szl (by simp; omega)) ?_
        walk_at "go"
        exact rt_E1 rfl ⟨st2, ps.take k ++ [.tuple ((ks.map nD).drop 1)] ++ ps.drop (k + 1), hst2, rfl, rfl, by simp; omega, turn_nc hp (Nc.dr (by omega))⟩
    · walk_at "go"
      refine rw_ixT (atn hx) ?_
      rcases hp x (List.mem_of_getElem? hx) with ⟨r, rfl, hr1, hr2⟩ | ⟨ks, rfl, hk1⟩
      · walk_at "go"
        refine rs_Tto ?_
        walk_at "go"
        refine rw_ixT (atn hx) ?_
        walk_at "go"
        refine rw_ixS (szl (by omega)) (atn (i := 0) hc0) ?_
        walk_at "go"
        refine rw_addZ (by simp; omega) ?_
        walk_at "go"
        refine rw_ixT (atn hx) ?_
        walk_at "go"
        refine rs_from (n := 1) (by omega) ?_
        walk_at "go"
        refine rw_addT (szl (by rw [List.length_take]; simp; omega)) ?_
        walk_at "go"
        refine rs_Tfrom (n := k + 1) ?_
        walk_at "go"
        refine rw_addT (szl (by simp; omega)) ?_
        walk_at "go"
        exact rt_E1 rfl ⟨st2, ps.take k ++ [.none] ++ ps.drop (k + 1), hst2, rfl, rfl, by simp; omega, turn_nc hp (by first | exact (show Nc 38 (.int 5) from trivial) | exact (show Nc 38 .none from trivial))⟩
      · walk_at "go"
        refine rs_Tto ?_
        walk_at "go"
        refine rw_ixT (atn hx) ?_
        walk_at "go"
        refine rw_addT (szl (by simp; omega)) ?_
        walk_at "go"
        refine rw_ixT (atn hx) ?_
        walk_at "go"
        refine rs_Tfrom (n := 1) ?_
        walk_at "go"
        refine rw_ixT (atn hx) ?_
        walk_at "go"
        refine rw_addT (szl (by simp; omega)) ?_
        walk_at "go"
        refine rw_addT (szl (by rw [List.length_take]; simp; omega)) ?_
        walk_at "go"
        refine rs_Tfrom (n := k + 1) ?_
        walk_at "go"
        refine rw_addT (szl (by simp; omega)) ?_
        walk_at "go"
        exact rt_E1 rfl ⟨st2, ps.take k ++ [.tuple (ks.map nD ++ [.int 9])] ++ ps.drop (k + 1), hst2, rfl, rfl, by simp; omega, turn_nc hp (Nc.ap (by omega) _)⟩
end
end K65
namespace K65
open PySem PySem.Spec PyProof.Rows L2 DL
local macro_rules | `(tactic| walk_at "st") => `(tactic| with_reducible first
  | refine pw_p ?_ | refine pw_o ?_ | refine dw_op ?_ | refine dw_un ?_ | refine dw_int ?_ | refine dw_str ?_ | refine dw_bl ?_ | refine dw_non ?_ | refine dw_ty ?_ | refine da_nil' ?_ | refine da_cons' ?_ | refine dw_sortSetT ?_ | refine dw_CB ?_ | refine dw_BM ?_ | refine dw_BM0 ?_
  | refine dw_tup ?_ | refine dw_lst ?_ | refine dw_notV ?_ | refine dw_and ?_ | refine dw_or ?_ | refine dw_if ?_ | refine dw_chain ?_ | refine dw_sl3 ?_ | refine dw_revT ?_ | refine dw_tupRg1 ?_ | refine dw_lstRg1 ?_ | refine dw_callI ?_ | refine dw_callJ ?_
  | refine dt_test ?_ | refine dt_B ?_ | refine dt_and ?_ | refine dt_or ?_ | refine dt_not ?_ | refine dt_yes ?_ | refine dt_truth ?_
  | refine ds_ret ?_ | refine ds_retN ?_ | refine ds_next ?_ | refine ds_break ?_ | refine ds_cont ?_ | refine ds_drop ?_ | refine ds_if ?_ | refine ds_set ?_
  | refine nx_nxt ?_ | refine rt_nxt ?_ | refine bk_nxt ?_ | refine ct_nxt ?_ | refine nx_lp ?_ | refine rt_lp ?_ | refine bk_lp ?_ | refine ct_lp ?_ | refine asn_d ?_ | refine asn_fr ?_ | refine rt_E0 ?_ | refine rt_E0o ?_ | refine nx_E0 ?_
  | refine dw_newK ?_ | refine dw_dInK ?_ | refine dw_dNotInK ?_ | refine dw_dGetK ?_ | refine ds_dPutK ?_
  | refine tr_b ?_ | refine tr_i ?_ | refine tr_n ?_ | refine tr_T ?_ | refine tr_L ?_
  | refine do_none ?_ | refine do_some ?_ | refine ite_t ?_ | refine ite_f ?_
  | refine rw_addI ?_ | refine rw_sub ?_ | refine rw_cmp ?_ | refine rw_eqI ?_ | refine rw_neI ?_ | refine rw_eqZ ?_ | refine rw_neZ ?_ | refine rw_eqS ?_ | refine rw_neS ?_ | refine rw_eqB ?_ | refine rw_neB ?_ | refine isN_d ?_ | refine notN_d ?_ | refine rw_isB ?_ | refine rw_notB ?_
  | refine rn_intI ?_ | refine rn_intB ?_ | refine rn_max ?_ | refine rn_min ?_ | refine rn_lenT ?_ | refine rn_lenD ?_ | refine rm_sw ?_ | refine isi_int ?_ | refine isi_bool ?_ | refine isi_str ?_ | refine isi_tuple ?_ | refine isi_list ?_ | refine rn_tupT ?_ | refine rn_listT ?_
  | refine ⟨_, rfl, ?_⟩
  | fail)
local macro_rules | `(tactic| walk_at "va") => `(tactic| first
  | ((with_reducible apply dw_var); rfl) | ((with_reducible apply dw_sl); rfl) | ((with_reducible apply dw_slK); rfl)
  | ((with_reducible apply rw_ixL); rfl; rfl) | ((with_reducible apply rw_ixT); rfl)
  | ((with_reducible apply ite_T); rfl) | ((with_reducible apply ite_F); rfl) | ((with_reducible apply tr_o); rfl)
  | refine ⟨_, rfl, szl (Nat.le_of_ble_eq_true rfl), ?_⟩
  | (with_reducible refine rw_mod (by omega) ?_)
  | (with_reducible refine rw_fdiv (by unfold CDiv; omega) ?_)
  | (with_reducible refine rw_mul (by unfold CMul; omega) ?_)
  | refine ⟨szl (Nat.le_of_ble_eq_true rfl), ?_⟩
  | refine ⟨⟨rfl, _, _, rfl⟩, ?_⟩
  | refine ⟨rfl, ?_⟩
  | rfl
  | fail)
local macro_rules | `(tactic| walk_at "go") => `(tactic| repeat' (first | walk_at "st" | (with_reducible refine ds_seq' ?_) | walk_at "va" | fail))
local macro_rules | `(tactic| walk_at "gs") => `(tactic| repeat' (first | walk_at "st" | walk_at "va" | fail))
theorem nodup_of : ∀ l : List Row, ∃ F : List Row, F.Nodup ∧ ∀ r, r ∈ F ↔ r ∈ l
  | [] => ⟨[], .nil, by simp⟩
  | x :: l => by
    obtain ⟨F, h1, h2⟩ := nodup_of l
    by_cases h : x ∈ l
    · refine ⟨F, h1, fun r => ?_⟩
      rw [h2, List.mem_cons]
      exact ⟨.inr, fun q => q.elim (fun e => e ▸ h) id⟩
    · refine ⟨x :: F, List.nodup_cons.mpr ⟨fun q => h ((h2 x).mp q), h1⟩, fun r => ?_⟩
      rw [List.mem_cons, List.mem_cons, h2]
theorem clo_ex (rows : List Row) : ∃ F : List Row, F.Nodup ∧ ∀ r, r ∈ F ↔ Cl rows r := by
  classical
  obtain ⟨F, h1, h2⟩ := nodup_of ((uni rows).filter fun r => decide (Cl rows r))
  refine ⟨F, h1, fun r => ?_⟩
  rw [h2, List.mem_filter, decide_eq_true_eq]
  exact ⟨fun h => h.2, fun h => ⟨h.uni, h⟩⟩
theorem clo_iff {rows : List Row} (x : Row) : x ∈ clo rows ↔ Cl rows x := by
  obtain ⟨F, h1, h2⟩ := clo_ex rows
  exact clo_mem h1 h2 x
theorem clo_len {z : List Nat} {rows : List Row} (R : RowsOk z rows) : (clo rows).length ≤ 65 := by
  obtain ⟨F, h1, h2⟩ := clo_ex rows
  rw [← clo_eq h1 h2, (srtR_perm F).length_eq]
  exact Nat.le_trans (h1.length_le_of_subset fun x hx => ((h2 x).mp hx).uni) (uni_len R)
theorem nat_min {p : Nat → Prop} {n : Nat} (h : p n) : ∃ m, p m ∧ ∀ k, p k → m ≤ k := by
  induction n using Nat.strongRecOn with
  | _ n ih =>
    by_cases q : ∃ k, k < n ∧ p k
    · obtain ⟨k, hk, pk⟩ := q
      exact ih k hk pk
    · refine ⟨n, h, fun k pk => ?_⟩
      rcases Nat.lt_or_ge k n with z | z
      · exact absurd ⟨k, z, pk⟩ q
      · exact z
theorem lex_min : ∀ (n : Nat) (S : Row → Prop), (∃ t, S t ∧ t.length = n) → ∃ t, S t ∧ t.length = n ∧ ∀ t', S t' → t'.length = n → ¬ t' < t
  | 0, S, ⟨t, h1, h2⟩ => by
    refine ⟨t, h1, h2, fun t' _ h4 h5 => ?_⟩
    rw [List.eq_nil_of_length_eq_zero h2, List.eq_nil_of_length_eq_zero h4] at h5
    exact List.lt_irrefl _ h5
  | n + 1, S, ⟨t, h1, h2⟩ => by
    obtain ⟨c, u, rfl⟩ : ∃ c u, t = c :: u := by
      cases t with
      | nil => cases h2
      | cons c u => exact ⟨c, u, rfl⟩
    obtain ⟨m, ⟨v, k1, k2⟩, k3⟩ := nat_min (p := fun c => ∃ u, S (c :: u) ∧ u.length = n) (n := c) ⟨u, h1, by simpa using h2⟩
    obtain ⟨x, x1, x2, x3⟩ := lex_min n (fun u => S (m :: u)) ⟨v, k1, k2⟩
    refine ⟨m :: x, x1, by simp [x2], fun t' q1 q2 q3 => ?_⟩
    cases t' with
    | nil => cases q2
    | cons c' u' =>
      have q2 : u'.length = n := by simpa using q2
      rcases List.cons_lt_cons_iff.mp q3 with z | ⟨rfl, z⟩
      · have := k3 c' ⟨u', q1, q2⟩
        omega
      · exact x3 u' q1 q2 z
theorem dbl_ex {rows : List Row} {t : Row} (h : Rc rows t []) : ∃ u, IsDbl rows u := by
  obtain ⟨n, ⟨v, k1, k2⟩, k3⟩ := nat_min (p := fun n => ∃ u, Rc rows u [] ∧ u.length = n) ⟨t, h, rfl⟩
  obtain ⟨x, x1, x2, x3⟩ := lex_min n (fun u => Rc rows u []) ⟨v, k1, k2⟩
  refine ⟨x, x1, fun t' h' => ?_⟩
  have := k3 _ ⟨t', h', rfl⟩
  rcases Nat.lt_or_ge n t'.length with z | z
  · exact .inl (by omega)
  · exact .inr ⟨by omega, x3 t' h' (by omega)⟩
theorem eqv_nDs : ∀ a b : List Nat, PyData.eqvAll (a.map nD) (b.map nD) = decide (a = b)
  | [], [] => by simp [PyData.eqvAll]
  | [], _ :: _ => by simp [PyData.eqvAll]
  | _ :: _, [] => by simp [PyData.eqvAll]
  | x :: a, y :: b => by
    have ih := eqv_nDs a b
    have e : PyData.eqv (nD x) (nD y) = decide (x = y) := eqv_iD x y
    simp only [List.map_cons, PyData.eqvAll, ih, e]
    by_cases h : x = y <;> simp [h]
theorem eqv_wD (a b : List Nat) : PyData.eqv (wD a) (wD b) = decide (a = b) := by
  rw [← eqv_nDs]
  simp only [wD, PyData.eqv]
theorem nil_clo {z : List Nat} {rows : List Row} (R : RowsOk z rows) : [] ∈ clo rows ↔ dbl rows ≠ none := by
  rw [clo_iff]
  constructor
  · intro h e
    obtain ⟨t, ht⟩ := cl_rc h
    obtain ⟨u, hu⟩ := dbl_ex ht
    rw [dbl_some hu] at e
    cases e
  · intro h
    cases e : dbl rows with
    | none => exact absurd e h
    | some t => exact rc_cl (dbl_is e).1
theorem cl_rests {rows : List Row} {q r : Row} (hq : Cl rows q) (hn : q ≠ []) (h : r ∈ rests rows q) : Cl rows r := .step hq hn h
/-- what is due -/
theorem due_ok {z : List Nat} {rows : List Row} (hz : z ∈ sigs) (R : RowsOk z rows) (hb : ∀ t, dbl rows = some t → t.length ≤ 212 ∧ Lt t) : ∃ x ps, dueD rows = .tuple [x, .tuple ps] ∧ (x = zD yesL ∨ x = zD noL') ∧ ps.length ≤ 65 ∧ (∀ p ∈ ps, It p) ∧ accC rows (dueD rows) = true := by
  unfold dueD
  cases e : dbl rows with
  | none =>
    refine ⟨_, _, rfl, .inl rfl, by rw [List.length_map]; exact clo_len R, fun p hp => ?_, ?_⟩
    · obtain ⟨r, hr, rfl⟩ := List.mem_map.mp hp
      obtain ⟨h1, h2⟩ := uni_small R hz ((clo_iff r).mp hr).uni
      exact .inl ⟨r, rfl, by omega, h2⟩
    · have hne : ∀ r ∈ clo rows, r ≠ [] := fun r hr h => (nil_clo R).mp (h ▸ hr) e
      dsimp only
      rw [accC_yes, accY_is hne, List.all_eq_true]
      intro r hr
      refine decide_eq_true ((clo_iff r).mpr ?_)
      rcases List.mem_append.mp hr with h | h
      · exact .base h
      · obtain ⟨q, h1, h2⟩ := List.mem_flatMap.mp h
        exact cl_rests ((clo_iff q).mp h1) (hne q h1) h2
  | some t =>
    obtain ⟨ht, _⟩ := hb t e
    have h2 := dbl_ways R.ne (dbl_is e).1
    have hlen : ∀ w ∈ ways rows t, w.length ≤ t.length := fun w hw => way_len R.ne hw
    have hpw := ways_pw R.ne _ t (Nat.le_refl _)
    obtain ⟨w1, w2, ws, ew⟩ : ∃ w1 w2 ws, ways rows t = w1 :: w2 :: ws := by
      match hw : ways rows t, h2 with
      | w1 :: w2 :: ws, _ => exact ⟨w1, w2, ws, rfl⟩
    have m1 : w1 ∈ ways rows t := by rw [ew]; simp
    have m2 : w2 ∈ ways rows t := by rw [ew]; simp
    have hne : w1 ≠ w2 := by
      rw [ew] at hpw
      intro q
      have := (List.pairwise_cons.mp hpw).1 w2 (by simp)
      rw [q] at this
      exact List.lt_irrefl _ this
    obtain ⟨a1, b1⟩ := (mem_ways R.ne _ t (Nat.le_refl _) w1).mp m1
    obtain ⟨a2, b2⟩ := (mem_ways R.ne _ t (Nat.le_refl _) w2).mp m2
    refine ⟨_, _, rfl, .inr rfl, by rw [List.length_map, List.length_take]; omega, fun p hp => ?_, ?_⟩
    · obtain ⟨r, hr, rfl⟩ := List.mem_map.mp hp
      exact .inr ⟨r, rfl, by have := hlen r (List.mem_of_mem_take hr); omega⟩
    · dsimp only
      rw [ew, accC_noo]
      show accN rows [wD w1, wD w2] = true
      rw [accN_is a1 a2, b1, b2]
      have : PyData.eqv (wD w1) (wD w2) = false := by
        rw [eqv_wD]
        exact decide_eq_false hne
      rw [this]
      simp
theorem It.sd {d : PyData} (h : It d) : SD 2 d := by
  rcases h with ⟨r, rfl, h1, h2⟩ | ⟨ks, rfl, h1⟩
  · trivial
  · refine ⟨by rw [List.length_map]; omega, fun x hx => ?_⟩
    obtain ⟨k, _, rfl⟩ := List.mem_map.mp hx
    trivial
theorem due_sd {x : PyData} {ps : List PyData} (hx : x = zD yesL ∨ x = zD noL') (hl : ps.length ≤ 65) (hp : ∀ p ∈ ps, It p) : SD 4 (.tuple [x, .tuple ps]) := by
  refine ⟨by simp, fun y hy => ?_⟩
  simp at hy
  rcases hy with rfl | rfl
  · rcases hx with rfl | rfl <;> trivial
  · exact ⟨by omega, fun p h => (hp p h).sd⟩
theorem yn_nc {x : PyData} (hx : x = zD yesL ∨ x = zD noL') (n : Nat) : Nc (n + 1) x := by
  rcases hx with rfl | rfl <;> exact Nc.z _ (by decide) (by unfold Lt; decide)
theorem Nc.tl {n : Nat} {ps : List PyData} (hl : ps.length ≤ 1000) (hp : ∀ p ∈ ps, Nc n p) : Nc (n + 1) (.tuple ps) := ⟨hl, hp⟩
theorem due_nc {x : PyData} {ps : List PyData} (hx : x = zD yesL ∨ x = zD noL') (hl : ps.length ≤ 65) (hp : ∀ p ∈ ps, It p) : Nc 40 (.tuple [x, .tuple ps]) := by
  refine Nc.tl (by simp) fun y hy => ?_
  simp at hy
  rcases hy with rfl | rfl
  · exact yn_nc hx 38
  · exact Nc.tl (by omega) fun p h => (hp p h).nc 36
theorem rows_shp {z : List Nat} {rows : List Row} (R : RowsOk z rows) (hz : z ∈ sigs) : Shp 39 (lD rows) := shp_list fun x hx => by
  obtain ⟨r, hr, rfl⟩ := List.mem_map.mp hx
  exact shp_z 38 (R.lt hz hr)
theorem eqv_zDs : ∀ a b : List Row, PyData.eqvAll (a.map zD) (b.map zD) = decide (a = b)
  | [], [] => by simp [PyData.eqvAll]
  | [], _ :: _ => by simp [PyData.eqvAll]
  | _ :: _, [] => by simp [PyData.eqvAll]
  | x :: a, y :: b => by
    have ih := eqv_zDs a b
    simp only [List.map_cons, PyData.eqvAll, ih, eqv_zD]
    by_cases h : x = y <;> simp [h]
theorem eqv_lD (a : List Row) : PyData.eqv (lD a) (lD a) = true := by
  have := eqv_zDs a a
  simp only [lD, PyData.eqv]
  rw [this]
  simp
def mayL : List Nat := [109, 97, 121, 98, 101]
def asks1 (x : PyData) (ps : List PyData) (C : List Row) (n : Nat) : List PyData :=
  [.none, .tuple [x], .list [x, .tuple ps], .tuple [zD mayL, .tuple ps], .tuple [zD yesL, .tuple []], .tuple [zD noL', .tuple [.tuple [], .tuple []]], .tuple [zD yesL, .tuple ps], .tuple [zD noL', .tuple ps], .tuple [zD yesL, .tuple (C.map zD)]] ++
  [.tuple [zD noL', .tuple [.tuple [.int 0], .tuple [.int 0]]], .tuple [zD noL', .tuple [.tuple [.int 0, .int 0], .tuple [.int 0]]], .tuple [zD yesL, .list ps], .tuple [zD noL', .tuple [.tuple [.int 0], .tuple [.int (0 - (n : Int))]]], .tuple [zD yesL, .tuple [.list [zD [97]]]], .tuple [zD noL', .tuple [.list [.int 0], .tuple [.int 0]]]]
theorem Nc.all2 {n : Nat} {a b : PyData} (h1 : Nc n a) (h2 : Nc n b) : [a, b].length ≤ 1000 ∧ ∀ x ∈ [a, b], Nc n x := ⟨by simp, fun x hx => by
  simp at hx
  rcases hx with rfl | rfl
  · exact h1
  · exact h2⟩
theorem Nc.all1 {n : Nat} {a : PyData} (h1 : Nc n a) : [a].length ≤ 1000 ∧ ∀ x ∈ [a], Nc n x := ⟨by simp, fun x hx => by
  simp at hx
  rcases hx with rfl
  exact h1⟩
theorem Nc.t2 {n : Nat} {a b : PyData} (h1 : Nc n a) (h2 : Nc n b) : Nc (n + 1) (.tuple [a, b]) := Nc.all2 h1 h2
theorem Nc.t1 {n : Nat} {a : PyData} (h1 : Nc n a) : Nc (n + 1) (.tuple [a]) := Nc.all1 h1
theorem Nc.l2 {n : Nat} {a b : PyData} (h1 : Nc n a) (h2 : Nc n b) : Nc (n + 1) (.list [a, b]) := Nc.all2 h1 h2
theorem Nc.l1 {n : Nat} {a : PyData} (h1 : Nc n a) : Nc (n + 1) (.list [a]) := Nc.all1 h1
theorem Nc.i (n : Nat) (i : Int) : Nc (n + 1) (.int i) := trivial
theorem Nc.t0 (n : Nat) : Nc (n + 1) (.tuple []) := ⟨by simp, fun _ h => (nomatch h)⟩
theorem asks1_ok {x : PyData} {ps : List PyData} {C : List Row} {n : Nat} (hx : x = zD yesL ∨ x = zD noL') (hl : ps.length ≤ 65) (hp : ∀ p ∈ ps, It p) (hC : C.length ≤ 65) (hc : ∀ r ∈ C, r.length ≤ 12 ∧ Lt r) : ∀ d ∈ asks1 x ps C n, Nc 40 d := by
  have y : Nc 39 (zD yesL) := Nc.z _ (by decide) (by unfold Lt; decide)
  have o : Nc 39 (zD noL') := Nc.z _ (by decide) (by unfold Lt; decide)
  have m : Nc 39 (zD mayL) := Nc.z _ (by decide) (by unfold Lt; decide)
  have a : Nc 37 (zD [97]) := Nc.z _ (by decide) (by unfold Lt; decide)
  have P : Nc 39 (.tuple ps) := Nc.tl (by omega) fun p h => (hp p h).nc 36
  have P2 : Nc 39 (.list ps) := ⟨by omega, fun p h => (hp p h).nc 36⟩
  have Q : Nc 39 (.tuple (C.map zD)) := Nc.tl (by rw [List.length_map]; omega) fun p h => by
    obtain ⟨r, hr, rfl⟩ := List.mem_map.mp h
    obtain ⟨h1, h2⟩ := hc r hr
    exact Nc.z _ (by omega) h2
  unfold asks1
  simp only [List.mem_append, List.mem_cons, List.not_mem_nil, or_false]
  rintro d ((rfl | rfl | rfl | rfl | rfl | rfl | rfl | rfl | rfl) | (rfl | rfl | rfl | rfl | rfl | rfl))
  · trivial
  · exact .t1 (yn_nc hx 38)
  · exact .l2 (yn_nc hx 38) P
  · exact .t2 m P
  · exact .t2 y (.t0 _)
  · exact .t2 o (.t2 (.t0 _) (.t0 _))
  · exact .t2 y P
  · exact .t2 o P
  · exact .t2 y Q
  · exact .t2 o (.t2 (.t1 (.i _ _)) (.t1 (.i _ _)))
  · exact .t2 o (.t2 (.t2 (.i _ _) (.i _ _)) (.t1 (.i _ _)))
  · exact .t2 y P2
  · exact .t2 o (.t2 (.t1 (.i _ _)) (.t1 (.i _ _)))
  · exact .t2 y (.t1 (.l1 a))
  · exact .t2 o (.t2 (.l1 (.i _ _)) (.t1 (.i _ _)))
theorem ends_nc {L : List Row} (hl : L.length ≤ 65) (hc : ∀ r ∈ L, r.length ≤ 12 ∧ Lt r) : Nc 39 (.tuple (L.map zD)) := Nc.tl (by rw [List.length_map]; omega) fun p h => by
  obtain ⟨r, hr, rfl⟩ := List.mem_map.mp h
  obtain ⟨h1, h2⟩ := hc r hr
  exact Nc.z _ (by omega) h2
section
variable {P : Program} {w : World} {K : PySem.W.Frag} {mg : Str → Option Value} {base : Heap} {a : Ad}
theorem ok_law (T : Tx K mg a)
    (N1 : FnOk P w K mg base CX0 1 a.f9 a.d9 ["state", "limit"] (spN K))
    (N2 : ∀ n : Nat, FnOk P w K mg base CX0 (n + 1) a.f10 a.d10 ["actual", "expected"] (spQ K n))
    (N3 : FnOk P w K mg base CX0 2 a.f11 a.d11 ["state"] (spS K))
    (N4 : FnOk P w K mg base CX0 3 a.f13 a.d13 ["state", "signs"] (spR K))
    (N5 : FnOk P w K mg base CX0 2 a.f15 a.d15 ["rows"] (spM K))
    (N6 : FnOk P w K mg base CX0 1 a.f17 a.d17 ["rows"] (spDb K))
    (N7 : FnOk P w K mg base CX0 9 a.f18 a.d18 ["rows", "text", "signs"] (spNl K))
    (N8 : FnOk P w K mg base CX0 214 a.f16 a.d16 ["rows", "text", "at", "known"] (spY K 213))
    (N9 : FnOk P w K mg base CX0 3 a.f5 a.d5 ["rows"] (spI K argM preM (fun x r => r = .p (.d (dueD x.2)))))
    (N10 : FnOk P w K mg base CX0 2 a.f7 a.d7 ["rows", "told"] (spC K))
    (N11 : FnOk P w K mg base CX0 2 a.f1 a.d1 ["rows"] (spM K))
    (N12 : FnOk P w K mg base CX0 2 a.f22 a.d22 ["state", "signs", "paper"] (spJt K))
    (N13 : FnOk P w K mg base CX0 2 a.f21 a.d21 ["rows", "told"] (spC K)) :
    FnOk P w K mg base CX0 215 a.f23 a.d23 ["script"] (spLaw K 63) := by
  have G_law_next := N1.mono (show 1 ≤ 214 by decide)
  have G_law_same := (N2 4).mono (show 5 ≤ 214 by decide)
  have G_law_signs := N3.mono (show 2 ≤ 214 by decide)
  have G_law_rows := N4.mono (show 3 ≤ 214 by decide)
  have G_law_left_over := N5.mono (show 2 ≤ 214 by decide)
  have G_law_least_double := N6.mono (show 1 ≤ 214 by decide)
  have G_law_no_lesser := N7.mono (show 9 ≤ 214 by decide)
  have G_law_ways := N8
  have G_code := N9.mono (show 3 ≤ 214 by decide)
  have G_judge_code := N10.mono (show 2 ≤ 214 by decide)
  have G_remainders := N11.mono (show 2 ≤ 214 by decide)
  have G_law_turned := N12.mono (show 2 ≤ 214 by decide)
  have G_law_accepts := N13.mono (show 2 ≤ 214 by decide)
  refine fnLaw T.F_law sc_law (by decide) fun cdv A outer s H E hr => ⟨_, (pss_cons (ps_set (i := 1) sc_law.nd rfl (Or.inl rfl) (pe_lst (pa_cons (pe_callTy (kLIST K rfl) (by rfl) T.z_list (by decide +kernel) (pa_cons (pv 0) pa_nil)) (pa_cons pe_int (pa_cons pe_int (pa_cons pe_int pa_nil)))))) (pss_cons (ps_for PassesOwn.never rfl (pi_range1 (by rfl) T.z_range (pa_cons pe_int pa_nil)) (pg_name (i := 2) sc_law.nd rfl (Or.inl rfl)) (pss_cons (ps_set (i := 3) sc_law.nd rfl (Or.inl rfl) (pe_call G_law_signs hr (by rfl) T.m_law_signs T.k_law_signs T.b_law_signs .nil pass0 (pa_cons (pv 1) pa_nil))) (pss_cons (ps_set (i := 4) sc_law.nd rfl (Or.inl rfl) (pe_call G_law_rows hr (by rfl) T.m_law_rows T.k_law_rows T.b_law_rows .nil pass0 (pa_cons (pv 1) (pa_cons (pv 3) pa_nil)))) (pss_cons (ps_set (i := 5) sc_law.nd rfl (Or.inl rfl) (pe_call G_law_left_over hr (by rfl) T.m_law_left_over T.k_law_left_over T.b_law_left_over .nil pass0 (pa_cons (pv 4) pa_nil))) (pss_cons (ps_set (i := 6) sc_law.nd rfl (Or.inl rfl) (pe_call G_law_least_double hr (by rfl) T.m_law_least_double T.k_law_least_double T.b_law_least_double .nil pass0 (pa_cons (pv 4) pa_nil))) (pss_cons (ps_if (PW.pt (pw_or (pt_cmpR (kNE K rfl hr.units) (pe_cmpR (kIN K rfl (hu65 hr)) (pe_strM [] rfl) (pv 5) (by rfl)) (pe_cmpR op_notN (pv 6) pe_non (nomark _)) (nomark _)) (pw_or1 (PW.pt (pw_and (pt_cmpR op_notN (pv 6) pe_non (nomark _)) (pw_and1 (pt_not (kTRUTH K rfl (pe_call G_law_no_lesser hr (by rfl) T.m_law_no_lesser T.k_law_no_lesser T.b_law_no_lesser .nil pass0 (pa_cons (pv 4) (pa_cons (pv 6) (pa_cons (pv 3) pa_nil)))) (by intro _; rfl))))))))) (pss_one (ps_ret pe_bl)) pss_nil) (pss_cons (ps_set (i := 7) sc_law.nd rfl (Or.inl rfl) (pe_tup (pa_cons (pe_strM [121, 101, 115] rfl) (pa_cons (pe_callTy (kTUP K rfl) (by rfl) T.z_tuple (by decide +kernel) (pa_cons (pv 5) pa_nil)) pa_nil)))) (pss_cons (ps_if (pt_cmpR op_notN (pv 6) pe_non (nomark _)) (pss_one (ps_set (i := 7) sc_law.nd rfl (Or.inl rfl) (pe_tup (pa_cons (pe_strM [110, 111] rfl) (pa_cons (pe_callTy (kTUP K rfl) (by rfl) T.z_tuple (by decide +kernel) (pa_cons (pe_slice (kSLC K rfl) (pe_call G_law_ways hr (by rfl) T.m_law_ways T.k_law_ways T.b_law_ways .nil pass0 (pa_cons (pv 4) (pa_cons (pv 6) (pa_cons pe_int (pa_cons pe_dnewK pa_nil))))) po_none (po_some pe_int)) pa_nil)) pa_nil))))) pss_nil) (pss_cons (ps_set (i := 8) sc_law.nd rfl (Or.inl rfl) (pe_callTy (kLIST K rfl) (by rfl) T.z_list (by decide +kernel) (pa_cons (pv 4) pa_nil))) (pss_cons (ps_set (i := 9) sc_law.nd rfl (Or.inl rfl) (pe_call G_code hr (by rfl) T.m_code T.k_code T.b_code .nil pass0 (pa_cons (pv 8) pa_nil))) (pss_cons (ps_if (PW.pt (pw_or (pt_not (kTRUTH K rfl (pe_call G_law_same hr (by rfl) T.m_law_same T.k_law_same T.b_law_same .nil pass0 (pa_cons (pv 9) (pa_cons (pv 7) pa_nil))) (by intro _; rfl))) (pw_or (pt_cmpR (kNE K rfl hr.units) (pv 8) (pv 4) (nomark _)) (pw_or1 (pt_cmpR op_notBl (pe_call G_judge_code hr (by rfl) T.m_judge_code T.k_judge_code T.b_judge_code .nil pass0 (pa_cons (pv 8) (pa_cons (pv 9) pa_nil))) pe_bl (nomark _)))))) (pss_one (ps_ret pe_bl)) pss_nil) (pss_cons (ps_if (PW.pt (pw_or (pt_not (kTRUTH K rfl (pe_call G_law_same hr (by rfl) T.m_law_same T.k_law_same T.b_law_same .nil pass0 (pa_cons (pe_call G_remainders hr (by rfl) T.m_remainders T.k_remainders T.b_remainders .nil pass0 (pa_cons (pv 8) pa_nil)) (pa_cons (pv 5) pa_nil))) (by intro _; rfl))) (pw_or1 (pt_cmpR (kNE K rfl hr.units) (pv 8) (pv 4) (nomark _))))) (pss_one (ps_ret pe_bl)) pss_nil) (pss_cons (ps_set (i := 10) sc_law.nd rfl (Or.inl rfl) (pe_lst (pa_cons pe_non (pa_cons (pe_slice (kSLC K rfl) (pv 7) po_none (po_some pe_int)) (pa_cons (pe_callTy (kLIST K rfl) (by rfl) T.z_list (by decide +kernel) (pa_cons (pv 7) pa_nil)) (pa_cons (pe_tup (pa_cons (pe_strM [109, 97, 121, 98, 101] rfl) (pa_cons (pe_ix (kIX K rfl) (pv 7) pe_int (fun _ _ => rfl)) pa_nil))) (pa_cons (pe_tup (pa_cons (pe_strM [121, 101, 115] rfl) (pa_cons (pe_tup pa_nil) pa_nil))) (pa_cons (pe_tup (pa_cons (pe_strM [110, 111] rfl) (pa_cons (pe_tup (pa_cons (pe_tup pa_nil) (pa_cons (pe_tup pa_nil) pa_nil))) pa_nil))) (pa_cons (pe_tup (pa_cons (pe_strM [121, 101, 115] rfl) (pa_cons (pe_ix (kIX K rfl) (pv 7) pe_int (fun _ _ => rfl)) pa_nil))) (pa_cons (pe_tup (pa_cons (pe_strM [110, 111] rfl) (pa_cons (pe_ix (kIX K rfl) (pv 7) pe_int (fun _ _ => rfl)) pa_nil))) (pa_cons (pe_tup (pa_cons (pe_strM [121, 101, 115] rfl) (pa_cons (pe_callTy (kTUP K rfl) (by rfl) T.z_tuple (by decide +kernel) (pa_cons (pv 5) pa_nil)) pa_nil))) pa_nil))))))))))) (pss_cons (ps_set (i := 10) sc_law.nd rfl (Or.inl rfl) (pe_op (kADD K rfl) (pv 10) (pe_lst (pa_cons (pe_tup (pa_cons (pe_strM [110, 111] rfl) (pa_cons (pe_tup (pa_cons (pe_tup (pa_cons pe_int pa_nil)) (pa_cons (pe_tup (pa_cons pe_int pa_nil)) pa_nil))) pa_nil))) (pa_cons (pe_tup (pa_cons (pe_strM [110, 111] rfl) (pa_cons (pe_tup (pa_cons (pe_tup (pa_cons pe_int (pa_cons pe_int pa_nil))) (pa_cons (pe_tup (pa_cons pe_int pa_nil)) pa_nil))) pa_nil))) (pa_cons (pe_tup (pa_cons (pe_strM [121, 101, 115] rfl) (pa_cons (pe_callTy (kLIST K rfl) (by rfl) T.z_list (by decide +kernel) (pa_cons (pe_ix (kIX K rfl) (pv 7) pe_int (fun _ _ => rfl)) pa_nil)) pa_nil))) (pa_cons (pe_tup (pa_cons (pe_strM [110, 111] rfl) (pa_cons (pe_tup (pa_cons (pe_tup (pa_cons pe_int pa_nil)) (pa_cons (pe_tup (pa_cons (pe_op op_sub pe_int (pe_callB (kLEN K rfl) (by rfl) T.z_len (by decide +kernel) (pa_cons (pv 4) pa_nil))) pa_nil)) pa_nil))) pa_nil))) (pa_cons (pe_tup (pa_cons (pe_strM [121, 101, 115] rfl) (pa_cons (pe_tup (pa_cons (pe_lst (pa_cons (pe_strM [97] rfl) pa_nil)) pa_nil)) pa_nil))) (pa_cons (pe_tup (pa_cons (pe_strM [110, 111] rfl) (pa_cons (pe_tup (pa_cons (pe_lst (pa_cons pe_int pa_nil)) (pa_cons (pe_tup (pa_cons pe_int pa_nil)) pa_nil))) pa_nil))) pa_nil))))))))) (pss_cons (ps_set (i := 11) sc_law.nd rfl (Or.inl rfl) (pe_lst pa_nil)) (pss_cons (ps_for PassesOwn.never rfl (kANY K rfl (pv 4)) (pg_name (i := 12) sc_law.nd rfl (Or.inr rfl)) (pss_one (ps_set (i := 11) sc_law.nd rfl (Or.inl rfl) (pe_op (kADD K rfl) (pv 11) (pe_lc (own := [("k", 13)]) (g := gName 13) (by rfl) sc_law.nd (pi_range1 (by rfl) T.z_range (pa_cons (pe_op (kADD K rfl) (pe_callB (kLEN K rfl) (by rfl) T.z_len (by decide +kernel) (pa_cons (pv 12) pa_nil)) pe_int) pa_nil)) (blkOk_by (own := [("k", 13)]) (N := ["script", "state", "turn", "signs", "rows", "rests", "double", "due", "handed", "told", "asks", "ends", "row", "k", "asked", "end"]) (sc := defScope s_law) (by decide +kernel)) (fun _ _ _ _ _ => (pg_name (i := 13) sc_law.nd rfl (by first | exact Or.inl rfl | exact Or.inr rfl))) (fun _ _ _ _ _ => pts_nil) (fun _ _ _ _ _ => (pe_slice (kSLC K rfl) (pv 12) (po_some (pv 13)) po_none))))))) (pss_cons (ps_set (i := 10) sc_law.nd rfl (Or.inl rfl) (pe_op (kADD K rfl) (pv 10) (pe_lst (pa_cons (pe_tup (pa_cons (pe_strM [121, 101, 115] rfl) (pa_cons (pe_callTy (kTUP K rfl) (by rfl) T.z_tuple (by decide +kernel) (pa_cons (pe_callB (kSORTSETT w rfl rfl (hu65 hr)) (by rfl) T.z_sorted (by decide +kernel) (pa_cons (pe_callTy (kSETT w K rfl rfl rfl) (by rfl) T.z_set (by decide +kernel) (pa_cons (pv 11) pa_nil)) pa_nil)) pa_nil)) pa_nil))) (pa_cons (pe_tup (pa_cons (pe_strM [121, 101, 115] rfl) (pa_cons (pe_callTy (kTUP K rfl) (by rfl) T.z_tuple (by decide +kernel) (pa_cons (pe_lc (own := [("end", 15)]) (g := gName 15) (by rfl) sc_law.nd (kANY K rfl (pe_callB (kSORTSETT w rfl rfl (hu65 hr)) (by rfl) T.z_sorted (by decide +kernel) (pa_cons (pe_callTy (kSETT w K rfl rfl rfl) (by rfl) T.z_set (by decide +kernel) (pa_cons (pv 11) pa_nil)) pa_nil))) (blkOk_by (own := [("end", 15)]) (N := ["script", "state", "turn", "signs", "rows", "rests", "double", "due", "handed", "told", "asks", "ends", "row", "k", "asked", "end"]) (sc := defScope s_law) (by decide +kernel)) (fun _ _ _ _ _ => (pg_name (i := 15) sc_law.nd rfl (by first | exact Or.inl rfl | exact Or.inr rfl))) (fun _ _ _ _ _ => (pts_one (pt_cmpR (kNE K rfl hr.units) (pv 15) (pe_strM [] rfl) (nomark _)))) (fun _ _ _ _ _ => (pv 15))) pa_nil)) pa_nil))) pa_nil))))) (pss_cons (ps_for PassesOwn.never rfl (pi_range1 (by rfl) T.z_range (pa_cons pe_int pa_nil)) (pg_name (i := 13) sc_law.nd rfl (Or.inl rfl)) (pss_one (ps_expr (kBM K rfl (pe_bm PySem.F.plainAttrs_list PySem.F.slot_list_append PySem.F.type_list_append mt_append (pv 10) (pa_cons (pe_tup (pa_cons (pe_ix (kIX K rfl) (pv 7) pe_int (fun _ _ => rfl)) (pa_cons (pe_call G_law_turned hr (by rfl) T.m_law_turned T.k_law_turned T.b_law_turned .nil pass0 (pa_cons (pv 1) (pa_cons (pv 3) (pa_cons (pe_ix (kIX K rfl) (pv 7) pe_int (fun _ _ => rfl)) pa_nil)))) pa_nil))) pa_nil)))))) (pss_one (ps_for PassesOwn.never rfl (kANY K rfl (pv 10)) (pg_name (i := 14) sc_law.nd rfl (Or.inl rfl)) (pss_one (ps_if (pt_not (kTRUTH K rfl (pe_call G_law_same hr (by rfl) T.m_law_same T.k_law_same T.b_law_same .nil pass0 (pa_cons (pe_call G_judge_code hr (by rfl) T.m_judge_code T.k_judge_code T.b_judge_code .nil pass0 (pa_cons (pv 8) (pa_cons (pv 14) pa_nil))) (pa_cons (pe_call G_law_accepts hr (by rfl) T.m_law_accepts T.k_law_accepts T.b_law_accepts .nil pass0 (pa_cons (pv 4) (pa_cons (pv 14) pa_nil))) pa_nil))) (by intro _; rfl))) (pss_one (ps_ret pe_bl)) pss_nil)))))))))))))))))))))) (pss_one (ps_ret pe_bl)))), ?_⟩
  intro ns hns B
  refine ds_seq' (ds_set (dw_lst (da_cons' (dw_CB (da_cons' (dw_scr (ns := ns) rfl (pw_p (da_nil' (rn_listScr (ns := ns) rfl ?_)))))))))
  walk_at "gs"
  refine ds_mid' (fun _ => True) ?_ ?_
  · refine ds_forE' (ch := [2]) ?_
    refine di_rng1 ?_
    walk_at "gs"
    refine ⟨by decide, by decide, fun i G => ∃ (st : Stt) (s2 s3 s4 s5 s6 s7 s8 s9 s10 s11 s12 s13 s14 s15 : Sl), st.ok ∧ G = [.ow (scr K ns), .o none (encS st), s2, s3, s4, s5, s6, s7, s8, s9, s10, s11, s12, s13, s14, s15], ⟨⟨ns, 0, 0, 1⟩, _, _, _, _, _, _, _, _, _, _, _, _, _, _, ⟨Int.le_refl 0, by show (0 : Int) ≤ 1; decide, by show (1 : Int) < 2147483647; decide, hns⟩, rfl⟩, fun i G2 d hd ⟨st, s2, s3, s4, s5, s6, s7, s8, s9, s10, s11, s12, s13, s14, s15, hst, hG⟩ => ?_, fun G2 _ => trivial⟩
    subst hG
    refine dg_name ?_
    refine ds_seq' ?_
    walk_at "gs"
    refine ⟨st, 1, none, _, hst, rfl, rfl, rfl, ?_⟩
    rintro _ _ ⟨st1, z, hst1, rfl, rfl, hz⟩
    obtain ⟨z1, z2, z3, z4⟩ := sigs_ok hz
    walk_at "gs"
    refine ds_seq' ?_
    walk_at "gs"
    refine ⟨(st1, z), 1, none, _, ⟨hst1, hz⟩, rfl, rfl, rfl, ?_⟩
    rintro _ _ ⟨st2, rows, hst2, rfl, rfl, R⟩
    have R : RowsOk z rows := R
    walk_at "gs"
    refine ds_seq' ?_
    walk_at "gs"
    refine ⟨(z, rows), ⟨hz, R⟩, rfl, ?_⟩
    rintro _ rfl
    walk_at "gs"
    refine ds_seq' ?_
    walk_at "gs"
    refine ⟨(z, rows), ⟨hz, R⟩, rfl, ?_⟩
    rintro _ ⟨rfl, hb⟩
    have hb : ∀ t, dbl rows = some t → t.length ≤ 212 ∧ Lt t := hb
    refine nx_nxt ?_
    dsimp only
    obtain ⟨x, ps, hdue, hx, hpl, hpi, hacc⟩ := due_ok hz R hb
    have hcl := clo_len R
    have hcs : ∀ v ∈ clo rows, Shp 50 (zD v) := fun v hv => shp_z 50 (uni_small R hz ((clo_iff v).mp hv).uni).2
    refine ds_mid' (fun G => G = [.ow (scr K ns), .o none (encS st2), .d d, .d (zD z), .d (lD rows), .o none ((clo rows).map zD), .d (optD (dbl rows)), s7, s8, s9, s10, s11, s12, s13, s14, s15]) ?_ ?_
    · walk_at "gs"
      refine rw_inLE (d := .none) (f := zD) eqv_zD (x := []) rfl rfl (shp_z 50 (by simp [Lt])) hcs ?_
      cases e : dbl rows with
      | none =>
        have h0 : ∀ I, @decide ([] ∈ clo rows) I = false := fun _ => decide_eq_false fun h => (nil_clo R).mp h e
        rw [h0]
        dsimp only [optD]
        walk_at "gs"
      | some t =>
        have h0 : ∀ I, @decide ([] ∈ clo rows) I = true := fun _ => decide_eq_true ((nil_clo R).mpr (by rw [e]; simp))
        rw [h0]
        dsimp only [optD]
        walk_at "gs"
        have ht := (hb t e).1
        refine ⟨(z, rows, t), ⟨hz, R, by show t.length ≤ 1000; omega, dbl_is e⟩, rfl, ?_⟩
        rintro _ rfl
        walk_at "gs"
    · rintro G1 rfl
      refine ds_seq' ?_
      walk_at "gs"
      refine rn_tupL rfl ?_
      walk_at "gs"
      refine ds_mid' (fun G => G = [.ow (scr K ns), .o none (encS st2), .d d, .d (zD z), .d (lD rows), .o none ((clo rows).map zD), .d (optD (dbl rows)), .d (dueD rows), s8, s9, s10, s11, s12, s13, s14, s15]) ?_ ?_
      · walk_at "gs"
        unfold dueD
        cases e : dbl rows with
        | none =>
          refine ite_F rfl ?_
          walk_at "gs"
        | some t =>
          refine ite_T rfl ?_
          dsimp only [optD]
          walk_at "gs"
          have ht := (hb t e).1
          refine dw_callHL ?_
          refine daf_cons ?_
          walk_at "gs"
          refine daf_cons ?_
          walk_at "gs"
          refine daf_cons ?_
          walk_at "gs"
          refine daf_last ?_
          walk_at "gs"
          refine ⟨⟨z, rows, t, 0, []⟩, ⟨hz, R, by show t.length ≤ 1000; omega, Nat.zero_le _, by show t.length - 0 < 213; omega, .nil, fun _ h => (nomatch h)⟩, rfl, rfl, rfl, rfl, ?_, fun _ _ h => h⟩
          rintro s' r _ ⟨ps', rfl, u1, u2, u3, rfl⟩
          refine ⟨_, rfl, ?_⟩
          dsimp only
          walk_at "gs"
          refine rs_Lto rfl ?_
          have eW : ((LW rows t 3 0).map wD).take 2 = ((ways rows t).take 2).map wD := by
            unfold LW
            rw [List.drop_zero, ← List.map_take, List.take_take]
            rfl
          rw [eW]
          walk_at "gs"
          refine rn_tupL rfl ?_
          walk_at "gs"
      · rintro G1 rfl
        rw [hdue]
        rw [hdue] at hacc
        have hsd : SD 4 (.tuple [x, .tuple ps]) := due_sd hx hpl hpi
        have hnc : Nc 40 (.tuple [x, .tuple ps]) := due_nc hx hpl hpi
        have hsr : Shp 39 (lD rows) := rows_shp R hz
        refine ds_freeze 5 rfl ?_
        refine ds_seq' ?_
        walk_at "gs"
        refine rn_listL rfl ?_
        refine asn_fr (nx_nxt ?_)
        refine ds_freeze 8 rfl ?_
        refine ds_seq' ?_
        walk_at "gs"
        refine ⟨(z, rows), ⟨hz, R⟩, rfl, ?_⟩
        rintro _ rfl
        dsimp only
        rw [hdue]
        refine asn_d (nx_nxt ?_)
        refine ds_seq' ?_
        walk_at "gs"
        refine ⟨.tuple [x, .tuple ps], hsd, rfl, ?_⟩
        rintro _ rfl
        walk_at "gs"
        refine rw_neD rfl rfl (shp_ok hsr (by decide)) (shp_ok hsr (by decide)) ?_
        rw [eqv_lD]
        walk_at "gs"
        refine ⟨(z, rows, .tuple [x, .tuple ps]), ⟨hz, R, hnc⟩, rfl, ?_⟩
        rintro _ rfl
        walk_at "gs"
        refine ite_F (by show (!decide (accC rows (.tuple [x, .tuple ps]) = true)) = false; rw [hacc]; rfl) ?_
        walk_at "gs"
        refine ds_seq' ?_
        walk_at "gs"
        refine ⟨(z, rows), ⟨hz, R⟩, rfl, ?_⟩
        rintro _ rfl
        walk_at "gs"
        refine ⟨.list ((clo rows).map zD), ⟨by rw [List.length_map]; omega, fun x hx => by
          obtain ⟨r, _, rfl⟩ := List.mem_map.mp hx
          trivial⟩, rfl, ?_⟩
        rintro _ rfl
        walk_at "gs"
        refine rw_neD rfl rfl (shp_ok hsr (by decide)) (shp_ok hsr (by decide)) ?_
        rw [eqv_lD]
        walk_at "gs"
        refine ds_seq' ?_
        walk_at "gs"
        refine rs_Tto (n := 1) ?_
        walk_at "gs"
        refine rn_tupL rfl ?_
        walk_at "gs"
        refine ds_mid' (fun G => G = [.ow (scr K ns), .o none (encS st2), .d d, .d (zD z), .d (lD rows), .d (.list ((clo rows).map zD)), .d (optD (dbl rows)), .d (.tuple [x, .tuple ps]), .d (lD rows), .d (.tuple [x, .tuple ps]), .o none (asks1 x ps (clo rows) (rows.map zD).length), s11, s12, s13, s14, s15]) ?_ ?_
        · walk_at "gs"
          refine rw_addL rfl rfl (szl (by simp)) ?_
          refine asn_fr (nx_nxt ?_)
          rfl
        · rintro G1 rfl
          have hak := asks1_ok (n := (rows.map zD).length) hx hpl hpi hcl (fun r hr => (uni_small R hz ((clo_iff r).mp hr).uni))
          have hal : (asks1 x ps (clo rows) (rows.map zD).length).length = 15 := rfl
          generalize asks1 x ps (clo rows) (rows.map zD).length = asks at hak hal
          refine ds_seq' ?_
          walk_at "gs"
          refine ds_mid' (fun G => ∃ (E : List Row) (s12 s13 : Sl), E.length ≤ 65 ∧ (∀ r ∈ E, r.length ≤ 12 ∧ Lt r) ∧ G = [.ow (scr K ns), .o none (encS st2), .d d, .d (zD z), .d (lD rows), .d (.list ((clo rows).map zD)), .d (optD (dbl rows)), .d (.tuple [x, .tuple ps]), .d (lD rows), .d (.tuple [x, .tuple ps]), .o none asks, .o none (E.map zD), s12, s13, s14, s15]) ?_ ?_
          · refine ds_forE' (ch := [12]) ?_
            refine di_anyL (di_list ?_)
            walk_at "gs"
            refine ⟨fun i G => ∃ (E : List Row) (s12 s13 : Sl), E.length ≤ 13 * i ∧ (∀ r ∈ E, r.length ≤ 12 ∧ Lt r) ∧ G = [.ow (scr K ns), .o none (encS st2), .d d, .d (zD z), .d (lD rows), .d (.list ((clo rows).map zD)), .d (optD (dbl rows)), .d (.tuple [x, .tuple ps]), .d (lD rows), .d (.tuple [x, .tuple ps]), .o none asks, .o none (E.map zD), s12, s13, s14, s15], ⟨[], s12, s13, by simp, by simp, rfl⟩, fun i G2 d2 hd2 ⟨E, s12, s13, hE1, hE2, hG⟩ => ?_, fun G2 ⟨E, s12, s13, hE1, hE2, hG⟩ => ?_⟩
            · subst hG
              rw [List.getElem?_map] at hd2
              obtain ⟨v, hv, rfl⟩ := Option.map_eq_some_iff.mp hd2
              have hi := (List.getElem?_eq_some_iff.mp hv).1
              have hvm := List.mem_of_getElem? hv
              have hvl := R.len v hvm
              have R5 := R.l5
              refine dg_name ?_
              walk_at "gs"
              refine dw_lcM (List.range (v.length + 1)) nD (fun k => zD (v.drop k)) ?_
              refine di_rng1 ?_
              walk_at "gs"
              refine rn_lenZ (by omega) ?_
              walk_at "gs"
              rw [show ((v.length : Int) + 1) = ((v.length + 1 : Nat) : Int) from rfl]
              refine ⟨by omega, by omega, rng_nD _, szl (by rw [List.length_range]; omega), fun B' q hq => ?_, ?_⟩
              · walk_at "gs"
                refine rs_from (n := q) (by omega) ?_
                walk_at "gs"
              · walk_at "gs"
                refine rw_addL rfl rfl (szl (by rw [List.length_map, List.length_map, List.length_range]; omega)) ?_
                walk_at "gs"
                refine ⟨E ++ (List.range (v.length + 1)).map fun k => v.drop k, .d (zD v), .un, by rw [List.length_append, List.length_map, List.length_range]; omega, fun r hr => ?_, ?_⟩
                · rcases List.mem_append.mp hr with hr | hr
                  · exact hE2 r hr
                  · obtain ⟨k, _, rfl⟩ := List.mem_map.mp hr
                    exact ⟨by rw [List.length_drop]; omega, (R.lt hz hvm).drop k⟩
                · rw [List.map_append, List.map_map]
                  rfl
            · subst hG
              have R5 := R.l5
              rw [List.length_map] at hE1
              exact ⟨E, s12, s13, by omega, hE2, rfl⟩
          · rintro G1 ⟨E, s12, s13, hE1, hE2, rfl⟩
            refine ds_mid' (fun G => ∃ (asks : List PyData) (s15 : Sl), asks.length = 17 ∧ (∀ d ∈ asks, Nc 40 d) ∧ G = [.ow (scr K ns), .o none (encS st2), .d d, .d (zD z), .d (lD rows), .d (.list ((clo rows).map zD)), .d (optD (dbl rows)), .d (.tuple [x, .tuple ps]), .d (lD rows), .d (.tuple [x, .tuple ps]), .o none asks, .o none (E.map zD), s12, s13, s14, s15]) ?_ ?_
            · walk_at "gs"
              refine ⟨E.map mkS, by rw [List.map_map]; rfl, by rw [List.length_map]; omega, fun ms hn hm => ?_⟩
              obtain ⟨L, l1, l2, l3⟩ := srt_ms hn hm
              rw [l3]
              have hLe : ∀ r ∈ srtR L, r.length ≤ 12 ∧ Lt r := fun r hr => hE2 r ((l2 r).mp (srtR_mem.mp hr))
              have hLl : (srtR L).length ≤ 65 := by
                rw [srtR_len]
                exact Nat.le_trans (l1.length_le_of_subset fun r hr => (l2 r).mp hr) hE1
              walk_at "gs"
              refine rn_tupL rfl ?_
              walk_at "gs"
              refine dw_lcF (srtR L) zD (fun r => decide (r ≠ [])) zD ?_
              refine di_anyL (di_list ?_)
              walk_at "gs"
              refine ⟨E.map mkS, by rw [List.map_map]; rfl, by rw [List.length_map]; omega, fun ms2 hn2 hm2 => ?_⟩
              obtain ⟨L2, k1, k2, k3⟩ := srt_ms hn2 hm2
              rw [k3, srtR_set k1 l1 fun r => (k2 r).trans (l2 r).symm]
              walk_at "gs"
              refine ⟨szl (by omega), fun B' q hq => ?_, ?_⟩
              · walk_at "gs"
                refine ⟨by simp, rfl, fun _ => ?_⟩
                walk_at "gs"
              · walk_at "gs"
                refine rn_tupL rfl ?_
                walk_at "gs"
                refine rw_addL rfl rfl (szl (by simp; omega)) ?_
                refine asn_fr (nx_nxt ?_)
                refine ⟨asks ++ [.tuple [zD yesL, .tuple ((srtR L).map zD)], .tuple [zD yesL, .tuple (((srtR L).filter fun r => decide (r ≠ [])).map zD)]], .un, by simp [hal], fun q hq => ?_, rfl⟩
                have yy : Nc 39 (zD yesL) := Nc.z _ (by decide) (by unfold Lt; decide)
                rcases List.mem_append.mp hq with hq | hq
                · exact hak q hq
                · simp only [List.mem_cons, List.not_mem_nil, or_false] at hq
                  rcases hq with rfl | rfl
                  · exact .t2 yy (ends_nc hLl hLe)
                  · exact .t2 yy (ends_nc (Nat.le_trans (List.length_filter_le _ _) hLl) fun r hr => hLe r (List.mem_filter.mp hr).1)
            · rintro G1 ⟨asks, s15, hal, hak, rfl⟩
              refine ds_mid' (fun G => ∃ (st : Stt) (asks : List PyData) (s13 : Sl), st.ok ∧ asks.length ≤ 23 ∧ (∀ d ∈ asks, Nc 40 d) ∧ G = [.ow (scr K ns), .o none (encS st), .d d, .d (zD z), .d (lD rows), .d (.list ((clo rows).map zD)), .d (optD (dbl rows)), .d (.tuple [x, .tuple ps]), .d (lD rows), .d (.tuple [x, .tuple ps]), .o none asks, .o none (E.map zD), s12, s13, s14, s15]) ?_ ?_
              · refine ds_forE' (ch := [13]) ?_
                refine di_rng1 ?_
                walk_at "gs"
                refine ⟨by decide, by decide, fun i G => ∃ (st : Stt) (asks : List PyData) (s13 : Sl), st.ok ∧ asks.length = 17 + i ∧ (∀ d ∈ asks, Nc 40 d) ∧ G = [.ow (scr K ns), .o none (encS st), .d d, .d (zD z), .d (lD rows), .d (.list ((clo rows).map zD)), .d (optD (dbl rows)), .d (.tuple [x, .tuple ps]), .d (lD rows), .d (.tuple [x, .tuple ps]), .o none asks, .o none (E.map zD), s12, s13, s14, s15], ⟨st2, asks, s13, hst2, hal, hak, rfl⟩, fun i G2 d2 hd2 ⟨st, asks, s13, hst, hal, hak, hG⟩ => ?_, fun G2 ⟨st, asks, s13, hst, hal, hak, hG⟩ => ?_⟩
                · subst hG
                  have hi : i < 6 := (rngD_get hd2).1
                  refine dg_name ?_
                  walk_at "gs"
                  refine ⟨(st, z, ps), 1, none, _, ⟨hst, hz, by show ps.length ≤ 100; omega, hpi⟩, rfl, rfl, rfl, ?_⟩
                  rintro _ _ ⟨st3, qs, hst3, rfl, rfl, hql, hqn⟩
                  walk_at "gs"
                  refine rm_app (i := 10) (ds := asks) rfl (szlt (by omega)) ?_
                  walk_at "gs"
                  refine ⟨st3, asks ++ [.tuple [x, .tuple qs]], .d d2, hst3, by rw [List.length_append, hal]; rfl, fun q hq => ?_, rfl⟩
                  rcases List.mem_append.mp hq with hq | hq
                  · exact hak q hq
                  · rw [List.mem_singleton.mp hq]
                    exact .t2 (yn_nc hx 38) (Nc.tl (by omega) hqn)
                · subst hG
                  refine ⟨st, asks, _, hst, ?_, hak, rfl⟩
                  rw [hal, rngD_len]
                  decide
              · rintro G1 ⟨st, asks, s13, hst, hal, hak, rfl⟩
                refine ds_freeze 10 rfl ?_
                refine ds_forE' (ch := [14]) ?_
                refine di_anyL (di_list ?_)
                walk_at "gs"
                refine ⟨fun i G => ∃ s14, G = [.ow (scr K ns), .o none (encS st), .d d, .d (zD z), .d (lD rows), .d (.list ((clo rows).map zD)), .d (optD (dbl rows)), .d (.tuple [x, .tuple ps]), .d (lD rows), .d (.tuple [x, .tuple ps]), .d (.list asks), .o none (E.map zD), s12, s13, s14, s15], ⟨_, rfl⟩, fun i G2 d2 hd2 ⟨s14, hG⟩ => ?_, fun G2 ⟨s14, hG⟩ => ?_⟩
                · subst hG
                  have hd3 := hak d2 (List.mem_of_getElem? hd2)
                  refine dg_name ?_
                  walk_at "gs"
                  refine ⟨(z, rows, d2), ⟨hz, R, hd3⟩, rfl, ?_⟩
                  rintro _ rfl
                  walk_at "gs"
                  refine ⟨(z, rows, d2), ⟨hz, R, hd3⟩, rfl, ?_⟩
                  rintro _ rfl
                  walk_at "gs"
                  refine ⟨.bool (accC rows d2), trivial, rfl, ?_⟩
                  rintro _ rfl
                  walk_at "gs"
                  exact ⟨_, rfl⟩
                · subst hG
                  exact ⟨st, _, _, _, _, _, _, _, _, _, _, _, _, _, _, hst, rfl⟩
  · rintro G1 _
    walk_at "gs"
end
end K65
namespace K65
open PySem PySem.Spec PyProof.Rows L2 DL
theorem ok_all {P : Program} {w : World} {K : PySem.W.Frag} {mg : Str → Option Value} {base : Heap} {a : Ad} (T : Tx K mg a) : FnOk P w K mg base CX0 215 a.f23 a.d23 ["script"] (spLaw K 63) := by
  have n1 : FnOk P w K mg base CX0 1 a.f9 a.d9 ["state", "limit"] (spN K) := ok_law_next T
  have r1 : FnOk P w K mg base CX0 1 a.f2 a.d2 ["rows", "rest"] (spT K rests) := ok_rests_of T
  have r2 : FnOk P w K mg base CX0 1 a.f14 a.d14 ["rows", "rest"] (spT K restsL) := ok_law_rests T
  exact ok_law T n1 (ok_law_same T) (ok_law_signs T n1) (ok_law_rows T n1 (ok_law_word T n1)) (ok_law_left_over T r2) (ok_law_least_double T) (ok_law_no_lesser T (ok_law_ways T 7) (ok_law_longer T)) (ok_law_ways T 213) (ok_code T (ok_least_double T) (ok_remainders T r1) (ok_readings T)) (ok_judge_code T r1 (ok_is_reading T)) (ok_remainders T r1) (ok_law_turned T n1) (ok_law_accepts T r2 (ok_law_is_number T))
theorem kit_of {K : PySem.W.Frag} {C : Addr} {T : String} (hm : PySem.W.kitMeta T = true) (h : PySem.W.subIn K (.ref C) (.type T) = some true) : PySem.W.kitOne K (.ref C) (.type T) = some true := by
  show (if ((Value.ref C) == (Value.type T)) = true then some true else if PySem.W.kitMeta T = true then PySem.W.subIn K (.ref C) (.type T) else none) = some true
  rw [if_neg (by simp), if_pos hm]
  exact h
theorem all_mk {P : Program} {w : World} {K : PySem.W.Frag} {h : Heap} {mg : Str → Option Value} {fa f1 f2 f3 f4 f5 f6 f7 f9 f10 f11 f12 f13 f14 f15 f16 f17 f18 f19 f20 f21 f22 f23 : Addr} (X : K.In h) (G : h.Ns mainGlobals mg) (hfa : mg "law" = some (.ref fa))
    {od1 an1 : Option Addr} {sl1 : Array (Option Value)} {oc1 kV1 dc1 pm1 cd1 ct1 : Value}
    {od2 an2 : Option Addr} {sl2 : Array (Option Value)} {oc2 kV2 dc2 pm2 cd2 ct2 : Value}
    {od3 an3 : Option Addr} {sl3 : Array (Option Value)} {oc3 kV3 dc3 pm3 cd3 ct3 : Value}
    {od4 an4 : Option Addr} {sl4 : Array (Option Value)} {oc4 kV4 dc4 pm4 cd4 ct4 : Value}
    {od5 an5 : Option Addr} {sl5 : Array (Option Value)} {oc5 kV5 dc5 pm5 cd5 ct5 : Value}
    {od6 an6 : Option Addr} {sl6 : Array (Option Value)} {oc6 kV6 dc6 pm6 cd6 ct6 : Value}
    {od7 an7 : Option Addr} {sl7 : Array (Option Value)} {oc7 kV7 dc7 pm7 cd7 ct7 : Value}
    {od9 an9 : Option Addr} {sl9 : Array (Option Value)} {oc9 kV9 dc9 pm9 cd9 ct9 : Value}
    {od10 an10 : Option Addr} {sl10 : Array (Option Value)} {oc10 kV10 dc10 pm10 cd10 ct10 : Value}
    {od11 an11 : Option Addr} {sl11 : Array (Option Value)} {oc11 kV11 dc11 pm11 cd11 ct11 : Value}
    {od12 an12 : Option Addr} {sl12 : Array (Option Value)} {oc12 kV12 dc12 pm12 cd12 ct12 : Value}
    {od13 an13 : Option Addr} {sl13 : Array (Option Value)} {oc13 kV13 dc13 pm13 cd13 ct13 : Value}
    {od14 an14 : Option Addr} {sl14 : Array (Option Value)} {oc14 kV14 dc14 pm14 cd14 ct14 : Value}
    {od15 an15 : Option Addr} {sl15 : Array (Option Value)} {oc15 kV15 dc15 pm15 cd15 ct15 : Value}
    {od16 an16 : Option Addr} {sl16 : Array (Option Value)} {oc16 kV16 dc16 pm16 cd16 ct16 : Value}
    {od17 an17 : Option Addr} {sl17 : Array (Option Value)} {oc17 kV17 dc17 pm17 cd17 ct17 : Value}
    {od18 an18 : Option Addr} {sl18 : Array (Option Value)} {oc18 kV18 dc18 pm18 cd18 ct18 : Value}
    {od19 an19 : Option Addr} {sl19 : Array (Option Value)} {oc19 kV19 dc19 pm19 cd19 ct19 : Value}
    {od20 an20 : Option Addr} {sl20 : Array (Option Value)} {oc20 kV20 dc20 pm20 cd20 ct20 : Value}
    {od21 an21 : Option Addr} {sl21 : Array (Option Value)} {oc21 kV21 dc21 pm21 cd21 ct21 : Value}
    {od22 an22 : Option Addr} {sl22 : Array (Option Value)} {oc22 kV22 dc22 pm22 cd22 ct22 : Value}
    {od23 an23 : Option Addr} {sl23 : Array (Option Value)} {oc23 kV23 dc23 pm23 cd23 ct23 : Value}
    (a1 : PySem.W.nsIn K mainGlobals "remainders" = some (some (.ref f1))) (l1 : K.lookup f1 = some ⟨oc1, od1, .func (PySem.W.fnOf "remainders" "remainders" (defArgs s_remainders) (defBody s_remainders) (defScope s_remainders) .none kV1 dc1 pm1 an1 cd1 ct1), sl1⟩) (e1 : PySem.W.codeIn K cd1 "remainders" = true) (k1 : PySem.W.keepIn K (.ref f1) = true)
    (a2 : PySem.W.nsIn K mainGlobals "rests_of" = some (some (.ref f2))) (l2 : K.lookup f2 = some ⟨oc2, od2, .func (PySem.W.fnOf "rests_of" "rests_of" (defArgs s_rests_of) (defBody s_rests_of) (defScope s_rests_of) .none kV2 dc2 pm2 an2 cd2 ct2), sl2⟩) (e2 : PySem.W.codeIn K cd2 "rests_of" = true) (k2 : PySem.W.keepIn K (.ref f2) = true)
    (a3 : PySem.W.nsIn K mainGlobals "least_double" = some (some (.ref f3))) (l3 : K.lookup f3 = some ⟨oc3, od3, .func (PySem.W.fnOf "least_double" "least_double" (defArgs s_least_double) (defBody s_least_double) (defScope s_least_double) .none kV3 dc3 pm3 an3 cd3 ct3), sl3⟩) (e3 : PySem.W.codeIn K cd3 "least_double" = true) (k3 : PySem.W.keepIn K (.ref f3) = true)
    (a4 : PySem.W.nsIn K mainGlobals "readings" = some (some (.ref f4))) (l4 : K.lookup f4 = some ⟨oc4, od4, .func (PySem.W.fnOf "readings" "readings" (defArgs s_readings) (defBody s_readings) (defScope s_readings) .none kV4 dc4 pm4 an4 cd4 ct4), sl4⟩) (e4 : PySem.W.codeIn K cd4 "readings" = true) (k4 : PySem.W.keepIn K (.ref f4) = true)
    (a5 : PySem.W.nsIn K mainGlobals "code" = some (some (.ref f5))) (l5 : K.lookup f5 = some ⟨oc5, od5, .func (PySem.W.fnOf "code" "code" (defArgs s_code) (defBody s_code) (defScope s_code) .none kV5 dc5 pm5 an5 cd5 ct5), sl5⟩) (e5 : PySem.W.codeIn K cd5 "code" = true) (k5 : PySem.W.keepIn K (.ref f5) = true)
    (a6 : PySem.W.nsIn K mainGlobals "is_reading" = some (some (.ref f6))) (l6 : K.lookup f6 = some ⟨oc6, od6, .func (PySem.W.fnOf "is_reading" "is_reading" (defArgs s_is_reading) (defBody s_is_reading) (defScope s_is_reading) .none kV6 dc6 pm6 an6 cd6 ct6), sl6⟩) (e6 : PySem.W.codeIn K cd6 "is_reading" = true) (k6 : PySem.W.keepIn K (.ref f6) = true)
    (a7 : PySem.W.nsIn K mainGlobals "judge_code" = some (some (.ref f7))) (l7 : K.lookup f7 = some ⟨oc7, od7, .func (PySem.W.fnOf "judge_code" "judge_code" (defArgs s_judge_code) (defBody s_judge_code) (defScope s_judge_code) .none kV7 dc7 pm7 an7 cd7 ct7), sl7⟩) (e7 : PySem.W.codeIn K cd7 "judge_code" = true) (k7 : PySem.W.keepIn K (.ref f7) = true)
    (a9 : PySem.W.nsIn K mainGlobals "_law_next" = some (some (.ref f9))) (l9 : K.lookup f9 = some ⟨oc9, od9, .func (PySem.W.fnOf "_law_next" "_law_next" (defArgs s_law_next) (defBody s_law_next) (defScope s_law_next) .none kV9 dc9 pm9 an9 cd9 ct9), sl9⟩) (e9 : PySem.W.codeIn K cd9 "_law_next" = true) (k9 : PySem.W.keepIn K (.ref f9) = true)
    (a10 : PySem.W.nsIn K mainGlobals "_law_same" = some (some (.ref f10))) (l10 : K.lookup f10 = some ⟨oc10, od10, .func (PySem.W.fnOf "_law_same" "_law_same" (defArgs s_law_same) (defBody s_law_same) (defScope s_law_same) .none kV10 dc10 pm10 an10 cd10 ct10), sl10⟩) (e10 : PySem.W.codeIn K cd10 "_law_same" = true) (k10 : PySem.W.keepIn K (.ref f10) = true)
    (a11 : PySem.W.nsIn K mainGlobals "_law_signs" = some (some (.ref f11))) (l11 : K.lookup f11 = some ⟨oc11, od11, .func (PySem.W.fnOf "_law_signs" "_law_signs" (defArgs s_law_signs) (defBody s_law_signs) (defScope s_law_signs) .none kV11 dc11 pm11 an11 cd11 ct11), sl11⟩) (e11 : PySem.W.codeIn K cd11 "_law_signs" = true) (k11 : PySem.W.keepIn K (.ref f11) = true)
    (a12 : PySem.W.nsIn K mainGlobals "_law_word" = some (some (.ref f12))) (l12 : K.lookup f12 = some ⟨oc12, od12, .func (PySem.W.fnOf "_law_word" "_law_word" (defArgs s_law_word) (defBody s_law_word) (defScope s_law_word) .none kV12 dc12 pm12 an12 cd12 ct12), sl12⟩) (e12 : PySem.W.codeIn K cd12 "_law_word" = true) (k12 : PySem.W.keepIn K (.ref f12) = true)
    (a13 : PySem.W.nsIn K mainGlobals "_law_rows" = some (some (.ref f13))) (l13 : K.lookup f13 = some ⟨oc13, od13, .func (PySem.W.fnOf "_law_rows" "_law_rows" (defArgs s_law_rows) (defBody s_law_rows) (defScope s_law_rows) .none kV13 dc13 pm13 an13 cd13 ct13), sl13⟩) (e13 : PySem.W.codeIn K cd13 "_law_rows" = true) (k13 : PySem.W.keepIn K (.ref f13) = true)
    (a14 : PySem.W.nsIn K mainGlobals "_law_rests" = some (some (.ref f14))) (l14 : K.lookup f14 = some ⟨oc14, od14, .func (PySem.W.fnOf "_law_rests" "_law_rests" (defArgs s_law_rests) (defBody s_law_rests) (defScope s_law_rests) .none kV14 dc14 pm14 an14 cd14 ct14), sl14⟩) (e14 : PySem.W.codeIn K cd14 "_law_rests" = true) (k14 : PySem.W.keepIn K (.ref f14) = true)
    (a15 : PySem.W.nsIn K mainGlobals "_law_left_over" = some (some (.ref f15))) (l15 : K.lookup f15 = some ⟨oc15, od15, .func (PySem.W.fnOf "_law_left_over" "_law_left_over" (defArgs s_law_left_over) (defBody s_law_left_over) (defScope s_law_left_over) .none kV15 dc15 pm15 an15 cd15 ct15), sl15⟩) (e15 : PySem.W.codeIn K cd15 "_law_left_over" = true) (k15 : PySem.W.keepIn K (.ref f15) = true)
    (a16 : PySem.W.nsIn K mainGlobals "_law_ways" = some (some (.ref f16))) (l16 : K.lookup f16 = some ⟨oc16, od16, .func (PySem.W.fnOf "_law_ways" "_law_ways" (defArgs s_law_ways) (defBody s_law_ways) (defScope s_law_ways) .none kV16 dc16 pm16 an16 cd16 ct16), sl16⟩) (e16 : PySem.W.codeIn K cd16 "_law_ways" = true) (k16 : PySem.W.keepIn K (.ref f16) = true)
    (a17 : PySem.W.nsIn K mainGlobals "_law_least_double" = some (some (.ref f17))) (l17 : K.lookup f17 = some ⟨oc17, od17, .func (PySem.W.fnOf "_law_least_double" "_law_least_double" (defArgs s_law_least_double) (defBody s_law_least_double) (defScope s_law_least_double) .none kV17 dc17 pm17 an17 cd17 ct17), sl17⟩) (e17 : PySem.W.codeIn K cd17 "_law_least_double" = true) (k17 : PySem.W.keepIn K (.ref f17) = true)
    (a18 : PySem.W.nsIn K mainGlobals "_law_no_lesser" = some (some (.ref f18))) (l18 : K.lookup f18 = some ⟨oc18, od18, .func (PySem.W.fnOf "_law_no_lesser" "_law_no_lesser" (defArgs s_law_no_lesser) (defBody s_law_no_lesser) (defScope s_law_no_lesser) .none kV18 dc18 pm18 an18 cd18 ct18), sl18⟩) (e18 : PySem.W.codeIn K cd18 "_law_no_lesser" = true) (k18 : PySem.W.keepIn K (.ref f18) = true)
    (a19 : PySem.W.nsIn K mainGlobals "_law_longer" = some (some (.ref f19))) (l19 : K.lookup f19 = some ⟨oc19, od19, .func (PySem.W.fnOf "_law_longer" "_law_longer" (defArgs s_law_longer) (defBody s_law_longer) (defScope s_law_longer) .none kV19 dc19 pm19 an19 cd19 ct19), sl19⟩) (e19 : PySem.W.codeIn K cd19 "_law_longer" = true) (k19 : PySem.W.keepIn K (.ref f19) = true)
    (a20 : PySem.W.nsIn K mainGlobals "_law_is_number" = some (some (.ref f20))) (l20 : K.lookup f20 = some ⟨oc20, od20, .func (PySem.W.fnOf "_law_is_number" "_law_is_number" (defArgs s_law_is_number) (defBody s_law_is_number) (defScope s_law_is_number) .none kV20 dc20 pm20 an20 cd20 ct20), sl20⟩) (e20 : PySem.W.codeIn K cd20 "_law_is_number" = true) (k20 : PySem.W.keepIn K (.ref f20) = true)
    (a21 : PySem.W.nsIn K mainGlobals "_law_accepts" = some (some (.ref f21))) (l21 : K.lookup f21 = some ⟨oc21, od21, .func (PySem.W.fnOf "_law_accepts" "_law_accepts" (defArgs s_law_accepts) (defBody s_law_accepts) (defScope s_law_accepts) .none kV21 dc21 pm21 an21 cd21 ct21), sl21⟩) (e21 : PySem.W.codeIn K cd21 "_law_accepts" = true) (k21 : PySem.W.keepIn K (.ref f21) = true)
    (a22 : PySem.W.nsIn K mainGlobals "_law_turned" = some (some (.ref f22))) (l22 : K.lookup f22 = some ⟨oc22, od22, .func (PySem.W.fnOf "_law_turned" "_law_turned" (defArgs s_law_turned) (defBody s_law_turned) (defScope s_law_turned) .none kV22 dc22 pm22 an22 cd22 ct22), sl22⟩) (e22 : PySem.W.codeIn K cd22 "_law_turned" = true) (k22 : PySem.W.keepIn K (.ref f22) = true)
    (a23 : PySem.W.nsIn K mainGlobals "law" = some (some (.ref f23))) (l23 : K.lookup f23 = some ⟨oc23, od23, .func (PySem.W.fnOf "law" "law" (defArgs s_law) (defBody s_law) (defScope s_law) .none kV23 dc23 pm23 an23 cd23 ct23), sl23⟩) (e23 : PySem.W.codeIn K cd23 "law" = true) (k23 : PySem.W.keepIn K (.ref f23) = true)
    (z_bool : PySem.W.nsIn K mainGlobals "bool" = some none)
    (z_enumerate : PySem.W.nsIn K mainGlobals "enumerate" = some none)
    (z_int : PySem.W.nsIn K mainGlobals "int" = some none)
    (z_isinstance : PySem.W.nsIn K mainGlobals "isinstance" = some none)
    (z_len : PySem.W.nsIn K mainGlobals "len" = some none)
    (z_list : PySem.W.nsIn K mainGlobals "list" = some none)
    (z_min : PySem.W.nsIn K mainGlobals "min" = some none)
    (z_range : PySem.W.nsIn K mainGlobals "range" = some none)
    (z_reversed : PySem.W.nsIn K mainGlobals "reversed" = some none)
    (z_set : PySem.W.nsIn K mainGlobals "set" = some none)
    (z_sorted : PySem.W.nsIn K mainGlobals "sorted" = some none)
    (z_str : PySem.W.nsIn K mainGlobals "str" = some none)
    (z_tuple : PySem.W.nsIn K mainGlobals "tuple" = some none)
    : ∃ fd : FuncData, (∀ (s : Shared) (u : Value), BindsTo s fd ⟨[u], []⟩ [("script", u)]) ∧ ∀ base : Heap, K.In base → base.Ns mainGlobals mg → FnOk P w K mg base CX0 215 fa fd ["script"] (spLaw K 63) := by
  have e := hfa.symm.trans (PySem.W.mg_of X G a23)
  cases e
  have F1 := fun_mk (st := s_remainders) l1 e1 k1
  have b1 := F1.binds (ps := ["rows"]) fun _ _ _ _ _ _ us hl => match us, hl with | [_], _ => rfl
  have F2 := fun_mk (st := s_rests_of) l2 e2 k2
  have b2 := F2.binds (ps := ["rows", "rest"]) fun _ _ _ _ _ _ us hl => match us, hl with | [_, _], _ => rfl
  have F3 := fun_mk (st := s_least_double) l3 e3 k3
  have b3 := F3.binds (ps := ["rows"]) fun _ _ _ _ _ _ us hl => match us, hl with | [_], _ => rfl
  have F4 := fun_mk (st := s_readings) l4 e4 k4
  have b4 := F4.binds (ps := ["rows", "text"]) fun _ _ _ _ _ _ us hl => match us, hl with | [_, _], _ => rfl
  have F5 := fun_mk (st := s_code) l5 e5 k5
  have b5 := F5.binds (ps := ["rows"]) fun _ _ _ _ _ _ us hl => match us, hl with | [_], _ => rfl
  have F6 := fun_mk (st := s_is_reading) l6 e6 k6
  have b6 := F6.binds (ps := ["rows", "reading"]) fun _ _ _ _ _ _ us hl => match us, hl with | [_, _], _ => rfl
  have F7 := fun_mk (st := s_judge_code) l7 e7 k7
  have b7 := F7.binds (ps := ["rows", "told"]) fun _ _ _ _ _ _ us hl => match us, hl with | [_, _], _ => rfl
  have F9 := fun_mk (st := s_law_next) l9 e9 k9
  have b9 := F9.binds (ps := ["state", "limit"]) fun _ _ _ _ _ _ us hl => match us, hl with | [_, _], _ => rfl
  have F10 := fun_mk (st := s_law_same) l10 e10 k10
  have b10 := F10.binds (ps := ["actual", "expected"]) fun _ _ _ _ _ _ us hl => match us, hl with | [_, _], _ => rfl
  have F11 := fun_mk (st := s_law_signs) l11 e11 k11
  have b11 := F11.binds (ps := ["state"]) fun _ _ _ _ _ _ us hl => match us, hl with | [_], _ => rfl
  have F12 := fun_mk (st := s_law_word) l12 e12 k12
  have b12 := F12.binds (ps := ["state", "signs", "most"]) fun _ _ _ _ _ _ us hl => match us, hl with | [_, _, _], _ => rfl
  have F13 := fun_mk (st := s_law_rows) l13 e13 k13
  have b13 := F13.binds (ps := ["state", "signs"]) fun _ _ _ _ _ _ us hl => match us, hl with | [_, _], _ => rfl
  have F14 := fun_mk (st := s_law_rests) l14 e14 k14
  have b14 := F14.binds (ps := ["rows", "rest"]) fun _ _ _ _ _ _ us hl => match us, hl with | [_, _], _ => rfl
  have F15 := fun_mk (st := s_law_left_over) l15 e15 k15
  have b15 := F15.binds (ps := ["rows"]) fun _ _ _ _ _ _ us hl => match us, hl with | [_], _ => rfl
  have F16 := fun_mk (st := s_law_ways) l16 e16 k16
  have b16 := F16.binds (ps := ["rows", "text", "at", "known"]) fun _ _ _ _ _ _ us hl => match us, hl with | [_, _, _, _], _ => rfl
  have F17 := fun_mk (st := s_law_least_double) l17 e17 k17
  have b17 := F17.binds (ps := ["rows"]) fun _ _ _ _ _ _ us hl => match us, hl with | [_], _ => rfl
  have F18 := fun_mk (st := s_law_no_lesser) l18 e18 k18
  have b18 := F18.binds (ps := ["rows", "text", "signs"]) fun _ _ _ _ _ _ us hl => match us, hl with | [_, _, _], _ => rfl
  have F19 := fun_mk (st := s_law_longer) l19 e19 k19
  have b19 := F19.binds (ps := ["front", "signs"]) fun _ _ _ _ _ _ us hl => match us, hl with | [_, _], _ => rfl
  have F20 := fun_mk (st := s_law_is_number) l20 e20 k20
  have b20 := F20.binds (ps := ["value", "limit"]) fun _ _ _ _ _ _ us hl => match us, hl with | [_, _], _ => rfl
  have F21 := fun_mk (st := s_law_accepts) l21 e21 k21
  have b21 := F21.binds (ps := ["rows", "told"]) fun _ _ _ _ _ _ us hl => match us, hl with | [_, _], _ => rfl
  have F22 := fun_mk (st := s_law_turned) l22 e22 k22
  have b22 := F22.binds (ps := ["state", "signs", "paper"]) fun _ _ _ _ _ _ us hl => match us, hl with | [_, _, _], _ => rfl
  have F23 := fun_mk (st := s_law) l23 e23 k23
  have b23 := F23.binds (ps := ["script"]) fun _ _ _ _ _ _ us hl => match us, hl with | [_], _ => rfl
  have T : Tx K mg (⟨f1, f2, f3, f4, f5, f6, f7, f9, f10, f11, f12, f13, f14, f15, f16, f17, f18, f19, f20, f21, f22, fa, PySem.W.fnOf "remainders" "remainders" (defArgs s_remainders) (defBody s_remainders) (defScope s_remainders) .none kV1 dc1 pm1 an1 cd1 ct1, PySem.W.fnOf "rests_of" "rests_of" (defArgs s_rests_of) (defBody s_rests_of) (defScope s_rests_of) .none kV2 dc2 pm2 an2 cd2 ct2, PySem.W.fnOf "least_double" "least_double" (defArgs s_least_double) (defBody s_least_double) (defScope s_least_double) .none kV3 dc3 pm3 an3 cd3 ct3, PySem.W.fnOf "readings" "readings" (defArgs s_readings) (defBody s_readings) (defScope s_readings) .none kV4 dc4 pm4 an4 cd4 ct4, PySem.W.fnOf "code" "code" (defArgs s_code) (defBody s_code) (defScope s_code) .none kV5 dc5 pm5 an5 cd5 ct5, PySem.W.fnOf "is_reading" "is_reading" (defArgs s_is_reading) (defBody s_is_reading) (defScope s_is_reading) .none kV6 dc6 pm6 an6 cd6 ct6, PySem.W.fnOf "judge_code" "judge_code" (defArgs s_judge_code) (defBody s_judge_code) (defScope s_judge_code) .none kV7 dc7 pm7 an7 cd7 ct7, PySem.W.fnOf "_law_next" "_law_next" (defArgs s_law_next) (defBody s_law_next) (defScope s_law_next) .none kV9 dc9 pm9 an9 cd9 ct9, PySem.W.fnOf "_law_same" "_law_same" (defArgs s_law_same) (defBody s_law_same) (defScope s_law_same) .none kV10 dc10 pm10 an10 cd10 ct10, PySem.W.fnOf "_law_signs" "_law_signs" (defArgs s_law_signs) (defBody s_law_signs) (defScope s_law_signs) .none kV11 dc11 pm11 an11 cd11 ct11, PySem.W.fnOf "_law_word" "_law_word" (defArgs s_law_word) (defBody s_law_word) (defScope s_law_word) .none kV12 dc12 pm12 an12 cd12 ct12, PySem.W.fnOf "_law_rows" "_law_rows" (defArgs s_law_rows) (defBody s_law_rows) (defScope s_law_rows) .none kV13 dc13 pm13 an13 cd13 ct13, PySem.W.fnOf "_law_rests" "_law_rests" (defArgs s_law_rests) (defBody s_law_rests) (defScope s_law_rests) .none kV14 dc14 pm14 an14 cd14 ct14, PySem.W.fnOf "_law_left_over" "_law_left_over" (defArgs s_law_left_over) (defBody s_law_left_over) (defScope s_law_left_over) .none kV15 dc15 pm15 an15 cd15 ct15, PySem.W.fnOf "_law_ways" "_law_ways" (defArgs s_law_ways) (defBody s_law_ways) (defScope s_law_ways) .none kV16 dc16 pm16 an16 cd16 ct16, PySem.W.fnOf "_law_least_double" "_law_least_double" (defArgs s_law_least_double) (defBody s_law_least_double) (defScope s_law_least_double) .none kV17 dc17 pm17 an17 cd17 ct17, PySem.W.fnOf "_law_no_lesser" "_law_no_lesser" (defArgs s_law_no_lesser) (defBody s_law_no_lesser) (defScope s_law_no_lesser) .none kV18 dc18 pm18 an18 cd18 ct18, PySem.W.fnOf "_law_longer" "_law_longer" (defArgs s_law_longer) (defBody s_law_longer) (defScope s_law_longer) .none kV19 dc19 pm19 an19 cd19 ct19, PySem.W.fnOf "_law_is_number" "_law_is_number" (defArgs s_law_is_number) (defBody s_law_is_number) (defScope s_law_is_number) .none kV20 dc20 pm20 an20 cd20 ct20, PySem.W.fnOf "_law_accepts" "_law_accepts" (defArgs s_law_accepts) (defBody s_law_accepts) (defScope s_law_accepts) .none kV21 dc21 pm21 an21 cd21 ct21, PySem.W.fnOf "_law_turned" "_law_turned" (defArgs s_law_turned) (defBody s_law_turned) (defScope s_law_turned) .none kV22 dc22 pm22 an22 cd22 ct22, PySem.W.fnOf "law" "law" (defArgs s_law) (defBody s_law) (defScope s_law) .none kV23 dc23 pm23 an23 cd23 ct23⟩ : Ad) := {
    z_bool := PySem.W.mg_none_of X G z_bool,
    z_enumerate := PySem.W.mg_none_of X G z_enumerate,
    z_int := PySem.W.mg_none_of X G z_int,
    z_isinstance := PySem.W.mg_none_of X G z_isinstance,
    z_len := PySem.W.mg_none_of X G z_len,
    z_list := PySem.W.mg_none_of X G z_list,
    z_min := PySem.W.mg_none_of X G z_min,
    z_range := PySem.W.mg_none_of X G z_range,
    z_reversed := PySem.W.mg_none_of X G z_reversed,
    z_set := PySem.W.mg_none_of X G z_set,
    z_sorted := PySem.W.mg_none_of X G z_sorted,
    z_str := PySem.W.mg_none_of X G z_str,
    z_tuple := PySem.W.mg_none_of X G z_tuple,
    m_remainders := PySem.W.mg_of X G a1, k_remainders := k1, b_remainders := b1, F_remainders := F1,
    m_rests_of := PySem.W.mg_of X G a2, k_rests_of := k2, b_rests_of := b2, F_rests_of := F2,
    m_least_double := PySem.W.mg_of X G a3, k_least_double := k3, b_least_double := b3, F_least_double := F3,
    m_readings := PySem.W.mg_of X G a4, k_readings := k4, b_readings := b4, F_readings := F4,
    m_code := PySem.W.mg_of X G a5, k_code := k5, b_code := b5, F_code := F5,
    m_is_reading := PySem.W.mg_of X G a6, k_is_reading := k6, b_is_reading := b6, F_is_reading := F6,
    m_judge_code := PySem.W.mg_of X G a7, k_judge_code := k7, b_judge_code := b7, F_judge_code := F7,
    m_law_next := PySem.W.mg_of X G a9, k_law_next := k9, b_law_next := b9, F_law_next := F9,
    m_law_same := PySem.W.mg_of X G a10, k_law_same := k10, b_law_same := b10, F_law_same := F10,
    m_law_signs := PySem.W.mg_of X G a11, k_law_signs := k11, b_law_signs := b11, F_law_signs := F11,
    m_law_word := PySem.W.mg_of X G a12, k_law_word := k12, b_law_word := b12, F_law_word := F12,
    m_law_rows := PySem.W.mg_of X G a13, k_law_rows := k13, b_law_rows := b13, F_law_rows := F13,
    m_law_rests := PySem.W.mg_of X G a14, k_law_rests := k14, b_law_rests := b14, F_law_rests := F14,
    m_law_left_over := PySem.W.mg_of X G a15, k_law_left_over := k15, b_law_left_over := b15, F_law_left_over := F15,
    m_law_ways := PySem.W.mg_of X G a16, k_law_ways := k16, b_law_ways := b16, F_law_ways := F16,
    m_law_least_double := PySem.W.mg_of X G a17, k_law_least_double := k17, b_law_least_double := b17, F_law_least_double := F17,
    m_law_no_lesser := PySem.W.mg_of X G a18, k_law_no_lesser := k18, b_law_no_lesser := b18, F_law_no_lesser := F18,
    m_law_longer := PySem.W.mg_of X G a19, k_law_longer := k19, b_law_longer := b19, F_law_longer := F19,
    m_law_is_number := PySem.W.mg_of X G a20, k_law_is_number := k20, b_law_is_number := b20, F_law_is_number := F20,
    m_law_accepts := PySem.W.mg_of X G a21, k_law_accepts := k21, b_law_accepts := b21, F_law_accepts := F21,
    m_law_turned := PySem.W.mg_of X G a22, k_law_turned := k22, b_law_turned := b22, F_law_turned := F22,
    m_law := PySem.W.mg_of X G a23, k_law := k23, b_law := b23, F_law := F23 }
  exact ⟨PySem.W.fnOf "law" "law" (defArgs s_law) (defBody s_law) (defScope s_law) .none kV23 dc23 pm23 an23 cd23 ct23, fun s u => .of_eq rfl, fun base _ _ => ok_all T⟩
end K65
open PySem PySem.W PyProof.Rows
set_option maxRecDepth 100000 in
set_option maxHeartbeats 0 in
theorem PySem.Challenge.cw_chipgate_k65_codes_by_what_is_left_over_holds : PySem.Challenge.rw_chipgate_k65_codes_by_what_is_left_over.Holds := by
  w_on; o_law; k_head; (case hw => w_witness2)
  k_fill
  refine L2.walk_ofK (l := PySem.Challenge.rw_chipgate_k65_codes_by_what_is_left_over) (n := 63) (k := 215) (CX := L2.CX0) (x := "script") (sp := fun K => DL.spLaw K 63) rfl (by decide) rfl ⟨rfl, by decide, by decide⟩ (fun w h Y => PySem.W.kIn_of Y) ?F ?S (fun _ _ _ _ z => z)
  case F =>
    intro w mg fa h KX G hmg
    refine' K65.all_mk KX G hmg ?a1 ?l1 ?e1 ?k1 ?a2 ?l2 ?e2 ?k2 ?a3 ?l3 ?e3 ?k3 ?a4 ?l4 ?e4 ?k4 ?a5 ?l5 ?e5 ?k5 ?a6 ?l6 ?e6 ?k6 ?a7 ?l7 ?e7 ?k7 ?a9 ?l9 ?e9 ?k9 ?a10 ?l10 ?e10 ?k10 ?a11 ?l11 ?e11 ?k11 ?a12 ?l12 ?e12 ?k12 ?a13 ?l13 ?e13 ?k13 ?a14 ?l14 ?e14 ?k14 ?a15 ?l15 ?e15 ?k15 ?a16 ?l16 ?e16 ?k16 ?a17 ?l17 ?e17 ?k17 ?a18 ?l18 ?e18 ?k18 ?a19 ?l19 ?e19 ?k19 ?a20 ?l20 ?e20 ?k20 ?a21 ?l21 ?e21 ?k21 ?a22 ?l22 ?e22 ?k22 ?a23 ?l23 ?e23 ?k23 ?z_bool ?z_enumerate ?z_int ?z_isinstance ?z_len ?z_list ?z_min ?z_range ?z_reversed ?z_set ?z_sorted ?z_str ?z_tuple
    (case a1 => k_is)
    (case l1 => k_is)
    (case e1 => k_is)
    (case k1 => k_is)
    (case a2 => k_is)
    (case l2 => k_is)
    (case e2 => k_is)
    (case k2 => k_is)
    (case a3 => k_is)
    (case l3 => k_is)
    (case e3 => k_is)
    (case k3 => k_is)
    (case a4 => k_is)
    (case l4 => k_is)
    (case e4 => k_is)
    (case k4 => k_is)
    (case a5 => k_is)
    (case l5 => k_is)
    (case e5 => k_is)
    (case k5 => k_is)
    (case a6 => k_is)
    (case l6 => k_is)
    (case e6 => k_is)
    (case k6 => k_is)
    (case a7 => k_is)
    (case l7 => k_is)
    (case e7 => k_is)
    (case k7 => k_is)
    (case a9 => k_is)
    (case l9 => k_is)
    (case e9 => k_is)
    (case k9 => k_is)
    (case a10 => k_is)
    (case l10 => k_is)
    (case e10 => k_is)
    (case k10 => k_is)
    (case a11 => k_is)
    (case l11 => k_is)
    (case e11 => k_is)
    (case k11 => k_is)
    (case a12 => k_is)
    (case l12 => k_is)
    (case e12 => k_is)
    (case k12 => k_is)
    (case a13 => k_is)
    (case l13 => k_is)
    (case e13 => k_is)
    (case k13 => k_is)
    (case a14 => k_is)
    (case l14 => k_is)
    (case e14 => k_is)
    (case k14 => k_is)
    (case a15 => k_is)
    (case l15 => k_is)
    (case e15 => k_is)
    (case k15 => k_is)
    (case a16 => k_is)
    (case l16 => k_is)
    (case e16 => k_is)
    (case k16 => k_is)
    (case a17 => k_is)
    (case l17 => k_is)
    (case e17 => k_is)
    (case k17 => k_is)
    (case a18 => k_is)
    (case l18 => k_is)
    (case e18 => k_is)
    (case k18 => k_is)
    (case a19 => k_is)
    (case l19 => k_is)
    (case e19 => k_is)
    (case k19 => k_is)
    (case a20 => k_is)
    (case l20 => k_is)
    (case e20 => k_is)
    (case k20 => k_is)
    (case a21 => k_is)
    (case l21 => k_is)
    (case e21 => k_is)
    (case k21 => k_is)
    (case a22 => k_is)
    (case l22 => k_is)
    (case e22 => k_is)
    (case k22 => k_is)
    (case a23 => k_is)
    (case l23 => k_is)
    (case e23 => k_is)
    (case k23 => k_is)
    (case z_bool => k_is)
    (case z_enumerate => k_is)
    (case z_int => k_is)
    (case z_isinstance => k_is)
    (case z_len => k_is)
    (case z_list => k_is)
    (case z_min => k_is)
    (case z_range => k_is)
    (case z_reversed => k_is)
    (case z_set => k_is)
    (case z_sorted => k_is)
    (case z_str => k_is)
    (case z_tuple => k_is)
  case S => exact fun K H a ns hl _ hs => ⟨a, ns, rfl, hl, hs, fun _ => rfl⟩
