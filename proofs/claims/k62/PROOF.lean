import PyProof.Rows.All
import Wide.All
import OpenK.AllK
import Wide.FinOn
import HandS.ForMost
import HandS.Deep
import HandS.TupAny
import HandS.Style
import HandS.IsInst
import HandS.SortInts
import HandS.SortRule
import HandS.Replace
import HandS.Strs
import HandS.SetFor
import HandS.Zip
import HandS.Conv
import HandS.DictTup
import KE.GoesMore
import KE.GoesEnum
import HandS.ExcIs
import HandS.WordsExc
import HandS.TryOnly
import KE.KDictDisplayH
import PyProof.StrOps2
import KE.SortData
import KE.DataMinMax
import KE.DataCmp
import HandS.StrMore
import HandS.RevRange
import HandS.Text
import KE.GoesZip
import HandS.MapSum
import HandS.ExcValue
import HandS.RaiseMore
import KE.KRevSl
import PySem.Challenge.RW_chipgate_k62_whole_least_changes
set_option Elab.async false
set_option linter.all false
set_option maxRecDepth 100000
set_option maxHeartbeats 4000000
/-! DL: a calculus over plain data (PyData) on top of the hand layer: what an expression, a statement does, told without addresses -/
namespace DL
open PySem L2
abbrev Fr := PySem.W.Frag

/-! ### heaps -/
def Ex (H H' : Hp) : Prop := ∀ b o, H b = some o → H' b = some o
theorem Ex.refl (H : Hp) : Ex H H := fun _ _ h => h
theorem Ex.trans {H H1 H2 : Hp} (a : Ex H H1) (b : Ex H1 H2) : Ex H H2 := fun c o h => b c o (a c o h)
theorem Ex.new {H : Hp} {p : Addr} {o : HO} (h : H p = none) : Ex H (upd H p o) := fun a u e => by
  rw [upd_ne (ne_of_none e h)]
  exact e
theorem Ex.free {H H' : Hp} (e : Ex H H') {l : Addr} (h : H' l = none) : H l = none := by
  cases q : H l with
  | none => rfl
  | some o =>
    rw [e l o q] at h
    cases h
/-- both grow by the same -/
theorem Ex.both {F H : Hp} (e : Ex F H) (p : Addr) (o : HO) : Ex (upd F p o) (upd H p o) := fun a u h => by
  by_cases ha : a = p
  · subst ha
    rw [upd_same] at h
    rw [upd_same, h]
  · rw [upd_ne ha] at h
    rw [upd_ne ha]
    exact e a u h
/-- what is not frozen changes -/
theorem Ex.mut {F H : Hp} (e : Ex F H) {p : Addr} (h : F p = none) (o : HO) : Ex F (upd H p o) := fun a u q => by
  rw [upd_ne (ne_of_none q h)]
  exact e a u q
/-- what stands is frozen -/
theorem Ex.frz {F H : Hp} (e : Ex F H) {p : Addr} {o : HO} (h : H p = some o) : Ex (upd F p o) H := fun a u q => by
  by_cases ha : a = p
  · subst ha
    rw [upd_same] at q
    rw [h, q]
  · rw [upd_ne ha] at q
    exact e a u q
theorem rd_mono {H H' : Hp} {a : Addr} {u : HO} (e : Ex H H') (h : Rd H a u) : Rd H' a u := by
  rcases h with h | ⟨o, h⟩
  · exact .inl (e a _ h)
  · exact .inr ⟨o, e a _ h⟩
theorem sl_mono {K : Fr} {H H' : Hp} {a : Addr} {xs : List V} (e : Ex H H') (h : SqL K H a xs) : SqL K H' a xs := by
  rcases h with h | h
  · exact .inl (rd_mono e h)
  · exact .inr h
theorem st_mono {K : Fr} {H H' : Hp} {a : Addr} {xs : List V} (e : Ex H H') (h : SqT K H a xs) : SqT K H' a xs := by
  rcases h with h | h
  · exact .inl (rd_mono e h)
  · exact .inr h
mutual
/-- v is the data d: its lists and tuples stand in H themselves -/
inductive Dq (K : Fr) (H : Hp) : V → PyData → Prop
  | non : Dq K H .non .none
  | bl (b : Bool) : Dq K H (.bl b) (.bool b)
  | int (i : Int) : Dq K H (.int i) (.int i)
  | str (x : Str) : Dq K H (.str x) (.str x)
  | lst {a : Addr} {xs : List V} {ds : List PyData} : H a = some (.lst xs) → DqAll K H xs ds → Dq K H (.ref a) (.list ds)
  | tup {a : Addr} {xs : List V} {ds : List PyData} : H a = some (.tup xs) → DqAll K H xs ds → Dq K H (.ref a) (.tuple ds)
inductive DqAll (K : Fr) (H : Hp) : List V → List PyData → Prop
  | nil : DqAll K H [] []
  | cons {v : V} {vs : List V} {d : PyData} {ds : List PyData} : Dq K H v d → DqAll K H vs ds → DqAll K H (v :: vs) (d :: ds)
end
mutual
theorem dq_dp {K : Fr} {H : Hp} : ∀ {v : V} {d : PyData}, Dq K H v d → L2.Dp K H v d
  | _, _, .non => .non
  | _, _, .bl b => .bl b
  | _, _, .int i => .int i
  | _, _, .str x => .str x
  | _, _, .lst h a => .lst (SqL.of h) (dqa_dp a)
  | _, _, .tup h a => .tup (SqT.of h) (dqa_dp a)
theorem dqa_dp {K : Fr} {H : Hp} : ∀ {vs : List V} {ds : List PyData}, DqAll K H vs ds → L2.DpAll K H vs ds
  | _, _, .nil => .nil
  | _, _, .cons h a => .cons (dq_dp h) (dqa_dp a)
end
mutual
theorem dp_mono {K : Fr} {H H' : Hp} (e : Ex H H') : ∀ {v : V} {d : PyData}, Dq K H v d → Dq K H' v d
  | _, _, .non => .non
  | _, _, .bl b => .bl b
  | _, _, .int i => .int i
  | _, _, .str x => .str x
  | _, _, .lst h a => .lst (e _ _ h) (da_mono e a)
  | _, _, .tup h a => .tup (e _ _ h) (da_mono e a)
theorem da_mono {K : Fr} {H H' : Hp} (e : Ex H H') : ∀ {vs : List V} {ds : List PyData}, DqAll K H vs ds → DqAll K H' vs ds
  | _, _, .nil => .nil
  | _, _, .cons h a => .cons (dp_mono e h) (da_mono e a)
end
section
variable {K : Fr} {H : Hp}
theorem da_len : ∀ {vs : List V} {ds : List PyData}, DqAll K H vs ds → vs.length = ds.length
  | _, _, .nil => rfl
  | _, _, .cons _ a => congrArg (· + 1) (da_len a)
theorem da_app : ∀ {vs ws : List V} {ds es : List PyData}, DqAll K H vs ds → DqAll K H ws es → DqAll K H (vs ++ ws) (ds ++ es)
  | _, _, _, _, .nil, b => b
  | _, _, _, _, .cons h a, b => .cons h (da_app a b)
theorem da_get : ∀ {vs : List V} {ds : List PyData} {i : Nat} {d : PyData}, DqAll K H vs ds → ds[i]? = some d → ∃ v, vs[i]? = some v ∧ Dq K H v d
  | _, _, _, _, .nil, e => by simp at e
  | _, _, 0, _, .cons h _, e => by
    simp at e
    subst e
    exact ⟨_, rfl, h⟩
  | _, _, i + 1, _, .cons _ a, e => by
    obtain ⟨v, h1, h2⟩ := da_get (i := i) a (by simpa using e)
    exact ⟨v, by simpa using h1, h2⟩
theorem da_get' : ∀ {vs : List V} {ds : List PyData} {i : Nat} {v : V}, DqAll K H vs ds → vs[i]? = some v → ∃ d, ds[i]? = some d ∧ Dq K H v d
  | _, _, _, _, .nil, e => by simp at e
  | _, _, 0, _, .cons h _, e => by
    simp at e
    subst e
    exact ⟨_, rfl, h⟩
  | _, _, i + 1, _, .cons _ a, e => by
    obtain ⟨v, h1, h2⟩ := da_get' (i := i) a (by simpa using e)
    exact ⟨v, by simpa using h1, h2⟩
theorem da_set : ∀ {vs : List V} {ds : List PyData} (i : Nat) {v : V} {d : PyData}, DqAll K H vs ds → Dq K H v d → DqAll K H (vs.set i v) (ds.set i d)
  | _, _, _, _, _, .nil, _ => .nil
  | _, _, 0, _, _, .cons _ a, h => .cons h a
  | _, _, i + 1, _, _, .cons h a, h' => .cons h (da_set i a h')
theorem da_take : ∀ {vs : List V} {ds : List PyData} (n : Nat), DqAll K H vs ds → DqAll K H (vs.take n) (ds.take n)
  | _, _, 0, _ => .nil
  | _, _, _ + 1, .nil => .nil
  | _, _, n + 1, .cons h a => .cons h (da_take n a)
theorem da_drop : ∀ {vs : List V} {ds : List PyData} (n : Nat), DqAll K H vs ds → DqAll K H (vs.drop n) (ds.drop n)
  | _, _, 0, a => a
  | _, _, _ + 1, .nil => .nil
  | _, _, n + 1, .cons _ a => da_drop n a
theorem da_erase : ∀ {vs : List V} {ds : List PyData} (i : Nat), DqAll K H vs ds → DqAll K H (vs.eraseIdx i) (ds.eraseIdx i)
  | _, _, _, .nil => .nil
  | _, _, 0, .cons _ a => a
  | _, _, i + 1, .cons h a => .cons h (da_erase i a)
theorem da_rev : ∀ {vs : List V} {ds : List PyData}, DqAll K H vs ds → DqAll K H vs.reverse ds.reverse
  | _, _, .nil => .nil
  | _, _, .cons h a => by
    rw [List.reverse_cons, List.reverse_cons]
    exact da_app (da_rev a) (.cons h .nil)
theorem da_ints : ∀ ns : List Int, DqAll K H (ns.map V.int) (ns.map PyData.int)
  | [] => .nil
  | n :: r => .cons (.int n) (da_ints r)
theorem da_strs : ∀ ns : List Str, DqAll K H (ns.map V.str) (ns.map PyData.str)
  | [] => .nil
  | n :: r => .cons (.str n) (da_strs r)
theorem da_bls : ∀ ns : List Bool, DqAll K H (ns.map V.bl) (ns.map PyData.bool)
  | [] => .nil
  | n :: r => .cons (.bl n) (da_bls r)
theorem da_ints_eq : ∀ {vs : List V} {ns : List Int}, DqAll K H vs (ns.map PyData.int) → vs = ns.map V.int
  | _, [], .nil => rfl
  | _, n :: r, .cons h a => by
    cases h
    rw [da_ints_eq a]
    rfl
theorem da_strs_eq : ∀ {vs : List V} {ns : List Str}, DqAll K H vs (ns.map PyData.str) → vs = ns.map V.str
  | _, [], .nil => rfl
  | _, n :: r, .cons h a => by
    cases h
    rw [da_strs_eq a]
    rfl
theorem da_bls_eq : ∀ {vs : List V} {ns : List Bool}, DqAll K H vs (ns.map PyData.bool) → vs = ns.map V.bl
  | _, [], .nil => rfl
  | _, n :: r, .cons h a => by
    cases h
    rw [da_bls_eq a]
    rfl
theorem dp_int {v : V} {i : Int} (h : Dq K H v (.int i)) : v = .int i := by cases h; rfl
theorem dp_str {v : V} {i : Str} (h : Dq K H v (.str i)) : v = .str i := by cases h; rfl
theorem dp_bl {v : V} {i : Bool} (h : Dq K H v (.bool i)) : v = .bl i := by cases h; rfl
theorem dp_non {v : V} (h : Dq K H v .none) : v = .non := by cases h; rfl
theorem dp_lst {v : V} {ds : List PyData} (h : Dq K H v (.list ds)) : ∃ a vs, v = .ref a ∧ H a = some (.lst vs) ∧ DqAll K H vs ds := by
  cases h with
  | lst s a => exact ⟨_, _, rfl, s, a⟩
theorem dp_tup {v : V} {ds : List PyData} (h : Dq K H v (.tuple ds)) : ∃ a vs, v = .ref a ∧ H a = some (.tup vs) ∧ DqAll K H vs ds := by
  cases h with
  | tup s a => exact ⟨_, _, rfl, s, a⟩
end

/-! ### what a slot holds -/
structure Orel where
  rel : Hp → Hp → V → (Addr → Prop) → Prop
  stab : ∀ {F H F' H' : Hp} {v : V} {A : Addr → Prop}, rel F H v A → Ex F F' → (∀ a, A a → H' a = H a) → rel F' H' v A
/-- d: frozen data; o: a list that this def alone has (q: its address, where it is told); t: a dict (keys are tuples) that it alone has; k: keys are ints, texts; ow: anything else that it alone has -/
inductive Sl where
  | un
  | d (d : PyData)
  | o (q : Option Addr) (ds : List PyData)
  | t (kvs : List (List Key × PyData))
  | k (q : Option Addr) (kvs : List (Key × PyData))
  | ow (R : Orel)
abbrev En := List Sl
def SvR (K : Fr) (F H : Hp) (v : V) (A : Addr → Prop) : Sl → Prop
  | .un => True
  | .d d => Dq K F v d
  | .o q ds => ∃ p vs, v = .ref p ∧ H p = some (.lst vs) ∧ DqAll K F vs ds ∧ A p ∧ ∀ a, q = some a → p = a
  | .t kvs => ∃ p kws, v = .ref p ∧ H p = some (.dT kws) ∧ kws.map (·.1) = kvs.map (·.1) ∧ DqAll K F (kws.map (·.2)) (kvs.map (·.2)) ∧ A p
  | .k q kvs => ∃ p kws, v = .ref p ∧ H p = some (.dK kws) ∧ kws.map (·.1) = kvs.map (·.1) ∧ DqAll K F (kws.map (·.2)) (kvs.map (·.2)) ∧ A p ∧ ∀ a, q = some a → p = a
  | .ow R => R.rel F H v A
theorem slr_stab {K : Fr} {F H F' H' : Hp} {v : V} {A : Addr → Prop} : ∀ {s : Sl}, SvR K F H v A s → Ex F F' → (∀ a, A a → H' a = H a) → SvR K F' H' v A s
  | .un, _, _, _ => trivial
  | .d _, h, e, _ => dp_mono e h
  | .o _ _, ⟨p, vs, h1, h2, h3, h4, h5⟩, e, k => ⟨p, vs, h1, by rw [k p h4]; exact h2, da_mono e h3, h4, h5⟩
  | .t _, ⟨p, vs, h1, h2, h3, h5, h4⟩, e, k => ⟨p, vs, h1, by rw [k p h4]; exact h2, h3, da_mono e h5, h4⟩
  | .k _ _, ⟨p, vs, h1, h2, h3, h5, h4, h6⟩, e, k => ⟨p, vs, h1, by rw [k p h4]; exact h2, h3, da_mono e h5, h4, h6⟩
  | .ow R, h, e, k => R.stab h e k

/-- F0, H0: what was frozen, what stood at the def's entry; mu: what it may change of it -/
structure Bs where
  F0 : Hp
  H0 : Hp
  mu : Addr → Prop
structure Iv (K : Fr) (B : Bs) (G : En) (S : St) (F H : Hp) : Prop where
  ex : Ex F H
  f0 : Ex B.F0 F
  fr : ∀ b o, B.H0 b = some o → ¬ B.mu b → H b = some o
  nw : ∀ b o, F b = some o → B.H0 b ≠ none → B.F0 b ≠ none ∨ B.mu b
  st : ∀ b, B.H0 b ≠ none → H b ≠ none
  len : S.length = G.length
  own : ∃ A : Nat → Addr → Prop, (∀ i s, G[i]? = some s → s = .un ∨ ∃ v, S[i]? = some (some v) ∧ SvR K F H v (A i) s) ∧ (∀ i j a, A i a → A j a → i = j) ∧
    (∀ i a, A i a → F a = none ∧ H a ≠ none ∧ (B.H0 a = none ∨ B.mu a))
section
variable {K : Fr} {B : Bs} {G : En} {S : St} {F H F' H' : Hp} {v : V} {d : PyData} {p : Addr}
theorem Iv.dat (I : Iv K B G S F H) {i : Nat} (h : G[i]? = some (.d d)) : ∃ v, S[i]? = some (some v) ∧ Dq K F v d := by
  obtain ⟨A, h1, _, _⟩ := I.own
  rcases h1 i _ h with e | h1
  · cases e
  · exact h1
theorem Iv.lst (I : Iv K B G S F H) {i : Nat} {q : Option Addr} {ds : List PyData} (h : G[i]? = some (.o q ds)) : ∃ p vs, S[i]? = some (some (.ref p)) ∧ H p = some (.lst vs) ∧ F p = none ∧ DqAll K F vs ds := by
  obtain ⟨A, h1, _, h3⟩ := I.own
  rcases h1 i _ h with e | ⟨v, h1, p, vs, rfl, h5, h6, h7, _⟩
  · cases e
  · exact ⟨p, vs, h1, h5, (h3 i p h7).1, h6⟩
theorem Iv.new0 (I : Iv K B G S F H) (hp : H p = none) : B.H0 p = none := by
  cases q : B.H0 p with
  | none => rfl
  | some o => exact absurd hp (I.st p (by rw [q]; intro z; cases z))
theorem Iv.fnone (I : Iv K B G S F H) (hp : H p = none) : F p = none := I.ex.free hp
theorem set_same {G : En} {s s' : Sl} {i : Nat} (hj : (G.set i s)[i]? = some s') : s' = s ∧ i < G.length := by
  have hl : i < G.length := by
    have := (List.getElem?_eq_some_iff.mp hj).1
    simpa using this
  rw [List.getElem?_set_self hl] at hj
  exact ⟨(Option.some.inj hj).symm, hl⟩
/-- a slot gets data -/
theorem Iv.set_d (I : Iv K B G S F H) (i : Nat) (h : Dq K F v d) : Iv K B (G.set i (.d d)) (S.set i (some v)) F H := by
  obtain ⟨A, h1, h2, h3⟩ := I.own
  refine ⟨I.ex, I.f0, I.fr, I.nw, I.st, by simpa using I.len, A, fun j s hj => ?_, h2, h3⟩
  by_cases e : i = j
  · subst e
    obtain ⟨rfl, hl⟩ := set_same hj
    exact .inr ⟨v, List.getElem?_set_self (by rw [I.len]; exact hl), h⟩
  · rw [List.getElem?_set_ne e] at hj
    rw [List.getElem?_set_ne e]
    exact h1 j s hj
/-- a slot is forgotten -/
theorem Iv.set_un (I : Iv K B G S F H) (i : Nat) (x : Option V) : Iv K B (G.set i .un) (S.set i x) F H := by
  obtain ⟨A, h1, h2, h3⟩ := I.own
  refine ⟨I.ex, I.f0, I.fr, I.nw, I.st, by simpa using I.len, A, fun j s hj => ?_, h2, h3⟩
  by_cases e : i = j
  · subst e
    exact .inl (set_same hj).1
  · rw [List.getElem?_set_ne e] at hj
    rw [List.getElem?_set_ne e]
    exact h1 j s hj
/-- F grows by objects that no slot has -/
theorem Iv.grow (I : Iv K B G S F H) (eF : Ex F F') (eH : Ex H H') (ex : Ex F' H') (nw : ∀ b o, F' b = some o → F b = none → H b = none) : Iv K B G S F' H' := by
  obtain ⟨A, h1, h2, h3⟩ := I.own
  have hs : ∀ i a, A i a → F' a = none ∧ H' a = H a := fun i a ha => by
    obtain ⟨x, y, _⟩ := h3 i a ha
    refine ⟨?_, ?_⟩
    · cases q : F' a with
      | none => rfl
      | some o => exact absurd (nw a o q x) y
    · cases q : H a with
      | none => exact absurd q y
      | some o => exact eH a o q
  refine ⟨ex, I.f0.trans eF, fun b o h m => eH b o (I.fr b o h m), fun b o h n => ?_, fun b h => ?_, I.len, A, fun i s hi => ?_, h2, fun i a ha => ?_⟩
  · cases q : F b with
    | some u => exact I.nw b u q n
    | none => exact absurd (I.new0 (nw b o h q)) n
  · intro z
    exact I.st b h (Ex.free eH z)
  · rcases h1 i s hi with z | ⟨u, z1, z2⟩
    · exact .inl z
    · exact .inr ⟨u, z1, slr_stab z2 eF fun a ha => (hs i a ha).2⟩
  · refine ⟨(hs i a ha).1, ?_, (h3 i a ha).2.2⟩
    rw [(hs i a ha).2]
    exact (h3 i a ha).2.1
/-- a new object, frozen -/
theorem Iv.newF (I : Iv K B G S F H) (hp : H p = none) (o : HO) : Iv K B G S (upd F p o) (upd H p o) := by
  refine I.grow (Ex.new (I.fnone hp)) (Ex.new hp) (I.ex.both p o) fun b u h n => ?_
  by_cases e : b = p
  · subst e
    exact hp
  · rw [upd_ne e] at h
    rw [h] at n
    cases n
/-- a new object that nobody has -/
theorem Iv.newH (I : Iv K B G S F H) (hp : H p = none) (o : HO) : Iv K B G S F (upd H p o) := by
  refine I.grow (Ex.refl F) (Ex.new hp) (I.ex.trans (Ex.new hp)) fun b u h n => ?_
  rw [h] at n
  cases n
theorem app_get {α : Type} {G : List α} {s s' : α} {i : Nat} (h : (G ++ [s])[i]? = some s') : (i < G.length ∧ G[i]? = some s') ∨ (i = G.length ∧ s' = s) := by
  by_cases hi : i < G.length
  · rw [List.getElem?_append_left hi] at h
    exact .inl ⟨hi, h⟩
  · rw [List.getElem?_append_right (by omega)] at h
    have h2 : i - G.length < 1 := by
      have := (List.getElem?_eq_some_iff.mp h).1
      simpa using this
    have e : i - G.length = 0 := by omega
    rw [e] at h
    exact .inr ⟨by omega, (Option.some.inj h).symm⟩
/-- the last slot is dropped -/
theorem Iv.drop {s : Sl} {x : Option V} (I : Iv K B (G ++ [s]) (S ++ [x]) F H) : Iv K B G S F H := by
  obtain ⟨A, h1, h2, h3⟩ := I.own
  have hl : S.length = G.length := by
    have := I.len
    simpa using this
  refine ⟨I.ex, I.f0, I.fr, I.nw, I.st, hl, A, fun i s hi => ?_, h2, h3⟩
  have hlt := (List.getElem?_eq_some_iff.mp hi).1
  rcases h1 i s (by rw [List.getElem?_append_left hlt]; exact hi) with z | ⟨u, z1, z2⟩
  · exact .inl z
  · exact .inr ⟨u, by rw [List.getElem?_append_left (by omega)] at z1; exact z1, z2⟩
/-- the last slot's thing goes to slot i -/
theorem Iv.move {s : Sl} {x : Option V} (I : Iv K B (G ++ [s]) (S ++ [x]) F H) (i : Nat) : Iv K B (G.set i s) (S.set i x) F H := by
  obtain ⟨A, h1, h2, h3⟩ := I.own
  have hl : S.length = G.length := by
    have := I.len
    simpa using this
  refine ⟨I.ex, I.f0, I.fr, I.nw, I.st, by simpa using hl, fun j a => (j = i ∧ A G.length a) ∨ (j ≠ i ∧ j < G.length ∧ A j a), fun j s' hj => ?_, fun j k a ha hb => ?_, fun j a ha => ?_⟩
  · by_cases e : i = j
    · subst e
      obtain ⟨rfl, hl2⟩ := set_same hj
      rcases h1 G.length s' (by simp) with z | ⟨u, z1, z2⟩
      · exact .inl z
      · refine .inr ⟨u, ?_, ?_⟩
        · rw [← hl] at z1
          have : (S ++ [x])[S.length]? = some x := by simp
          rw [this] at z1
          rw [List.getElem?_set_self (by omega)]
          exact z1
        · have ea : (fun a => (i = i ∧ A G.length a) ∨ (i ≠ i ∧ i < G.length ∧ A i a)) = A G.length := by
            funext a
            exact propext ⟨fun z => z.elim (fun z => z.2) fun z => absurd rfl z.1, fun z => .inl ⟨rfl, z⟩⟩
          show SvR K F H u (fun a => (i = i ∧ A G.length a) ∨ (i ≠ i ∧ i < G.length ∧ A i a)) s'
          rw [ea]
          exact z2
    · rw [List.getElem?_set_ne e] at hj
      have hlt := (List.getElem?_eq_some_iff.mp hj).1
      rcases h1 j s' (by rw [List.getElem?_append_left hlt]; exact hj) with z | ⟨u, z1, z2⟩
      · exact .inl z
      · refine .inr ⟨u, ?_, ?_⟩
        · rw [List.getElem?_append_left (by omega)] at z1
          rw [List.getElem?_set_ne e]
          exact z1
        · have ea : (fun a => (j = i ∧ A G.length a) ∨ (j ≠ i ∧ j < G.length ∧ A j a)) = A j := by
            funext a
            exact propext ⟨fun z => z.elim (fun z => absurd z.1 (Ne.symm e)) fun z => z.2.2, fun z => .inr ⟨Ne.symm e, hlt, z⟩⟩
          show SvR K F H u (fun a => (j = i ∧ A G.length a) ∨ (j ≠ i ∧ j < G.length ∧ A j a)) s'
          rw [ea]
          exact z2
  · rcases ha with ⟨e1, q1⟩ | ⟨e1, l1, q1⟩ <;> rcases hb with ⟨e2, q2⟩ | ⟨e2, l2, q2⟩
    · rw [e1, e2]
    · have := h2 _ _ _ q1 q2
      omega
    · have := h2 _ _ _ q1 q2
      omega
    · exact h2 _ _ _ q1 q2
  · rcases ha with ⟨e1, q1⟩ | ⟨e1, l1, q1⟩
    · exact h3 _ _ q1
    · exact h3 _ _ q1
/-- what stands grows; a new thing is the last slot's -/
theorem Iv.add {s : Sl} (I : Iv K B G S F H) (eF : Ex F F') (eH : Ex H H') (ex : Ex F' H') (nw : ∀ b o, F' b = some o → F b = none → H b = none) (x : Option V) (A0 : Addr → Prop) (hr : s = .un ∨ ∃ v, x = some v ∧ SvR K F' H' v A0 s)
    (hn : ∀ a, A0 a → H a = none ∧ F' a = none ∧ H' a ≠ none) : Iv K B (G ++ [s]) (S ++ [x]) F' H' := by
  obtain ⟨A, h1, h2, h3⟩ := I.own
  have hs : ∀ i a, A i a → F' a = none ∧ H' a = H a := fun i a ha => by
    obtain ⟨x, y, _⟩ := h3 i a ha
    refine ⟨?_, ?_⟩
    · cases q : F' a with
      | none => rfl
      | some o => exact absurd (nw a o q x) y
    · cases q : H a with
      | none => exact absurd q y
      | some o => exact eH a o q
  have Ig := I.grow eF eH ex nw
  refine ⟨ex, Ig.f0, Ig.fr, Ig.nw, Ig.st, by simp [I.len], fun j a => (j < G.length ∧ A j a) ∨ (j = G.length ∧ A0 a), fun i s' hi => ?_, fun j k a ha hb => ?_, fun i a ha => ?_⟩
  · rcases app_get hi with ⟨hl, h⟩ | ⟨hl, e⟩
    · rcases h1 i s' h with z | ⟨u, z1, z2⟩
      · exact .inl z
      · refine .inr ⟨u, by rw [List.getElem?_append_left (by rw [I.len]; exact hl)]; exact z1, ?_⟩
        have ea : (fun a => (i < G.length ∧ A i a) ∨ (i = G.length ∧ A0 a)) = A i := by
          funext a
          exact propext ⟨fun z => z.elim (fun z => z.2) fun z => by omega, fun z => .inl ⟨hl, z⟩⟩
        show SvR K F' H' u (fun a => (i < G.length ∧ A i a) ∨ (i = G.length ∧ A0 a)) s'
        rw [ea]
        exact slr_stab z2 eF fun a ha => (hs i a ha).2
    · subst e hl
      rcases hr with z | ⟨v, e, z⟩
      · exact .inl z
      · refine .inr ⟨v, ?_, ?_⟩
        · rw [← I.len, e]
          simp
        · have ea : (fun a => (G.length < G.length ∧ A G.length a) ∨ (G.length = G.length ∧ A0 a)) = A0 := by
            funext a
            exact propext ⟨fun z => z.elim (fun z => by omega) fun z => z.2, fun z => .inr ⟨rfl, z⟩⟩
          show SvR K F' H' v (fun a => (G.length < G.length ∧ A G.length a) ∨ (G.length = G.length ∧ A0 a)) s'
          rw [ea]
          exact z
  · rcases ha with ⟨l1, q1⟩ | ⟨e1, q1⟩ <;> rcases hb with ⟨l2, q2⟩ | ⟨e2, q2⟩
    · exact h2 _ _ _ q1 q2
    · exact absurd (hn a q2).1 (h3 _ _ q1).2.1
    · exact absurd (hn a q1).1 (h3 _ _ q2).2.1
    · rw [e1, e2]
  · rcases ha with ⟨l1, q1⟩ | ⟨e1, q1⟩
    · refine ⟨(hs i a q1).1, ?_, (h3 i a q1).2.2⟩
      rw [(hs i a q1).2]
      exact (h3 i a q1).2.1
    · exact ⟨(hn a q1).2.1, (hn a q1).2.2, .inl (I.new0 (hn a q1).1)⟩
/-- a new list, this def's own -/
theorem Iv.newL {vs : List V} {ds : List PyData} (I : Iv K B G S F H) (hp : H p = none) (h : DqAll K F vs ds) : Iv K B (G ++ [.o none ds]) (S ++ [some (.ref p)]) F (upd H p (.lst vs)) := by
  refine I.add (Ex.refl F) (Ex.new hp) (I.ex.trans (Ex.new hp)) (fun b o h n => ?_) _ (fun a => a = p) (.inr ⟨_, rfl, p, vs, rfl, upd_same, h, rfl, fun a z => by cases z⟩) fun a e => ?_
  · rw [h] at n
    cases n
  · have e : a = p := e
    subst e
    exact ⟨hp, I.fnone hp, by rw [upd_same]; exact fun z => (by cases z)⟩
/-- slot i's list (this def's own) is another one now -/
theorem Iv.mut {i : Nat} {q : Option Addr} {ds ds' : List PyData} {vs' : List V} (I : Iv K B G S F H) (hi : G[i]? = some (.o q ds)) (hS : S[i]? = some (some (.ref p))) (h : DqAll K F vs' ds') : Iv K B (G.set i (.o q ds')) S F (upd H p (.lst vs')) := by
  obtain ⟨A, h1, h2, h3⟩ := I.own
  obtain ⟨u, e1, p', vs, e2, e3, e4, e5, e6⟩ : ∃ v, S[i]? = some (some v) ∧ SvR K F H v (A i) (.o q ds) := (h1 i _ hi).elim (fun z => by cases z) id
  rw [hS] at e1
  cases e1
  cases e2
  obtain ⟨k1, k2, k3⟩ := h3 i p e5
  refine ⟨I.ex.mut k1 _, I.f0, fun b o hb hm => ?_, I.nw, fun b hb => ?_, by simpa using I.len, A, fun j s hj => ?_, h2, fun j a ha => ?_⟩
  · have nb : b ≠ p := fun z => by
      subst z
      rcases k3 with z | z
      · rw [hb] at z
        cases z
      · exact hm z
    rw [upd_ne nb]
    exact I.fr b o hb hm
  · by_cases nb : b = p
    · rw [nb, upd_same]
      exact fun z => by cases z
    · rw [upd_ne nb]
      exact I.st b hb
  · by_cases e : i = j
    · subst e
      obtain ⟨rfl, _⟩ := set_same hj
      exact .inr ⟨_, hS, p, vs', rfl, upd_same, h, e5, e6⟩
    · rw [List.getElem?_set_ne e] at hj
      rcases h1 j s hj with z | ⟨u, z1, z2⟩
      · exact .inl z
      · refine .inr ⟨u, z1, slr_stab z2 (Ex.refl F) fun a ha => ?_⟩
        rw [upd_ne]
        intro z
        subst z
        exact e (h2 _ _ _ e5 ha)
  · obtain ⟨x, y, z⟩ := h3 j a ha
    refine ⟨x, ?_, z⟩
    by_cases na : a = p
    · rw [na, upd_same]
      exact fun z => by cases z
    · rw [upd_ne na]
      exact y
/-- slot i's list is frozen from now on -/
theorem Iv.freeze {i : Nat} {q : Option Addr} {ds : List PyData} (I : Iv K B G S F H) (hi : G[i]? = some (.o q ds)) : ∃ p vs, S[i]? = some (some (.ref p)) ∧ H p = some (.lst vs) ∧ F p = none ∧ Iv K B (G.set i (.d (.list ds))) S (upd F p (.lst vs)) H ∧ Dq K (upd F p (.lst vs)) (.ref p) (.list ds) := by
  obtain ⟨A, h1, h2, h3⟩ := I.own
  obtain ⟨u, e1, p, vs, rfl, e3, e4, e5, _⟩ : ∃ v, S[i]? = some (some v) ∧ SvR K F H v (A i) (.o q ds) := (h1 i _ hi).elim (fun z => by cases z) id
  obtain ⟨k1, k2, k3⟩ := h3 i p e5
  have eF : Ex F (upd F p (.lst vs)) := Ex.new k1
  have hd : Dq K (upd F p (.lst vs)) (.ref p) (.list ds) := .lst upd_same (da_mono eF e4)
  refine ⟨p, vs, e1, e3, k1, ⟨I.ex.frz e3, I.f0.trans eF, I.fr, fun b o hb hn => ?_, I.st, by simpa using I.len, fun j a => j ≠ i ∧ A j a, fun j s hj => ?_, fun j k a ha hb => h2 j k a ha.2 hb.2, fun j a ha => ?_⟩, hd⟩
  · by_cases nb : b = p
    · subst nb
      rcases k3 with z | z
      · exact absurd z hn
      · exact .inr z
    · rw [upd_ne nb] at hb
      exact I.nw b o hb hn
  · by_cases e : i = j
    · subst e
      obtain ⟨rfl, _⟩ := set_same hj
      exact .inr ⟨_, e1, hd⟩
    · rw [List.getElem?_set_ne e] at hj
      rcases h1 j s hj with z | ⟨u, z1, z2⟩
      · exact .inl z
      · refine .inr ⟨u, z1, ?_⟩
        have ea : (fun a => j ≠ i ∧ A j a) = A j := by
          funext a
          exact propext ⟨fun z => z.2, fun z => ⟨Ne.symm e, z⟩⟩
        show SvR K _ H u (fun a => j ≠ i ∧ A j a) s
        rw [ea]
        exact slr_stab z2 eF fun _ _ => rfl
  · obtain ⟨x, y, z⟩ := h3 j a ha.2
    refine ⟨?_, y, z⟩
    rw [upd_ne]
    · exact x
    · intro q
      subst q
      exact ha.1 (h2 _ _ _ ha.2 e5)
/-- the last slot's list is frozen, and the slot is dropped -/
theorem Iv.freezeL {q : Option Addr} {ds : List PyData} (I : Iv K B (G ++ [.o q ds]) (S ++ [some v]) F H) : ∃ F', Ex F F' ∧ Iv K B G S F' H ∧ Dq K F' v (.list ds) := by
  obtain ⟨p, vs, h1, h2, h3, I2, h4⟩ := I.freeze (i := G.length) (q := q) (ds := ds) (by simp)
  have hl : S.length = G.length := by
    have := I.len
    simpa using this
  have hv : v = .ref p := by
    rw [← hl] at h1
    have : (S ++ [some v])[S.length]? = some (some v) := by simp
    rw [this] at h1
    exact Option.some.inj (Option.some.inj h1)
  subst hv
  refine ⟨_, Ex.new h3, ?_, h4⟩
  have e : (G ++ [Sl.o q ds]).set G.length (.d (.list ds)) = G ++ [.d (.list ds)] := by simp
  rw [e] at I2
  exact I2.drop
end

/-! ### what an expression gives: data, or slot i's own thing; or a new thing that nobody has yet -/
inductive W where
  | d (d : PyData)
  | sl (i : Nat)
  | ty (n : String)
inductive Rs where
  | p (w : W)
  | fr (s : Sl)
def Vw (K : Fr) (S : St) (F : Hp) (v : V) : W → Prop
  | .d d => Dq K F v d
  | .sl i => S[i]? = some (some v)
  | .ty n => v = .ty n
theorem Vw.mono {K : Fr} {S : St} {F F' : Hp} {v : V} : ∀ {w : W}, Vw K S F v w → Ex F F' → Vw K S F' v w
  | .d _, h, e => dp_mono e h
  | .sl _, h, _ => h
  | .ty _, h, _ => h
def Vr (K : Fr) (B : Bs) (G : En) (S : St) (F H : Hp) (v : V) : Rs → Prop
  | .p w => Iv K B G S F H ∧ Vw K S F v w
  | .fr s => Iv K B (G ++ [s]) (S ++ [some v]) F H
theorem Vr.iv {K : Fr} {B : Bs} {G : En} {S : St} {F H : Hp} {v : V} : ∀ {r : Rs}, Vr K B G S F H v r → Iv K B G S F H
  | .p _, h => h.1
  | .fr _, h => h.drop
/-- a result that is to last: a new list is frozen -/
def PW : Rs → (W → Prop) → Prop
  | .p w, k => k w
  | .fr (.o _ ds), k => k (.d (.list ds))
  | _, _ => False
theorem pw_ok {K : Fr} {B : Bs} {G : En} {S : St} {F H : Hp} {v : V} {k : W → Prop} : ∀ {r : Rs}, Vr K B G S F H v r → PW r k → ∃ F' w, Ex F F' ∧ Iv K B G S F' H ∧ Vw K S F' v w ∧ k w
  | .p w, h, q => ⟨F, w, Ex.refl F, h.1, h.2, q⟩
  | .fr (.o _ ds), h, q => by
    obtain ⟨F', e, I, r⟩ := Iv.freezeL h
    exact ⟨F', .d (.list ds), e, I, r, q⟩
  | .fr .un, _, q => q.elim
  | .fr (.d _), _, q => q.elim
  | .fr (.t _), _, q => q.elim
  | .fr (.k _ _), _, q => q.elim
  | .fr (.ow _), _, q => q.elim
abbrev Po := En → Rs → Prop
def Ct (K : Fr) (B : Bs) (S : St) (F : Hp) (P : Po) (Q : VK) : Prop := ∀ v F' H' G' r, Ex F F' → Vr K B G' S F' H' v r → P G' r → Q v H'
theorem Ct.mono {K : Fr} {B : Bs} {S : St} {F F' : Hp} {P : Po} {Q : VK} (k : Ct K B S F P Q) (e : Ex F F') : Ct K B S F' P Q := fun v F1 H1 G1 r e1 I q => k v F1 H1 G1 r (e.trans e1) I q
/-- an expression; a test; arguments -/
def DW (K : Fr) (B : Bs) (G : En) (te : TE) (P : Po) : Prop := ∀ S F H Q, Iv K B G S F H → Ct K B S F P Q → te S H Q
def DT (K : Fr) (B : Bs) (G : En) (tt : TT) (P : En → Bool → Prop) : Prop := ∀ S F H (Q : Bool → Hp → Prop), Iv K B G S F H → (∀ b F' H' G', Ex F F' → Iv K B G' S F' H' → P G' b → Q b H') → tt S H Q
def Vws (K : Fr) (S : St) (F : Hp) : List V → List W → Prop := Paired (Vw K S F)
theorem Vws.mono {K : Fr} {S : St} {F F' : Hp} (e : Ex F F') : ∀ {vs : List V} {ws : List W}, Vws K S F vs ws → Vws K S F' vs ws
  | _, _, .nil => .nil
  | _, _, .cons h t => .cons (h.mono e) (Vws.mono e t)
def DA (K : Fr) (B : Bs) (G : En) (ta : TA) (P : En → List W → Prop) : Prop := ∀ S F H (Q : List V → Hp → Prop), Iv K B G S F H → (∀ vs F' H' G' ws, Ex F F' → Iv K B G' S F' H' → Vws K S F' vs ws → P G' ws → Q vs H') → ta S H Q
/-- operations by values -/
def RW2 (K : Fr) (B : Bs) (G : En) (r : R2) (w1 w2 : W) (P : Po) : Prop := ∀ S F H Q v1 v2, Iv K B G S F H → Vw K S F v1 w1 → Vw K S F v2 w2 → Ct K B S F P Q → r v1 v2 H Q
def RW1 (K : Fr) (B : Bs) (G : En) (r : V → Hp → VK → Prop) (w1 : W) (P : Po) : Prop := ∀ S F H Q v1, Iv K B G S F H → Vw K S F v1 w1 → Ct K B S F P Q → r v1 H Q
def RWn (K : Fr) (B : Bs) (G : En) (r : List V → Hp → VK → Prop) (ws : List W) (P : Po) : Prop := ∀ S F H Q vs, Iv K B G S F H → Vws K S F vs ws → Ct K B S F P Q → r vs H Q
def RWm (K : Fr) (B : Bs) (G : En) (r : V → List V → Hp → VK → Prop) (w : W) (ws : List W) (P : Po) : Prop := ∀ S F H Q v vs, Iv K B G S F H → Vw K S F v w → Vws K S F vs ws → Ct K B S F P Q → r v vs H Q
section
variable {K : Fr} {B : Bs} {G : En} {ta tb te : TE} {P : Po} {r : R2}
/-- the end of a rule: a value that is data, no heap changed -/
theorem ct_d {S : St} {F H : Hp} {Q : VK} {v : V} {d : PyData} (k : Ct K B S F P Q) (I : Iv K B G S F H) (h : Dq K F v d) (p : P G (.p (.d d))) : Q v H := k v F H G (.p (.d d)) (Ex.refl F) ⟨I, h⟩ p
theorem ct_L {S : St} {F H : Hp} {Q : VK} {p : Addr} {vs : List V} {ds : List PyData} (k : Ct K B S F P Q) (I : Iv K B G S F H) (hp : H p = none) (h : DqAll K F vs ds) (q : P G (.fr (.o none ds))) : Q (.ref p) (upd H p (.lst vs)) :=
  k _ F _ G (.fr (.o none ds)) (Ex.refl F) (I.newL hp h) q
theorem ct_T {S : St} {F H : Hp} {Q : VK} {p : Addr} {vs : List V} {ds : List PyData} (k : Ct K B S F P Q) (I : Iv K B G S F H) (hp : H p = none) (h : DqAll K F vs ds) (q : P G (.p (.d (.tuple ds)))) : Q (.ref p) (upd H p (.tup vs)) :=
  k _ (upd F p (.tup vs)) _ G (.p (.d (.tuple ds))) (Ex.new (I.fnone hp)) ⟨I.newF hp _, .tup upd_same (da_mono (Ex.new (I.fnone hp)) h)⟩ q
theorem dw_var {i : Nat} {d : PyData} (h : G[i]? = some (.d d)) (q : P G (.p (.d d))) : DW K B G (tVar i) P := fun S F H Q I k => by
  obtain ⟨v, e, r⟩ := I.dat h
  exact ⟨v, e, ct_d k I r q⟩
/-- a name of an own thing -/
theorem dw_sl {i : Nat} {a : Option Addr} {ds : List PyData} (h : G[i]? = some (.o a ds)) (q : P G (.p (.sl i))) : DW K B G (tVar i) P := fun S F H Q I k => by
  obtain ⟨p, vs, e, _⟩ := I.lst h
  exact ⟨_, e, k _ F H G (.p (.sl i)) (Ex.refl F) ⟨I, e⟩ q⟩
theorem dw_int {i : Int} (q : P G (.p (.d (.int i)))) : DW K B G (tC (.int i)) P := fun S F H Q I k => ct_d k I (.int i) q
theorem dw_str {x : Str} (q : P G (.p (.d (.str x)))) : DW K B G (tC (.str x)) P := fun S F H Q I k => ct_d k I (.str x) q
theorem dw_bl {b : Bool} (q : P G (.p (.d (.bool b)))) : DW K B G (tC (.bl b)) P := fun S F H Q I k => ct_d k I (.bl b) q
theorem dw_ty {n : String} (q : P G (.p (.ty n))) : DW K B G (tC (.ty n)) P := fun S F H Q I k => k _ F H G (.p (.ty n)) (Ex.refl F) ⟨I, rfl⟩ q
theorem dw_non (q : P G (.p (.d .none))) : DW K B G (tC .non) P := fun S F H Q I k => ct_d k I .non q
/-- run a part, its result to last -/
theorem dw_run {k' : En → W → Prop} {S : St} {F H : Hp} {Q : VK} (h : DW K B G te fun G1 r1 => PW r1 (k' G1)) (I : Iv K B G S F H) (k : ∀ v F1 H1 G1 w, Ex F F1 → Iv K B G1 S F1 H1 → Vw K S F1 v w → k' G1 w → Q v H1) : te S H Q :=
  h S F H _ I fun v F1 H1 G1 r e1 hr q => by
    obtain ⟨F2, w, e2, I2, hv, q2⟩ := pw_ok hr q
    exact k v F2 H1 G1 w (e1.trans e2) I2 hv q2
theorem dw_op (h : DW K B G ta fun G1 r1 => PW r1 fun w1 => DW K B G1 tb fun G2 r2 => PW r2 fun w2 => RW2 K B G2 r w1 w2 P) : DW K B G (tOp r ta tb) P := fun S F H Q I k => by
  show ta S H fun x H1 => tb S H1 fun y H2 => r x y H2 Q
  refine dw_run (k' := fun G1 w1 => DW K B G1 tb fun G2 r2 => PW r2 fun w2 => RW2 K B G2 r w1 w2 P) h I fun v1 F1 H1 G1 w1 e1 I1 r1 q1 => ?_
  refine dw_run (k' := fun G2 w2 => RW2 K B G2 r w1 w2 P) q1 I1 fun v2 F2 H2 G2 w2 e2 I2 r2 q2 => ?_
  exact q2 S F2 H2 Q v1 v2 I2 (r1.mono e2) r2 (k.mono (e1.trans e2))
theorem dw_un {r : V → Hp → VK → Prop} (h : DW K B G ta fun G1 r1 => PW r1 fun w1 => RW1 K B G1 r w1 P) : DW K B G (tUn r ta) P := fun S F H Q I k => by
  show ta S H fun x H1 => r x H1 Q
  refine dw_run (k' := fun G1 w1 => RW1 K B G1 r w1 P) h I fun v1 F1 H1 G1 w1 e1 I1 r1 q1 => ?_
  exact q1 S F1 H1 Q v1 I1 r1 (k.mono e1)
theorem dw_if {tA : TT} (h : DT K B G tA fun G1 b => if b = true then DW K B G1 ta P else DW K B G1 tb P) : DW K B G (tIf tA ta tb) P := fun S F H Q I k =>
  h S F H _ I fun b F1 H1 G1 e1 I1 q => by
    cases b with
    | true =>
      show ta S H1 Q
      exact q S F1 H1 Q I1 (k.mono e1)
    | false =>
      show tb S H1 Q
      exact q S F1 H1 Q I1 (k.mono e1)
theorem da_nil' {P : En → List W → Prop} (q : P G []) : DA K B G tNil P := fun S F H Q I k => k [] F H G [] (Ex.refl F) I .nil q
theorem da_cons' {tr : TA} {P : En → List W → Prop} (h : DW K B G te fun G1 r1 => PW r1 fun w1 => DA K B G1 tr fun G2 ws => P G2 (w1 :: ws)) : DA K B G (tCons te tr) P := fun S F H Q I k => by
  show te S H fun x H1 => tr S H1 fun xs H2 => Q (x :: xs) H2
  refine dw_run (k' := fun G1 w1 => DA K B G1 tr fun G2 ws => P G2 (w1 :: ws)) h I fun v1 F1 H1 G1 w1 e1 I1 r1 q1 => ?_
  refine q1 S F1 H1 _ I1 fun vs F2 H2 G2 ws e2 I2 r2 q2 => ?_
  exact k _ F2 H2 G2 _ (e1.trans e2) I2 (.cons (r1.mono e2) r2) q2
theorem dw_CB {t : TA} {r : List V → Hp → VK → Prop} (h : DA K B G t fun G1 ws => RWn K B G1 r ws P) : DW K B G (tCB r t) P := fun S F H Q I k =>
  h S F H _ I fun vs F1 H1 G1 ws e1 I1 hv q => q S F1 H1 Q vs I1 hv (k.mono e1)
/-- all the arguments are data -/
def allD : List W → Option (List PyData)
  | [] => some []
  | .d d :: r => (allD r).map (d :: ·)
  | .sl _ :: _ => none
  | .ty _ :: _ => none
theorem allD_ok {S : St} {F : Hp} : ∀ {ws : List W} {ds : List PyData} {vs : List V}, allD ws = some ds → Vws K S F vs ws → DqAll K F vs ds
  | [], _, _, e, .nil => by
    cases e
    exact .nil
  | .d d :: r, _, _, e, .cons h t => by
    simp only [allD, Option.map_eq_some_iff] at e
    obtain ⟨es, e1, rfl⟩ := e
    exact .cons h (allD_ok e1 t)
theorem dw_tup {t : TA} (h : DA K B G t fun G1 ws => ∃ ds, allD ws = some ds ∧ ds.length ≤ sizeLine ∧ P G1 (.p (.d (.tuple ds)))) : DW K B G (tTup t) P := fun S F H Q I k =>
  h S F H _ I fun vs F1 H1 G1 ws e1 I1 hv ⟨ds, e, hl, q⟩ => ⟨by rw [da_len (allD_ok e hv)]; exact hl, fun p hp => ct_T (k.mono e1) I1 hp (allD_ok e hv) q⟩
theorem dw_lst {t : TA} (h : DA K B G t fun G1 ws => ∃ ds, allD ws = some ds ∧ ds.length ≤ sizeLine ∧ P G1 (.fr (.o none ds))) : DW K B G (tLst t) P := fun S F H Q I k =>
  h S F H _ I fun vs F1 H1 G1 ws e1 I1 hv ⟨ds, e, hl, q⟩ => ⟨by rw [da_len (allD_ok e hv)]; exact hl, fun p hp => ct_L (k.mono e1) I1 hp (allD_ok e hv) q⟩
end
end DL
namespace DL
open PySem L2
/-! ### statements -/
structure De where
  nx : En → Prop
  rt : En → Rs → Prop
  bk : En → Prop := fun _ => False
  ct : En → Prop := fun _ => False
structure Cov (K : Fr) (B : Bs) (F0 : Hp) (E : De) (D : Ends) : Prop where
  nx : ∀ S F H G, Ex F0 F → Iv K B G S F H → E.nx G → D.nx S H
  rt : ∀ S F H G v r, Ex F0 F → Vr K B G S F H v r → E.rt G r → D.rt v H
  bk : ∀ S F H G, Ex F0 F → Iv K B G S F H → E.bk G → D.bk S H
  ct : ∀ S F H G, Ex F0 F → Iv K B G S F H → E.ct G → D.ct S H
theorem Cov.mono {K : Fr} {B : Bs} {F0 F1 : Hp} {E : De} {D : Ends} (c : Cov K B F0 E D) (e : Ex F0 F1) : Cov K B F1 E D :=
  ⟨fun S F H G e1 => c.nx S F H G (e.trans e1), fun S F H G v r e1 => c.rt S F H G v r (e.trans e1), fun S F H G e1 => c.bk S F H G (e.trans e1), fun S F H G e1 => c.ct S F H G (e.trans e1)⟩
def DS (K : Fr) (B : Bs) (G : En) (t : TS) (E : De) : Prop := ∀ S F H D, Iv K B G S F H → Cov K B F E D → t D S H
/-- a target; ch: the slots that it may change -/
def DG (K : Fr) (B : Bs) (G : En) (g : TG) (ch : List Nat) (w : W) (P : En → Prop) : Prop := ∀ S F H v (Q : St → Hp → Prop), Iv K B G S F H → Vw K S F v w →
  (∀ S' F' H' G', Ex F F' → Iv K B G' S' F' H' → S'.length = S.length → (∀ k, k ∉ ch → S'[k]? = S[k]?) → P G' → Q S' H') → g v S H Q
def DGs (K : Fr) (B : Bs) (G : En) (g : TGs) (ch : List Nat) (ds : List PyData) (P : En → Prop) : Prop := ∀ S F H vs (Q : St → Hp → Prop), Iv K B G S F H → DqAll K F vs ds →
  (∀ S' F' H' G', Ex F F' → Iv K B G' S' F' H' → S'.length = S.length → (∀ k, k ∉ ch → S'[k]? = S[k]?) → P G' → Q S' H') → g vs S H Q
section
variable {K : Fr} {B : Bs} {G : En} {ta tb te : TE} {P : Po} {r : R2} {E : De} {t u : TS} {tt : TT}
theorem ds_seq (h : DS K B G t { E with nx := fun G1 => DS K B G1 u E }) : DS K B G (tSeq t u) E := fun S F H D I c => by
  show t { D with nx := u D } S H
  exact h S F H _ I ⟨fun S F H G1 e I1 q => q S F H D I1 (c.mono e), c.rt, c.bk, c.ct⟩
theorem ds_next (h : E.nx G) : DS K B G tNext E := fun S F H D I c => c.nx S F H G (Ex.refl F) I h
theorem ds_break (h : E.bk G) : DS K B G tBreak E := fun S F H D I c => c.bk S F H G (Ex.refl F) I h
theorem ds_cont (h : E.ct G) : DS K B G tCont E := fun S F H D I c => c.ct S F H G (Ex.refl F) I h
theorem ds_ret (h : DW K B G te fun G1 r1 => E.rt G1 r1) : DS K B G (tRet te) E := fun S F H D I c => h S F H _ I fun v F1 H1 G1 r1 e1 i1 q => c.rt S F1 H1 G1 v r1 e1 i1 q
theorem ds_retN (h : E.rt G (.p (.d .none))) : DS K B G tRetN E := fun S F H D I c => c.rt S F H G _ (.p (.d .none)) (Ex.refl F) ⟨I, .non⟩ h
theorem ds_drop (h : DW K B G te fun G1 _ => E.nx G1) : DS K B G (tDrop te) E := fun S F H D I c => by
  show te S H fun _ H1 => D.nx S H1
  exact h S F H _ I fun v F1 H1 G1 r1 e1 i1 q => c.nx S F1 H1 G1 e1 i1.iv q
theorem ds_if (h : DT K B G tt fun G1 b => if b = true then DS K B G1 t E else DS K B G1 u E) : DS K B G (tIfS tt t u) E := fun S F H D I c => by
  show tt S H fun b H1 => if b = true then t D S H1 else u D S H1
  refine h S F H _ I fun b F1 H1 G1 e1 I1 q => ?_
  cases b with
  | true =>
    show t D S H1
    exact q S F1 H1 D I1 (c.mono e1)
  | false =>
    show u D S H1
    exact q S F1 H1 D I1 (c.mono e1)
/-- x = e: data; e's own new thing goes to x -/
def AsN (E : De) (G1 : En) (i : Nat) : Rs → Prop
  | .p (.d d) => E.nx (G1.set i (.d d))
  | .p (.sl _) => False
  | .p (.ty _) => False
  | .fr s => E.nx (G1.set i s)
theorem ds_set {i : Nat} (h : DW K B G te fun G1 r1 => AsN E G1 i r1) : DS K B G (tAsg te (gName i)) E := fun S F H D I c => by
  show te S H fun x H1 => D.nx (S.set i (some x)) H1
  refine h S F H _ I fun v F1 H1 G1 r1 e1 i1 q => ?_
  match r1, i1, q with
  | .p (.d d), i1, q => exact c.nx _ F1 H1 _ e1 (i1.1.set_d i i1.2) q
  | .fr s, i1, q => exact c.nx _ F1 H1 _ e1 (i1.move i) q
/-- .. as data from now on -/
theorem ds_setF {i : Nat} (h : DW K B G te fun G1 r1 => PW r1 fun w => ∃ d, w = .d d ∧ E.nx (G1.set i (.d d))) : DS K B G (tAsg te (gName i)) E := fun S F H D I c => by
  show te S H fun x H1 => D.nx (S.set i (some x)) H1
  refine dw_run (k' := fun G1 w => ∃ d, w = .d d ∧ E.nx (G1.set i (.d d))) h I fun v F1 H1 G1 w e1 I1 hv q => ?_
  obtain ⟨d, rfl, q⟩ := q
  exact c.nx _ F1 H1 _ e1 (I1.set_d i hv) q
/-- slot i's own list is data from now on -/
theorem ds_freeze (i : Nat) {a : Option Addr} {ds : List PyData} (hi : G[i]? = some (.o a ds)) (h : DS K B (G.set i (.d (.list ds))) t E) : DS K B G t E := fun S F H D I c => by
  obtain ⟨p, vs, _, _, hp, I2, _⟩ := I.freeze hi
  exact h S _ H D I2 (c.mono (Ex.new hp))
theorem ds_forget (i : Nat) (h : DS K B (G.set i .un) t E) : DS K B G t E := fun S F H D I c => by
  have I2 := I.set_un i ((S[i]?).getD none)
  have e : S.set i ((S[i]?).getD none) = S := by
    apply List.ext_getElem?
    intro k
    by_cases hk : i = k
    · subst hk
      by_cases hl : i < S.length
      · rw [List.getElem?_set_self hl, List.getElem?_eq_getElem hl]
        rfl
      · rw [List.getElem?_eq_none (by simpa using hl), List.getElem?_eq_none (by simpa using hl)]
    · rw [List.getElem?_set_ne hk]
  rw [e] at I2
  exact h S F H D I2 c
/-! ### tests -/
variable {PT : En → Bool → Prop}
theorem dt_test (h : DW K B G te fun G1 r1 => PW r1 fun w => ∃ b, w = .d (.bool b) ∧ PT G1 b) : DT K B G (tTest te) PT := fun S F H Q I k => by
  show te S H fun x H' => ∃ b, x = .bl b ∧ Q b H'
  refine dw_run (k' := fun G1 w => ∃ b, w = .d (.bool b) ∧ PT G1 b) h I fun v F1 H1 G1 w e1 I1 hv q => ?_
  obtain ⟨b, rfl, q⟩ := q
  exact ⟨b, dp_bl hv, k b F1 H1 G1 e1 I1 q⟩
theorem dt_B (h : DW K B G te fun G1 r1 => PW r1 fun w => ∃ b, w = .d (.bool b) ∧ PT G1 b) : DT K B G (tB te) PT := dt_test h
theorem dt_and {tu : TT} (h : DT K B G tt fun G1 b => if b = true then DT K B G1 tu PT else PT G1 false) : DT K B G (tAnd tt tu) PT := fun S F H Q I k => by
  show tt S H fun c H1 => if c = true then tu S H1 Q else Q false H1
  refine h S F H _ I fun b F1 H1 G1 e1 I1 q => ?_
  cases b with
  | true =>
    show tu S H1 Q
    exact q S F1 H1 Q I1 fun b F2 H2 G2 e2 I2 p => k b F2 H2 G2 (e1.trans e2) I2 p
  | false =>
    show Q false H1
    exact k false F1 H1 G1 e1 I1 q
theorem dt_or {tu : TT} (h : DT K B G tt fun G1 b => if b = true then PT G1 true else DT K B G1 tu PT) : DT K B G (tOr tt tu) PT := fun S F H Q I k => by
  show tt S H fun c H1 => if c = true then Q true H1 else tu S H1 Q
  refine h S F H _ I fun b F1 H1 G1 e1 I1 q => ?_
  cases b with
  | true =>
    show Q true H1
    exact k true F1 H1 G1 e1 I1 q
  | false =>
    show tu S H1 Q
    exact q S F1 H1 Q I1 fun b F2 H2 G2 e2 I2 p => k b F2 H2 G2 (e1.trans e2) I2 p
theorem dt_not (h : DT K B G tt fun G1 b => PT G1 (!b)) : DT K B G (tNot tt) PT := fun S F H Q I k => by
  show tt S H fun c H1 => Q (!c) H1
  exact h S F H _ I fun b F1 H1 G1 e1 I1 q => k (!b) F1 H1 G1 e1 I1 q
theorem dt_yes (h : PT G true) : DT K B G tYes PT := fun S F H Q I k => k true F H G (Ex.refl F) I h
/-- what a value is as a test -/
def truD : PyData → Option Bool
  | .none => some false
  | .bool b => some b
  | .int i => some (i != 0)
  | .list ds => some (!ds.isEmpty)
  | .tuple ds => some (!ds.isEmpty)
  | _ => none
theorem emp_eq {α β : Type} {xs : List α} {ys : List β} (h : xs.length = ys.length) : xs.isEmpty = ys.isEmpty := by
  cases xs <;> cases ys <;> simp_all
theorem tru_dp {F H : Hp} {v : V} {d : PyData} {b : Bool} (e : Ex F H) (h : Dq K F v d) (ht : truD d = some b) : TruV K v H b := by
  cases h with
  | non => exact (Option.some.inj ht).symm
  | bl _ => exact (Option.some.inj ht).symm
  | int _ => exact (Option.some.inj ht).symm
  | str _ => cases ht
  | lst s a => exact .inl ⟨_, SqL.of (e _ _ s), by rw [← Option.some.inj ht, emp_eq (da_len a)]⟩
  | tup s a => exact .inr (.inl ⟨_, SqT.of (e _ _ s), by rw [← Option.some.inj ht, emp_eq (da_len a)]⟩)
def TrW (G : En) (PT : En → Bool → Prop) : W → Prop
  | .d (.str x) => x.length ≤ sizeLine ∧ PT G ((x.length : Int) != 0)
  | .d d => ∃ b, truD d = some b ∧ PT G b
  | .sl i => ∃ a ds, G[i]? = some (.o a ds) ∧ PT G (!ds.isEmpty)
  | .ty _ => False
theorem dt_truth (h : DW K B G te fun G1 r1 => PW r1 fun w => TrW G1 PT w) : DT K B G (fun S H Q => te S H fun x H' => ∃ k, TruV K x H' k ∧ Q k H') PT := fun S F H Q I k => by
  refine dw_run (k' := fun G1 w => TrW G1 PT w) h I fun v F1 H1 G1 w e1 I1 hv q => ?_
  match w, hv, q with
  | .sl i, hv, ⟨_, ds, hi, q⟩ =>
    obtain ⟨p, vs, e, h1, h2, h3⟩ := I1.lst hi
    have hv : S[i]? = some (some v) := hv
    rw [e] at hv
    cases hv
    exact ⟨_, .inl ⟨_, SqL.of h1, rfl⟩, k _ F1 H1 G1 e1 I1 (by rw [emp_eq (da_len h3)]; exact q)⟩
  | .d (.str x), hv, ⟨hl, q⟩ =>
    obtain rfl := dp_str hv
    exact ⟨_, ⟨hl, rfl⟩, k _ F1 H1 G1 e1 I1 q⟩
  | .d .none, hv, ⟨b, ht, q⟩ => exact ⟨b, tru_dp I1.ex hv ht, k b F1 H1 G1 e1 I1 q⟩
  | .d (.bool _), hv, ⟨b, ht, q⟩ => exact ⟨b, tru_dp I1.ex hv ht, k b F1 H1 G1 e1 I1 q⟩
  | .d (.int _), hv, ⟨b, ht, q⟩ => exact ⟨b, tru_dp I1.ex hv ht, k b F1 H1 G1 e1 I1 q⟩
  | .d (.list _), hv, ⟨b, ht, q⟩ => exact ⟨b, tru_dp I1.ex hv ht, k b F1 H1 G1 e1 I1 q⟩
  | .d (.tuple _), hv, ⟨b, ht, q⟩ => exact ⟨b, tru_dp I1.ex hv ht, k b F1 H1 G1 e1 I1 q⟩
  | .d (.dict _), hv, _ => exact nomatch hv
/-! ### and, or, not as values (of bools) -/
theorem dw_and (h : DW K B G ta fun G1 r1 => PW r1 fun w => ∃ b, w = .d (.bool b) ∧ if b = true then DW K B G1 tb P else P G1 (.p (.d (.bool false)))) : DW K B G (tAndV ta tb) P := fun S F H Q I k => by
  show ta S H fun x H1 => ∃ c, x = .bl c ∧ if c = true then tb S H1 Q else Q (.bl false) H1
  refine dw_run (k' := fun G1 w => ∃ b, w = .d (.bool b) ∧ if b = true then DW K B G1 tb P else P G1 (.p (.d (.bool false)))) h I fun v F1 H1 G1 w e1 I1 hv q => ?_
  obtain ⟨b, rfl, q⟩ := q
  refine ⟨b, dp_bl hv, ?_⟩
  cases b with
  | true =>
    show tb S H1 Q
    exact q S F1 H1 Q I1 (k.mono e1)
  | false =>
    show Q (.bl false) H1
    exact ct_d (k.mono e1) I1 (.bl false) q
theorem dw_or (h : DW K B G ta fun G1 r1 => PW r1 fun w => ∃ b, w = .d (.bool b) ∧ if b = true then P G1 (.p (.d (.bool true))) else DW K B G1 tb P) : DW K B G (tOrV ta tb) P := fun S F H Q I k => by
  show ta S H fun x H1 => ∃ c, x = .bl c ∧ if c = true then Q (.bl true) H1 else tb S H1 Q
  refine dw_run (k' := fun G1 w => ∃ b, w = .d (.bool b) ∧ if b = true then P G1 (.p (.d (.bool true))) else DW K B G1 tb P) h I fun v F1 H1 G1 w e1 I1 hv q => ?_
  obtain ⟨b, rfl, q⟩ := q
  refine ⟨b, dp_bl hv, ?_⟩
  cases b with
  | true =>
    show Q (.bl true) H1
    exact ct_d (k.mono e1) I1 (.bl true) q
  | false =>
    show tb S H1 Q
    exact q S F1 H1 Q I1 (k.mono e1)
theorem dw_notV (h : DW K B G ta fun G1 r1 => PW r1 fun w => ∃ b, w = .d (.bool b) ∧ P G1 (.p (.d (.bool (!b))))) : DW K B G (tNotV ta) P := fun S F H Q I k => by
  show ta S H fun x H1 => ∃ c, x = .bl c ∧ Q (.bl (!c)) H1
  refine dw_run (k' := fun G1 w => ∃ b, w = .d (.bool b) ∧ P G1 (.p (.d (.bool (!b))))) h I fun v F1 H1 G1 w e1 I1 hv q => ?_
  obtain ⟨b, rfl, q⟩ := q
  exact ⟨b, dp_bl hv, ct_d (k.mono e1) I1 (.bl (!b)) q⟩
/-! ### targets -/
theorem dg_name {i : Nat} {d : PyData} {Pe : En → Prop} (h : Pe (G.set i (.d d))) : DG K B G (gName i) [i] (.d d) Pe := fun S F H v Q I hv k =>
  k _ F H _ (Ex.refl F) (I.set_d i hv) (by simp) (fun j hj => by rw [List.getElem?_set_ne]; simpa [eq_comm] using hj) h
theorem dgs_nil {Pe : En → Prop} (h : Pe G) : DGs K B G gNil [] [] Pe := fun S F H vs Q I hv k => by
  cases hv
  exact ⟨rfl, k S F H G (Ex.refl F) I rfl (fun _ _ => rfl) h⟩
theorem dgs_cons {g : TG} {gs : TGs} {c cs : List Nat} {d : PyData} {ds : List PyData} {Pe : En → Prop} (h : DG K B G g c (.d d) fun G1 => DGs K B G1 gs cs ds Pe) : DGs K B G (gCons g gs) (c ++ cs) (d :: ds) Pe := fun S F H vs Q I hv k => by
  cases hv with
  | cons h1 h2 =>
    refine ⟨_, _, rfl, h S F H _ _ I h1 fun S1 F1 H1 G1 e1 I1 l1 u1 q => ?_⟩
    refine q S1 F1 H1 _ Q I1 (da_mono e1 h2) fun S2 F2 H2 G2 e2 I2 l2 u2 q2 => ?_
    exact k S2 F2 H2 G2 (e1.trans e2) I2 (l2.trans l1) (fun j hj => (u2 j fun z => hj (List.mem_append_right _ z)).trans (u1 j fun z => hj (List.mem_append_left _ z))) q2
theorem dg_tup {n : Nat} {gs : TGs} {cs : List Nat} {ds : List PyData} {Pe : En → Prop} (hn : ds.length = n) (h : DGs K B G gs cs ds Pe) : DG K B G (gTup K n gs) cs (.d (.tuple ds)) Pe := fun S F H v Q I hv k => by
  obtain ⟨a, vs, rfl, hs, ha⟩ := dp_tup hv
  exact ⟨a, vs, rfl, SqT.of (I.ex _ _ hs), by rw [da_len ha]; exact hn, h S F H vs Q I ha k⟩
theorem ds_asg {g : TG} {cs : List Nat} (h : DW K B G te fun G1 r1 => PW r1 fun w => DG K B G1 g cs w E.nx) : DS K B G (tAsg te g) E := fun S F H D I c => by
  show te S H fun x H1 => g x S H1 D.nx
  refine dw_run (k' := fun G1 w => DG K B G1 g cs w E.nx) h I fun v F1 H1 G1 w e1 I1 hv q => ?_
  exact q S F1 H1 v D.nx I1 hv fun S2 F2 H2 G2 e2 I2 _ _ p => c.nx S2 F2 H2 G2 (e1.trans e2) I2 p
/-- x op= e of ints -/
theorem ds_augI {i : Nat} {f : Int → Int → Int} {a : Int} (hi : G[i]? = some (.d (.int a))) (h : DW K B G te fun G1 r1 => PW r1 fun w => ∃ b, w = .d (.int b) ∧ E.nx (G1.set i (.d (.int (f a b))))) : DS K B G (tAug i te (ipI f)) E := fun S F H D I c => by
  obtain ⟨v, e, hv⟩ := I.dat hi
  obtain rfl := dp_int hv
  refine ⟨_, e, ?_⟩
  refine dw_run (k' := fun G1 w => ∃ b, w = .d (.int b) ∧ E.nx (G1.set i (.d (.int (f a b))))) h I fun v F1 H1 G1 w e1 I1 hv q => ?_
  obtain ⟨b, rfl, q⟩ := q
  exact ⟨a, b, rfl, dp_int hv, c.nx _ F1 H1 _ e1 (I1.set_d i (.int _)) q⟩
/-! ### loops -/
/-- an iterator's items, as data -/
def Yields (K : Fr) (F : Hp) (J : It) (ds : List PyData) : Prop := ∀ i H F2, Ex F F2 → Ex F2 H → (∀ d, ds[i]? = some d → J.go i H ∧ ∀ x H', J.yld i H x H' → ∃ F', Ex F2 F' ∧ Ex H H' ∧ Ex F' H' ∧ (∀ b o, F' b = some o → F2 b = none → H b = none) ∧ Dq K F' x d) ∧ (i = ds.length → J.stop i H)
def DI (K : Fr) (B : Bs) (G : En) (wi : TI) (PI : En → List PyData → Prop) : Prop := ∀ S F H (R : It → Hp → Prop), Iv K B G S F H → (∀ J F1 H1 G1 ds, Ex F F1 → Iv K B G1 S F1 H1 → Yields K F1 J ds → PI G1 ds → R J H1) → wi S H R
theorem di_list {tl : TE} {PI : En → List PyData → Prop} (h : DW K B G tl fun G1 r1 => PW r1 fun w => ∃ ds, w = .d (.list ds) ∧ PI G1 ds) : DI K B G (iList K tl) PI := fun S F H R I k => by
  show tl S H fun x H1 => ∃ a, x = .ref a ∧ (∃ xs, SqL K H1 a xs) ∧ R (Itl K a) H1
  refine dw_run (k' := fun G1 w => ∃ ds, w = .d (.list ds) ∧ PI G1 ds) h I fun v F1 H1 G1 w e1 I1 hv q => ?_
  obtain ⟨ds, rfl, q⟩ := q
  obtain ⟨a, vs, rfl, hs, ha⟩ := dp_lst hv
  refine ⟨a, rfl, ⟨vs, SqL.of (I1.ex _ _ hs)⟩, k _ F1 H1 G1 ds e1 I1 (fun i H2 F2 eF eH => ⟨fun d hd => ?_, fun e => ?_⟩) q⟩
  · obtain ⟨v, h1, h2⟩ := da_get ha hd
    refine ⟨⟨vs, v, SqL.of ((eF.trans eH) _ _ hs), h1⟩, fun x H' y => ?_⟩
    obtain ⟨e, y⟩ := y
    subst e
    have hx := y vs (SqL.of ((eF.trans eH) _ _ hs))
    rw [h1] at hx
    cases hx
    exact ⟨F2, Ex.refl _, Ex.refl _, eH, (fun b o z n => by rw [z] at n; cases n), dp_mono eF h2⟩
  · refine ⟨vs, SqL.of ((eF.trans eH) _ _ hs), ?_⟩
    rw [e, da_len ha]
    exact Nat.le_refl _
theorem di_tup {tl : TE} {PI : En → List PyData → Prop} (h : DW K B G tl fun G1 r1 => PW r1 fun w => ∃ ds, w = .d (.tuple ds) ∧ PI G1 ds) : DI K B G (iTup K tl) PI := fun S F H R I k => by
  show tl S H fun x H1 => ∃ a, x = .ref a ∧ (∃ xs, SqT K H1 a xs) ∧ R (Itt K a) H1
  refine dw_run (k' := fun G1 w => ∃ ds, w = .d (.tuple ds) ∧ PI G1 ds) h I fun v F1 H1 G1 w e1 I1 hv q => ?_
  obtain ⟨ds, rfl, q⟩ := q
  obtain ⟨a, vs, rfl, hs, ha⟩ := dp_tup hv
  refine ⟨a, rfl, ⟨vs, SqT.of (I1.ex _ _ hs)⟩, k _ F1 H1 G1 ds e1 I1 (fun i H2 F2 eF eH => ⟨fun d hd => ?_, fun e => ?_⟩) q⟩
  · obtain ⟨v, h1, h2⟩ := da_get ha hd
    refine ⟨⟨vs, v, SqT.of ((eF.trans eH) _ _ hs), h1⟩, fun x H' y => ?_⟩
    obtain ⟨e, y⟩ := y
    subst e
    have hx := y vs (SqT.of ((eF.trans eH) _ _ hs))
    rw [h1] at hx
    cases hx
    exact ⟨F2, Ex.refl _, Ex.refl _, eH, (fun b o z n => by rw [z] at n; cases n), dp_mono eF h2⟩
  · refine ⟨vs, SqT.of ((eF.trans eH) _ _ hs), ?_⟩
    rw [e, da_len ha]
    exact Nat.le_refl _
theorem di_or {w1 w2 : TI} {PI : En → List PyData → Prop} (h : DI K B G w1 PI ∨ DI K B G w2 PI) : DI K B G (fun S H R => w1 S H R ∨ w2 S H R) PI := fun S F H R I k =>
  h.elim (fun h => .inl (h S F H R I k)) fun h => .inr (h S F H R I k)
/-- 0, 1, .. -/
def rngD (lo : Int) (n : Nat) : List PyData := (List.range n).map fun (i : Nat) => PyData.int (lo + (i : Int))
theorem rngD_get {lo : Int} {n i : Nat} {d : PyData} (h : (rngD lo n)[i]? = some d) : i < n ∧ d = .int (lo + (i : Int)) := by
  unfold rngD at h
  rw [List.getElem?_map] at h
  by_cases hi : i < n
  · rw [List.getElem?_range hi] at h
    exact ⟨hi, (Option.some.inj h).symm⟩
  · rw [List.getElem?_eq_none (by simpa using hi)] at h
    cases h
theorem rngD_len (lo : Int) (n : Nat) : (rngD lo n).length = n := by simp [rngD]
theorem yields_rng {F : Hp} {lo : Int} {n : Nat} : Yields K F (Itr lo n) (rngD lo n) := fun i H F2 eF eH => ⟨fun d hd => by
  obtain ⟨hi, rfl⟩ := rngD_get hd
  refine ⟨hi, fun x H' y => ?_⟩
  obtain ⟨e, y⟩ := y
  subst e y
  exact ⟨F2, Ex.refl _, Ex.refl _, eH, (fun b o z n => by rw [z] at n; cases n), .int _⟩, fun e => by
  rw [rngD_len] at e
  exact Nat.le_of_eq e.symm⟩
theorem di_rng1 {ta : TA} {PI : En → List PyData → Prop} (h : DA K B G ta fun G1 ws => ∃ j : Int, ws = [.d (.int j)] ∧ -(2 ^ 62) ≤ j ∧ j < 2 ^ 62 ∧ PI G1 (rngD 0 j.toNat)) : DI K B G (iRng1 ta) PI := fun S F H R I k => by
  show ta S H fun vs H1 => ∃ j : Int, vs = [.int j] ∧ -(2 ^ 62) ≤ j ∧ j < 2 ^ 62 ∧ R (Itr 0 j.toNat) H1
  refine h S F H _ I fun vs F1 H1 G1 ws e1 I1 hv q => ?_
  obtain ⟨j, rfl, h1, h2, q⟩ := q
  cases hv with
  | cons a t =>
    cases t
    obtain rfl := dp_int a
    exact ⟨j, rfl, h1, h2, k _ F1 H1 G1 _ e1 I1 yields_rng q⟩
theorem di_rng2 {ta : TA} {PI : En → List PyData → Prop} (h : DA K B G ta fun G1 ws => ∃ i j : Int, ws = [.d (.int i), .d (.int j)] ∧ (-(2 ^ 62) ≤ i ∧ i < 2 ^ 62 ∧ -(2 ^ 62) ≤ j ∧ j < 2 ^ 62) ∧ PI G1 (rngD i (j - i).toNat)) : DI K B G (iRng2 ta) PI := fun S F H R I k => by
  show ta S H fun vs H1 => ∃ i j : Int, vs = [.int i, .int j] ∧ (-(2 ^ 62) ≤ i ∧ i < 2 ^ 62 ∧ -(2 ^ 62) ≤ j ∧ j < 2 ^ 62) ∧ R (Itr i (j - i).toNat) H1
  refine h S F H _ I fun vs F1 H1 G1 ws e1 I1 hv q => ?_
  obtain ⟨i, j, rfl, h1, q⟩ := q
  cases hv with
  | cons a t =>
    cases t with
    | cons b t =>
      cases t
      obtain rfl := dp_int a
      obtain rfl := dp_int b
      exact ⟨i, j, rfl, h1, k _ F1 H1 G1 _ e1 I1 yields_rng q⟩
/-- what a turn's yield leaves -/
theorem Yields.turn {F1 F2 H H' : Hp} {J : It} {ds : List PyData} {i : Nat} {d : PyData} {x : V} {S : St} (Y : Yields K F1 J ds) (e : Ex F1 F2) (I : Iv K B G S F2 H) (hd : ds[i]? = some d) (y : J.yld i H x H') : ∃ F', Ex F2 F' ∧ Iv K B G S F' H' ∧ Dq K F' x d := by
  obtain ⟨F', k1, k2, k3, k4, k5⟩ := ((Y i H F2 e I.ex).1 d hd).2 x H' y
  exact ⟨F', k1, I.grow k1 k2 k3 k4, k5⟩
theorem ds_for {wi : TI} {g : TG} {ch : List Nat} (J : List PyData → Nat → En → Prop) (h : DI K B G wi fun G1 ds => J ds 0 G1 ∧ (∀ i G2 d, ds[i]? = some d → J ds i G2 → DG K B G2 g ch (.d d) fun G3 => DS K B G3 t { E with nx := J ds (i + 1), ct := J ds (i + 1), bk := E.nx }) ∧ ∀ G2, J ds ds.length G2 → E.nx G2) :
    DS K B G (tFor wi g t) E := fun S F H D I c => by
  refine h S F H _ I fun It F1 H1 G1 ds e1 I1 Y ⟨j0, hs, hd⟩ => ?_
  refine ⟨fun i m S H => m = ds.length - i ∧ i ≤ ds.length ∧ ∃ F2 G2, Ex F1 F2 ∧ Iv K B G2 S F2 H ∧ J ds i G2, ⟨_, rfl, Nat.zero_le _, F1, G1, Ex.refl _, I1, j0⟩, ?_⟩
  rintro i m S2 H2 ⟨rfl, hi, F2, G2, e2, I2, j2⟩
  by_cases hlt : i < ds.length
  · obtain ⟨d, hd'⟩ : ∃ d, ds[i]? = some d := ⟨_, List.getElem?_eq_getElem hlt⟩
    refine .inr ⟨((Y i H2 F2 e2 I2.ex).1 d hd').1, fun S H => ∃ F2 G2, Ex F1 F2 ∧ Iv K B G2 S F2 H ∧ J ds (i + 1) G2, fun S' H' p => ⟨ds.length - (i + 1), by omega, rfl, hlt, p⟩, fun x H3 y => ?_⟩
    obtain ⟨F3, e3, I3, hx⟩ := Y.turn e2 I2 hd' y
    refine hs i G2 d hd' j2 S2 F3 H3 x _ I3 hx fun S4 F4 H4 G4 e4 I4 _ _ q => ?_
    have e5 := (e2.trans e3).trans e4
    exact q S4 F4 H4 _ I4 ⟨fun S F H G e I j => ⟨F, G, e5.trans e, I, j⟩, fun S F H G v r e => c.rt S F H G v r ((e1.trans e5).trans e), fun S F H G e I p => c.nx S F H G ((e1.trans e5).trans e) I p, fun S F H G e I j => ⟨F, G, e5.trans e, I, j⟩⟩
  · have e : i = ds.length := by omega
    subst e
    exact .inl ⟨(Y _ H2 F2 e2 I2.ex).2 rfl, c.nx S2 F2 H2 G2 (e1.trans e2) I2 (hd G2 j2)⟩
theorem ds_while (J : Nat → En → Prop) (m : Nat) (h0 : J m G) (hs : ∀ m G1, J m G1 → DT K B G1 tt fun G2 b => if b = true then DS K B G2 t { E with nx := fun G3 => ∃ m', m' < m ∧ J m' G3, ct := fun G3 => ∃ m', m' < m ∧ J m' G3, bk := E.nx } else E.nx G2) : DS K B G (tWhile tt t) E := fun S F H D I c => by
  refine ⟨fun m S H => ∃ F1 G1, Ex F F1 ∧ Iv K B G1 S F1 H ∧ J m G1, ⟨m, F, G, Ex.refl _, I, h0⟩, ?_⟩
  rintro m S1 H1 ⟨F1, G1, e1, I1, j1⟩
  refine hs m G1 j1 S1 F1 H1 _ I1 fun b F2 H2 G2 e2 I2 q => ?_
  have e3 := e1.trans e2
  cases b with
  | true =>
    show ∃ N : St → Hp → Prop, (∀ S' H', N S' H' → ∃ m', m' < m ∧ ∃ F1 G1, Ex F F1 ∧ Iv K B G1 S' F1 H' ∧ J m' G1) ∧ t { D with nx := N, ct := N, bk := D.nx } S1 H2
    refine ⟨fun S' H' => ∃ m', m' < m ∧ ∃ F1 G1, Ex F F1 ∧ Iv K B G1 S' F1 H' ∧ J m' G1, fun S' H' p => p, ?_⟩
    exact q S1 F2 H2 _ I2 ⟨fun S F H G e I ⟨m', hm, j⟩ => ⟨m', hm, F, G, e3.trans e, I, j⟩, fun S F H G v r e => c.rt S F H G v r (e3.trans e), fun S F H G e I p => c.nx S F H G (e3.trans e) I p, fun S F H G e I ⟨m', hm, j⟩ => ⟨m', hm, F, G, e3.trans e, I, j⟩⟩
  | false =>
    show D.nx S1 H2
    exact c.nx S1 F2 H2 G2 e3 I2 q
end
end DL
namespace DL
open PySem L2
theorem nn {H : Hp} {b : Addr} {o : HO} (h : H b = some o) : H b ≠ none := fun z => by
  rw [h] at z
  cases z
/-! ### another base -/
section
variable {K : Fr} {B : Bs} {G G1 : En} {S S1 : St} {F H F1 H1 : Hp}
/-- the state as a base of its own: the slots' own things may change, nothing else -/
theorem Iv.rebase (I : Iv K B G S F H) : ∃ mu : Addr → Prop, Iv K B G S F H ∧ Iv K ⟨F, H, mu⟩ G S F H ∧ (∀ G1 S1 F1 H1, Iv K ⟨F, H, mu⟩ G1 S1 F1 H1 → Iv K B G1 S1 F1 H1) ∧ (∀ a, mu a → F a = none ∧ H a ≠ none ∧ (B.H0 a = none ∨ B.mu a)) := by
  obtain ⟨A, h1, h2, h3⟩ := I.own
  have hm : ∀ a, (∃ i, A i a) → F a = none ∧ H a ≠ none ∧ (B.H0 a = none ∨ B.mu a) := fun a ⟨i, h⟩ => h3 i a h
  refine ⟨fun a => ∃ i, A i a, I, ⟨I.ex, Ex.refl _, fun b o h _ => h, fun b o h _ => .inl (nn h), fun b h => h, I.len, A, h1, h2, fun i a h => ⟨(h3 i a h).1, (h3 i a h).2.1, .inr ⟨i, h⟩⟩⟩, fun G1 S1 F1 H1 J => ?_, hm⟩
  have back : ∀ a, (H a = none ∨ ∃ i, A i a) → B.H0 a = none ∨ B.mu a := fun a h => h.elim (fun h => .inl (I.new0 h)) fun h => (hm a h).2.2
  refine ⟨J.ex, I.f0.trans J.f0, fun b o h m => ?_, fun b o h n => ?_, fun b h => J.st b (I.st b h), J.len, ?_⟩
  · refine J.fr b o (I.fr b o h m) fun ⟨i, z⟩ => ?_
    rcases (h3 i b z).2.2 with q | q
    · rw [h] at q
      cases q
    · exact m q
  · rcases J.nw b o h (I.st b n) with z | z
    · obtain ⟨u, hu⟩ : ∃ u, F b = some u := by
        cases q : F b with
        | none => exact absurd q z
        | some u => exact ⟨u, rfl⟩
      exact I.nw b u hu n
    · rcases (hm b z).2.2 with q | q
      · exact absurd q n
      · exact .inr q
  · obtain ⟨A', k1, k2, k3⟩ := J.own
    exact ⟨A', k1, k2, fun i a h => ⟨(k3 i a h).1, (k3 i a h).2.1, back a (k3 i a h).2.2⟩⟩
/-- a list that nobody touches meanwhile: the last slot's, aside while the rest runs -/
theorem Iv.aside {o : Option Addr} {ds : List PyData} {x : V} (I : Iv K B (G ++ [.o o ds]) (S ++ [some x]) F H) : ∃ D vs mu, x = .ref D ∧ H D = some (.lst vs) ∧ DqAll K F vs ds ∧ Iv K ⟨F, H, mu⟩ G S F H ∧
    ∀ G1 S1 F1 H1, Iv K ⟨F, H, mu⟩ G1 S1 F1 H1 → H1 D = some (.lst vs) ∧ Iv K B (G1 ++ [.o o ds]) (S1 ++ [some x]) F1 H1 := by
  obtain ⟨A, h1, h2, h3⟩ := I.own
  have hl : S.length = G.length := by
    have := I.len
    simpa using this
  obtain ⟨u, e1, D, vs, rfl, e3, e4, e5, e6⟩ : ∃ v, (S ++ [some x])[G.length]? = some (some v) ∧ SvR K F H v (A G.length) (.o o ds) := (h1 G.length (.o o ds) (by simp)).elim (fun z => by cases z) id
  have ex : x = .ref D := by
    rw [← hl] at e1
    have : (S ++ [some x])[S.length]? = some (some x) := by simp
    rw [this] at e1
    exact Option.some.inj (Option.some.inj e1)
  subst ex
  obtain ⟨d1, d2, d3⟩ := h3 _ _ e5
  have I0 := I.drop
  have hm : ∀ a, (∃ i, i < G.length ∧ A i a) → F a = none ∧ H a ≠ none ∧ (B.H0 a = none ∨ B.mu a) := fun a ⟨i, _, h⟩ => h3 i a h
  have nD : ¬ ∃ i, i < G.length ∧ A i D := fun ⟨i, hi, h⟩ => by
    have := h2 _ _ _ h e5
    omega
  refine ⟨D, vs, fun a => ∃ i, i < G.length ∧ A i a, rfl, e3, e4, ⟨I.ex, Ex.refl _, fun b o h _ => h, fun b o h _ => .inl (nn h), fun b h => h, hl, fun i a => i < G.length ∧ A i a, fun i s hi => ?_, fun i j a p q => h2 i j a p.2 q.2, fun i a h => ⟨(h3 i a h.2).1, (h3 i a h.2).2.1, .inr ⟨i, h⟩⟩⟩, fun G1 S1 F1 H1 J => ?_⟩
  · have hlt := (List.getElem?_eq_some_iff.mp hi).1
    rcases h1 i s (by rw [List.getElem?_append_left hlt]; exact hi) with z | ⟨u, z1, z2⟩
    · exact .inl z
    · refine .inr ⟨u, by rw [List.getElem?_append_left (by omega)] at z1; exact z1, ?_⟩
      have ea : (fun a => i < G.length ∧ A i a) = A i := by
        funext a
        exact propext ⟨fun z => z.2, fun z => ⟨hlt, z⟩⟩
      show SvR K F H u (fun a => i < G.length ∧ A i a) s
      rw [ea]
      exact z2
  · have hD : H1 D = some (.lst vs) := J.fr D _ e3 nD
    have fD : F1 D = none := by
      cases q : F1 D with
      | none => rfl
      | some o =>
        rcases J.nw D o q d2 with z | z
        · exact absurd d1 z
        · exact absurd z nD
    obtain ⟨A', k1, k2, k3⟩ := J.own
    have nA : ∀ i, ¬ A' i D := fun i z => by
      rcases (k3 i D z).2.2 with q | q
      · exact d2 q
      · exact nD q
    refine ⟨hD, J.ex, I.f0.trans J.f0, fun b o h m => ?_, fun b o h n => ?_, fun b h => J.st b (I.st b h), by simp [J.len], fun i a => (i < G1.length ∧ A' i a) ∨ (i = G1.length ∧ a = D), fun i s hi => ?_, fun i j a p q => ?_, fun i a h => ?_⟩
    · refine J.fr b o (I.fr b o h m) fun ⟨i, _, z⟩ => ?_
      rcases (h3 i b z).2.2 with q | q
      · rw [h] at q
        cases q
      · exact m q
    · rcases J.nw b o h (I.st b n) with z | z
      · obtain ⟨u, hu⟩ : ∃ u, F b = some u := by
          cases q : F b with
          | none => exact absurd q z
          | some u => exact ⟨u, rfl⟩
        exact I.nw b u hu n
      · rcases (hm b z).2.2 with q | q
        · exact absurd q n
        · exact .inr q
    · rcases app_get hi with ⟨hlt, h⟩ | ⟨hlt, e⟩
      · rcases k1 i s h with z | ⟨u, z1, z2⟩
        · exact .inl z
        · refine .inr ⟨u, by rw [List.getElem?_append_left (by rw [J.len]; exact hlt)]; exact z1, ?_⟩
          have ea : (fun a => (i < G1.length ∧ A' i a) ∨ (i = G1.length ∧ a = D)) = A' i := by
            funext a
            exact propext ⟨fun z => z.elim (fun z => z.2) fun z => by omega, fun z => .inl ⟨hlt, z⟩⟩
          show SvR K F1 H1 u (fun a => (i < G1.length ∧ A' i a) ∨ (i = G1.length ∧ a = D)) s
          rw [ea]
          exact z2
      · subst e hlt
        refine .inr ⟨.ref D, by rw [← J.len]; simp, D, vs, rfl, hD, da_mono J.f0 e4, .inr ⟨rfl, rfl⟩, e6⟩
    · rcases p with ⟨p1, p2⟩ | ⟨p1, p2⟩ <;> rcases q with ⟨q1, q2⟩ | ⟨q1, q2⟩
      · exact k2 _ _ _ p2 q2
      · subst q2
        exact absurd p2 (nA i)
      · subst p2
        exact absurd q2 (nA j)
      · omega
    · rcases h with ⟨_, h⟩ | ⟨_, h⟩
      · refine ⟨(k3 i a h).1, (k3 i a h).2.1, ?_⟩
        rcases (k3 i a h).2.2 with q | q
        · exact .inl (I.new0 q)
        · exact (hm a q).2.2
      · subst h
        exact ⟨fD, (by rw [hD]; exact fun z => by cases z), d3⟩
end

/-! ### list comprehensions -/
def wipeG (G : En) : List Nat → En
  | [] => G
  | v :: vs => (wipeG G vs).set v .un
theorem wipeG_len (G : En) : ∀ vs : List Nat, (wipeG G vs).length = G.length
  | [] => rfl
  | v :: vs => by
    unfold wipeG
    rw [List.length_set, wipeG_len G vs]
theorem Iv.wipe {K : Fr} {B : Bs} {G : En} {S : St} {F H : Hp} (I : Iv K B G S F H) : ∀ vs : List Nat, Iv K B (wipeG G vs) (L2.wipe S vs) F H
  | [] => I
  | v :: vs => (I.wipe vs).set_un v none
theorem wipeG_app (G : En) (s : Sl) : ∀ vs : List Nat, (∀ v ∈ vs, v < G.length) → wipeG (G ++ [s]) vs = wipeG G vs ++ [s]
  | [], _ => rfl
  | v :: vs, h => by
    unfold wipeG
    rw [wipeG_app G s vs (fun v hv => h v (List.mem_cons_of_mem _ hv)), List.set_append, if_pos]
    rw [wipeG_len]
    exact h v (List.mem_cons_self)
/-- names of the block are forgotten: whatever they hold -/
theorem Iv.wiped {K : Fr} {B : Bs} {G : En} {S S' : St} {F H : Hp} {vs : List Nat} (I : Iv K B (wipeG G vs) S' F H) (hl : S.length = S'.length) (he : ∀ k, k ∉ vs → S[k]? = S'[k]?) : Iv K B (wipeG G vs) S F H := by
  obtain ⟨A, h1, h2, h3⟩ := I.own
  have un : ∀ (vs : List Nat) i s, i ∈ vs → (wipeG G vs)[i]? = some s → s = .un := by
    intro vs
    induction vs with
    | nil => intro i s h _; cases h
    | cons v vs ih =>
      intro i s h e
      unfold wipeG at e
      by_cases hi : v = i
      · subst hi
        exact (set_same e).1
      · rw [List.getElem?_set_ne hi] at e
        rcases List.mem_cons.mp h with z | z
        · exact absurd z.symm hi
        · exact ih i s z e
  refine ⟨I.ex, I.f0, I.fr, I.nw, I.st, hl.trans I.len, A, fun i s hi => ?_, h2, h3⟩
  by_cases hv : i ∈ vs
  · exact .inl (un vs i s hv hi)
  · rw [he i hv]
    exact h1 i s hi
theorem wipe_ne {S : St} {k : Nat} : ∀ {vs : List Nat}, k ∉ vs → (L2.wipe S vs)[k]? = S[k]?
  | [], _ => rfl
  | v :: vs, h => by
    unfold L2.wipe
    rw [List.getElem?_set_ne (fun z => h (by rw [z]; exact List.mem_cons_self)), wipe_ne fun z => h (List.mem_cons_of_mem _ z)]
theorem wipe_in {S : St} {k : Nat} : ∀ {vs : List Nat}, k ∈ vs → k < S.length → (L2.wipe S vs)[k]? = some none
  | v :: vs, h, hk => by
    unfold L2.wipe
    by_cases e : v = k
    · subst e
      rw [List.getElem?_set_self (by rw [wipe_length]; exact hk)]
    · rw [List.getElem?_set_ne e]
      rcases List.mem_cons.mp h with z | z
      · exact absurd z.symm e
      · exact wipe_in z hk
theorem wipe_ext {S S' : St} {vs : List Nat} (hl : S'.length = S.length) (he : ∀ k, k ∉ vs → S'[k]? = S[k]?) : L2.wipe S' vs = L2.wipe S vs := by
  apply List.ext_getElem?
  intro k
  by_cases hk : k ∈ vs
  · by_cases h2 : k < S.length
    · rw [wipe_in hk h2, wipe_in hk (by omega)]
    · rw [List.getElem?_eq_none (by rw [wipe_length]; omega), List.getElem?_eq_none (by rw [wipe_length]; omega)]
  · rw [wipe_ne hk, wipe_ne hk, he k hk]
section
variable {K : Fr} {B : Bs} {G : En} {te : TE} {P : Po} {tt : TT}
/-- [e for g in ..]: J by the items, the turn, what is made so far, the slots -/
theorem dw_lc {wi : TI} {g : TG} {ch : List Nat} {vs : List Nat} (J : List PyData → Nat → List PyData → En → Prop) (hsub : ∀ k ∈ ch, k ∈ vs)
    (h : DI K B G wi fun G1 ds => J ds 0 [] (wipeG G1 vs) ∧ (∀ (B' : Bs) i acc G2 d, ds[i]? = some d → J ds i acc G2 → DG K B' G2 g ch (.d d) fun G3 => DT K B' G3 tt fun G4 b => if b = true then DW K B' G4 te fun G5 r => PW r fun w => ∃ y, w = .d y ∧ acc.length < sizeLine ∧ J ds (i + 1) (acc ++ [y]) (wipeG G5 vs) else J ds (i + 1) acc (wipeG G4 vs)) ∧ ∀ acc G2, J ds ds.length acc G2 → P (wipeG G2 vs) (.fr (.o none acc))) :
    DW K B G (tLc wi g tt te vs) P := fun S F H Q I k => by
  refine h S F H _ I fun It F1 H1 G1 ds e1 I1 Y ⟨j0, hs, hd⟩ => ?_
  intro D hD
  refine ⟨fun i m H => m = ds.length - i ∧ i ≤ ds.length ∧ ∃ F2 G2 acc, Ex F1 F2 ∧ Iv K B (G2 ++ [.o none acc]) (L2.wipe S vs ++ [some (.ref D)]) F2 H ∧ J ds i acc G2, ⟨_, rfl, Nat.zero_le _, F1, _, [], Ex.refl _, (I1.wipe vs).newL hD .nil, j0⟩, ?_⟩
  rintro i m H2 ⟨rfl, hi, F2, G2, acc, e2, I2, j2⟩
  by_cases hlt : i < ds.length
  · obtain ⟨d, hd'⟩ : ∃ d, ds[i]? = some d := ⟨_, List.getElem?_eq_getElem hlt⟩
    refine .inr ⟨((Y i H2 F2 e2 I2.ex).1 d hd').1, fun H => ∃ F2 G2 acc, Ex F1 F2 ∧ Iv K B (G2 ++ [.o none acc]) (L2.wipe S vs ++ [some (.ref D)]) F2 H ∧ J ds (i + 1) acc G2, fun H' p => ⟨ds.length - (i + 1), by omega, rfl, hlt, p⟩, fun x H3 y => ?_⟩
    obtain ⟨F3, e3, I3, hx⟩ := Y.turn e2 I2 hd' y
    obtain ⟨D', accv, mu, eD, hD3, ha3, Ia, back⟩ := I3.aside
    cases eD
    refine hs _ i acc G2 d hd' j2 _ F3 H3 x _ Ia hx fun S4 F4 H4 G4 e4 I4 l4 u4 q => ?_
    have ew : L2.wipe S4 vs = L2.wipe S vs := by
      rw [wipe_ext l4 fun k hk => u4 k fun z => hk (hsub k z)]
      exact wipe_ext (wipe_length S vs) fun k hk => wipe_ne hk
    refine ⟨ew, q S4 F4 H4 _ I4 fun b F5 H5 G5 e5 I5 q5 => ?_⟩
    cases b with
    | false =>
      show ∃ F2 G2 acc, Ex F1 F2 ∧ Iv K B (G2 ++ [.o none acc]) (L2.wipe S vs ++ [some (.ref D)]) F2 H5 ∧ J ds (i + 1) acc G2
      obtain ⟨_, I6⟩ := back _ _ _ _ (I5.wipe vs)
      rw [ew] at I6
      exact ⟨F5, _, acc, ((e2.trans e3).trans e4).trans e5, I6, q5⟩
    | true =>
      show te S4 H5 fun y H4 => ∃ acc, H4 D = some (.lst acc) ∧ acc.length < sizeLine ∧ (∃ F2 G2 acc', Ex F1 F2 ∧ Iv K B (G2 ++ [.o none acc']) (L2.wipe S vs ++ [some (.ref D)]) F2 (upd H4 D (.lst (acc ++ [y]))) ∧ J ds (i + 1) acc' G2)
      refine dw_run (k' := fun G5 w => ∃ y, w = .d y ∧ acc.length < sizeLine ∧ J ds (i + 1) (acc ++ [y]) (wipeG G5 vs)) q5 I5 fun v F6 H6 G6 w e6 I6 hv q6 => ?_
      obtain ⟨y, rfl, hz, j6⟩ := q6
      obtain ⟨hD6, I7⟩ := back _ _ _ _ (I6.wipe vs)
      rw [ew] at I7
      refine ⟨accv, hD6, by rw [da_len ha3]; exact hz, F6, _, acc ++ [y], (((e2.trans e3).trans e4).trans e5).trans e6, ?_, j6⟩
      have hl : (L2.wipe S vs).length = (wipeG G6 vs).length := by
        have := I7.len
        simpa using this
      have I8 := I7.mut (i := (wipeG G6 vs).length) (p := D) (q := none) (ds := acc) (ds' := acc ++ [y]) (vs' := accv ++ [v]) (by simp) (by rw [← hl]; simp) (da_app (da_mono ((e4.trans e5).trans e6) ha3) (.cons hv .nil))
      have eg : (wipeG G6 vs ++ [Sl.o none acc]).set (wipeG G6 vs).length (.o none (acc ++ [y])) = wipeG G6 vs ++ [.o none (acc ++ [y])] := by simp
      rw [eg] at I8
      exact I8
  · have e : i = ds.length := by omega
    subst e
    refine .inl ⟨(Y _ H2 F2 e2 I2.ex).2 rfl, ?_⟩
    have I3 : Iv K B (wipeG G2 vs ++ [.o none acc]) (S ++ [some (.ref D)]) F2 H2 := by
      obtain ⟨D', accv, mu, eD, hD3, ha3, Ia, back⟩ := I2.aside
      exact (back _ _ _ _ ((Ia.wipe vs).wiped (S := S) (by rw [wipe_length, wipe_length]) fun k hk => by rw [wipe_ne hk, wipe_ne hk])).2
    exact k (.ref D) F2 H2 (wipeG G2 vs) (.fr (.o none acc)) (e1.trans e2) I3 (hd acc G2 j2)
end
end DL
namespace DL
open PySem L2
/-! ### calls -/
def Rr (K : Fr) (ok : Addr → Prop) (F' H' : Hp) (v : V) : Rs → Prop
  | .p (.d d) => Dq K F' v d
  | .p (.sl _) => False
  | .p (.ty _) => False
  | .fr s => ∃ A, SvR K F' H' v A s ∧ ∀ a, A a → F' a = none ∧ H' a ≠ none ∧ ok a
/-- a def whose arguments are data -/
def sp0 (K : Fr) (pre : List PyData → Prop) (post : List PyData → Rs → Prop) : Sp := fun vs H Q _ => ∃ F ds, Ex F H ∧ DqAll K F vs ds ∧ pre ds ∧
  ∀ v F' H' r, Ex F F' → Ex F' H' → Ex H H' → (∀ b o, F' b = some o → F b = none → H b = none) → Rr K (fun a => H a = none) F' H' v r → post ds r → Q v H'
/-- .. whose first argument is an own list of the caller's, which it may change; the others are data; it gives data -/
def sp1 (K : Fr) (pre : List PyData → List PyData → Prop) (post : List PyData → List PyData → List PyData → PyData → Prop) : Sp := fun vs H Q _ => ∃ F p vs0 vr ls ds, vs = .ref p :: vr ∧ Ex F H ∧ F p = none ∧ H p = some (.lst vs0) ∧ DqAll K F vs0 ls ∧ DqAll K F vr ds ∧ pre ls ds ∧
  ∀ v F' H' vs' ls' d, Ex F F' → Ex F' H' → (∀ b o, H b = some o → b ≠ p → H' b = some o) → (∀ b o, F' b = some o → F b = none → H b = none) → F' p = none → H' p = some (.lst vs') → DqAll K F' vs' ls' → Dq K F' v d → post ls ds ls' d → Q v H'
section
variable {K : Fr} {B : Bs} {G : En} {P : Po} {t : TA} {E : XK}
theorem dw_call0 {pre : List PyData → Prop} {post : List PyData → Rs → Prop} (h : DA K B G t fun G1 ws => ∃ ds, allD ws = some ds ∧ pre ds ∧ ∀ r, post ds r → P G1 r) : DW K B G (tCall (sp0 K pre post) [] E t) P := fun S F H Q I k => by
  show t S H fun vs H1 => sp0 K pre post (vs ++ []) H1 Q E
  refine h S F H _ I fun vs F1 H1 G1 ws e1 I1 hv ⟨ds, hd, hp, q⟩ => ?_
  rw [List.append_nil]
  refine ⟨F1, ds, I1.ex, allD_ok hd hv, hp, fun v F2 H2 r a1 a2 a3 a4 a5 a6 => ?_⟩
  match r, a5, a6 with
  | .p (.d d), a5, a6 => exact k v F2 H2 G1 (.p (.d d)) (e1.trans a1) ⟨I1.grow a1 a3 a2 a4, a5⟩ (q _ a6)
  | .fr s, ⟨A, b1, b2⟩, a6 =>
    refine k v F2 H2 G1 (.fr s) (e1.trans a1) ?_ (q _ a6)
    exact I1.add a1 a3 a2 a4 (some v) A (.inr ⟨v, rfl, b1⟩) fun a ha => ⟨(b2 a ha).2.2, (b2 a ha).1, (b2 a ha).2.1⟩
theorem dw_call1 {pre : List PyData → List PyData → Prop} {post : List PyData → List PyData → List PyData → PyData → Prop} (h : DA K B G t fun G1 ws => ∃ i a ls wr ds, ws = .sl i :: wr ∧ allD wr = some ds ∧ G1[i]? = some (.o a ls) ∧ pre ls ds ∧ ∀ ls' d, post ls ds ls' d → P (G1.set i (.o a ls')) (.p (.d d))) :
    DW K B G (tCall (sp1 K pre post) [] E t) P := fun S F H Q I k => by
  show t S H fun vs H1 => sp1 K pre post (vs ++ []) H1 Q E
  refine h S F H _ I fun vs F1 H1 G1 ws e1 I1 hv ⟨i, a, ls, wr, ds, hw, hd, hi, hp, q⟩ => ?_
  subst hw
  rw [List.append_nil]
  cases hv with
  | @cons v0 _ vr _ hv0 hvr =>
  obtain ⟨A, h1, h2, h3⟩ := I1.own
  obtain ⟨u, z1, p, vs0, rfl, z2, z3, z4, z5⟩ : ∃ v, S[i]? = some (some v) ∧ SvR K F1 H1 v (A i) (.o a ls) := (h1 i _ hi).elim (fun z => by cases z) id
  have hv0 : S[i]? = some (some v0) := hv0
  rw [hv0] at z1
  cases z1
  obtain ⟨y1, y2, y3⟩ := h3 i p z4
  refine ⟨F1, p, vs0, vr, ls, ds, rfl, I1.ex, y1, z2, z3, allD_ok hd hvr, hp, fun v F2 H2 vs' ls' d a1 a2 a3 a4 a5 a6 a7 a8 a9 => ?_⟩
  refine k v F2 H2 (G1.set i (.o a ls')) (.p (.d d)) (e1.trans a1) ⟨?_, a8⟩ (q ls' d a9)
  have own : ∀ j b, A j b → F2 b = none ∧ H2 b ≠ none ∧ (j ≠ i → H2 b = H1 b) := fun j b hb => by
    obtain ⟨x, y, z⟩ := h3 j b hb
    refine ⟨?_, ?_, fun hj => ?_⟩
    · cases q : F2 b with
      | none => rfl
      | some o => exact absurd (a4 b o q x) y
    · by_cases hbp : b = p
      · rw [hbp, a6]
        exact fun z => by cases z
      · cases q : H1 b with
        | none => exact absurd q y
        | some o =>
          rw [a3 b o q hbp]
          exact fun z => by cases z
    · cases q : H1 b with
      | none => exact absurd q y
      | some o =>
        refine a3 b o q fun e => ?_
        subst e
        exact hj (h2 _ _ _ hb z4)
  refine ⟨a2, I1.f0.trans a1, fun b o hb hm => ?_, fun b o hb hn => ?_, fun b hb => ?_, by simpa using I1.len, A, fun j s2 hj => ?_, h2, fun j b hb => ⟨(own j b hb).1, (own j b hb).2.1, (h3 j b hb).2.2⟩⟩
  · refine a3 b o (I1.fr b o hb hm) fun e => ?_
    subst e
    rcases y3 with z | z
    · rw [hb] at z
      cases z
    · exact hm z
  · cases q : F1 b with
    | some u => exact I1.nw b u q hn
    | none => exact absurd (I1.new0 (a4 b o hb q)) hn
  · have := I1.st b hb
    by_cases hbp : b = p
    · rw [hbp, a6]
      exact fun z => by cases z
    · cases q : H1 b with
      | none => exact absurd q this
      | some o =>
        rw [a3 b o q hbp]
        exact fun z => by cases z
  · by_cases e : i = j
    · subst e
      obtain ⟨rfl, _⟩ := set_same hj
      exact .inr ⟨_, hv0, p, vs', rfl, a6, a7, z4, z5⟩
    · rw [List.getElem?_set_ne e] at hj
      rcases h1 j s2 hj with z | ⟨u, x1, x2⟩
      · exact .inl z
      · exact .inr ⟨u, x1, slr_stab x2 a1 fun b hb => (own j b hb).2.2 (Ne.symm e)⟩
end

/-! ### a def's body -/
def G0 (N : List Str) (ds : List PyData) : En := ds.map Sl.d ++ List.replicate (N.length - ds.length) .un
def G1 (N : List Str) (p : Addr) (ls ds : List PyData) : En := .o (some p) ls :: (ds.map Sl.d ++ List.replicate (N.length - (ds.length + 1)) .un)
def Ret0 (p : Rs → Prop) (G : En) : Rs → Prop
  | .p (.d d) => p (.p (.d d))
  | .p (.sl i) => ∃ a ds, G[i]? = some (.o a ds) ∧ p (.fr (.o none ds))
  | .p (.ty _) => False
  | .fr s => s ≠ .un ∧ p (.fr s)
def E0 (p : Rs → Prop) : De := { nx := fun _ => p (.p (.d .none)), rt := fun G r => Ret0 p G r }
def E1 (a : Addr) (p : List PyData → PyData → Prop) : De := { nx := fun G => ∃ ls, G[0]? = some (.o (some a) ls) ∧ p ls .none, rt := fun G r => PW r fun w => ∃ d ls, w = .d d ∧ G[0]? = some (.o (some a) ls) ∧ p ls d }
theorem start_iv {K : Fr} {F H : Hp} {N : List Str} {vs : List V} {ds : List PyData} (ex : Ex F H) (h : DqAll K F vs ds) (hl : ds.length ≤ N.length) : Iv K ⟨F, H, fun _ => False⟩ (G0 N ds) (L2.start N vs) F H := by
  refine ⟨ex, Ex.refl _, fun b o h _ => h, fun b o h _ => .inl (nn h), fun b h => h, by simp [L2.start, G0, da_len h], fun _ _ => False, fun i s hi => ?_, fun _ _ _ x => x.elim, fun _ _ x => x.elim⟩
  have hd := da_len h
  by_cases hlt : i < ds.length
  · have e : s = .d ds[i] := by
      unfold G0 at hi
      rw [List.getElem?_append_left (by simpa using hlt), List.getElem?_map, List.getElem?_eq_getElem hlt] at hi
      exact (Option.some.inj hi).symm
    obtain ⟨v, h1, h2⟩ := da_get h (List.getElem?_eq_getElem hlt)
    subst e
    refine .inr ⟨v, ?_, h2⟩
    unfold L2.start
    rw [List.getElem?_append_left (by rw [List.length_map, hd]; exact hlt), List.getElem?_map, h1]
    rfl
  · refine .inl ?_
    unfold G0 at hi
    rw [List.getElem?_append_right (by simpa using Nat.le_of_not_lt hlt)] at hi
    simp only [List.getElem?_replicate] at hi
    split at hi
    · exact (Option.some.inj hi).symm
    · cases hi
section
variable {P : Program} {w : World} {K : Fr} {mg : Str → Option Value} {base : Heap} {x qual : Str} {st : Stmt} {f : Addr} {fd : FuncData} {N ps : List Str} {k : Nat}
theorem fn0 {pre : List PyData → Prop} {post : List PyData → Rs → Prop} (F : Fun K x qual st f fd) (S : FnScope N ps (defScope st)) (hl : ∀ ds, pre ds → ds.length = ps.length ∧ ds.length ≤ N.length)
    (hb : ∀ (cdv : Value) (A : Around) (outer : List Env) (s : Shared) (H : Hp) (E : XK), Room k (A.deeper (PyProof.Rows.envOfC qual (defScope st) s.heap.objs.size f cdv)) → ∃ t, PSs (cxOf CX0 P w K mg base N qual (defScope st) f cdv A outer s H E).nox (defBody st) t ∧
      ∀ ds, pre ds → ∀ B, DS K B (G0 N ds) t (E0 (post ds))) : FnOk P w K mg base CX0 (k + 1) f fd ps (sp0 K pre post) := by
  refine F.ok S (fun vs H Q E h => ?_) (fun cdv A outer s H vs Q E hr h => ?_)
  · obtain ⟨F, ds, _, h1, h2, _⟩ := h
    rw [da_len h1]
    exact (hl ds h2).1
  · obtain ⟨F0, ds, ex, h1, h2, q⟩ := h
    obtain ⟨t, ht, hs⟩ := hb cdv A outer s H E hr
    refine ⟨t, ht, ?_⟩
    have I0 := start_iv (N := N) ex h1 (hl ds h2).2
    have out : ∀ {G' : En} {S' : St} {F' H' : Hp}, Iv K ⟨F0, H, fun _ => False⟩ G' S' F' H' → Ex H H' ∧ ∀ b o, F' b = some o → F0 b = none → H b = none := fun {G' S' F' H'} J => ⟨fun b o h => J.fr b o h id, fun b o h n => by
      cases z : H b with
      | none => rfl
      | some u =>
        rcases J.nw b o h (nn z) with y | y
        · exact absurd n y
        · exact y.elim⟩
    refine hs ds h2 _ _ F0 H _ I0 ⟨fun S F H' G e J p => ?_, fun S F H' G v r e J p => ?_, fun _ _ _ _ _ _ z => z.elim, fun _ _ _ _ _ _ z => z.elim⟩
    · exact q .non F H' (.p (.d .none)) e J.ex (out J).1 (out J).2 .non p
    · match r, J, p with
      | .p (.d d), J, p => exact q v F H' (.p (.d d)) e J.1.ex (out J.1).1 (out J.1).2 J.2 p
      | .p (.sl i), J, ⟨a, ds', hi, p⟩ =>
        obtain ⟨A, a1, a2, a3⟩ := J.1.own
        obtain ⟨u, z1, c, vs', z2, z3, z4, z5, _⟩ : ∃ v, S[i]? = some (some v) ∧ SvR K F H' v (A i) (.o a ds') := (a1 i _ hi).elim (fun z => by cases z) id
        have hv : S[i]? = some (some v) := J.2
        rw [hv] at z1
        cases z1
        exact q v F H' (.fr (.o none ds')) e J.1.ex (out J.1).1 (out J.1).2 ⟨A i, ⟨c, vs', z2, z3, z4, z5, fun _ z => by cases z⟩, fun a ha => ⟨(a3 i a ha).1, (a3 i a ha).2.1, (a3 i a ha).2.2.elim id False.elim⟩⟩ p
      | .fr s, J, ⟨hu, p⟩ =>
        obtain ⟨A, a1, a2, a3⟩ := J.own
        have J' := Iv.drop J
        obtain ⟨u, z1, z2⟩ : ∃ v', (S ++ [some v])[G.length]? = some (some v') ∧ SvR K F H' v' (A G.length) s := (a1 G.length s (by simp)).elim (fun z => absurd z hu) id
        have hv : (S ++ [some v])[G.length]? = some (some v) := by
          rw [← J'.len]
          simp
        rw [hv] at z1
        cases z1
        exact q v F H' (.fr s) e J'.ex (out J').1 (out J').2 ⟨_, z2, fun a ha => ⟨(a3 _ a ha).1, (a3 _ a ha).2.1, (a3 _ a ha).2.2.elim id False.elim⟩⟩ p
theorem fn1 {pre : List PyData → List PyData → Prop} {post : List PyData → List PyData → List PyData → PyData → Prop} (F : Fun K x qual st f fd) (S : FnScope N ps (defScope st)) (hl : ∀ ls ds, pre ls ds → ds.length + 1 = ps.length ∧ ds.length + 1 ≤ N.length)
    (hb : ∀ (cdv : Value) (A : Around) (outer : List Env) (s : Shared) (H : Hp) (E : XK), Room k (A.deeper (PyProof.Rows.envOfC qual (defScope st) s.heap.objs.size f cdv)) → ∃ t, PSs (cxOf CX0 P w K mg base N qual (defScope st) f cdv A outer s H E).nox (defBody st) t ∧
      ∀ p ls ds, pre ls ds → ∀ B, DS K B (G1 N p ls ds) t (E1 p (post ls ds))) : FnOk P w K mg base CX0 (k + 1) f fd ps (sp1 K pre post) := by
  refine F.ok S (fun vs H Q E h => ?_) (fun cdv A outer s H vs Q E hr h => ?_)
  · obtain ⟨F, p, vs0, vr, ls, ds, rfl, _, _, _, _, h1, h2, _⟩ := h
    rw [List.length_cons, da_len h1]
    exact (hl ls ds h2).1
  · obtain ⟨F0, p, vs0, vr, ls, ds, rfl, ex, hF, hH, h0, h1, h2, q⟩ := h
    obtain ⟨t, ht, hs⟩ := hb cdv A outer s H E hr
    refine ⟨t, ht, ?_⟩
    obtain ⟨_, hN⟩ := hl ls ds h2
    have I0 : Iv K ⟨F0, H, fun a => a = p⟩ (G1 N p ls ds) (L2.start N (.ref p :: vr)) F0 H := by
      have J := start_iv (N := N.drop 1) ex h1 (by rw [List.length_drop]; omega)
      have eG : G1 N p ls ds = .o (some p) ls :: G0 (N.drop 1) ds := by
        unfold G1 G0
        rw [List.length_drop, show N.length - 1 - ds.length = N.length - (ds.length + 1) by omega]
      have eS : L2.start N (.ref p :: vr) = some (.ref p) :: L2.start (N.drop 1) vr := by
        unfold L2.start
        rw [List.length_drop, List.length_cons, show N.length - 1 - vr.length = N.length - (vr.length + 1) by omega]
        rfl
      rw [eG, eS]
      obtain ⟨A, a1, a2, a3⟩ := J.own
      refine ⟨ex, Ex.refl _, fun b o h _ => h, fun b o h _ => .inl (nn h), fun b h => h, congrArg (· + 1) J.len, fun j a => j = 0 ∧ a = p, fun i s hi => ?_, fun i j a x y => by rw [x.1, y.1], fun i a x => ?_⟩
      · cases i with
        | zero =>
          simp at hi
          subst hi
          exact .inr ⟨.ref p, rfl, p, vs0, rfl, hH, h0, ⟨rfl, rfl⟩, fun a z => Option.some.inj z⟩
        | succ i =>
          have hi' : (G0 (N.drop 1) ds)[i]? = some s := by simpa using hi
          by_cases hlt : i < ds.length
          · have e : s = .d ds[i] := by
              unfold G0 at hi'
              rw [List.getElem?_append_left (by simpa using hlt), List.getElem?_map, List.getElem?_eq_getElem hlt] at hi'
              exact (Option.some.inj hi').symm
            subst e
            rcases a1 i _ hi' with z | ⟨u, z1, z2⟩
            · cases z
            · exact .inr ⟨u, by simpa using z1, z2⟩
          · refine .inl ?_
            unfold G0 at hi'
            rw [List.getElem?_append_right (by simpa using Nat.le_of_not_lt hlt)] at hi'
            simp only [List.getElem?_replicate] at hi'
            split at hi'
            · exact (Option.some.inj hi').symm
            · cases hi'
      · obtain ⟨_, rfl⟩ := x
        exact ⟨hF, (by rw [hH]; exact fun z => by cases z), .inr rfl⟩
    have fin : ∀ {G' : En} {S' : St} {F' H' : Hp} {v : V} {d : PyData} {ls' : List PyData}, Iv K ⟨F0, H, fun a => a = p⟩ G' S' F' H' → Ex F0 F' → Dq K F' v d → G'[0]? = some (.o (some p) ls') → post ls ds ls' d → Q v H' := fun {G' S' F' H' v d ls'} J e hd hi p1 => by
      obtain ⟨A, a1, a2, a3⟩ := J.own
      obtain ⟨u, z1, c, vs', z2, z3, z4, z5, z6⟩ : ∃ v, S'[0]? = some (some v) ∧ SvR K F' H' v (A 0) (.o (some p) ls') := (a1 0 _ hi).elim (fun z => by cases z) id
      have ec : c = p := z6 p rfl
      subst ec
      refine q v F' H' vs' ls' d e J.ex (fun b o hb hn => J.fr b o hb hn) (fun b o hb hn => ?_) (a3 0 c z5).1 z3 z4 hd p1
      cases z : H b with
      | none => rfl
      | some u =>
        rcases J.nw b o hb (nn z) with y | y
        · exact absurd hn y
        · have y : b = c := y
          subst y
          rw [(a3 0 b z5).1] at hb
          cases hb
    refine hs p ls ds h2 _ _ F0 H _ I0 ⟨fun S F H' G e J p => ?_, fun S F H' G v r e J p => ?_, fun _ _ _ _ _ _ z => z.elim, fun _ _ _ _ _ _ z => z.elim⟩
    · obtain ⟨ls', hi, p1⟩ := p
      exact fin J e .non hi p1
    · obtain ⟨F', w, e', I', hv, d, ls', rfl, hi, p1⟩ := pw_ok J p
      exact fin I' (e.trans e') hv hi p1
end
end DL
namespace DL
open PySem L2
/-! ### what a view tells, read only -/
def slD : Option Sl → Option PyData
  | some (.o _ ds) => some (.list ds)
  | _ => none
theorem slD_of : ∀ {s : Option Sl} {d : PyData}, slD s = some d → ∃ a ds, s = some (.o a ds) ∧ d = .list ds
  | some (.o a ds), _, h => ⟨a, ds, rfl, (Option.some.inj h).symm⟩
def wd (G : En) : W → Option PyData
  | .d d => some d
  | .sl i => slD G[i]?
  | .ty _ => none
section
variable {K : Fr} {B : Bs} {G : En} {S : St} {F H : Hp} {v : V} {w : W} {d : PyData}
theorem wd_sl {i : Nat} {a : Option Addr} {ds : List PyData} (h : G[i]? = some (.o a ds)) : wd G (.sl i) = some (.list ds) := by
  show slD G[i]? = _
  rw [h]
  rfl
/-- a list (own, or data): where it stands, its items frozen -/
theorem wd_list {ds : List PyData} (I : Iv K B G S F H) (hv : Vw K S F v w) (h : wd G w = some (.list ds)) : ∃ p vs, v = .ref p ∧ H p = some (.lst vs) ∧ DqAll K F vs ds := by
  match w, hv, h with
  | .d e, hv, h =>
    cases h
    obtain ⟨p, vs, e, h1, h2⟩ := dp_lst hv
    exact ⟨p, vs, e, I.ex _ _ h1, h2⟩
  | .sl i, hv, h =>
    obtain ⟨a, ds', hi, e⟩ := slD_of h
    cases e
    obtain ⟨p, vs, e, h1, h2, h3⟩ := I.lst hi
    have hv : S[i]? = some (some v) := hv
    rw [e] at hv
    cases hv
    exact ⟨p, vs, rfl, h1, h3⟩
theorem wd_dq (I : Iv K B G S F H) (hv : Vw K S F v w) (h : wd G w = some d) : Dq K H v d := by
  match w, hv, h with
  | .d e, hv, h =>
    cases h
    exact dp_mono I.ex hv
  | .sl i, hv, h =>
    obtain ⟨a, ds', hi, e⟩ := slD_of h
    subst e
    obtain ⟨p, vs, rfl, h1, h3⟩ := wd_list I hv h
    exact .lst h1 (da_mono I.ex h3)
end
/-! ### operators -/
section
variable {X : Cx}
abbrev rEQ (K : Fr) : R2 := fun x y H Q => rEqD K x y H Q ∨ rEq x y H Q
abbrev rNE (K : Fr) : R2 := fun x y H Q => rNeD K x y H Q ∨ rNe x y H Q
theorem opEQ (hu : X.A.units + 64 < cLine) : OpR X (compareOp .Eq) (rEQ X.K) := (op_eqD hu).or op_eq
theorem opNE (hu : X.A.units + 64 < cLine) : OpR X (compareOp .NotEq) (rNE X.K) := (op_neD hu).or op_ne
abbrev rStrCat : R2 := fun x y H Q => ∃ i j, x = .str i ∧ y = .str j ∧ i.length + j.length ≤ sizeLine ∧ Q (.str (i ++ j)) H
abbrev rADD (K : Fr) : R2 := fun x y H Q => rI0 (fun i j => .int (i + j)) x y H Q ∨ rStrCat x y H Q ∨ rCat x y H Q ∨ rCatA K x y H Q
theorem opADD : OpR X (binaryOp .Add) (rADD X.K) := op_add.or (op_add_str.or (op_cat.or op_catA))
/-- x in t: a tuple of data -/
def rInT (K : Fr) : R2 := fun x y H Q => ∃ d ds, L2.Dp K H x d ∧ L2.Dp K H y (.tuple ds) ∧ SeqAt.shaped d = true ∧ SeqAt.shaped (.tuple ds) = true ∧ Q (.bl (ds.any fun z => PyData.eqv z d)) H
def rNotInT (K : Fr) : R2 := fun x y H Q => ∃ d ds, L2.Dp K H x d ∧ L2.Dp K H y (.tuple ds) ∧ SeqAt.shaped d = true ∧ SeqAt.shaped (.tuple ds) = true ∧ Q (.bl (!ds.any fun z => PyData.eqv z d)) H
theorem op_inT (hu : X.A.units + 65 < cLine) : OpR X (compareOp .In) (rInT X.K) := by
  intro pins s σ H x y v u Q I rx ry h
  obtain ⟨d, ds, hd, he, sd, se, q⟩ := h
  obtain ⟨as, r1⟩ := L2.Dp.reads I d x v hd rx
  obtain ⟨bs, r2⟩ := L2.Dp.reads I (.tuple ds) y u he ry
  exact SeqAt.in_tuple_reads r2 r1 (SeqAt.canLay_of_shaped se) (SeqAt.canLay_of_shaped sd) (PyProof.Rows.room_in_shaped sd hu) ⟨.bl _, H, I, rfl, q⟩
theorem op_notInT (hu : X.A.units + 65 < cLine) : OpR X (compareOp .NotIn) (rNotInT X.K) := by
  intro pins s σ H x y v u Q I rx ry h
  obtain ⟨d, ds, hd, he, sd, se, q⟩ := h
  obtain ⟨as, r1⟩ := L2.Dp.reads I d x v hd rx
  obtain ⟨bs, r2⟩ := L2.Dp.reads I (.tuple ds) y u he ry
  exact SeqAt.notIn_tuple_reads r2 r1 (SeqAt.canLay_of_shaped se) (SeqAt.canLay_of_shaped sd) (PyProof.Rows.room_in_shaped sd hu) ⟨.bl _, H, I, rfl, q⟩
abbrev rInS : R2 := fun x y H Q => ∃ (c : Nat) (z : Str), x = .str ⟨#[c]⟩ ∧ y = .str z ∧ Q (.bl (decide (c ∈ z.cps.toList))) H
abbrev rNotInS : R2 := fun x y H Q => ∃ (c : Nat) (z : Str), x = .str ⟨#[c]⟩ ∧ y = .str z ∧ Q (.bl (!decide (c ∈ z.cps.toList))) H
abbrev rIN (K : Fr) : R2 := fun x y H Q => rInD K x y H Q ∨ rInT K x y H Q ∨ rInS x y H Q
abbrev rNI (K : Fr) : R2 := fun x y H Q => rNotInD K x y H Q ∨ rNotInT K x y H Q ∨ rNotInS x y H Q
theorem opIN (hu : X.A.units + 65 < cLine) : OpR X (compareOp .In) (rIN X.K) := (op_inD hu).or ((op_inT hu).or op_in_sign)
theorem opNI (hu : X.A.units + 65 < cLine) : OpR X (compareOp .NotIn) (rNI X.K) := (op_notInD hu).or ((op_notInT hu).or op_notIn_sign)
abbrev rSLC (K : Fr) : V → Option Int → Option Int → Hp → VK → Prop := fun x lo hi H Q => rSlL K x lo hi H Q ∨ rSlA K x lo hi H Q ∨ rSlS x lo hi H Q
theorem slANY : L2.SlR X (rSLC X.K) := sl_list.or (sl_tupA.or sl_str)
end
def mkS (l : List Nat) : Str := ⟨l.toArray⟩
theorem mkS_cat (a b : List Nat) : mkS a ++ mkS b = mkS (a ++ b) := by
  show (⟨a.toArray ++ b.toArray⟩ : Str) = ⟨(a ++ b).toArray⟩
  simp
theorem mkS_len (a : List Nat) : (mkS a).length = a.length := by simp [mkS, Str.length]
theorem mkS_inj {a b : List Nat} : mkS a = mkS b ↔ a = b := by
  refine ⟨fun h => ?_, fun h => by rw [h]⟩
  have : a.toArray = b.toArray := congrArg Str.cps h
  simpa using congrArg Array.toList this
theorem mkS_of (x : Str) : mkS x.cps.toList = x := by
  cases x
  simp [mkS]
section
variable {K : Fr} {B : Bs} {G : En} {P : Po} {w1 w2 : W}
theorem rw_addI {i j : Int} (q : P G (.p (.d (.int (i + j))))) : RW2 K B G (rADD K) (.d (.int i)) (.d (.int j)) P := fun S F H Q v1 v2 I h1 h2 k => .inl ⟨i, j, dp_int h1, dp_int h2, ct_d k I (.int _) q⟩
theorem rw_addS {a b : List Nat} (hz : a.length + b.length ≤ sizeLine) (q : P G (.p (.d (.str (mkS (a ++ b)))))) : RW2 K B G (rADD K) (.d (.str (mkS a))) (.d (.str (mkS b))) P := fun S F H Q v1 v2 I h1 h2 k => .inr (.inl ⟨mkS a, mkS b, dp_str h1, dp_str h2, by rw [mkS_len, mkS_len]; exact hz, by rw [mkS_cat]; exact ct_d k I (.str _) q⟩)
theorem rw_addL {ds es : List PyData} (e1 : wd G w1 = some (.list ds)) (e2 : wd G w2 = some (.list es)) (hz : ds.length + es.length ≤ sizeLine) (q : P G (.fr (.o none (ds ++ es)))) : RW2 K B G (rADD K) w1 w2 P := fun S F H Q v1 v2 I h1 h2 k => by
  obtain ⟨p, vs, rfl, hp, ha⟩ := wd_list I h1 e1
  obtain ⟨p', vs', rfl, hp', ha'⟩ := wd_list I h2 e2
  exact .inr (.inr (.inl ⟨p, p', vs, vs', rfl, rfl, hp, hp', by rw [da_len ha, da_len ha']; exact hz, fun c hc => ct_L k I hc (da_app ha ha') q⟩))
theorem rw_addT {ds es : List PyData} (hz : ds.length + es.length ≤ sizeLine) (q : P G (.p (.d (.tuple (ds ++ es))))) : RW2 K B G (rADD K) (.d (.tuple ds)) (.d (.tuple es)) P := fun S F H Q v1 v2 I h1 h2 k => by
  obtain ⟨p, vs, rfl, hp, ha⟩ := dp_tup h1
  obtain ⟨p', vs', rfl, hp', ha'⟩ := dp_tup h2
  refine .inr (.inr (.inr ⟨p, p', vs, vs', rfl, rfl, SqT.of (I.ex _ _ hp), SqT.of (I.ex _ _ hp'), by rw [da_len ha, da_len ha']; exact hz, fun e => ?_, fun e1 e2 => ?_, fun e1 e2 c hc => ct_T k I hc (da_app ha ha') q⟩))
  · subst e
    cases ha
    exact ct_d k I (.tup hp' ha') q
  · subst e2
    cases ha'
    rw [List.append_nil] at q
    exact ct_d k I (.tup hp ha) q
theorem rw_sub {i j : Int} (q : P G (.p (.d (.int (i - j))))) : RW2 K B G (rI0 fun i j => .int (i - j)) (.d (.int i)) (.d (.int j)) P := fun S F H Q v1 v2 I h1 h2 k => ⟨i, j, dp_int h1, dp_int h2, ct_d k I (.int _) q⟩
theorem rw_mul {i j : Int} (hc : CMul i j) (q : P G (.p (.d (.int (i * j))))) : RW2 K B G (rI CMul fun i j => .int (i * j)) (.d (.int i)) (.d (.int j)) P := fun S F H Q v1 v2 I h1 h2 k => ⟨i, j, dp_int h1, dp_int h2, hc, ct_d k I (.int _) q⟩
theorem rw_fdiv {i j : Int} (hc : CDiv i j) (q : P G (.p (.d (.int (i / j))))) : RW2 K B G (rI CDiv fun i j => .int (i / j)) (.d (.int i)) (.d (.int j)) P := fun S F H Q v1 v2 I h1 h2 k => ⟨i, j, dp_int h1, dp_int h2, hc, ct_d k I (.int _) q⟩
theorem rw_mod {i j : Int} (hc : 0 < j) (q : P G (.p (.d (.int (i % j))))) : RW2 K B G (rI (fun _ j => 0 < j) fun i j => .int (i % j)) (.d (.int i)) (.d (.int j)) P := fun S F H Q v1 v2 I h1 h2 k => ⟨i, j, dp_int h1, dp_int h2, hc, ct_d k I (.int _) q⟩
theorem rw_pow {i j : Int} (hc : CPow i j) (q : P G (.p (.d (.int (i ^ j.toNat))))) : RW2 K B G (rI CPow fun i j => .int (i ^ j.toNat)) (.d (.int i)) (.d (.int j)) P := fun S F H Q v1 v2 I h1 h2 k => ⟨i, j, dp_int h1, dp_int h2, hc, ct_d k I (.int _) q⟩
theorem rw_cmp {i j : Int} {g : Int → Int → Bool} (q : P G (.p (.d (.bool (g i j))))) : RW2 K B G (rI0 fun i j => .bl (g i j)) (.d (.int i)) (.d (.int j)) P := fun S F H Q v1 v2 I h1 h2 k => ⟨i, j, dp_int h1, dp_int h2, ct_d k I (.bl _) q⟩
theorem rw_eqI {i j : Int} (q : P G (.p (.d (.bool (decide (i = j)))))) : RW2 K B G (rEQ K) (.d (.int i)) (.d (.int j)) P := fun S F H Q v1 v2 I h1 h2 k => by
  obtain rfl := dp_int h1
  obtain rfl := dp_int h2
  refine .inr ⟨rfl, ct_d k I (.bl _) ?_⟩
  rw [show decide (V.int i = V.int j) = decide (i = j) from decide_eq_decide.mpr ⟨fun z => V.int.inj z, fun z => by rw [z]⟩]
  exact q
theorem rw_neI {i j : Int} (q : P G (.p (.d (.bool (!decide (i = j)))))) : RW2 K B G (rNE K) (.d (.int i)) (.d (.int j)) P := fun S F H Q v1 v2 I h1 h2 k => by
  obtain rfl := dp_int h1
  obtain rfl := dp_int h2
  refine .inr ⟨rfl, ct_d k I (.bl _) ?_⟩
  rw [show decide (V.int i = V.int j) = decide (i = j) from decide_eq_decide.mpr ⟨fun z => V.int.inj z, fun z => by rw [z]⟩]
  exact q
theorem rw_eqS {i j : Str} (q : P G (.p (.d (.bool (decide (i = j)))))) : RW2 K B G (rEQ K) (.d (.str i)) (.d (.str j)) P := fun S F H Q v1 v2 I h1 h2 k => by
  obtain rfl := dp_str h1
  obtain rfl := dp_str h2
  refine .inr ⟨rfl, ct_d k I (.bl _) ?_⟩
  rw [show decide (V.str i = V.str j) = decide (i = j) from decide_eq_decide.mpr ⟨fun z => V.str.inj z, fun z => by rw [z]⟩]
  exact q
theorem rw_neS {i j : Str} (q : P G (.p (.d (.bool (!decide (i = j)))))) : RW2 K B G (rNE K) (.d (.str i)) (.d (.str j)) P := fun S F H Q v1 v2 I h1 h2 k => by
  obtain rfl := dp_str h1
  obtain rfl := dp_str h2
  refine .inr ⟨rfl, ct_d k I (.bl _) ?_⟩
  rw [show decide (V.str i = V.str j) = decide (i = j) from decide_eq_decide.mpr ⟨fun z => V.str.inj z, fun z => by rw [z]⟩]
  exact q
theorem rw_eqB {i j : Bool} (q : P G (.p (.d (.bool (decide (i = j)))))) : RW2 K B G (rEQ K) (.d (.bool i)) (.d (.bool j)) P := fun S F H Q v1 v2 I h1 h2 k => by
  obtain rfl := dp_bl h1
  obtain rfl := dp_bl h2
  refine .inr ⟨rfl, ct_d k I (.bl _) ?_⟩
  rw [show decide (V.bl i = V.bl j) = decide (i = j) from decide_eq_decide.mpr ⟨fun z => V.bl.inj z, fun z => by rw [z]⟩]
  exact q
theorem rw_neB {i j : Bool} (q : P G (.p (.d (.bool (!decide (i = j)))))) : RW2 K B G (rNE K) (.d (.bool i)) (.d (.bool j)) P := fun S F H Q v1 v2 I h1 h2 k => by
  obtain rfl := dp_bl h1
  obtain rfl := dp_bl h2
  refine .inr ⟨rfl, ct_d k I (.bl _) ?_⟩
  rw [show decide (V.bl i = V.bl j) = decide (i = j) from decide_eq_decide.mpr ⟨fun z => V.bl.inj z, fun z => by rw [z]⟩]
  exact q
theorem rw_eqD {d e : PyData} (e1 : wd G w1 = some d) (e2 : wd G w2 = some e) (s1 : SeqAt.shaped d = true) (s2 : SeqAt.shaped e = true) (q : P G (.p (.d (.bool (PyData.eqv d e))))) : RW2 K B G (rEQ K) w1 w2 P := fun S F H Q v1 v2 I h1 h2 k =>
  .inl ⟨d, e, dq_dp (wd_dq I h1 e1), dq_dp (wd_dq I h2 e2), s1, s2, ct_d k I (.bl _) q⟩
theorem rw_neD {d e : PyData} (e1 : wd G w1 = some d) (e2 : wd G w2 = some e) (s1 : SeqAt.shaped d = true) (s2 : SeqAt.shaped e = true) (q : P G (.p (.d (.bool (!PyData.eqv d e))))) : RW2 K B G (rNE K) w1 w2 P := fun S F H Q v1 v2 I h1 h2 k =>
  .inl ⟨d, e, dq_dp (wd_dq I h1 e1), dq_dp (wd_dq I h2 e2), s1, s2, ct_d k I (.bl _) q⟩
theorem rw_inL {d : PyData} {ds : List PyData} (e1 : wd G w1 = some d) (e2 : wd G w2 = some (.list ds)) (s1 : SeqAt.shaped d = true) (s2 : SeqAt.shaped (.list ds) = true) (q : P G (.p (.d (.bool (ds.any fun z => PyData.eqv z d))))) : RW2 K B G (rIN K) w1 w2 P := fun S F H Q v1 v2 I h1 h2 k =>
  .inl ⟨d, ds, dq_dp (wd_dq I h1 e1), dq_dp (wd_dq I h2 e2), s1, s2, ct_d k I (.bl _) q⟩
theorem rw_niL {d : PyData} {ds : List PyData} (e1 : wd G w1 = some d) (e2 : wd G w2 = some (.list ds)) (s1 : SeqAt.shaped d = true) (s2 : SeqAt.shaped (.list ds) = true) (q : P G (.p (.d (.bool (!ds.any fun z => PyData.eqv z d))))) : RW2 K B G (rNI K) w1 w2 P := fun S F H Q v1 v2 I h1 h2 k =>
  .inl ⟨d, ds, dq_dp (wd_dq I h1 e1), dq_dp (wd_dq I h2 e2), s1, s2, ct_d k I (.bl _) q⟩
theorem rw_inT {d : PyData} {ds : List PyData} (e1 : wd G w1 = some d) (s1 : SeqAt.shaped d = true) (s2 : SeqAt.shaped (.tuple ds) = true) (q : P G (.p (.d (.bool (ds.any fun z => PyData.eqv z d))))) : RW2 K B G (rIN K) w1 (.d (.tuple ds)) P := fun S F H Q v1 v2 I h1 h2 k =>
  .inr (.inl ⟨d, ds, dq_dp (wd_dq I h1 e1), dq_dp (dp_mono I.ex h2), s1, s2, ct_d k I (.bl _) q⟩)
theorem rw_niT {d : PyData} {ds : List PyData} (e1 : wd G w1 = some d) (s1 : SeqAt.shaped d = true) (s2 : SeqAt.shaped (.tuple ds) = true) (q : P G (.p (.d (.bool (!ds.any fun z => PyData.eqv z d))))) : RW2 K B G (rNI K) w1 (.d (.tuple ds)) P := fun S F H Q v1 v2 I h1 h2 k =>
  .inr (.inl ⟨d, ds, dq_dp (wd_dq I h1 e1), dq_dp (dp_mono I.ex h2), s1, s2, ct_d k I (.bl _) q⟩)
theorem rw_inS {c : Nat} {z : List Nat} (q : P G (.p (.d (.bool (decide (c ∈ z)))))) : RW2 K B G (rIN K) (.d (.str (mkS [c]))) (.d (.str (mkS z))) P := fun S F H Q v1 v2 I h1 h2 k =>
  .inr (.inr ⟨c, mkS z, dp_str h1, dp_str h2, ct_d k I (.bl _) q⟩)
theorem rw_niS {c : Nat} {z : List Nat} (q : P G (.p (.d (.bool (!decide (c ∈ z)))))) : RW2 K B G (rNI K) (.d (.str (mkS [c]))) (.d (.str (mkS z))) P := fun S F H Q v1 v2 I h1 h2 k =>
  .inr (.inr ⟨c, mkS z, dp_str h1, dp_str h2, ct_d k I (.bl _) q⟩)
/-! is -/
def isNone : PyData → Bool
  | .none => true
  | _ => false
theorem dq_isN {H : Hp} {v : V} {d : PyData} (h : Dq K H v d) : decide (v = .non) = isNone d := by
  cases h <;> rfl
theorem rw_isN {d : PyData} (e1 : wd G w1 = some d) (q : P G (.p (.d (.bool (isNone d))))) : RW2 K B G (fun x y H Q => y = .non ∧ Q (.bl (decide (x = .non))) H) w1 (.d .none) P := fun S F H Q v1 v2 I h1 h2 k =>
  ⟨dp_non h2, by rw [dq_isN (wd_dq I h1 e1)]; exact ct_d k I (.bl _) q⟩
theorem rw_notN {d : PyData} (e1 : wd G w1 = some d) (q : P G (.p (.d (.bool (!isNone d))))) : RW2 K B G (fun x y H Q => y = .non ∧ Q (.bl (!decide (x = .non))) H) w1 (.d .none) P := fun S F H Q v1 v2 I h1 h2 k =>
  ⟨dp_non h2, by rw [dq_isN (wd_dq I h1 e1)]; exact ct_d k I (.bl _) q⟩
theorem rw_isB {a b : Bool} (q : P G (.p (.d (.bool (decide (a = b)))))) : RW2 K B G rIsB (.d (.bool a)) (.d (.bool b)) P := fun S F H Q v1 v2 I h1 h2 k => ⟨a, b, dp_bl h1, dp_bl h2, ct_d k I (.bl _) q⟩
theorem rw_notB {a b : Bool} (q : P G (.p (.d (.bool (!decide (a = b)))))) : RW2 K B G rNotB (.d (.bool a)) (.d (.bool b)) P := fun S F H Q v1 v2 I h1 h2 k => ⟨a, b, dp_bl h1, dp_bl h2, ct_d k I (.bl _) q⟩
/-! items -/
theorem ixN_map {n m : Nat} (e : n = m) (i : Int) : ixN n i = ixN m i := by rw [e]
theorem atI_da {F : Hp} {vs : List V} {ds : List PyData} {i : Int} {d : PyData} (h : DqAll K F vs ds) (e : atI ds i = some d) : ∃ v, atI vs i = some v ∧ Dq K F v d := by
  unfold atI at e ⊢
  rw [da_len h]
  cases q : ixN ds.length i with
  | none =>
    rw [q] at e
    cases e
  | some j =>
    rw [q] at e
    exact da_get h e
theorem rw_ixL {ds : List PyData} {i : Int} {d : PyData} (e1 : wd G w1 = some (.list ds)) (e : atI ds i = some d) (q : P G (.p (.d d))) : RW2 K B G (rIx K) w1 (.d (.int i)) P := fun S F H Q v1 v2 I h1 h2 k => by
  obtain ⟨p, vs, rfl, hp, ha⟩ := wd_list I h1 e1
  obtain ⟨v, hv, hd⟩ := atI_da ha e
  exact .inl ⟨p, vs, i, v, rfl, dp_int h2, SqL.of hp, hv, ct_d k I hd q⟩
theorem rw_ixT {ds : List PyData} {i : Int} {d : PyData} (e : atI ds i = some d) (q : P G (.p (.d d))) : RW2 K B G (rIx K) (.d (.tuple ds)) (.d (.int i)) P := fun S F H Q v1 v2 I h1 h2 k => by
  obtain ⟨p, vs, rfl, hp, ha⟩ := dp_tup h1
  obtain ⟨v, hv, hd⟩ := atI_da ha e
  exact .inr (.inl ⟨p, vs, i, v, rfl, dp_int h2, SqT.of (I.ex _ _ hp), hv, ct_d k I hd q⟩)
theorem rw_ixS {z : List Nat} {i : Int} {c : Nat} (hz : z.length ≤ sizeLine) (e : atI z i = some c) (q : P G (.p (.d (.str (mkS [c]))))) : RW2 K B G (rIx K) (.d (.str (mkS z))) (.d (.int i)) P := fun S F H Q v1 v2 I h1 h2 k =>
  .inr (.inr ⟨mkS z, i, c, dp_str h1, dp_int h2, by rw [mkS_len]; exact hz, e, ct_d k I (.str _) q⟩)
/-! slices -/
def DO (K : Fr) (B : Bs) (G : En) (to : TO) (PO : En → Option Int → Prop) : Prop := ∀ S F H (Q : Option Int → Hp → Prop), Iv K B G S F H → (∀ o F' H' G', Ex F F' → Iv K B G' S F' H' → PO G' o → Q o H') → to S H Q
theorem do_none {PO : En → Option Int → Prop} (h : PO G none) : DO K B G tNoPart PO := fun S F H Q I k => k none F H G (Ex.refl F) I h
theorem do_some {te : TE} {PO : En → Option Int → Prop} (h : DW K B G te fun G1 r => PW r fun w => ∃ i, w = .d (.int i) ∧ PO G1 (some i)) : DO K B G (tPart te) PO := fun S F H Q I k => by
  show te S H fun x H1 => ∃ i, x = .int i ∧ Q (some i) H1
  refine dw_run (k' := fun G1 w => ∃ i, w = .d (.int i) ∧ PO G1 (some i)) h I fun v F1 H1 G1 w e1 I1 hv q => ?_
  obtain ⟨i, rfl, q⟩ := q
  exact ⟨i, dp_int hv, k _ F1 H1 G1 e1 I1 q⟩
def cutD {α : Type} (xs : List α) (lo hi : Option Int) : List α := (xs.drop (HT.sIx xs.length 0 lo)).take (HT.sIx xs.length xs.length hi - HT.sIx xs.length 0 lo)
theorem da_cut {F : Hp} {vs : List V} {ds : List PyData} (h : DqAll K F vs ds) (lo hi : Option Int) : DqAll K F (cutV vs lo hi) (cutD ds lo hi) := by
  unfold cutV cutD
  rw [da_len h]
  exact da_take _ (da_drop _ h)
theorem cutD_len {α : Type} (xs : List α) (lo hi : Option Int) : (cutD xs lo hi).length ≤ xs.length := by
  unfold cutD
  rw [List.length_take, List.length_drop]
  omega
def RWs (K : Fr) (B : Bs) (G : En) (r : V → Option Int → Option Int → Hp → VK → Prop) (w1 : W) (lo hi : Option Int) (P : Po) : Prop := ∀ S F H Q v1, Iv K B G S F H → Vw K S F v1 w1 → Ct K B S F P Q → r v1 lo hi H Q
theorem dw_sl3 {te : TE} {tl th : TO} {r : V → Option Int → Option Int → Hp → VK → Prop} (h : DW K B G te fun G1 r1 => PW r1 fun w1 => DO K B G1 tl fun G2 lo => DO K B G2 th fun G3 hi => RWs K B G3 r w1 lo hi P) : DW K B G (tSl r te tl th) P := fun S F H Q I k => by
  show te S H fun x H1 => tl S H1 fun l H2 => th S H2 fun u H3 => r x l u H3 Q
  refine dw_run (k' := fun G1 w1 => DO K B G1 tl fun G2 lo => DO K B G2 th fun G3 hi => RWs K B G3 r w1 lo hi P) h I fun v1 F1 H1 G1 w1 e1 I1 r1 q1 => ?_
  refine q1 S F1 H1 _ I1 fun lo F2 H2 G2 e2 I2 q2 => ?_
  refine q2 S F2 H2 _ I2 fun hi F3 H3 G3 e3 I3 q3 => ?_
  exact q3 S F3 H3 Q v1 I3 (r1.mono (e2.trans e3)) (k.mono ((e1.trans e2).trans e3))
theorem rs_L {ds : List PyData} {lo hi : Option Int} (e1 : wd G w1 = some (.list ds)) (q : P G (.fr (.o none (cutD ds lo hi)))) : RWs K B G (rSLC K) w1 lo hi P := fun S F H Q v1 I h1 k => by
  obtain ⟨p, vs, rfl, hp, ha⟩ := wd_list I h1 e1
  exact .inl ⟨p, vs, rfl, SqL.of hp, fun c hc => ct_L k I hc (da_cut ha lo hi) q⟩
theorem rs_T {ds : List PyData} {lo hi : Option Int} (q : P G (.p (.d (.tuple (cutD ds lo hi))))) : RWs K B G (rSLC K) (.d (.tuple ds)) lo hi P := fun S F H Q v1 I h1 k => by
  obtain ⟨p, vs, rfl, hp, ha⟩ := dp_tup h1
  refine .inr (.inl ⟨p, vs, rfl, SqT.of (I.ex _ _ hp), fun ⟨z1, z2⟩ => ?_, fun _ c hc => ct_T k I hc (da_cut ha lo hi) q⟩)
  have e : cutD ds lo hi = ds := by
    unfold cutD
    rw [← da_len ha, z1, z2]
    simp [da_len ha]
  rw [e] at q
  exact ct_d k I h1 q
theorem rs_S {z : List Nat} {lo hi : Option Int} (hz : z.length ≤ sizeLine) (q : P G (.p (.d (.str (mkS (cutD z lo hi)))))) : RWs K B G (rSLC K) (.d (.str (mkS z))) lo hi P := fun S F H Q v1 I h1 k => by
  refine .inr (.inr ⟨mkS z, dp_str h1, by rw [mkS_len]; exact hz, ?_⟩)
  have e : cutS (mkS z) lo hi = mkS (cutD z lo hi) := by
    unfold cutS cutD
    rw [mkS_len]
    rfl
  rw [e]
  exact ct_d k I (.str _) q
end
end DL
namespace DL
open PySem L2
section
variable {K : Fr} {B : Bs} {G : En} {P : Po} {w1 w2 : W}
theorem vws1 {S : St} {F : Hp} {vs : List V} {w : W} (h : Vws K S F vs [w]) : ∃ v, vs = [v] ∧ Vw K S F v w := by
  cases h with
  | cons a t =>
    cases t
    exact ⟨_, rfl, a⟩
theorem vws2 {S : St} {F : Hp} {vs : List V} {w w' : W} (h : Vws K S F vs [w, w']) : ∃ v v', vs = [v, v'] ∧ Vw K S F v w ∧ Vw K S F v' w' := by
  cases h with
  | cons a t =>
    cases t with
    | cons b t =>
      cases t
      exact ⟨_, _, rfl, a, b⟩
/-! ### calls of built-ins -/
abbrev rLEN (K : Fr) : List V → Hp → VK → Prop := fun xs H Q => ∃ x n, xs = [x] ∧ LenV K x H n ∧ Q (.int (n : Nat)) H
def lenD : PyData → Option Nat
  | .list ds => some ds.length
  | .tuple ds => some ds.length
  | _ => none
theorem len_dq {H : Hp} {v : V} {d : PyData} {n : Nat} (h : Dq K H v d) (e : lenD d = some n) : LenV K v H n := by
  cases h with
  | lst h a =>
    cases e
    exact .inl ⟨_, SqL.of h, (da_len a).symm⟩
  | tup h a =>
    cases e
    exact .inr ⟨_, SqT.of h, (da_len a).symm⟩
  | str x => cases e
  | non => cases e
  | bl _ => cases e
  | int _ => cases e
theorem rn_len {d : PyData} {n : Nat} (e1 : wd G w1 = some d) (e : lenD d = some n) (q : P G (.p (.d (.int (n : Int))))) : RWn K B G (rLEN K) [w1] P := fun S F H Q vs I hv k => by
  obtain ⟨v, rfl, h1⟩ := vws1 hv
  exact ⟨v, n, rfl, len_dq (wd_dq I h1 e1) e, ct_d k I (.int _) q⟩
theorem rn_lenL {ds : List PyData} (e1 : wd G w1 = some (.list ds)) (q : P G (.p (.d (.int (ds.length : Int))))) : RWn K B G (rLEN K) [w1] P := rn_len e1 rfl q
theorem rn_lenT {ds : List PyData} (q : P G (.p (.d (.int (ds.length : Int))))) : RWn K B G (rLEN K) [.d (.tuple ds)] P := rn_len (w1 := .d (.tuple ds)) rfl rfl q
theorem rn_lenS {z : List Nat} (hz : z.length ≤ sizeLine) (q : P G (.p (.d (.int (z.length : Int))))) : RWn K B G (rLEN K) [.d (.str (mkS z))] P := fun S F H Q vs I hv k => by
  obtain ⟨v, rfl, h1⟩ := vws1 hv
  obtain rfl := dp_str h1
  refine ⟨_, z.length, rfl, ⟨by rw [mkS_len]; exact hz, (mkS_len z).symm⟩, ct_d k I (.int _) q⟩
abbrev rINT : List V → Hp → VK → Prop := fun xs H Q => (∃ i, xs = [.int i] ∧ Q (.int i) H) ∨ ∃ k, xs = [.bl k] ∧ Q (.int (if k then 1 else 0)) H
theorem rn_intI {i : Int} (q : P G (.p (.d (.int i)))) : RWn K B G rINT [.d (.int i)] P := fun S F H Q vs I hv k => by
  obtain ⟨v, rfl, h1⟩ := vws1 hv
  exact .inl ⟨i, by rw [dp_int h1], ct_d k I (.int _) q⟩
theorem rn_intB {b : Bool} (q : P G (.p (.d (.int (if b then 1 else 0))))) : RWn K B G rINT [.d (.bool b)] P := fun S F H Q vs I hv k => by
  obtain ⟨v, rfl, h1⟩ := vws1 hv
  exact .inr ⟨b, by rw [dp_bl h1], ct_d k I (.int _) q⟩
theorem rn_max {i j : Int} (q : P G (.p (.d (.int (if j > i then j else i))))) : RWn K B G (fun xs H Q => ∃ i j, xs = [.int i, .int j] ∧ Q (.int (if j > i then j else i)) H) [.d (.int i), .d (.int j)] P := fun S F H Q vs I hv k => by
  obtain ⟨v, v', rfl, h1, h2⟩ := vws2 hv
  exact ⟨i, j, by rw [dp_int h1, dp_int h2], ct_d k I (.int _) q⟩
theorem rn_min {i j : Int} (q : P G (.p (.d (.int (if j < i then j else i))))) : RWn K B G (fun xs H Q => ∃ i j, xs = [.int i, .int j] ∧ Q (.int (if j < i then j else i)) H) [.d (.int i), .d (.int j)] P := fun S F H Q vs I hv k => by
  obtain ⟨v, v', rfl, h1, h2⟩ := vws2 hv
  exact ⟨i, j, by rw [dp_int h1, dp_int h2], ct_d k I (.int _) q⟩
abbrev rLIST (K : Fr) : List V → Hp → VK → Prop := fun xs H Q => ∃ p ys, xs = [.ref p] ∧ (SqL K H p ys ∨ SqT K H p ys) ∧ ∀ l, H l = none → Q (.ref l) (upd H l (.lst ys))
theorem rn_listL {ds : List PyData} (e1 : wd G w1 = some (.list ds)) (q : P G (.fr (.o none ds))) : RWn K B G (rLIST K) [w1] P := fun S F H Q vs I hv k => by
  obtain ⟨v, rfl, h1⟩ := vws1 hv
  obtain ⟨p, us, rfl, hp, ha⟩ := wd_list I h1 e1
  exact ⟨p, us, rfl, .inl (SqL.of hp), fun c hc => ct_L k I hc ha q⟩
theorem rn_listT {ds : List PyData} (q : P G (.fr (.o none ds))) : RWn K B G (rLIST K) [.d (.tuple ds)] P := fun S F H Q vs I hv k => by
  obtain ⟨v, rfl, h1⟩ := vws1 hv
  obtain ⟨p, us, rfl, hp, ha⟩ := dp_tup h1
  exact ⟨p, us, rfl, .inr (SqT.of (I.ex _ _ hp)), fun c hc => ct_L k I hc ha q⟩
abbrev rTUP (K : Fr) : List V → Hp → VK → Prop := fun xs H Q => ∃ p ys, xs = [.ref p] ∧ ((SqL K H p ys ∧ ∀ l, H l = none → Q (.ref l) (upd H l (.tup ys))) ∨ (SqT K H p ys ∧ Q (.ref p) H))
theorem rn_tupL {ds : List PyData} (e1 : wd G w1 = some (.list ds)) (q : P G (.p (.d (.tuple ds)))) : RWn K B G (rTUP K) [w1] P := fun S F H Q vs I hv k => by
  obtain ⟨v, rfl, h1⟩ := vws1 hv
  obtain ⟨p, us, rfl, hp, ha⟩ := wd_list I h1 e1
  exact ⟨p, us, rfl, .inl ⟨SqL.of hp, fun c hc => ct_T k I hc ha q⟩⟩
theorem rn_tupT {ds : List PyData} (q : P G (.p (.d (.tuple ds)))) : RWn K B G (rTUP K) [.d (.tuple ds)] P := fun S F H Q vs I hv k => by
  obtain ⟨v, rfl, h1⟩ := vws1 hv
  obtain ⟨p, us, rfl, hp, ha⟩ := dp_tup h1
  exact ⟨p, us, rfl, .inr ⟨SqT.of (I.ex _ _ hp), ct_d k I h1 q⟩⟩
theorem rn_str {i : Int} (hi : i.natAbs.log2 < 1920) (q : P G (.p (.d (.str (toString i))))) : RWn K B G (fun xs H Q => ∃ i, xs = [.int i] ∧ i.natAbs.log2 < 1920 ∧ Q (.str (toString i)) H) [.d (.int i)] P := fun S F H Q vs I hv k => by
  obtain ⟨v, rfl, h1⟩ := vws1 hv
  exact ⟨i, by rw [dp_int h1], hi, ct_d k I (.str _) q⟩
end
/-! sorted of ints -/
def srtI (ns : List Int) : List Int := ns.mergeSort (fun a b => decide (a ≤ b))
theorem srtI_perm (ns : List Int) : (srtI ns).Perm ns := List.mergeSort_perm _ _
theorem srtI_len (ns : List Int) : (srtI ns).length = ns.length := (srtI_perm ns).length_eq
theorem srtI_mem {ns : List Int} {x : Int} : x ∈ srtI ns ↔ x ∈ ns := (srtI_perm ns).mem_iff
theorem srtI_pw (ns : List Int) : (srtI ns).Pairwise (· ≤ ·) := by
  have h := List.pairwise_mergeSort (le := fun a b : Int => decide (a ≤ b)) (fun a b c h1 h2 => by simp at *; omega) (fun a b => by simp; omega) ns
  exact h.imp fun h => by simpa using h
theorem pw_perm_eq : ∀ {l m : List Int}, l.Pairwise (· ≤ ·) → m.Pairwise (· ≤ ·) → l.Perm m → l = m
  | [], m, _, _, h => (List.nil_perm.mp h).symm ▸ rfl
  | x :: l, [], _, _, h => by simpa using h.length_eq
  | x :: l, y :: m, h1, h2, h => by
    have hx : x ∈ y :: m := h.mem_iff.mp List.mem_cons_self
    have hy : y ∈ x :: l := h.mem_iff.mpr List.mem_cons_self
    have a1 := List.pairwise_cons.mp h1
    have a2 := List.pairwise_cons.mp h2
    have e : x = y := by
      rcases List.mem_cons.mp hx with z | z
      · exact z
      · rcases List.mem_cons.mp hy with z' | z'
        · exact z'.symm
        · have b1 : x ≤ y := a1.1 y z'
          have b2 : y ≤ x := a2.1 x z
          omega
    subst e
    rw [pw_perm_eq a1.2 a2.2 h.cons_inv]
theorem srtI_eq {ns ms : List Int} (h1 : ms.Perm ns) (h2 : ms.Pairwise (· ≤ ·)) : ms = srtI ns := pw_perm_eq h2 (srtI_pw ns) (h1.trans (srtI_perm ns).symm)
section
variable {K : Fr} {B : Bs} {G : En} {P : Po} {w1 w2 : W}
theorem rn_sortI {ns : List Int} (e1 : wd G w1 = some (.list (ns.map .int))) (q : P G (.fr (.o none ((srtI ns).map .int)))) : RWn K B G (rSortedI K) [w1] P := fun S F H Q vs I hv k => by
  obtain ⟨v, rfl, h1⟩ := vws1 hv
  obtain ⟨p, us, rfl, hp, ha⟩ := wd_list I h1 e1
  obtain rfl := da_ints_eq ha
  refine ⟨p, ns, rfl, SqL.of hp, fun ns' c hp hw hc => ?_⟩
  rw [srtI_eq hp hw]
  exact ct_L k I hc (da_ints _) q
/-! ### methods -/
/-- the receiver's type, by its view -/
def tyW (G : En) (T : String) : W → Prop
  | .d (.str _) => T = "str"
  | .d (.list _) => T = "list"
  | .sl i => T = "list" ∧ ∃ a ds, G[i]? = some (.o a ds)
  | _ => False
theorem tyW_ok {S : St} {F H : Hp} {v : V} {T : String} {w : W} (I : Iv K B G S F H) (hv : Vw K S F v w) (h : tyW G T w) : tyV K T v H := by
  match w, hv, h with
  | .d (.str _), hv, h =>
    obtain rfl := dp_str hv
    exact h
  | .d (.list _), hv, h =>
    obtain ⟨p, vs, rfl, h1, h2⟩ := dp_lst hv
    exact .inl ⟨h, vs, SqL.of (I.ex _ _ h1)⟩
  | .sl i, hv, ⟨h, a, ds, hi⟩ =>
    obtain ⟨p, vs, rfl, h1, h2⟩ := wd_list I hv (wd_sl hi)
    exact .inl ⟨h, vs, SqL.of h1⟩
theorem dw_BM {T : String} {r : V → List V → Hp → VK → Prop} {to : TE} {t : TA} (h : DW K B G to fun G1 r1 => PW r1 fun w1 => tyW G1 T w1 ∧ DA K B G1 t fun G2 ws => RWm K B G2 r w1 ws P) : DW K B G (tBM K T r to t) P := fun S F H Q I k => by
  show to S H fun x H1 => tyV K T x H1 ∧ t S H1 fun xs H2 => r x xs H2 Q
  refine dw_run (k' := fun G1 w1 => tyW G1 T w1 ∧ DA K B G1 t fun G2 ws => RWm K B G2 r w1 ws P) h I fun v1 F1 H1 G1 w1 e1 I1 r1 q1 => ⟨tyW_ok I1 r1 q1.1, ?_⟩
  exact q1.2 S F1 H1 _ I1 fun vs F2 H2 G2 ws e2 I2 r2 q2 => q2 S F2 H2 Q v1 vs I2 (r1.mono e2) r2 (k.mono (e1.trans e2))
theorem dw_BM0 {T : String} {r : V → List V → Hp → VK → Prop} {to : TE} (h : DW K B G to fun G1 r1 => PW r1 fun w1 => tyW G1 T w1 ∧ RWm K B G1 r w1 [] P) : DW K B G (tBM0 K T r to) P := fun S F H Q I k => by
  show to S H fun x H1 => tyV K T x H1 ∧ r x [] H1 Q
  refine dw_run (k' := fun G1 w1 => tyW G1 T w1 ∧ RWm K B G1 r w1 [] P) h I fun v1 F1 H1 G1 w1 e1 I1 r1 q1 => ⟨tyW_ok I1 r1 q1.1, ?_⟩
  exact q1.2 S F1 H1 Q v1 [] I1 r1 .nil (k.mono e1)
/-- xs.append(e) -/
theorem rm_app {i : Nat} {a : Option Addr} {ds : List PyData} {d : PyData} (hi : G[i]? = some (.o a ds)) (hz : ds.length < sizeLine) (q : P (G.set i (.o a (ds ++ [d]))) (.p (.d .none))) : RWm K B G rAppend (.sl i) [.d d] P := fun S F H Q v vs I hv hs k => by
  obtain ⟨y, rfl, hy⟩ := vws1 hs
  obtain ⟨p, us, e, hp, hF, ha⟩ := I.lst hi
  have hv : S[i]? = some (some v) := hv
  rw [e] at hv
  cases hv
  refine ⟨p, us, y, rfl, rfl, hp, by rw [da_len ha]; exact hz, ?_⟩
  exact k .non F _ _ (.p (.d .none)) (Ex.refl F) ⟨I.mut hi e (da_app ha (.cons hy .nil)), .non⟩ q
/-- xs.extend(ys) -/
theorem rm_ext {i : Nat} {a : Option Addr} {ds es : List PyData} (hi : G[i]? = some (.o a ds)) (e2 : wd G w2 = some (.list es)) (hz : ds.length + es.length ≤ sizeLine) (q : P (G.set i (.o a (ds ++ es))) (.p (.d .none))) : RWm K B G rExtend (.sl i) [w2] P := fun S F H Q v vs I hv hs k => by
  obtain ⟨y, rfl, hy⟩ := vws1 hs
  obtain ⟨p, us, e, hp, hF, ha⟩ := I.lst hi
  have hv : S[i]? = some (some v) := hv
  rw [e] at hv
  cases hv
  obtain ⟨p', us', rfl, hp', ha'⟩ := wd_list I hy e2
  refine ⟨p, p', us, us', rfl, rfl, hp, hp', by rw [da_len ha, da_len ha']; exact hz, ?_⟩
  exact k .non F _ _ (.p (.d .none)) (Ex.refl F) ⟨I.mut hi e (da_app ha ha'), .non⟩ q
/-- xs.pop(0) -/
theorem rm_pop0 {i : Nat} {a : Option Addr} {d : PyData} {ds : List PyData} (hi : G[i]? = some (.o a (d :: ds))) (q : P (G.set i (.o a ds)) (.p (.d d))) : RWm K B G rPopAt (.sl i) [.d (.int 0)] P := fun S F H Q v vs I hv hs k => by
  obtain ⟨y, rfl, hy⟩ := vws1 hs
  obtain rfl := dp_int hy
  obtain ⟨p, us, e, hp, hF, ha⟩ := I.lst hi
  have hv : S[i]? = some (some v) := hv
  rw [e] at hv
  cases hv
  cases ha with
  | @cons u ur _ _ hu hr =>
    refine ⟨p, u :: ur, 0, 0, u, rfl, rfl, hp, by decide, by decide, ?_, rfl, ?_⟩
    · exact PySem.seqIndex_of (by decide) (by simp)
    · exact k u F _ _ (.p (.d d)) (Ex.refl F) ⟨I.mut hi e hr, hu⟩ q
/-- xs.pop() -/
theorem rm_pop {i : Nat} {a : Option Addr} {d : PyData} {ds : List PyData} (hi : G[i]? = some (.o a (ds ++ [d]))) (q : P (G.set i (.o a ds)) (.p (.d d))) : RWm K B G rPop (.sl i) [] P := fun S F H Q v vs I hv hs k => by
  cases hs
  obtain ⟨p, us, e, hp, hF, ha⟩ := I.lst hi
  have hv : S[i]? = some (some v) := hv
  rw [e] at hv
  cases hv
  have hl := da_len ha
  simp only [List.length_append, List.length_singleton] at hl
  obtain ⟨y, hy, hd⟩ := da_get ha (i := ds.length) (d := d) (by simp)
  refine ⟨p, us, y, rfl, rfl, hp, by rw [hl]; exact hy, ?_⟩
  have e2 : DqAll K F us.dropLast ds := by
    have := da_take ds.length ha
    rw [List.take_left' rfl] at this
    rw [List.dropLast_eq_take, hl]
    exact this
  exact k y F _ _ (.p (.d d)) (Ex.refl F) ⟨I.mut hi e e2, hd⟩ q
theorem idx_le : ∀ {z : List Nat} {c i : Nat}, z[i]? = some c → z.idxOf c ≤ i
  | [], _, _, h => by simp at h
  | x :: z, c, 0, h => by
    simp at h
    subst h
    simp
  | x :: z, c, i + 1, h => by
    have := idx_le (z := z) (c := c) (i := i) (by simpa using h)
    rw [List.idxOf_cons]
    cases (x == c)
    · show z.idxOf c + 1 ≤ i + 1
      omega
    · exact Nat.zero_le _
/-- t.index(sign) -/
theorem occ_ix (z : List Nat) (c : Nat) (h : c ∈ z) : ∃ rest, Builtin.Str.occurrences (mkS z) (mkS [c]) 0 (mkS z).length 1 = (z.idxOf c) :: rest := by
  have at_ : ∀ i, PySem.StrLaws.At (mkS z) (mkS [c]) (mkS z).length i ↔ z[i]? = some c := fun i => PySem.StrLaws.subAt_one (mkS z) c i
  have hi : z[z.idxOf c]? = some c := by
    have hl := List.idxOf_lt_length_of_mem h
    rw [List.getElem?_eq_getElem hl, List.getElem_idxOf hl]
  rcases PySem.StrLaws.occ_head (mkS z) (mkS [c]) 1 (Nat.le_refl 1) with ⟨_, hn⟩ | ⟨i, r, e, ha, hn⟩
  · exact absurd ((at_ _).mpr hi) (hn _)
  · refine ⟨r, ?_⟩
    have h1 := (at_ i).mp ha
    have e2 : i = z.idxOf c := by
      rcases Nat.lt_trichotomy i (z.idxOf c) with q | q | q
      · exact absurd (idx_le h1) (by omega)
      · exact q
      · exact absurd ((at_ _).mpr hi) (hn _ q)
    rw [e, e2]
theorem rm_sindex {z : List Nat} {c : Nat} (h : c ∈ z) (q : P G (.p (.d (.int ((z.idxOf c : Nat) : Int))))) : RWm K B G (fun x xs H Q => ∃ a b i rest, x = .str a ∧ xs = [.str b] ∧ Builtin.Str.occurrences a b 0 a.length 1 = i :: rest ∧ Q (.int (i : Nat)) H) (.d (.str (mkS z))) [.d (.str (mkS [c]))] P := fun S F H Q v vs I hv hs k => by
  obtain ⟨y, rfl, hy⟩ := vws1 hs
  obtain rfl := dp_str hv
  obtain rfl := dp_str hy
  obtain ⟨rest, e⟩ := occ_ix z c h
  exact ⟨_, _, _, rest, rfl, rfl, e, ct_d k I (.int _) q⟩
end
end DL
namespace L2
open PySem PySem.Spec PyProof.Rows
section
variable {P : Program} {w : World} {A : Around} {E : Value → Shared → Prop} {s : Shared}
theorem call_set_lstI {l : Addr} {items : Array Value} (ns : List Int) {Q : Value → Shared → Prop} (hh : A.handled = none) (hl : s.heap.IsList l items) (hit : IntsAre items.toList ns) (hb : ns.length + 1 < scanBound)
    (h : ∀ (h' : Heap) (tk c : Nat), SetR w h' s.heap.objs.size (fun j => decide (j ∈ ns)) c → c ≤ ns.length → (∀ b o, s.heap.get? b = some o → h'.get? b = some o) → Q (.ref s.heap.objs.size) { s with heap := h', toks := tk }) :
    wpAny (model P w) A (call (.type "set") [.ref l]) Q E s := by
  have hisz : items.size = ns.length := by
    have q := IntsAre.length hit
    rw [Array.length_toList] at q
    exact q
  obtain ⟨c, tl, hmro⟩ := F.called_set.mro
  have hmade := F.called_set.made
  have hsub := F.called_set.sub
  refine wpAny_call (codeAny_of_tree ?_)
  show wpAny _ _ (callAny (.type "set") _) _ _ _
  refine wpAny_pure ⟨Code.quiet_builtin _ (by decide +kernel), codeAny_builtin F.entry_type_call ?_⟩
  rw [Around.under_plain (weight_type_call_type "set" [.ref l] []) rfl]
  have h1 := F.called_set.notType
  have h2 := F.called_set.canCreate
  have hct := F.typeCall_set_1 (.ref l)
  repeat (any_goals (first | assumption | wp_step))

  refine codeAny_mono (code_set_led1 (.ref l) (E := E) (Q₁ := fun obj s₁ => obj = .ref s.heap.objs.size ∧ s₁ = { s with heap := s.heap.push { cls := .type "set", dict := none, data := .set #[] 0 (.fresh 0 0 (!w.params.followText "set-order")) } }) ⟨rfl, rfl⟩) fun r s₁ hr => ?_
  cases r with
  | error e => exact hr
  | ok fl =>
    cases fl with
    | ret obj =>
      obtain ⟨rfl, rfl⟩ := hr
      have hS : (s.heap.push { cls := .type "set", dict := none, data := .set #[] 0 (.fresh 0 0 (!w.params.followText "set-order")) }).get? s.heap.objs.size = some { cls := .type "set", dict := none, data := .set #[] 0 (.fresh 0 0 (!w.params.followText "set-order")) } := Heap.get?_push_size _ rfl
      have hT : Shared.TypeIs { s with heap := s.heap.push { cls := .type "set", dict := none, data := .set #[] 0 (.fresh 0 0 (!w.params.followText "set-order")) } } (.ref s.heap.objs.size) "set" := ⟨_, hS, rfl⟩
      have hli := F.called_set.init.lookup
      have hbi := F.called_set.init.bind (.ref s.heap.objs.size)
      repeat (any_goals (first | assumption | wp_step))

      refine codeAny_mono (codeAny_call_builtin (R := wants (fun r s₂ => r = .none ∧ ∃ h' tk c, s₂ = { s with heap := h', toks := tk } ∧ SetR w h' s.heap.objs.size (fun j => decide (j ∈ ns)) c ∧ c ≤ ns.length ∧
          (∀ b o, s.heap.get? b = some o → h'.get? b = some o)) E) F.called_set.init.plain F.entry_set_init (check_set_init_1 hT ?_)) fun r₂ s₂ hr₂ => ?_
      · obtain ⟨ol, hol, hcl, nl, hdl⟩ := hl
        obtain ⟨ocls, odict, odata, oslots⟩ := ol
        simp only at hcl hdl
        subst hcl; subst hdl
        have hol' : (s.heap.push { cls := .type "set", dict := none, data := .set #[] 0 (.fresh 0 0 (!w.params.followText "set-order")) }).get? l = some { cls := .type "list", dict := odict, data := .seq items nl, slots := oslots } := Heap.get?_push_of_some _ hol
        have hsls := F.sub_list_set
        have hslf := F.sub_list_frozenset
        have hne : (Value.type "list" == Value.type "dict") = false := by decide
        have hl1 : (s.heap.push { cls := .type "set", dict := none, data := .set #[] 0 (.fresh 0 0 (!w.params.followText "set-order")) }).IsList l items := ⟨_, hol', rfl, nl, rfl⟩
        unfold Builtin.«set.__init__» noKeywords Builtin.Frozenset.updateFrom
        generalize hPI : pyIter = PI
        wp_walk
        subst hPI

        refine wpAny_pyIter_list hl1 ?_
        refine wpAny_bind (wpAny_runValue ?_)
        have hlS : l < s.heap.objs.size := Heap.lt_size hol
        have hh3 : A.in1.in1.in1.handled = none := by simp [hh]
        have hz1 : (s.heap.push { cls := .type "set", dict := none, data := .set #[] 0 (.fresh 0 0 (!w.params.followText "set-order")) }).objs.size = s.heap.objs.size + 1 := Heap.size_push ..
        have hneI : l ≠ (s.heap.push { cls := .type "set", dict := none, data := .set #[] 0 (.fresh 0 0 (!w.params.followText "set-order")) }).objs.size := by
          rw [Heap.size_push]; exact Nat.ne_of_lt (Nat.lt_succ_of_lt hlS)
        have hSf : s.heap.objs.size ∉ [(s.heap.push { cls := .type "set", dict := none, data := .set #[] 0 (.fresh 0 0 (!w.params.followText "set-order")) }).objs.size, l] := by
          rw [Heap.size_push]; simp only [List.mem_cons, List.mem_singleton, List.not_mem_nil, or_false, not_or]
          exact ⟨Nat.ne_of_lt (Nat.lt_succ_self _), Nat.ne_of_gt hlS⟩
        have hval : ∀ (i : Nat) (v : Value), items[i]? = some v → ∃ k t, ns[i]? = some k ∧ v = .int k t := fun i v hv => by
          have hi : i < ns.length := by rw [← hisz]; exact (Array.getElem?_eq_some_iff.mp hv).1
          obtain ⟨t, e⟩ := PyProof.Rows.IntsAre.int_at hit i v (by rw [Array.getElem?_toList]; exact hv)
          refine ⟨ns[i], t, List.getElem?_eq_getElem hi, ?_⟩
          rw [e, List.getD_eq_getElem?_getD, List.getElem?_eq_getElem hi] <;> rfl
        refine set_update_ints ((Walks.list hh3 _ l hneI items).toS) s.heap.objs.size
          hSf ns hisz hb hval (items.size - 0) 0 _ (by omega) (Nat.zero_le _)
          ⟨⟨_, Heap.get?_push_size _ rfl, rfl, rfl⟩, (hl1.push _)⟩ ?hS0 ?hR
        case hS0 =>
          have hget : ((s.heap.push { cls := .type "set", dict := none, data := .set #[] 0 (.fresh 0 0 (!w.params.followText "set-order")) }).push { cls := .type "list_iterator", data := .fields #[.ref l, .int 0 0] }).get? s.heap.objs.size
              = some { cls := .type "set", dict := none, data := .set #[] 0 (.fresh 0 0 (!w.params.followText "set-order")) } := Heap.get?_push_of_some _ hS
          exact ⟨0, Nat.le_refl 0, setR_new_at hget⟩
        case hR =>
          intro s' c' hm hc' hS'
          obtain ⟨h', g2, d', tk', os'⟩ := s'
          have eg : g2 = s.gens := hm.gens
          have ed : d' = s.drawn := hm.drawn
          have eo : os' = s.os := hm.os
          subst eg; subst ed; subst eo
          show wpAny _ _ _ _ _ _
          refine wpAny_pure ?_
          show wpAny _ _ (ret Value.none) _ _ _
          rw [hisz] at hc'
          refine wpAny_pure ⟨rfl, h', tk', c', rfl, hS', hc', fun b o e => ?_⟩
          have hb0 : b < s.heap.objs.size := Heap.lt_size e
          have hb1 : b ≠ s.heap.objs.size := Nat.ne_of_lt hb0
          have hb2 : b ≠ (s.heap.push { cls := .type "set", dict := none, data := .set #[] 0 (.fresh 0 0 (!w.params.followText "set-order")) }).objs.size := by
            rw [Heap.size_push]; exact Nat.ne_of_lt (Nat.lt_succ_of_lt hb0)
          exact hm.heap b o (by simp only [List.mem_cons, List.mem_singleton, List.not_mem_nil, or_false, not_or]; exact ⟨hb1, hb2⟩) (Heap.get?_push_of_some _ (Heap.get?_push_of_some _ e))

      · cases r₂ with
        | error e => exact hr₂
        | ok fl₂ =>
          cases fl₂ with
          | ret r =>
            obtain ⟨rfl, h', tk, c', rfl, hS', hc', hk'⟩ := hr₂
            repeat (any_goals (first | assumption | wp_step))
            exact h _ _ _ hS' hc' hk'
          | _ => exact hr₂.elim
    | _ => exact hr.elim

end
end L2
namespace DL
open PySem L2
/-! ### the increasing list of a list's ints -/
def insU (x : Int) : List Int → List Int
  | [] => [x]
  | y :: r => if x < y then x :: y :: r else if x = y then y :: r else y :: insU x r
def usrt : List Int → List Int
  | [] => []
  | x :: r => insU x (usrt r)
theorem insU_mem {x z : Int} : ∀ {l : List Int}, z ∈ insU x l ↔ z = x ∨ z ∈ l
  | [] => by simp [insU]
  | y :: r => by
    unfold insU
    split
    · simp
    · split
      · rename_i e
        subst e
        simp
      · rw [List.mem_cons, insU_mem (l := r), List.mem_cons]
        constructor
        · rintro (h | h | h)
          · exact .inr (.inl h)
          · exact .inl h
          · exact .inr (.inr h)
        · rintro (h | h | h)
          · exact .inr (.inl h)
          · exact .inl h
          · exact .inr (.inr h)
theorem insU_pw {x : Int} : ∀ {l : List Int}, l.Pairwise (· < ·) → (insU x l).Pairwise (· < ·)
  | [], _ => by simp [insU]
  | y :: r, h => by
    have h1 := List.pairwise_cons.mp h
    unfold insU
    split
    · rename_i c
      refine List.pairwise_cons.mpr ⟨fun z hz => ?_, h⟩
      rcases List.mem_cons.mp hz with e | hz
      · omega
      · have := h1.1 z hz
        omega
    · split
      · exact h
      · refine List.pairwise_cons.mpr ⟨fun z hz => ?_, insU_pw h1.2⟩
        rcases insU_mem.mp hz with e | hz
        · omega
        · exact h1.1 z hz
theorem usrt_mem {z : Int} : ∀ {l : List Int}, z ∈ usrt l ↔ z ∈ l
  | [] => by simp [usrt]
  | y :: r => by
    unfold usrt
    rw [insU_mem, usrt_mem (l := r), List.mem_cons]
theorem usrt_pw : ∀ l : List Int, (usrt l).Pairwise (· < ·)
  | [] => List.Pairwise.nil
  | y :: r => insU_pw (usrt_pw r)
theorem insU_len (x : Int) : ∀ l : List Int, (insU x l).length ≤ l.length + 1
  | [] => by simp [insU]
  | y :: r => by
    have := insU_len x r
    unfold insU
    split
    · simp
    · split
      · simp
      · simp only [List.length_cons]
        omega
theorem usrt_len : ∀ l : List Int, (usrt l).length ≤ l.length
  | [] => Nat.le_refl _
  | y :: r => by
    have h1 := usrt_len r
    have h2 := insU_len y (usrt r)
    show (insU y (usrt r)).length ≤ r.length + 1
    omega
theorem pwlt_eq : ∀ {l m : List Int}, l.Pairwise (· < ·) → m.Pairwise (· < ·) → (∀ z, z ∈ l ↔ z ∈ m) → l = m
  | [], [], _, _, _ => rfl
  | [], y :: m, _, _, h => by simpa using (h y).mpr List.mem_cons_self
  | x :: l, [], _, _, h => by simpa using (h x).mp List.mem_cons_self
  | x :: l, y :: m, h1, h2, h => by
    have a1 := List.pairwise_cons.mp h1
    have a2 := List.pairwise_cons.mp h2
    have e : x = y := by
      rcases List.mem_cons.mp ((h x).mp List.mem_cons_self) with z | z
      · exact z
      · rcases List.mem_cons.mp ((h y).mpr List.mem_cons_self) with z' | z'
        · exact z'.symm
        · have b1 := a1.1 y z'
          have b2 := a2.1 x z
          omega
    subst e
    congr 1
    refine pwlt_eq a1.2 a2.2 fun z => ⟨fun hz => ?_, fun hz => ?_⟩
    · rcases List.mem_cons.mp ((h z).mp (List.mem_cons_of_mem _ hz)) with e | k
      · have := a1.1 z hz
        omega
      · exact k
    · rcases List.mem_cons.mp ((h z).mpr (List.mem_cons_of_mem _ hz)) with e | k
      · have := a2.1 z hz
        omega
      · exact k
theorem nodup_len {l m : List Int} (h1 : l.Nodup) (h2 : m.Nodup) (h : ∀ z, z ∈ l ↔ z ∈ m) : l.length = m.length := by
  have a := (List.perm_ext_iff_of_nodup h1 h2).mpr h
  exact a.length_eq
theorem usrt_nodup (l : List Int) : (usrt l).Nodup := (usrt_pw l).imp fun h => by omega
/-! ### sets of ints, made and used at once -/
def rMkSet (w : World) (K : Fr) : List V → Hp → VK → Prop := fun xs H Q => ∃ (l : Addr) (ns : List Int), xs = [.ref l] ∧ SqL K H l (ns.map V.int) ∧ ns.length ≤ 1000 ∧ ∀ p, H p = none → Q (.ref p) (upd H p (SetO w p (fun j => decide (j ∈ ns)) (usrt ns).length))
section
variable {X : Cx}
theorem setR_count {w : World} {h : Heap} {a : Addr} {ns : List Int} {c : Nat} (R : SetR w h a (fun j => decide (j ∈ ns)) c) : c = (usrt ns).length := by
  obtain ⟨o, es, ep, t, h1, h2, h3, h4, h5, h6, h7, h8, h9, h10⟩ := R
  rw [← h9, ← Array.length_toList, ← List.length_map (f := keyOf)]
  refine nodup_len h5 (usrt_nodup ns) fun z => ?_
  rw [usrt_mem, ← h6 z]
  simp
theorem cr_setL (hc : X.calm = true) : CallR X (.type "set") (rMkSet X.w X.K) := by
  intro pins s σ H xs us Q I r h
  obtain ⟨l, ns, rfl, hs, hl, q⟩ := h
  rw [Vals.ref1 r]
  obtain ⟨its, rv, pl, hz⟩ := I.list hs
  refine call_set_lstI ns (I.ok.hd hc) pl.isList (by simpa using rv.ints) (by unfold scanBound; omega) fun h' tk c R hcl hk => ?_
  have ec := setR_count R
  subst ec
  exact ⟨.ref _, upd H s.heap.objs.size (SetO X.w s.heap.objs.size (fun j => decide (j ∈ ns)) (usrt ns).length), I.laid (t' := tk) hk (Nat.le_refl _) (setO_new R), rfl, q _ (I.hok.fresh (Nat.le_refl _))⟩
def rLenSet (w : World) : List V → Hp → VK → Prop := fun xs H Q => ∃ (a : Addr) (S : Int → Bool) (n : Nat), xs = [.ref a] ∧ H a = some (SetO w a S n) ∧ n ≤ 100000 ∧ Q (.int (n : Nat)) H
theorem call_lenSet : CallR X (.builtin "len") (rLenSet X.w) := by
  intro pins s σ H xs us Q I r h
  obtain ⟨a, S, n, rfl, ha, hn, q⟩ := h
  rw [Vals.ref1 r]
  obtain ⟨o, es, ep, t, h1, h2, h3, h4, h5, h6, h7, h8, h9, h10⟩ := setO_get I ha
  exact call_len_set h1 h2 h3 h8 (by rw [h9]; omega) ⟨.int n, H, I.tok _, ⟨_, by rw [h9]⟩, q⟩
end
section
variable {K : Fr} {B : Bs} {G : En} {P : Po} {te : TE} {w : World}
theorem dw_sortSet (h : DW K B G te fun G1 r1 => PW r1 fun w1 => ∃ ns : List Int, wd G1 w1 = some (.list (ns.map .int)) ∧ ns.length < 64 ∧ P G1 (.fr (.o none ((usrt ns).map .int)))) : DW K B G (tCB (rSortedSet w) (tCons (tCB (rMkSet w K) (tCons te tNil)) tNil)) P := fun S F H Q I k => by
  show te S H fun x H1 => rMkSet w K [x] H1 fun y H2 => rSortedSet w [y] H2 Q
  refine dw_run (k' := fun G1 w1 => ∃ ns : List Int, wd G1 w1 = some (.list (ns.map .int)) ∧ ns.length < 64 ∧ P G1 (.fr (.o none ((usrt ns).map .int)))) h I fun v1 F1 H1 G1 w1 e1 I1 r1 ⟨ns, hd, hl, q⟩ => ?_
  obtain ⟨l, us, rfl, hp, ha⟩ := wd_list I1 r1 hd
  obtain rfl := da_ints_eq ha
  refine ⟨l, ns, rfl, SqL.of hp, by omega, fun p hp => ⟨p, _, _, rfl, upd_same, Nat.lt_of_le_of_lt (usrt_len ns) hl, fun ms c hw hm _ hc => ?_⟩⟩
  have e : ms = usrt ns := pwlt_eq hw (usrt_pw ns) fun z => by
    rw [hm z, usrt_mem]
    simp
  subst e
  exact ct_L (k.mono e1) (I1.newH hp _) hc (da_ints _) q
theorem dw_lenSet (h : DW K B G te fun G1 r1 => PW r1 fun w1 => ∃ ns : List Int, wd G1 w1 = some (.list (ns.map .int)) ∧ ns.length ≤ 1000 ∧ P G1 (.p (.d (.int ((usrt ns).length : Int))))) : DW K B G (tCB (rLenSet w) (tCons (tCB (rMkSet w K) (tCons te tNil)) tNil)) P := fun S F H Q I k => by
  show te S H fun x H1 => rMkSet w K [x] H1 fun y H2 => rLenSet w [y] H2 Q
  refine dw_run (k' := fun G1 w1 => ∃ ns : List Int, wd G1 w1 = some (.list (ns.map .int)) ∧ ns.length ≤ 1000 ∧ P G1 (.p (.d (.int ((usrt ns).length : Int))))) h I fun v1 F1 H1 G1 w1 e1 I1 r1 ⟨ns, hd, hl, q⟩ => ?_
  obtain ⟨l, us, rfl, hp, ha⟩ := wd_list I1 r1 hd
  obtain rfl := da_ints_eq ha
  refine ⟨l, ns, rfl, SqL.of hp, hl, fun p hp => ⟨p, _, _, rfl, upd_same, Nat.le_trans (usrt_len ns) (by omega), ?_⟩⟩
  exact ct_d (k.mono e1) (I1.newH hp _) (.int _) q
end
/-! ### in short -/
section
variable {X : Cx} {pos : Pos}
theorem hu65 {k : Nat} {A : Around} (hr : Room k A) : A.units + 65 < cLine := by
  have := hr.un
  omega
theorem pe_strM {x : Str} {j pos} (l : List Nat) (h : x = mkS l) : PE X (.Constant (.str x) j pos) (tC (.str (mkS l))) := by
  subst h
  exact pe_str
/-- what stands in a for's head, whatever its kind -/
def iANY (K : Fr) (te : TE) : TI := fun S H R => iList K te S H R ∨ iTup K te S H R ∨ iStr te S H R
theorem PI.or {tg e : Expr} {w1 w2 : TI} (h1 : PI X tg e w1) (h2 : PI X tg e w2) : PI X tg e (fun S H R => w1 S H R ∨ w2 S H R) :=
  ⟨fun pins s σ H R I h => h.elim (h1.run pins s σ H R I) (h2.run pins s σ H R I)⟩
theorem pi_any {tg e : Expr} {te : TE} (h : PE X e te) : PI X tg e (iANY X.K te) := PI.or (pi_list h) (PI.or (pi_tup h) (pi_str h))
end
section
variable {K : Fr} {B : Bs} {G : En} {P : Po} {te : TE} {PI : En → List PyData → Prop}
theorem di_str (h : DW K B G te fun G1 r1 => PW r1 fun w => ∃ z : List Nat, w = .d (.str (mkS z)) ∧ PI G1 (z.map fun c => .str (mkS [c]))) : DI K B G (iStr te) PI := fun S F H R I k => by
  show te S H fun v H1 => ∃ x, v = .str x ∧ R (Its x) H1
  refine dw_run (k' := fun G1 w => ∃ z : List Nat, w = .d (.str (mkS z)) ∧ PI G1 (z.map fun c => .str (mkS [c]))) h I fun v F1 H1 G1 w e1 I1 hv q => ?_
  obtain ⟨z, rfl, q⟩ := q
  refine ⟨mkS z, dp_str hv, k _ F1 H1 G1 _ e1 I1 (fun i H2 F2 eF eH => ⟨fun d hd => ?_, fun e => ?_⟩) q⟩
  · rw [List.getElem?_map] at hd
    obtain ⟨c, hc, rfl⟩ := Option.map_eq_some_iff.mp hd
    have hl := (List.getElem?_eq_some_iff.mp hc).1
    refine ⟨(show i < (mkS z).cps.size by simpa [mkS] using hl), fun x H' y => ?_⟩
    obtain ⟨e, c', hc', rfl⟩ := y
    subst e
    have : c' = c := by
      have : z[i]? = some c' := by simpa [mkS] using hc'
      rw [hc] at this
      exact (Option.some.inj this).symm
    subst this
    exact ⟨F2, Ex.refl _, Ex.refl _, eH, (fun b o z n => by rw [z] at n; cases n), .str _⟩
  · show (mkS z).cps.size ≤ i
    rw [List.length_map] at e
    simp [mkS, e]
theorem di_anyL (h : DI K B G (iList K te) PI) : DI K B G (iANY K te) PI := fun S F H R I k => .inl (h S F H R I k)
theorem di_anyT (h : DI K B G (iTup K te) PI) : DI K B G (iANY K te) PI := fun S F H R I k => .inr (.inl (h S F H R I k))
theorem di_anyS (h : DI K B G (iStr te) PI) : DI K B G (iANY K te) PI := fun S F H R I k => .inr (.inr (h S F H R I k))
end
end DL
namespace DL
open PySem L2
/-! ### the rules with the written part named (so that a comprehension's block can bear them) -/
section
variable {X : Cx} {k : Nat} {A : Around} {pos : Pos}
theorem kEQ (K : Fr) (h : X.K = K) (hu : X.A.units + 64 < cLine) : OpR X (compareOp .Eq) (rEQ K) := h ▸ opEQ hu
theorem kNE (K : Fr) (h : X.K = K) (hu : X.A.units + 64 < cLine) : OpR X (compareOp .NotEq) (rNE K) := h ▸ opNE hu
theorem kIN (K : Fr) (h : X.K = K) (hu : X.A.units + 65 < cLine) : OpR X (compareOp .In) (rIN K) := h ▸ opIN hu
theorem kNI (K : Fr) (h : X.K = K) (hu : X.A.units + 65 < cLine) : OpR X (compareOp .NotIn) (rNI K) := h ▸ opNI hu
theorem kADD (K : Fr) (h : X.K = K) : OpR X (binaryOp .Add) (rADD K) := h ▸ opADD
theorem kIX (K : Fr) (h : X.K = K) : IxR X (rIx K) := h ▸ ix_seq
theorem kSLC (K : Fr) (h : X.K = K) : L2.SlR X (rSLC K) := h ▸ slANY
theorem kLEN (K : Fr) (h : X.K = K) : CallR X (.builtin "len") (rLEN K) := h ▸ call_len
theorem kLIST (K : Fr) (h : X.K = K) : CallR X (.type "list") (rLIST K) := h ▸ call_list_of
theorem kTUP (K : Fr) (h : X.K = K) : CallR X (.type "tuple") (rTUP K) := h ▸ call_tuple_of
theorem kSORT (K : Fr) (h : X.K = K) : CallR X (.builtin "sorted") (rSortedI K) := h ▸ cr_sortedI
theorem kSORTP (K : Fr) (h : X.K = K) : CallR X (.builtin "sorted") (rSortedPO K) := h ▸ cr_sortedPO
theorem kISI (K : Fr) (h : X.K = K) : CallR X (.builtin "isinstance") (rIsi K) := h ▸ call_isi
theorem kSET (w : World) (K : Fr) (hw : X.w = w) (h : X.K = K) (hc : X.calm = true) : CallR X (.type "set") (rMkSet w K) := h ▸ hw ▸ cr_setL hc
theorem kSORTSET (w : World) (hw : X.w = w) (hc : X.calm = true) : CallR X (.builtin "sorted") (rSortedSet w) := hw ▸ cr_sortedSet hc
theorem kLENSET (w : World) (hw : X.w = w) : CallR X (.builtin "len") (rLenSet w) := hw ▸ call_lenSet
theorem kANY (K : Fr) (h : X.K = K) {tg e : Expr} {te : TE} (he : PE X e te) : PI X tg e (iANY K te) := h ▸ pi_any he
theorem kTG (K : Fr) (h : X.K = K) {es : List Expr} {j : Nat} {t : TGs} {n : Nat} (hc : X.calm = true) (ht : PGs X es t)
    (hn : (assignEach es X.env).length = n := by rfl) (hst : (assignEach es X.env).findIdx? (·.1) = none := by rfl) : PG X (.Tuple es j pos) (gTup K n t) := h ▸ pg_tup hc ht hn hst
theorem kTRUTH (K : Fr) (h : X.K = K) {a : Expr} {ta : TE} (ha : PE X a ta) (he : ∀ whole, isTrue a X.env whole = (do let v ← whole; standAt a.pos; holding [v] (truthy v))) :
    PT X a (fun S H Q => ta S H fun x H' => ∃ k, TruV K x H' k ∧ Q k H') := h ▸ pt_truth ha he
theorem kBM (K : Fr) (h : X.K = K) {T : String} {r : V → List V → Hp → VK → Prop} {e : Expr} {to : TE} {t : TA} (he : PE X e (tBM X.K T r to t)) : PE X e (tBM K T r to t) := h ▸ he
theorem kBM0 (K : Fr) (h : X.K = K) {T : String} {r : V → List V → Hp → VK → Prop} {e : Expr} {to : TE} (he : PE X e (tBM0 X.K T r to)) : PE X e (tBM0 K T r to) := h ▸ he
abbrev rJOIN (K : Fr) : V → List V → Hp → VK → Prop := fun x xs H Q => ∃ a p, ∃ ys : List Str, x = .str a ∧ xs = [.ref p] ∧ (SqL K H p (ys.map V.str) ∨ SqT K H p (ys.map V.str)) ∧ (ys.map (·.length)).sum + ys.length * a.length ≤ 16777216 ∧ Q (.str (Txt.join a ys)) H
theorem kJOIN (K : Fr) (h : X.K = K) : MtR X "str.join" (rJOIN K) := h ▸ mt_join
end
/-! ### xs[i] op= e of a list of ints -/
section
variable {X : Cx}
def rGetL (K : Fr) : V → V → Hp → VK → Prop := fun x y H Q => ∃ p xs i v, x = .ref p ∧ y = .int i ∧ 0 ≤ i ∧ SqL K H p xs ∧ atI xs i = some v ∧ Q v H
theorem get_list : PGet X (rGetL X.K) := by
  intro pins s S H o i ov iv Q I ro ri h
  obtain ⟨p, xs, j, v, rfl, rfl, h0, hq, ha, q⟩ := h
  cases ro
  obtain ⟨t, rfl⟩ := ri
  obtain ⟨its, r, pl, hz⟩ := I.list hq
  obtain ⟨m, h1, h2, h3, h4, h5⟩ := atI_get ha
  obtain ⟨u, hu, ru⟩ := r.get h2
  have hn := line63
  have hj : j.toNat = m := by
    rw [PySem.seqIndex_of h0 h5] at h1
    exact Option.some.inj h1
  exact wpAny_getItem_list pl.isList h0 (by omega) (by rw [hj]; simpa using hu) ⟨v, H, I, ru, q⟩
theorem kGET (K : Fr) (h : X.K = K) : PGet X (rGetL K) := h ▸ get_list
end
section
variable {K : Fr} {B : Bs} {G : En} {to ti te : TE} {E : De}
/-- xs[j] op= e, xs this def's own -/
theorem ds_augL {i : Nat} {a : Option Addr} {ds : List PyData} {j : Nat} {x : Int} {f : Int → Int → Int} (h : DW K B G to fun G1 r1 => PW r1 fun w => w = .sl i ∧ DW K B G1 ti fun G2 r2 => PW r2 fun w2 => w2 = .d (.int (j : Int)) ∧ G2[i]? = some (.o a ds) ∧ ds[j]? = some (.int x) ∧
    DW K B G2 te fun G3 r3 => PW r3 fun w3 => ∃ y, w3 = .d (.int y) ∧ G3[i]? = some (.o a ds) ∧ E.nx (G3.set i (.o a (ds.set j (.int (f x y)))))) : DS K B G (tAugS to ti te (rGetL K) (ipI f) rSetL) E := fun S F H D I c => by
  show to S H fun o H1 => ti S H1 fun i H2 => rGetL K o i H2 fun x H3 => te S H3 fun y H4 => ipI f x y H4 fun z H5 => rSetL o i z H5 fun H6 => D.nx S H6
  refine dw_run (k' := fun G1 w => w = .sl i ∧ DW K B G1 ti fun G2 r2 => PW r2 fun w2 => w2 = .d (.int (j : Int)) ∧ G2[i]? = some (.o a ds) ∧ ds[j]? = some (.int x) ∧
    DW K B G2 te fun G3 r3 => PW r3 fun w3 => ∃ y, w3 = .d (.int y) ∧ G3[i]? = some (.o a ds) ∧ E.nx (G3.set i (.o a (ds.set j (.int (f x y)))))) h I fun v1 F1 H1 G1 w1 e1 I1 hv1 ⟨hw1, q1⟩ => ?_
  subst hw1
  refine dw_run (k' := fun G2 w2 => w2 = .d (.int (j : Int)) ∧ G2[i]? = some (.o a ds) ∧ ds[j]? = some (.int x) ∧
    DW K B G2 te fun G3 r3 => PW r3 fun w3 => ∃ y, w3 = .d (.int y) ∧ G3[i]? = some (.o a ds) ∧ E.nx (G3.set i (.o a (ds.set j (.int (f x y)))))) q1 I1 fun v2 F2 H2 G2 w2 e2 I2 hv2 ⟨hw2, hi, hj, q2⟩ => ?_
  subst hw2
  obtain rfl := dp_int hv2
  obtain ⟨p, vs, e, hp, hF, ha⟩ := I2.lst hi
  have hv1 : S[i]? = some (some v1) := hv1
  rw [e] at hv1
  cases hv1
  obtain ⟨u, hu, hd⟩ := da_get ha hj
  obtain rfl := dp_int hd
  refine ⟨p, vs, j, _, rfl, rfl, Int.natCast_nonneg j, SqL.of hp, atI_nat hu, ?_⟩
  refine dw_run (k' := fun G3 w3 => ∃ y, w3 = .d (.int y) ∧ G3[i]? = some (.o a ds) ∧ E.nx (G3.set i (.o a (ds.set j (.int (f x y)))))) q2 I2 fun v3 F3 H3 G3 w3 e3 I3 hv3 ⟨y, hw3, hi3, q3⟩ => ?_
  subst hw3
  obtain rfl := dp_int hv3
  obtain ⟨p', vs', e', hp', hF', ha'⟩ := I3.lst hi3
  rw [e] at e'
  cases e'
  have hl := (List.getElem?_eq_some_iff.mp hj).1
  refine ⟨x, y, rfl, rfl, p, vs', (j : Int), j, rfl, rfl, hp', ?_, ?_⟩
  · unfold ixN
    rw [if_pos (by omega), if_pos (by rw [da_len ha']; omega)]
    simp
  · exact c.nx S F3 _ _ ((e1.trans e2).trans e3) (I3.mut hi3 e (da_set j ha' (.int _))) q3
/-- xs[j] = e, xs this def's own -/
theorem ds_setL {i : Nat} {a : Option Addr} {ds : List PyData} {j : Nat} {d : PyData} (h : DW K B G te fun G1 r1 => PW r1 fun w => w = .d d ∧ DW K B G1 to fun G2 r2 => PW r2 fun w2 => w2 = .sl i ∧ DW K B G2 ti fun G3 r3 => PW r3 fun w3 => w3 = .d (.int (j : Int)) ∧ G3[i]? = some (.o a ds) ∧ j < ds.length ∧ E.nx (G3.set i (.o a (ds.set j d)))) :
    DS K B G (tAsg te (gSub to ti rSetL)) E := fun S F H D I c => by
  show te S H fun v H0 => to S H0 fun o H1 => ti S H1 fun i H2 => rSetL o i v H2 fun H3 => D.nx S H3
  refine dw_run (k' := fun G1 w => w = .d d ∧ DW K B G1 to fun G2 r2 => PW r2 fun w2 => w2 = .sl i ∧ DW K B G2 ti fun G3 r3 => PW r3 fun w3 => w3 = .d (.int (j : Int)) ∧ G3[i]? = some (.o a ds) ∧ j < ds.length ∧ E.nx (G3.set i (.o a (ds.set j d)))) h I fun v1 F1 H1 G1 w1 e1 I1 hv1 ⟨hw1, q1⟩ => ?_
  subst hw1
  refine dw_run (k' := fun G2 w2 => w2 = .sl i ∧ DW K B G2 ti fun G3 r3 => PW r3 fun w3 => w3 = .d (.int (j : Int)) ∧ G3[i]? = some (.o a ds) ∧ j < ds.length ∧ E.nx (G3.set i (.o a (ds.set j d)))) q1 I1 fun v2 F2 H2 G2 w2 e2 I2 hv2 ⟨hw2, q2⟩ => ?_
  subst hw2
  refine dw_run (k' := fun G3 w3 => w3 = .d (.int (j : Int)) ∧ G3[i]? = some (.o a ds) ∧ j < ds.length ∧ E.nx (G3.set i (.o a (ds.set j d)))) q2 I2 fun v3 F3 H3 G3 w3 e3 I3 hv3 ⟨hw3, hi, hl, q3⟩ => ?_
  subst hw3
  obtain rfl := dp_int hv3
  obtain ⟨p, vs, e, hp, hF, ha⟩ := I3.lst hi
  have hv2 : S[i]? = some (some v2) := hv2
  rw [e] at hv2
  cases hv2
  refine ⟨p, vs, (j : Int), j, rfl, rfl, hp, ?_, ?_⟩
  · unfold ixN
    rw [if_pos (by omega), if_pos (by rw [da_len ha]; omega)]
    simp
  · exact c.nx S F3 _ _ ((e1.trans e2).trans e3) (I3.mut hi e (da_set j ha (dp_mono (e2.trans e3) hv1))) q3
end
end DL
namespace DL
open PySem L2
/-! ### enumerate of a text -/
def IteS (z : Str) : It := ⟨fun i _ => i < z.cps.size, fun i H v H' => ∃ (T : Addr) (c : Nat), v = .ref T ∧ H T = none ∧ H' = upd H T (.tup [.int (i : Nat), .str ⟨#[c]⟩]) ∧ z.cps[i]? = some c, fun i _ => z.cps.size ≤ i⟩
theorem turn_enumS {P : Program} {w : World} {K : Fr} {elts : List Expr} {kk : Nat} {tpos : Pos} (z : Str) (t : Tok) (e it : Addr) :
    Turn P w K (.Tuple elts kk tpos) (IteS z) [e, it] e (fun i h => (∃ old, IsEnum h e it ((i : Nat) : Int) old) ∧ h.IsStrIter it (strIterType z) z t i ∧ e ≠ it ∧ i ≤ z.cps.size) where
  mem := by simp
  obj := fun i h st b hb => by
    obtain ⟨⟨old, he⟩, ⟨o, ho, hc, hd⟩, _⟩ := st
    have hb2 : b = e ∨ b = it := by simpa using hb
    rcases hb2 with q | q
    · rw [q]
      exact ⟨_, he, fun v z => nomatch z⟩
    · rw [q]
      exact ⟨o, ho, fun v z => by rw [hd] at z; cases z⟩
  keep := fun i h h' st k => by
    obtain ⟨⟨old, he⟩, ⟨o, ho, hr⟩, hne, hz⟩ := st
    exact ⟨⟨old, k e (by simp) _ he⟩, ⟨o, k it (by simp) _ ho, hr⟩, hne, hz⟩
  item := by
    intro X hP hw hK hc i pins s S H E I hf st hg
    subst hP hw hK
    obtain ⟨⟨old, he⟩, hit, hne, hz⟩ := st
    have hel : e < s.heap.objs.size := Heap.lt_size he
    have hil : it < s.heap.objs.size := by
      obtain ⟨_, q, _⟩ := hit
      exact Heap.lt_size q
    have D := PySem.Draws.text (prog := X.prog) (w := X.w) (A := X.A.in1) (I.ok.hd hc) it z t
    refine wpAny_pyNext_enum_itemC D he hit hg hne (by simpa using hne) fun x h' tk hx ho hit' hT hsz hk => ?_
    obtain ⟨c, u, hcx, rfl⟩ := hx
    refine ⟨_, rfl, wpAny_letOwnedTupleGo_enum (s := { s with heap := h', toks := tk + 1 }) ho fun h2 he' sb => ?_⟩
    have hT2 : h2.get? s.heap.objs.size = some { cls := .type "tuple", data := .seq #[.int i tk, .str ⟨#[c]⟩ u] } := (sb.2 _ (Nat.ne_of_gt hel)).trans hT
    have new : ObjOk X.prog X.w (upd H s.heap.objs.size (.tup [.int (i : Nat), .str ⟨#[c]⟩])) h2 s.heap.objs.size (.tup [.int (i : Nat), .str ⟨#[c]⟩]) :=
      ⟨by show 2 ≤ sizeLine; decide, [.int i tk, .str ⟨#[c]⟩ u], .cons ⟨_, rfl⟩ (.cons ⟨_, rfl⟩ .nil), ⟨_, hT2, rfl, _, rfl⟩⟩
    have I1 : Inv X pins S (upd H s.heap.objs.size (.tup [.int (i : Nat), .str ⟨#[c]⟩])) { s with heap := h2, toks := tk + 1 } :=
      I.turnedNew (ch := [e, it]) (fun b ob hb q => (sb.2 b (fun z => hb (by simp [z]))).trans (hk b ob (fun z => hb (by simp [z])) (fun z => hb (by simp [z])) q)) hf (Nat.le_refl _) new
    refine ⟨.ref s.heap.objs.size, _, I1, rfl, ⟨_, c, rfl, I.hok.fresh (Nat.le_refl _), rfl, hcx⟩, ⟨⟨.str ⟨#[c]⟩ u, ?_⟩, ?_, hne, hg⟩, fun b hb => ?_⟩
    · have e1 : ((i + 1 : Nat) : Int) = (i : Int) + 1 := by omega
      rw [e1]
      exact he'
    · obtain ⟨o, h1, hr⟩ := hit'
      exact ⟨o, (sb.2 it (Ne.symm hne)).trans h1, hr⟩
    · have hb' : b < s.heap.objs.size := by
        have e' : b = e ∨ b = it := by simpa using hb
        rcases e' with q | q
        · rw [q]
          exact hel
        · rw [q]
          exact hil
      rw [upd_ne (Nat.ne_of_lt hb')]
      exact (hf b hb).1
  done := by
    intro X hP hw hK hc i pins s S H E I hf st hg
    subst hP hw hK
    obtain ⟨⟨old, he⟩, hit, hne, hil⟩ := st
    have ei : i = z.cps.size := Nat.le_antisymm hil hg
    subst ei
    obtain ⟨f0, f1, f2, f3, f4, f5⟩ := hf it (by simp)
    have D := PySem.Draws.text (prog := X.prog) (w := X.w) (A := X.A.in1) (I.ok.hd hc) it z t
    exact wpAny_pyNext_enum_endD D he hit fun h' eb => ⟨rfl, I.turned (t' := s.toks) (fun b o hb q => eb b o hb q) f0 f1 f3 f4 f5⟩
  self := fun A i s Q E st h => by
    obtain ⟨⟨_, he⟩, _⟩ := st
    exact wpAny_pyIter_enum he h
def iEnumS (ta : TA) : TI := fun S H R => ta S H fun vs H1 => ∃ z, vs = [.str z] ∧ R (IteS z) H1
theorem pi_enumS {X : Cx} {e : Expr} {ta : TA} {p pos tpos : Pos} {elts : List Expr} {kk : Nat} (hg : Gl X "enumerate") (hm : X.mg "enumerate" = none) (ha : PA X [e] ta) (hs : starEach [e] X.env = [(false, eval e X.env)] := by rfl) :
    PI X (.Tuple elts kk tpos) (.Call (.Name "enumerate" p) [e] [] pos) (iEnumS ta) := by
  refine ⟨fun pins s S H R I h => ?_⟩
  refine PyProof.Rows.Call_ (ld_blt I hg hm PyProof.Rows.boot_enumerate (PyProof.Rows.callWith_type1 (thn (ha.run pos pins s S H _ I h) fun us s1 ⟨vs, H1, I1, r1, q1⟩ => ?_) hs rfl))
  obtain ⟨z, ex, q⟩ := q1
  subst ex
  cases r1 with
  | cons r rr =>
    cases rr
    obtain ⟨t, rfl⟩ := r
    refine call_enumerate_str fun h' he hit hsz hk => wpAny_pyIter_enum he ?_
    have I2 : Inv X pins S H1 { s1 with heap := h' } := I1.kept (t' := s1.toks) hk
    refine ⟨s1.heap.objs.size + 1, [s1.heap.objs.size + 1, s1.heap.objs.size], _, _, H1, rfl, I2, turn_enumS z t (s1.heap.objs.size + 1) s1.heap.objs.size, ⟨⟨.none, he⟩, hit, Nat.succ_ne_self _, Nat.zero_le _⟩, fun b hb => ?_, q⟩
    have e' : b = s1.heap.objs.size + 1 ∨ b = s1.heap.objs.size := by simpa using hb
    have hle : s1.heap.objs.size ≤ b := by
      rcases e' with e' | e'
      · rw [e']
        exact Nat.le_succ _
      · rw [e']
        exact Nat.le_refl _
    have hn : H1 b = none := I1.hok.fresh hle
    have f := I1.fpOk hle hn
    exact ⟨f.1, f.2.1, f.2.2.1, f.2.2.2.1, f.2.2.2.2.1, f.2.2.2.2.2⟩
abbrev iENUM (K : Fr) (ta : TA) : TI := fun S H R => iEnum K ta S H R ∨ iEnumS ta S H R
theorem kENUM {X : Cx} (K : Fr) (h : X.K = K) {e : Expr} {ta : TA} {p pos tpos : Pos} {elts : List Expr} {kk : Nat} (hg : Gl X "enumerate") (hm : X.mg "enumerate" = none) (ha : PA X [e] ta) (hs : starEach [e] X.env = [(false, eval e X.env)] := by rfl) :
    PI X (.Tuple elts kk tpos) (.Call (.Name "enumerate" p) [e] [] pos) (iENUM K ta) := h ▸ PI.or (pi_enum hg hm ha hs) (pi_enumS hg hm ha hs)
section
variable {K : Fr} {B : Bs} {G : En} {P : Po} {te : TE} {ta : TA} {PI : En → List PyData → Prop}
def enD (ds : List PyData) : List PyData := (List.range ds.length).zipWith (fun (i : Nat) d => PyData.tuple [.int (i : Int), d]) ds
theorem enD_get {ds : List PyData} {i : Nat} {d : PyData} (h : (enD ds)[i]? = some d) : ∃ x, ds[i]? = some x ∧ d = .tuple [.int (i : Int), x] := by
  unfold enD at h
  rw [List.getElem?_zipWith] at h
  cases q : ds[i]? with
  | none =>
    rw [q] at h
    cases hr : (List.range ds.length)[i]? <;> rw [hr] at h <;> cases h
  | some x =>
    have hl := (List.getElem?_eq_some_iff.mp q).1
    rw [q, List.getElem?_range hl] at h
    exact ⟨x, rfl, (Option.some.inj h).symm⟩
theorem enD_len (ds : List PyData) : (enD ds).length = ds.length := by simp [enD]
theorem di_enumS (h : DA K B G ta fun G1 ws => ∃ z : List Nat, ws = [.d (.str (mkS z))] ∧ PI G1 (enD (z.map fun c => .str (mkS [c])))) : DI K B G (iENUM K ta) PI := fun S F H R I k => by
  refine .inr ?_
  show ta S H fun vs H1 => ∃ z, vs = [.str z] ∧ R (IteS z) H1
  refine h S F H _ I fun vs F1 H1 G1 ws e1 I1 hv ⟨z, hw, q⟩ => ?_
  subst hw
  obtain ⟨v, rfl, hv1⟩ := vws1 hv
  refine ⟨mkS z, by rw [dp_str hv1], k _ F1 H1 G1 _ e1 I1 (fun i H2 F2 eF eH => ⟨fun d hd => ?_, fun e => ?_⟩) q⟩
  · obtain ⟨x, hx, rfl⟩ := enD_get hd
    rw [List.getElem?_map] at hx
    obtain ⟨c, hc, rfl⟩ := Option.map_eq_some_iff.mp hx
    have hl := (List.getElem?_eq_some_iff.mp hc).1
    refine ⟨(show i < (mkS z).cps.size by simpa [mkS] using hl), fun x H' y => ?_⟩
    obtain ⟨T, c', rfl, hT, rfl, hc'⟩ := y
    have : c' = c := by
      have : z[i]? = some c' := by simpa [mkS] using hc'
      rw [hc] at this
      exact (Option.some.inj this).symm
    subst this
    refine ⟨upd F2 T (.tup [.int (i : Nat), .str ⟨#[c']⟩]), Ex.new (eH.free hT), Ex.new hT, eH.both _ _, fun b o h1 h2 => ?_, .tup upd_same (.cons (.int _) (.cons (.str _) .nil))⟩
    by_cases hb : b = T
    · rw [hb]
      exact hT
    · rw [upd_ne hb] at h1
      rw [h1] at h2
      cases h2
  · show (mkS z).cps.size ≤ i
    rw [enD_len, List.length_map] at e
    simp [mkS, e]
end
/-! ### t[::-1] -/
section
open PyProof.Rows
variable {prog : Program} {w : World} {A : Around} {E : Value → Shared → Prop} {s : Shared}
theorem rev_adj (n : Nat) : Builtin.Slice.sliceAdjust none none (-1) (n : Int) = ((n : Int) - 1, -1) := by
  unfold Builtin.Slice.sliceAdjust
  simp
theorem rev_places (n : Nat) : Builtin.Slice.slicePlaces ((n : Int) - 1) (-1) (-1) = n := by
  unfold Builtin.Slice.slicePlaces
  simp
  omega
theorem get_all {α : Type} : ∀ l : List α, (List.range l.length).filterMap (fun i => l[i]?) = l
  | [] => rfl
  | x :: l => by
    rw [List.length_cons, List.range_succ_eq_map, List.filterMap_cons, List.filterMap_map]
    show x :: (List.range l.length).filterMap (fun i => l[i]?) = x :: l
    rw [get_all l]
theorem fm_congr {α β : Type} {f g : α → Option β} : ∀ {l : List α}, (∀ m ∈ l, f m = g m) → l.filterMap f = l.filterMap g
  | [], _ => rfl
  | x :: l, h => by
    rw [List.filterMap_cons, List.filterMap_cons, h x List.mem_cons_self, fm_congr fun m hm => h m (List.mem_cons_of_mem _ hm)]
theorem rev_pick (xs : List Value) : ((List.range xs.toArray.size).filterMap fun (m : Nat) => xs.toArray[(((xs.toArray.size : Int) - 1) + (m : Int) * (-1)).toNat]?).toArray = xs.reverse.toArray := by
  congr 1
  have hs : xs.toArray.size = xs.length := rfl
  rw [hs]
  have e : ∀ m ∈ List.range xs.length, xs.toArray[(((xs.length : Nat) : Int) - 1 + (m : Int) * (-1)).toNat]? = xs.reverse[m]? := fun m hm => by
    have hl : m < xs.length := List.mem_range.mp hm
    rw [List.getElem?_reverse hl, show (((xs.length : Nat) : Int) - 1 + (m : Int) * (-1)).toNat = xs.length - 1 - m by omega]
    simp
  rw [fm_congr e]
  have g := get_all xs.reverse
  rw [List.length_reverse] at g
  exact g
theorem getItem_tuple_rev {t sl : Addr} {items : List Value} {u : Tok} {Q : Value → Shared → Prop} (ht : IsTup s.heap t items.toArray) (hs : s.heap.IsSliceOf sl .none .none (.int (-1) u))
    (h : Q (.ref s.heap.objs.size) { s with heap := s.heap.push { cls := .type "tuple", data := .seq items.reverse.toArray } }) (hsz : items.length ≤ sizeLine) : wpAny (model prog w) A (getItem (.ref t) (.ref sl)) Q E s := by
  have htake : sizeOk (.seq items.reverse.toArray) := by
    show items.reverse.toArray.size ≤ sizeLine
    rw [List.size_toArray, List.length_reverse]
    exact hsz
  obtain ⟨os, hos, hcs, hds⟩ := id hs
  have hTs : s.TypeIs (.ref sl) "slice" := ⟨os, hos, hcs⟩
  unfold getItem
  try with_reducible refine wpAny_holding ?_
  first | refine wpAny_bind (wpAny_pure ?_) | skip
  refine wpAny_bind (wpAny_sequenceKey ht.typeIs (by decide) ?_)
  refine wpAny_bind (wpAny_callSpecial?_slot (name := Str.ofString "__getitem__") ht.typeIs PyProof.Rows.slot_tuple_getitem
    (wpAny_call_entry PyProof.Rows.slot_tuple_getitem ht.typeIs entry_tuple_getitem ?_ (args_tuple_getitem _ _)))
  show wpAny _ _ (Builtin.Tuple.tupleItemsOf (.ref t) >>= _) _ _ s
  refine wpAny_bind (tupleItemsOf_ ht ?_)
  refine wpAny_bind (wpAny_typeOf hTs ?_)
  rw [if_pos (by decide)]
  have ap : ∀ {A : Around} {E : Value → Shared → Prop} {Q : Int × Int × Nat → Shared → Prop}, Q ((items.length : Int) - 1, -1, items.length) s → wpAny (model prog w) A (Builtin.Slice.sliceApplied (.ref sl) (pure (items.toArray.size : Int))) Q E s := fun {A E Q} q => by
    unfold Builtin.Slice.sliceApplied Builtin.Slice.sliceFields
    refine wpAny_bind (wpAny_bind (wpAny_field hos hds (x := .none) rfl (wpAny_bind (wpAny_field hos hds (x := .none) rfl (wpAny_bind (wpAny_field hos hds (x := .int (-1) u) rfl (wpAny_pure ?_)))))))
    refine wpAny_bind (slicePart_int ?_)
    show wpAny _ _ (if ((-1 : Int) == 0) = true then _ else _) _ _ s
    rw [if_neg (by decide)]
    refine wpAny_bind (slicePart_none (wpAny_bind (slicePart_none (wpAny_bind (wpAny_pure ?_)))))
    show wpAny _ _ (match Builtin.Slice.sliceAdjust none none (-1) (items.toArray.size : Int) with | (lo, hi) => pure (lo, (-1 : Int), Builtin.Slice.slicePlaces lo hi (-1))) _ _ s
    rw [rev_adj]
    show wpAny _ _ (pure (((items.toArray.size : Nat) : Int) - 1, (-1 : Int), Builtin.Slice.slicePlaces (((items.toArray.size : Nat) : Int) - 1) (-1) (-1))) _ _ s
    rw [rev_places]
    exact wpAny_pure q
  refine wpAny_bind (ap ?_)
  show wpAny _ _ (if (((items.length : Int) - 1) == 0 && (-1 : Int) == 1 && items.length == items.toArray.size) = true then _ else _) _ _ s
  rw [if_neg (by rw [show ((-1 : Int) == 1) = false from rfl]; simp)]
  have hp := rev_pick items
  rw [List.size_toArray] at hp
  rw [hp]
  first
    | exact wpAny_bind (m := Builtin.Tuple.tupleExact _) (wpAny_newObj_type (wpAny_pure ⟨_, rfl, wpAny_pure h⟩) htake)
    | exact wpAny_bind (m := Builtin.Tuple.tupleExact _) (wpAny_newObj_type (wpAny_bind (wpAny_pure (wpAny_pure ⟨_, rfl, wpAny_pure h⟩))) htake)
    | exact wpAny_bind (wpAny_bind (m := Builtin.Tuple.tupleExact _) (wpAny_newObj_type (wpAny_pure (wpAny_pure ⟨_, rfl, wpAny_pure h⟩)) htake))
    | exact wpAny_bind (wpAny_bind (m := Builtin.Tuple.tupleExact _) (wpAny_newObj_type (wpAny_pure ⟨_, rfl, wpAny_pure h⟩) htake))
end
def tRevT (K : Fr) (te : TE) : TE := fun S H Q => te S H fun x H1 => ∃ a xs, x = .ref a ∧ SqT K H1 a xs ∧ ∀ p, H1 p = none → Q (.ref p) (upd H1 p (.tup xs.reverse))
section
open PySem.Spec PyProof.Rows
variable {X : Cx}
theorem pe_revT {e : Expr} {te : TE} {k : Nat} {p1 p2 p3 pos : Pos} (he : PE X e te) : PE X (.Subscript e (.Slice none none (some (.UnaryOp .USub (.Constant (.int 1) k p1) p2)) p3) pos) (tRevT X.K te) := by
  refine ⟨fun pins s S H Q I h => ?_⟩
  refine PyProof.Rows.Subscript_ (thn (he.run pins s S H _ I h) fun v s1 ⟨x, H1, I1, r1, q1⟩ => ?_)
  obtain ⟨a, xs, ex, hx, q⟩ := q1
  subst ex
  cases r1
  have hst : PO X (some (.UnaryOp .USub (.Constant (.int 1) k p1) p2)) (tPart (tUn (rU fun i => .int (-i)) (tC (.int 1)))) := po_some (pe_un un_neg pe_int)
  refine wpAny_Slice (thn (po_none.run pins s1 S H1 (fun o H2 => o = none ∧ H2 = H1) I1 ⟨rfl, rfl⟩) fun vl s2 ⟨l, H2, I2, pl, el, e2⟩ => ?_)
  subst el e2
  refine thn (po_none.run pins s2 S H2 (fun o H3 => o = none ∧ H3 = H2) I2 ⟨rfl, rfl⟩) fun vu s3 ⟨u, H3, I3, pu, eu, e3⟩ => ?_
  subst eu e3
  refine thn (hst.run pins s3 S H3 (fun o H4 => o = some (-1) ∧ H4 = H3) I3 ⟨1, rfl, -1, rfl, rfl, rfl⟩) fun vs s4 ⟨o, H4, I4, ps, eo, e4⟩ => ?_
  subst eo e4
  cases pl
  cases pu
  cases ps with
  | int i t =>
  have I5 : Inv X pins S H4 { s4 with heap := s4.heap.push { cls := .type "slice", data := .fields #[.none, .none, .int (-1) t] } } := I4.kept (t' := s4.toks) fun b ob q => Heap.get?_push_of_some _ q
  obtain ⟨its, r, ht, hz⟩ := I5.tuple hx
  have hlen := r.length
  show wpAny (model X.prog X.w) X.A (subscriptTail e (.Slice none none (some (.UnaryOp .USub (.Constant (.int 1) k p1) p2)) p3) (.ref a) (.ref s4.heap.objs.size)) (EP X pins S Q) X.xe { s4 with heap := s4.heap.push { cls := .type "slice", data := .fields #[.none, .none, .int (-1) t] } }
  refine PyProof.Rows.tail_any (ops := [.ref a, .ref s4.heap.objs.size]) ht.typeIs (PyProof.Rows.slot_tuple_getitem.lookup) ?_ (by with_unfolding_all rfl)
  refine getItem_tuple_rev ht (Heap.IsSliceOf.new _ .none .none (.int (-1) t)) ?_ (by omega)
  refine ⟨.ref _, _, I5.laid (t' := s4.toks) (o := .tup xs.reverse) (fun b ob q => Heap.get?_push_of_some _ q) (Nat.le_refl _) ?_, rfl, q _ (I5.hok.fresh (Nat.le_refl _))⟩
  exact ⟨by rw [List.length_reverse]; exact hz, _, r.reverse, ⟨_, Heap.get?_push_size _ rfl, rfl, 0, rfl⟩⟩
end
theorem kREVT {X : Cx} (K : Fr) (h : X.K = K) {e : Expr} {te : TE} (he : PE X e (tRevT X.K te)) : PE X e (tRevT K te) := h ▸ he
section
variable {K : Fr} {B : Bs} {G : En} {P : Po} {te : TE}
theorem dw_revT (h : DW K B G te fun G1 r1 => PW r1 fun w => ∃ ds, w = .d (.tuple ds) ∧ P G1 (.p (.d (.tuple ds.reverse)))) : DW K B G (tRevT K te) P := fun S F H Q I k => by
  show te S H fun x H1 => ∃ a xs, x = .ref a ∧ SqT K H1 a xs ∧ ∀ p, H1 p = none → Q (.ref p) (upd H1 p (.tup xs.reverse))
  refine dw_run (k' := fun G1 w => ∃ ds, w = .d (.tuple ds) ∧ P G1 (.p (.d (.tuple ds.reverse)))) h I fun v F1 H1 G1 w e1 I1 hv ⟨ds, hw, q⟩ => ?_
  subst hw
  obtain ⟨p, us, rfl, hp, ha⟩ := dp_tup hv
  exact ⟨p, us, rfl, SqT.of (I1.ex _ _ hp), fun c hc => ct_T (k.mono e1) I1 hc (da_rev ha) q⟩
/-! ### tuple(range(n)), list(range(n)) -/
theorem rgV_da {F : Hp} (a b : Int) : DqAll K F (rgV a b) ((rngD a (b - a).toNat)) := by
  have e1 : rgV a b = ((List.range (b - a).toNat).map fun (i : Nat) => a + (i : Int)).map V.int := by
    unfold rgV
    rw [List.map_map]
    rfl
  have e2 : rngD a (b - a).toNat = ((List.range (b - a).toNat).map fun (i : Nat) => a + (i : Int)).map PyData.int := by
    unfold rngD
    rw [List.map_map]
    rfl
  rw [e1, e2]
  exact da_ints _
theorem dw_tupRg1 (h : DW K B G te fun G1 r1 => PW r1 fun w => ∃ n : Nat, w = .d (.int (n : Int)) ∧ n ≤ 1000000 ∧ P G1 (.p (.d (.tuple (rngD 0 n))))) : DW K B G (tTupRg (tRg1 te)) P := fun S F H Q I k => by
  show te S H fun x H1 => ∃ n, x = .int n ∧ (RgOk 0 n ∧ ∀ q, H1 q = none → Q (.ref q) (upd H1 q (.tup (rgV 0 n))))
  refine dw_run (k' := fun G1 w => ∃ n : Nat, w = .d (.int (n : Int)) ∧ n ≤ 1000000 ∧ P G1 (.p (.d (.tuple (rngD 0 n))))) h I fun v F1 H1 G1 w e1 I1 hv ⟨n, hw, hn, q⟩ => ?_
  subst hw
  have e : ((n : Int) - 0).toNat = n := by omega
  refine ⟨n, dp_int hv, RgOk.of_le (by omega) (by omega) (by omega) (by omega), fun c hc => ?_⟩
  have hd := rgV_da (K := K) (F := F1) 0 (n : Int)
  rw [e] at hd
  exact ct_T (k.mono e1) I1 hc hd q
theorem dw_lstRg1 (h : DW K B G te fun G1 r1 => PW r1 fun w => ∃ n : Nat, w = .d (.int (n : Int)) ∧ n ≤ 1000000 ∧ P G1 (.fr (.o none (rngD 0 n)))) : DW K B G (tLstRg (tRg1 te)) P := fun S F H Q I k => by
  show te S H fun x H1 => ∃ n, x = .int n ∧ (RgOk 0 n ∧ ∀ q, H1 q = none → Q (.ref q) (upd H1 q (.lst (rgV 0 n))))
  refine dw_run (k' := fun G1 w => ∃ n : Nat, w = .d (.int (n : Int)) ∧ n ≤ 1000000 ∧ P G1 (.fr (.o none (rngD 0 n)))) h I fun v F1 H1 G1 w e1 I1 hv ⟨n, hw, hn, q⟩ => ?_
  subst hw
  have e : ((n : Int) - 0).toNat = n := by omega
  refine ⟨n, dp_int hv, RgOk.of_le (by omega) (by omega) (by omega) (by omega), fun c hc => ?_⟩
  have hd := rgV_da (K := K) (F := F1) 0 (n : Int)
  rw [e] at hd
  exact ct_L (k.mono e1) I1 hc hd q
/-! ### isinstance of data -/
def tyN : PyData → String
  | .none => "NoneType"
  | .bool _ => "bool"
  | .int _ => "int"
  | .str _ => "str"
  | .list _ => "list"
  | .tuple _ => "tuple"
  | .dict _ => "dict"
theorem ty_dq {H : Hp} {v : V} {d : PyData} (h : Dq K H v d) : TyX K H v (.type (tyN d)) := by
  cases h with
  | non => exact .base .non
  | bl b => exact .base (.bl b)
  | int i => exact .base (.int i)
  | str x => exact .base (.str x)
  | lst e _ => exact .base (.lst e)
  | tup e _ => exact .base (.tup e)
def isiD (d : PyData) (T : String) : Bool := tyN d == T || (tyN d == "bool" && T == "int")
theorem kit_tuple (d : PyData) : kitB (tyN d) "tuple" = some (isiD d "tuple") := by
  have h : ∀ n ∈ ["NoneType", "bool", "int", "str", "list", "tuple", "dict"], kitB n "tuple" = some (n == "tuple" || (n == "bool" && "tuple" == "int")) := by decide +kernel
  exact h _ (by cases d <;> simp [tyN])
theorem kit_list (d : PyData) : kitB (tyN d) "list" = some (isiD d "list") := by
  have h : ∀ n ∈ ["NoneType", "bool", "int", "str", "list", "tuple", "dict"], kitB n "list" = some (n == "list" || (n == "bool" && "list" == "int")) := by decide +kernel
  exact h _ (by cases d <;> simp [tyN])
theorem kit_str (d : PyData) : kitB (tyN d) "str" = some (isiD d "str") := by
  have h : ∀ n ∈ ["NoneType", "bool", "int", "str", "list", "tuple", "dict"], kitB n "str" = some (n == "str" || (n == "bool" && "str" == "int")) := by decide +kernel
  exact h _ (by cases d <;> simp [tyN])
theorem kit_int (d : PyData) : kitB (tyN d) "int" = some (isiD d "int") := by
  have h : ∀ n ∈ ["NoneType", "bool", "int", "str", "list", "tuple", "dict"], kitB n "int" = some (n == "int" || (n == "bool" && "int" == "int")) := by decide +kernel
  exact h _ (by cases d <;> simp [tyN])
theorem kit_bool (d : PyData) : kitB (tyN d) "bool" = some (isiD d "bool") := by
  have h : ∀ n ∈ ["NoneType", "bool", "int", "str", "list", "tuple", "dict"], kitB n "bool" = some (n == "bool" || (n == "bool" && "bool" == "int")) := by decide +kernel
  exact h _ (by cases d <;> simp [tyN])
theorem rn_isi {w1 : W} {d : PyData} {T : String} {b : Bool} (e1 : wd G w1 = some d) (e : kitB (tyN d) T = some b) (q : P G (.p (.d (.bool b)))) : RWn K B G (rIsi K) [w1, .ty T] P := fun S F H Q vs I hv k => by
  obtain ⟨v, v', rfl, h1, h2⟩ := vws2 hv
  have h2 : v' = .ty T := h2
  subst h2
  exact ⟨v, .ty T, _, _, b, rfl, .ty T, ty_dq (wd_dq I h1 e1), kit_ty e, ct_d k I (.bl _) q⟩
end
end DL
namespace DL
open PySem L2
section
variable {K : Fr} {B : Bs} {G : En} {P : Po} {ta tb tc te : TE} {r r' : R2}
/-! ### a op b op c -/
theorem dw_chain (h : DW K B G ta fun G1 r1 => PW r1 fun w1 => DW K B G1 tb fun G2 r2 => PW r2 fun w2 => RW2 K B G2 r w1 w2 fun G3 r3 => PW r3 fun w3 => ∃ b, w3 = .d (.bool b) ∧ if b = true then DW K B G3 tc fun G4 r4 => PW r4 fun w4 => RW2 K B G4 r' w2 w4 P else P G3 (.p (.d (.bool false)))) :
    DW K B G (tChain r r' ta tb tc) P := fun S F H Q I k => by
  show ta S H fun x H1 => tb S H1 fun y H2 => r x y H2 fun z H3 => ∃ k, z = .bl k ∧ (if k = true then tc S H3 fun w' H4 => r' y w' H4 Q else Q (.bl false) H3)
  refine dw_run (k' := fun G1 w1 => DW K B G1 tb fun G2 r2 => PW r2 fun w2 => RW2 K B G2 r w1 w2 fun G3 r3 => PW r3 fun w3 => ∃ b, w3 = .d (.bool b) ∧ if b = true then DW K B G3 tc fun G4 r4 => PW r4 fun w4 => RW2 K B G4 r' w2 w4 P else P G3 (.p (.d (.bool false)))) h I fun v1 F1 H1 G1 w1 e1 I1 a1 q1 => ?_
  refine dw_run (k' := fun G2 w2 => RW2 K B G2 r w1 w2 fun G3 r3 => PW r3 fun w3 => ∃ b, w3 = .d (.bool b) ∧ if b = true then DW K B G3 tc fun G4 r4 => PW r4 fun w4 => RW2 K B G4 r' w2 w4 P else P G3 (.p (.d (.bool false)))) q1 I1 fun v2 F2 H2 G2 w2 e2 I2 a2 q2 => ?_
  refine q2 S F2 H2 _ v1 v2 I2 (a1.mono e2) a2 fun v3 F3 H3 G3 r3 e3 V3 q3 => ?_
  obtain ⟨F4, w4, e4, I4, a4, b, rfl, q4⟩ := pw_ok V3 q3
  refine ⟨b, dp_bl a4, ?_⟩
  cases b with
  | false =>
    show Q (.bl false) H3
    exact ct_d (k.mono (((e1.trans e2).trans e3).trans e4)) I4 (.bl false) q4
  | true =>
    show tc S H3 fun w' H4 => r' v2 w' H4 Q
    refine dw_run (k' := fun G4 w4 => RW2 K B G4 r' w2 w4 P) q4 I4 fun v5 F5 H5 G5 w5 e5 I5 a5 q5 => ?_
    exact q5 S F5 H5 Q v2 v5 I5 (a2.mono ((e3.trans e4).trans e5)) a5 (k.mono ((((e1.trans e2).trans e3).trans e4).trans e5))
/-! ### sorted pairs -/
def leP (p q : Int × Int) : Bool := !SrtO.lexB q p
def srtP (ps : List (Int × Int)) : List (Int × Int) := ps.mergeSort leP
def pD (p : Int × Int) : PyData := .tuple [.int p.1, .int p.2]
theorem leP_tr (a b c : Int × Int) : leP a b = true → leP b c = true → leP a c = true := by
  unfold leP SrtO.lexB
  intro h1 h2
  simp only [Bool.not_eq_true'] at *
  split at h1 <;> split at h2 <;> split <;> simp at * <;> omega
theorem leP_tot (a b : Int × Int) : (leP a b || leP b a) = true := by
  unfold leP SrtO.lexB
  split <;> split <;> simp <;> omega
theorem srtP_perm (ps : List (Int × Int)) : (srtP ps).Perm ps := List.mergeSort_perm _ _
theorem srtP_pw (ps : List (Int × Int)) : (srtP ps).Pairwise fun a b => leP a b = true := List.pairwise_mergeSort (le := leP) leP_tr leP_tot ps
theorem leP_anti {a b : Int × Int} (h1 : leP a b = true) (h2 : leP b a = true) : a = b := by
  unfold leP SrtO.lexB at *
  simp only [Bool.not_eq_true'] at *
  apply Prod.ext
  · split at h1 <;> split at h2 <;> simp at * <;> omega
  · split at h1 <;> split at h2 <;> simp at * <;> omega
theorem pwP_eq : ∀ {l m : List (Int × Int)}, l.Pairwise (fun a b => leP a b = true) → m.Pairwise (fun a b => leP a b = true) → l.Perm m → l = m
  | [], m, _, _, h => (List.nil_perm.mp h).symm ▸ rfl
  | x :: l, [], _, _, h => by simpa using h.length_eq
  | x :: l, y :: m, h1, h2, h => by
    have hx : x ∈ y :: m := h.mem_iff.mp List.mem_cons_self
    have hy : y ∈ x :: l := h.mem_iff.mpr List.mem_cons_self
    have a1 := List.pairwise_cons.mp h1
    have a2 := List.pairwise_cons.mp h2
    have e : x = y := by
      rcases List.mem_cons.mp hx with z | z
      · exact z
      · rcases List.mem_cons.mp hy with z' | z'
        · exact z'.symm
        · exact leP_anti (a1.1 y z') (a2.1 x z)
    subst e
    rw [pwP_eq a1.2 a2.2 h.cons_inv]
def kP (H : Hp) (v : V) : Int × Int := match v with
  | .ref t => match H t with
    | some (.tup [.int i, .int j]) => (i, j)
    | _ => (0, 0)
  | _ => (0, 0)
theorem pairs_at {H : Hp} : ∀ {vs : List V} {ps : List (Int × Int)}, DqAll K H vs (ps.map pD) → vs.map (kP H) = ps ∧ ∀ x ∈ vs, ∃ t, x = V.ref t ∧ H t = some (.tup [.int (kP H x).1, .int (kP H x).2])
  | [], [], _ => ⟨rfl, fun x h => nomatch h⟩
  | v :: vs, p :: ps, h => by
    cases h with
    | cons a b =>
      obtain ⟨e1, e2⟩ := pairs_at b
      obtain ⟨t, us, rfl, ht, hu⟩ := dp_tup a
      cases hu with
      | cons u1 hu =>
        cases hu with
        | cons u2 hu =>
          cases hu
          obtain rfl := dp_int u1
          obtain rfl := dp_int u2
          have ek : kP H (.ref t) = p := by
            show (match H t with
              | some (.tup [.int i, .int j]) => (i, j)
              | _ => (0, 0)) = p
            rw [ht]
          refine ⟨by rw [List.map_cons, ek, e1], fun x hx => ?_⟩
          rcases List.mem_cons.mp hx with rfl | hx
          · exact ⟨t, rfl, by rw [ek]; exact ht⟩
          · exact e2 x hx
theorem da_of_pairs {H F : Hp} (e : Ex F H) : ∀ {ys : List V}, (∀ x ∈ ys, ∃ t, x = V.ref t ∧ F t = some (.tup [.int (kP H x).1, .int (kP H x).2])) → DqAll K F ys ((ys.map (kP H)).map pD)
  | [], _ => .nil
  | y :: ys, h => by
    obtain ⟨t, ht, hy⟩ := h y List.mem_cons_self
    refine .cons ?_ (da_of_pairs e fun x hx => h x (List.mem_cons_of_mem _ hx))
    rw [ht] at hy ⊢
    exact .tup hy (.cons (.int _) (.cons (.int _) .nil))
theorem rn_sortP {w1 : W} {ps : List (Int × Int)} (e1 : wd G w1 = some (.list (ps.map pD))) (q : P G (.fr (.o none ((srtP ps).map pD)))) : RWn K B G (rSortedPO K) [w1] P := fun S F H Q vs I hv k => by
  obtain ⟨v, rfl, h1⟩ := vws1 hv
  obtain ⟨p, us, rfl, hp, ha⟩ := wd_list I h1 e1
  obtain ⟨em, et⟩ := pairs_at (da_mono I.ex ha)
  obtain ⟨_, et2⟩ := pairs_at ha
  have kk : ∀ x ∈ us, kP F x = kP H x := fun x hx => by
    obtain ⟨t, rfl, ht⟩ := et2 x hx
    obtain ⟨t', e, ht'⟩ := et _ hx
    cases e
    have := I.ex _ _ ht
    rw [this] at ht'
    have := (HO.tup.inj (Option.some.inj ht'))
    simp only [List.cons.injEq, V.int.injEq, and_true] at this
    exact Prod.ext this.1 this.2
  refine ⟨p, us, kP H, rfl, SqL.of hp, et, fun ys c hs hb hc => ?_⟩
  have hperm := hb.perm
  have e3 : ys.map (kP H) = srtP ps := by
    refine pwP_eq ?_ (srtP_pw ps) ((hperm.map (kP H)).trans ?_)
    · refine List.pairwise_map.mpr ?_
      refine hs.imp fun {a b} h => ?_
      show (!SrtO.lexB (kP H b) (kP H a)) = true
      rw [show SrtO.lexB (kP H b) (kP H a) = false from h]
      rfl
    · rw [em]
      exact (srtP_perm ps).symm
  have hd : DqAll K F ys ((srtP ps).map pD) := by
    rw [← e3]
    refine da_of_pairs I.ex fun x hx => ?_
    have hm := hperm.mem_iff.mp hx
    obtain ⟨t, rfl, ht⟩ := et2 x hm
    exact ⟨t, rfl, by rw [← kk _ hm]; exact ht⟩
  exact ct_L k I hc hd q
end

/-! ### an own dict whose keys are tuples of ints and texts -/
def keyD : Key → PyData
  | .inl i => .int i
  | .inr s => .str s
def lkD (kvs : List (List Key × PyData)) (k : List Key) : Option PyData := (kvs.find? fun kv => decide (kv.1 = k)).map (·.2)
def putD (kvs : List (List Key × PyData)) (k : List Key) (d : PyData) : List (List Key × PyData) :=
  if (kvs.any fun kv => decide (kv.1 = k)) = true then kvs.map fun kv => if kv.1 = k then (kv.1, d) else kv else kvs ++ [(k, d)]
section
variable {K : Fr} {B : Bs} {G : En} {P : Po} {td ty tv te : TE} {E : De} {S : St} {F H : Hp}
theorem keys_eq : ∀ {vs : List V} {ks : List Key}, DqAll K H vs (ks.map keyD) → vs = ks.map kV
  | [], [], _ => rfl
  | v :: vs, k :: ks, h => by
    cases h with
    | cons a b =>
      rw [keys_eq b]
      cases k with
      | inl i => rw [dp_int a]; rfl
      | inr s => rw [dp_str a]; rfl
theorem key_at {v : V} {ks : List Key} (h : Dq K F v (.tuple (ks.map keyD))) (e : Ex F H) : ∃ b, v = .ref b ∧ H b = some (.tup (ks.map kV)) := by
  obtain ⟨b, vs, rfl, hb, ha⟩ := dp_tup h
  rw [keys_eq ha] at hb
  exact ⟨b, rfl, e _ _ hb⟩
theorem lk_val {k : List Key} : ∀ {kws : List (List Key × V)} {kvs : List (List Key × PyData)}, kws.map (·.1) = kvs.map (·.1) → DqAll K F (kws.map (·.2)) (kvs.map (·.2)) → (valV kws k).isSome = (lkD kvs k).isSome ∧ ∀ d, lkD kvs k = some d → ∃ v, valV kws k = some v ∧ Dq K F v d
  | [], [], _, _ => ⟨rfl, fun d h => nomatch h⟩
  | (a, v) :: kws, (b, e) :: kvs, h1, h2 => by
    cases h2 with
    | cons u1 u2 =>
      have h3 := List.cons.inj h1
      obtain ⟨i1, i2⟩ := lk_val (k := k) h3.2 u2
      have ea : a = b := h3.1
      subst ea
      by_cases hk : a = k
      · subst hk
        refine ⟨by rw [valV_pos rfl]; simp [lkD], fun d hd => ⟨v, valV_pos rfl, ?_⟩⟩
        have : d = e := by
          simp [lkD] at hd
          exact hd.symm
        rw [this]
        exact u1
      · have e1 : lkD ((a, e) :: kvs) k = lkD kvs k := by simp [lkD, List.find?_cons, hk]
        rw [valV_neg hk, e1]
        exact ⟨i1, i2⟩
theorem put_keys {k : List Key} {v : V} {d : PyData} : ∀ {kws : List (List Key × V)} {kvs : List (List Key × PyData)}, kws.map (·.1) = kvs.map (·.1) → DqAll K F (kws.map (·.2)) (kvs.map (·.2)) → Dq K F v d →
    (putK kws k v).map (·.1) = (putD kvs k d).map (·.1) ∧ DqAll K F ((putK kws k v).map (·.2)) ((putD kvs k d).map (·.2)) := by
  intro kws kvs h1 h2 hd
  have hany : ∀ {kws : List (List Key × V)} {kvs : List (List Key × PyData)}, kws.map (·.1) = kvs.map (·.1) → (kws.any fun kv => decide (kv.1 = k)) = (kvs.any fun kv => decide (kv.1 = k)) := by
    intro kws kvs h
    have e1 : (kws.any fun kv => decide (kv.1 = k)) = (kws.map (·.1)).any fun x => decide (x = k) := by rw [List.any_map]; rfl
    have e2 : (kvs.any fun kv => decide (kv.1 = k)) = (kvs.map (·.1)).any fun x => decide (x = k) := by rw [List.any_map]; rfl
    rw [e1, e2, h]
  have hrep : ∀ {kws : List (List Key × V)} {kvs : List (List Key × PyData)}, kws.map (·.1) = kvs.map (·.1) → DqAll K F (kws.map (·.2)) (kvs.map (·.2)) →
      (kws.map fun kv => if kv.1 = k then (kv.1, v) else kv).map (·.1) = (kvs.map fun kv => if kv.1 = k then (kv.1, d) else kv).map (·.1) ∧ DqAll K F ((kws.map fun kv => if kv.1 = k then (kv.1, v) else kv).map (·.2)) ((kvs.map fun kv => if kv.1 = k then (kv.1, d) else kv).map (·.2)) := by
    intro kws
    induction kws with
    | nil =>
      intro kvs h1 h2
      cases kvs with
      | nil => exact ⟨rfl, .nil⟩
      | cons _ _ => cases h1
    | cons a kws ih =>
      intro kvs h1 h2
      cases kvs with
      | nil => cases h1
      | cons b kvs =>
        have h3 := List.cons.inj h1
        have h31 : a.1 = b.1 := h3.1
        cases h2 with
        | cons u1 u2 =>
          obtain ⟨i1, i2⟩ := ih h3.2 u2
          simp only [List.map_cons]
          by_cases hk : a.1 = k
          · rw [if_pos hk, if_pos (h31 ▸ hk)]
            exact ⟨by rw [i1, h31], .cons hd i2⟩
          · rw [if_neg hk, if_neg (h31 ▸ hk)]
            exact ⟨by rw [i1, h31], .cons u1 i2⟩
  unfold putK putD
  rw [hany h1]
  split
  · exact hrep h1 h2
  · refine ⟨by rw [List.map_append, List.map_append, h1]; rfl, ?_⟩
    rw [List.map_append, List.map_append]
    exact da_app h2 (.cons hd .nil)
theorem Iv.dct (I : Iv K B G S F H) {i : Nat} {kvs : List (List Key × PyData)} (h : G[i]? = some (.t kvs)) : ∃ p kws, S[i]? = some (some (.ref p)) ∧ H p = some (.dT kws) ∧ kws.map (·.1) = kvs.map (·.1) ∧ DqAll K F (kws.map (·.2)) (kvs.map (·.2)) := by
  obtain ⟨A, h1, _, _⟩ := I.own
  rcases h1 i _ h with e | ⟨v, h1, p, kws, rfl, h5, h6, h7, _⟩
  · cases e
  · exact ⟨p, kws, h1, h5, h6, h7⟩
/-- slot i's own thing is another one now (of the same address) -/
theorem Iv.mutG {i : Nat} {s s' : Sl} {p : Addr} {ob : HO} (I : Iv K B G S F H) (hi : G[i]? = some s) (hS : S[i]? = some (some (.ref p))) (hA : ∀ A, SvR K F H (.ref p) A s → A p) (hn : s ≠ .un) (h : ∀ A : Addr → Prop, A p → SvR K F H (.ref p) A s → SvR K F (upd H p ob) (.ref p) A s') : Iv K B (G.set i s') S F (upd H p ob) := by
  obtain ⟨A, h1, h2, h3⟩ := I.own
  obtain ⟨u, z1, z2⟩ := (h1 i _ hi).resolve_left hn
  rw [hS] at z1
  cases z1
  have hAp := hA _ z2
  obtain ⟨y1, y2, y3⟩ := h3 i p hAp
  refine ⟨I.ex.mut y1 ob, I.f0, fun b o hb hm => ?_, I.nw, fun b hb => ?_, by simpa using I.len, A, fun j s2 hj => ?_, h2, fun j b hb => ?_⟩
  · by_cases e : b = p
    · subst e
      rcases y3 with z | z
      · rw [hb] at z
        cases z
      · exact absurd z hm
    · rw [upd_ne e]
      exact I.fr b o hb hm
  · by_cases e : b = p
    · subst e
      rw [upd_same]
      exact fun z => by cases z
    · rw [upd_ne e]
      exact I.st b hb
  · by_cases e : i = j
    · subst e
      obtain ⟨rfl, _⟩ := set_same hj
      exact .inr ⟨_, hS, h _ hAp z2⟩
    · rw [List.getElem?_set_ne e] at hj
      rcases h1 j s2 hj with z | ⟨u, x1, x2⟩
      · exact .inl z
      · refine .inr ⟨u, x1, slr_stab x2 (Ex.refl _) fun b hb => ?_⟩
        refine upd_ne fun z => ?_
        subst z
        exact e (h2 _ _ _ hAp hb)
  · refine ⟨(h3 j b hb).1, ?_, (h3 j b hb).2.2⟩
    by_cases e : b = p
    · subst e
      rw [upd_same]
      exact fun z => by cases z
    · rw [upd_ne e]
      exact (h3 j b hb).2.1
theorem dw_slT {i : Nat} {kvs : List (List Key × PyData)} (h : G[i]? = some (.t kvs)) (q : P G (.p (.sl i))) : DW K B G (tVar i) P := fun S F H Q I k => by
  obtain ⟨p, kws, e, _⟩ := I.dct h
  exact ⟨_, e, k _ F H G (.p (.sl i)) (Ex.refl F) ⟨I, e⟩ q⟩
theorem dw_newT (q : P G (.fr (.t []))) : DW K B G tDNewT P := fun S F H Q I k => by
  intro p hp
  refine k (.ref p) F _ G (.fr (.t [])) (Ex.refl F) ?_ q
  refine I.add (Ex.refl F) (Ex.new hp) (I.ex.trans (Ex.new hp)) (fun b o h n => ?_) _ (fun a => a = p) (.inr ⟨_, rfl, p, [], rfl, upd_same, rfl, .nil, rfl⟩) fun a e => ?_
  · rw [h] at n
    cases n
  · have e : a = p := e
    subst e
    exact ⟨hp, I.fnone hp, by rw [upd_same]; exact fun z => (by cases z)⟩
theorem dw_dIn (h : DW K B G ty fun G1 r1 => PW r1 fun w1 => DW K B G1 td fun G2 r2 => PW r2 fun w2 => ∃ i ks kvs, w1 = .d (.tuple (ks.map keyD)) ∧ w2 = .sl i ∧ G2[i]? = some (.t kvs) ∧ P G2 (.p (.d (.bool (lkD kvs ks).isSome)))) : DW K B G (tDIn ty td) P := fun S F H Q I k => by
  show ty S H fun y H1 => td S H1 fun x H2 => ∃ a o, x = .ref a ∧ DGet H2 a y o ∧ Q (.bl o.isSome) H2
  refine dw_run (k' := fun G1 w1 => DW K B G1 td fun G2 r2 => PW r2 fun w2 => ∃ i ks kvs, w1 = .d (.tuple (ks.map keyD)) ∧ w2 = .sl i ∧ G2[i]? = some (.t kvs) ∧ P G2 (.p (.d (.bool (lkD kvs ks).isSome)))) h I fun v1 F1 H1 G1 w1 e1 I1 a1 q1 => ?_
  refine dw_run (k' := fun G2 w2 => ∃ i ks kvs, w1 = .d (.tuple (ks.map keyD)) ∧ w2 = .sl i ∧ G2[i]? = some (.t kvs) ∧ P G2 (.p (.d (.bool (lkD kvs ks).isSome)))) q1 I1 fun v2 F2 H2 G2 w2 e2 I2 a2 ⟨i, ks, kvs, x1, x2, hi, q2⟩ => ?_
  subst x1 x2
  obtain ⟨b, rfl, hb⟩ := key_at (dp_mono e2 a1) I2.ex
  obtain ⟨p, kws, hS, hp, hk, hv⟩ := I2.dct hi
  have a2 : S[i]? = some (some v2) := a2
  rw [hS] at a2
  cases a2
  refine ⟨p, _, rfl, DGet.t hp hb, ?_⟩
  rw [(lk_val (k := ks) hk hv).1]
  exact ct_d (k.mono (e1.trans e2)) I2 (.bl _) q2
theorem dw_dNotIn (h : DW K B G ty fun G1 r1 => PW r1 fun w1 => DW K B G1 td fun G2 r2 => PW r2 fun w2 => ∃ i ks kvs, w1 = .d (.tuple (ks.map keyD)) ∧ w2 = .sl i ∧ G2[i]? = some (.t kvs) ∧ P G2 (.p (.d (.bool (!(lkD kvs ks).isSome))))) : DW K B G (tDNotIn ty td) P := fun S F H Q I k => by
  show ty S H fun y H1 => td S H1 fun x H2 => ∃ a o, x = .ref a ∧ DGet H2 a y o ∧ Q (.bl (!o.isSome)) H2
  refine dw_run (k' := fun G1 w1 => DW K B G1 td fun G2 r2 => PW r2 fun w2 => ∃ i ks kvs, w1 = .d (.tuple (ks.map keyD)) ∧ w2 = .sl i ∧ G2[i]? = some (.t kvs) ∧ P G2 (.p (.d (.bool (!(lkD kvs ks).isSome))))) h I fun v1 F1 H1 G1 w1 e1 I1 a1 q1 => ?_
  refine dw_run (k' := fun G2 w2 => ∃ i ks kvs, w1 = .d (.tuple (ks.map keyD)) ∧ w2 = .sl i ∧ G2[i]? = some (.t kvs) ∧ P G2 (.p (.d (.bool (!(lkD kvs ks).isSome))))) q1 I1 fun v2 F2 H2 G2 w2 e2 I2 a2 ⟨i, ks, kvs, x1, x2, hi, q2⟩ => ?_
  subst x1 x2
  obtain ⟨b, rfl, hb⟩ := key_at (dp_mono e2 a1) I2.ex
  obtain ⟨p, kws, hS, hp, hk, hv⟩ := I2.dct hi
  have a2 : S[i]? = some (some v2) := a2
  rw [hS] at a2
  cases a2
  refine ⟨p, _, rfl, DGet.t hp hb, ?_⟩
  rw [(lk_val (k := ks) hk hv).1]
  exact ct_d (k.mono (e1.trans e2)) I2 (.bl _) q2
theorem dw_dGet (h : DW K B G td fun G1 r1 => PW r1 fun w1 => DW K B G1 ty fun G2 r2 => PW r2 fun w2 => ∃ i ks kvs d, w1 = .sl i ∧ w2 = .d (.tuple (ks.map keyD)) ∧ G2[i]? = some (.t kvs) ∧ lkD kvs ks = some d ∧ P G2 (.p (.d d))) : DW K B G (tDGet td ty) P := fun S F H Q I k => by
  show td S H fun x H1 => ty S H1 fun y H2 => ∃ a v, x = .ref a ∧ DGet H2 a y (some v) ∧ Q v H2
  refine dw_run (k' := fun G1 w1 => DW K B G1 ty fun G2 r2 => PW r2 fun w2 => ∃ i ks kvs d, w1 = .sl i ∧ w2 = .d (.tuple (ks.map keyD)) ∧ G2[i]? = some (.t kvs) ∧ lkD kvs ks = some d ∧ P G2 (.p (.d d))) h I fun v1 F1 H1 G1 w1 e1 I1 a1 q1 => ?_
  refine dw_run (k' := fun G2 w2 => ∃ i ks kvs d, w1 = .sl i ∧ w2 = .d (.tuple (ks.map keyD)) ∧ G2[i]? = some (.t kvs) ∧ lkD kvs ks = some d ∧ P G2 (.p (.d d))) q1 I1 fun v2 F2 H2 G2 w2 e2 I2 a2 ⟨i, ks, kvs, d, x1, x2, hi, hd, q2⟩ => ?_
  subst x1 x2
  obtain ⟨b, rfl, hb⟩ := key_at a2 I2.ex
  obtain ⟨p, kws, hS, hp, hk, hv⟩ := I2.dct hi
  have a1 : S[i]? = some (some v1) := a1
  rw [hS] at a1
  cases a1
  obtain ⟨v, ev, hvd⟩ := (lk_val (k := ks) hk hv).2 d hd
  exact ⟨p, v, rfl, by rw [← ev]; exact DGet.t hp hb, ct_d (k.mono (e1.trans e2)) I2 hvd q2⟩
theorem ds_dPut (h : DW K B G tv fun G1 r1 => PW r1 fun w1 => DW K B G1 td fun G2 r2 => PW r2 fun w2 => DW K B G2 ty fun G3 r3 => PW r3 fun w3 => ∃ i ks kvs d, w1 = .d d ∧ w2 = .sl i ∧ w3 = .d (.tuple (ks.map keyD)) ∧ G3[i]? = some (.t kvs) ∧ kvs.length < sizeLine ∧ E.nx (G3.set i (.t (putD kvs ks d)))) : DS K B G (sDPut td ty tv) E := fun S F H D I c => by
  show tv S H fun v H1 => td S H1 fun x H2 => ty S H2 fun y H3 => ∃ a H4, x = .ref a ∧ DPut H3 a y v H4 ∧ D.nx S H4
  refine dw_run (k' := fun G1 w1 => DW K B G1 td fun G2 r2 => PW r2 fun w2 => DW K B G2 ty fun G3 r3 => PW r3 fun w3 => ∃ i ks kvs d, w1 = .d d ∧ w2 = .sl i ∧ w3 = .d (.tuple (ks.map keyD)) ∧ G3[i]? = some (.t kvs) ∧ kvs.length < sizeLine ∧ E.nx (G3.set i (.t (putD kvs ks d)))) h I fun v1 F1 H1 G1 w1 e1 I1 a1 q1 => ?_
  refine dw_run (k' := fun G2 w2 => DW K B G2 ty fun G3 r3 => PW r3 fun w3 => ∃ i ks kvs d, w1 = .d d ∧ w2 = .sl i ∧ w3 = .d (.tuple (ks.map keyD)) ∧ G3[i]? = some (.t kvs) ∧ kvs.length < sizeLine ∧ E.nx (G3.set i (.t (putD kvs ks d)))) q1 I1 fun v2 F2 H2 G2 w2 e2 I2 a2 q2 => ?_
  refine dw_run (k' := fun G3 w3 => ∃ i ks kvs d, w1 = .d d ∧ w2 = .sl i ∧ w3 = .d (.tuple (ks.map keyD)) ∧ G3[i]? = some (.t kvs) ∧ kvs.length < sizeLine ∧ E.nx (G3.set i (.t (putD kvs ks d)))) q2 I2 fun v3 F3 H3 G3 w3 e3 I3 a3 ⟨i, ks, kvs, d, x1, x2, x3, hi, hz, q3⟩ => ?_
  subst x1 x2 x3
  obtain ⟨b, rfl, hb⟩ := key_at a3 I3.ex
  obtain ⟨p, kws, hS, hp, hk, hv⟩ := I3.dct hi
  have a2 : S[i]? = some (some v2) := a2
  rw [hS] at a2
  cases a2
  have hl : kws.length = kvs.length := by
    have := congrArg List.length hk
    simpa using this
  refine ⟨p, _, rfl, DPut.t hp hb (by rw [hl]; exact hz), ?_⟩
  refine c.nx S F3 _ _ ((e1.trans e2).trans e3) (I3.mutG hi hS (fun A z => ?_) (fun z => nomatch z) fun A hA z => ?_) q3
  · obtain ⟨p', _, e, _, _, _, hA⟩ := z
    cases e
    exact hA
  · obtain ⟨z1, z2⟩ := put_keys (k := ks) hk hv (dp_mono (e2.trans e3) a1)
    exact ⟨p, _, rfl, upd_same, z1, z2, hA⟩
end
end DL
namespace DL
open PySem L2
/-! ### ''.join -/
theorem join0 : ∀ (cs : List Nat), Txt.join (mkS []) (cs.map fun c => mkS [c]) = mkS cs := by
  have f : ∀ (cs : List Nat) (acc : Array Nat), (cs.map fun c => mkS [c]).foldl (fun acc p => acc ++ (mkS []).cps ++ p.cps) acc = acc ++ cs.toArray := by
    intro cs
    induction cs with
    | nil => intro acc; simp
    | cons c cs ih =>
      intro acc
      rw [List.map_cons, List.foldl_cons, ih]
      simp [mkS]
  intro cs
  cases cs with
  | nil => rfl
  | cons c cs =>
    show (⟨(cs.map fun c => mkS [c]).foldl (fun acc p => acc ++ (mkS []).cps ++ p.cps) (mkS [c]).cps⟩ : Str) = mkS (c :: cs)
    rw [f]
    simp [mkS]
section
variable {K : Fr} {B : Bs} {G : En} {P : Po} {te tl tr : TE} {w1 w2 : W}
theorem rm_join0 {cs : List Nat} (e2 : wd G w2 = some (.list (cs.map fun c => .str (mkS [c])))) (hz : cs.length ≤ 16777216) (q : P G (.p (.d (.str (mkS cs))))) : RWm K B G (rJOIN K) (.d (.str (mkS []))) [w2] P := fun S F H Q v vs I hv hs k => by
  obtain ⟨y, rfl, hy⟩ := vws1 hs
  obtain rfl := dp_str hv
  obtain ⟨p, us, rfl, hp, ha⟩ := wd_list I hy e2
  have e : us = (cs.map fun c => mkS [c]).map V.str := da_strs_eq (by rw [List.map_map]; exact ha)
  subst e
  refine ⟨_, p, cs.map fun c => mkS [c], rfl, rfl, .inl (SqL.of hp), ?_, ?_⟩
  · rw [mkS_len]
    have : ((cs.map fun c => mkS [c]).map (·.length)).sum = cs.length := by
      clear ha hp e2 q hz
      induction cs with
      | nil => rfl
      | cons c cs ih =>
        simp only [List.map_cons, List.sum_cons, List.length_cons, List.length_nil, mkS_len, ih]
        omega
    rw [this, List.length_nil]
    omega
  · rw [join0]
    exact ct_d k I (.str _) q
end
/-! ### a letter times an int -/
def rRepS : R2 := fun x y H Q => ∃ c n, x = .str (mkS [c]) ∧ y = .int n ∧ 1 ≤ n ∧ n ≤ 1000 ∧ Q (.str (mkS (List.replicate n.toNat c))) H
section
open PySem.Spec PyProof.Rows
variable {X : Cx}
theorem rep_cps (c : Nat) : ∀ (n : Nat) (acc : Array Nat), (List.replicate n #[c]).foldl (· ++ ·) acc = acc ++ (List.replicate n c).toArray
  | 0, acc => by simp
  | n + 1, acc => by
    rw [List.replicate_succ, List.foldl_cons, rep_cps c n]
    apply Array.toList_inj.mp
    simp [List.replicate_succ]
theorem op_repS : OpR X (binaryOp .Mult) rRepS := by
  intro pins s σ H x y v u Q I rx ry h
  obtain ⟨c, n, rfl, rfl, h1, h2, q⟩ := h
  obtain ⟨t, rfl⟩ := rx
  obtain ⟨t', rfl⟩ := ry
  have hx : (mkS [c]).length = 1 := rfl
  refine PySem.P.mul_str ?_ ?_ ?_ ?_
  · rw [decide_eq_false (by omega), decide_eq_false (by omega)]
    rfl
  · intro _ _
    rw [hx]
    have : (1 : Int) ≤ (2 ^ 63 - 1) / n := by
      refine (Int.le_ediv_iff_mul_le (by omega)).mpr ?_
      omega
    show ¬ ((1 : Nat) : Int) > _
    omega
  · intro _ _
    rw [hx]
    exact decide_eq_false (by rw [sizeLine_eq]; omega)
  · rw [if_neg (by omega)]
    by_cases e : n = 1
    · subst e
      rw [if_pos (by rfl)]
      exact ⟨.str (mkS [c]), H, I, ⟨t, rfl⟩, q⟩
    · rw [if_neg (by simp [hx, e])]
      have e2 : (⟨(List.replicate n.toNat (mkS [c]).cps).foldl (· ++ ·) #[]⟩ : Str) = mkS (List.replicate n.toNat c) := by
        show (⟨(List.replicate n.toNat #[c]).foldl (· ++ ·) #[]⟩ : Str) = _
        rw [rep_cps]
        simp [mkS]
      rw [e2]
      refine ⟨?_, ?_⟩
      · show (mkS (List.replicate n.toNat c)).length ≤ sizeLine
        rw [mkS_len, List.length_replicate, sizeLine_eq]
        omega
      · exact ⟨.str (mkS (List.replicate n.toNat c)), H, I.tok _, ⟨_, rfl⟩, q⟩
end
section
variable {K : Fr} {B : Bs} {G : En} {P : Po}
theorem rw_repS {c : Nat} {n : Int} (h1 : 1 ≤ n) (h2 : n ≤ 1000) (q : P G (.p (.d (.str (mkS (List.replicate n.toNat c)))))) : RW2 K B G rRepS (.d (.str (mkS [c]))) (.d (.int n)) P := fun S F H Q v1 v2 I a1 a2 k => ⟨c, n, dp_str a1, dp_int a2, h1, h2, ct_d k I (.str _) q⟩
end

/-! ### [e for g in .. for g1 in ..] -/
section
variable {K : Fr} {B : Bs} {G : En} {te : TE} {P : Po} {tt tt1 : TT}
theorem dw_lc2 {wi wi1 : TI} {g g1 : TG} {ch ch1 : List Nat} {vs vs1 : List Nat} (J : List PyData → Nat → List PyData → En → Prop) (J1 : List PyData → Nat → List PyData → Nat → List PyData → En → Prop) (hsub : ∀ k ∈ ch, k ∈ vs) (hsub1 : ∀ k ∈ ch1, k ∈ vs1) (hv : ∀ k ∈ vs1, k ∈ vs)
    (h : DI K B G wi fun G1 ds => J ds 0 [] (wipeG G1 vs) ∧ (∀ (B' : Bs) i acc G2 d, ds[i]? = some d → J ds i acc G2 → DG K B' G2 g ch (.d d) fun G3 => DT K B' G3 tt fun G4 b => if b = true then
      DI K B' G4 wi1 fun G5 ds1 => J1 ds i ds1 0 acc (wipeG G5 vs1) ∧ (∀ (B'' : Bs) j acc G6 d1, ds1[j]? = some d1 → J1 ds i ds1 j acc G6 → DG K B'' G6 g1 ch1 (.d d1) fun G7 => DT K B'' G7 tt1 fun G8 b => if b = true then
        DW K B'' G8 te fun G9 r => PW r fun w => ∃ y, w = .d y ∧ acc.length < sizeLine ∧ J1 ds i ds1 (j + 1) (acc ++ [y]) (wipeG G9 vs1) else J1 ds i ds1 (j + 1) acc (wipeG G8 vs1)) ∧ (∀ acc G6, J1 ds i ds1 ds1.length acc G6 → J ds (i + 1) acc (wipeG G6 vs))
      else J ds (i + 1) acc (wipeG G4 vs)) ∧ ∀ acc G2, J ds ds.length acc G2 → P (wipeG G2 vs) (.fr (.o none acc))) :
    DW K B G (tLc2 wi g tt wi1 g1 tt1 te vs vs1) P := fun S F H Q I k => by
  refine h S F H _ I fun It F1 H1 G1 ds e1 I1 Y ⟨j0, hs, hd⟩ => ?_
  intro D hD
  refine ⟨fun i m H => m = ds.length - i ∧ i ≤ ds.length ∧ ∃ F2 G2 acc, Ex F1 F2 ∧ Iv K B (G2 ++ [.o none acc]) (L2.wipe S vs ++ [some (.ref D)]) F2 H ∧ J ds i acc G2, ⟨_, rfl, Nat.zero_le _, F1, _, [], Ex.refl _, (I1.wipe vs).newL hD .nil, j0⟩, ?_⟩
  rintro i m H2 ⟨rfl, hi, F2, G2, acc, e2, I2, j2⟩
  by_cases hlt : i < ds.length
  · obtain ⟨d, hd'⟩ : ∃ d, ds[i]? = some d := ⟨_, List.getElem?_eq_getElem hlt⟩
    refine .inr ⟨((Y i H2 F2 e2 I2.ex).1 d hd').1, fun H => ∃ F2 G2 acc, Ex F1 F2 ∧ Iv K B (G2 ++ [.o none acc]) (L2.wipe S vs ++ [some (.ref D)]) F2 H ∧ J ds (i + 1) acc G2, fun H' p => ⟨ds.length - (i + 1), by omega, rfl, hlt, p⟩, fun x H3 y => ?_⟩
    obtain ⟨F3, e3, I3, hx⟩ := Y.turn e2 I2 hd' y
    obtain ⟨D', accv, mu, eD, hD3, ha3, Ia, back⟩ := I3.aside
    cases eD
    refine hs _ i acc G2 d hd' j2 _ F3 H3 x _ Ia hx fun S4 F4 H4 G4 e4 I4 l4 u4 q => ?_
    have ew : L2.wipe S4 vs = L2.wipe S vs := by
      rw [wipe_ext l4 fun k hk => u4 k fun z => hk (hsub k z)]
      exact wipe_ext (wipe_length S vs) fun k hk => wipe_ne hk
    refine ⟨ew, q S4 F4 H4 _ I4 fun b F5 H5 G5 e5 I5 q5 => ?_⟩
    cases b with
    | false =>
      show ∃ F2 G2 acc, Ex F1 F2 ∧ Iv K B (G2 ++ [.o none acc]) (L2.wipe S vs ++ [some (.ref D)]) F2 H5 ∧ J ds (i + 1) acc G2
      obtain ⟨_, I6⟩ := back _ _ _ _ (I5.wipe vs)
      rw [ew] at I6
      exact ⟨F5, _, acc, ((e2.trans e3).trans e4).trans e5, I6, q5⟩
    | true =>
      show wi1 S4 H5 fun J1' H4 => ∃ W1 : Nat → Nat → Hp → Prop, _ ∧ _
      refine q5 S4 F5 H5 _ I5 fun It1 F6 H6 G6 ds1 e6 I6 Y1 ⟨k0, ks, kd⟩ => ?_
      obtain ⟨_, I7⟩ := back _ _ _ _ (I6.wipe vs1)
      have e06 : Ex F1 F6 := (((e2.trans e3).trans e4).trans e5).trans e6
      refine ⟨fun j m H => m = ds1.length - j ∧ j ≤ ds1.length ∧ ∃ F8 G8 acc, Ex F6 F8 ∧ Iv K B (G8 ++ [.o none acc]) (L2.wipe S4 vs1 ++ [some (.ref D)]) F8 H ∧ J1 ds i ds1 j acc G8, ⟨_, rfl, Nat.zero_le _, F6, _, acc, Ex.refl _, I7, k0⟩, ?_⟩
      rintro j m H8 ⟨rfl, hj, F8, G8, acc8, e8, I8, j8⟩
      by_cases hlt1 : j < ds1.length
      · obtain ⟨d1, hd1⟩ : ∃ d, ds1[j]? = some d := ⟨_, List.getElem?_eq_getElem hlt1⟩
        refine .inr ⟨((Y1 j H8 F8 e8 I8.ex).1 d1 hd1).1, fun H => ∃ F8 G8 acc, Ex F6 F8 ∧ Iv K B (G8 ++ [.o none acc]) (L2.wipe S4 vs1 ++ [some (.ref D)]) F8 H ∧ J1 ds i ds1 (j + 1) acc G8, fun H' p => ⟨ds1.length - (j + 1), by omega, rfl, hlt1, p⟩, fun x H9 y => ?_⟩
        obtain ⟨F9, e9, I9, hx9⟩ := Y1.turn e8 I8 hd1 y
        obtain ⟨D', accv9, mu9, eD, hD9, ha9, Ia9, back9⟩ := I9.aside
        cases eD
        refine ks _ j acc8 G8 d1 hd1 j8 _ F9 H9 x _ Ia9 hx9 fun Sa Fa Ha Ga ea Ja la ua qa => ?_
        have ew1 : L2.wipe Sa vs1 = L2.wipe S4 vs1 := by
          rw [wipe_ext la fun k hk => ua k fun z => hk (hsub1 k z)]
          exact wipe_ext (wipe_length S4 vs1) fun k hk => wipe_ne hk
        refine ⟨ew1, qa Sa Fa Ha _ Ja fun b Fb Hb Gb eb Ib qb => ?_⟩
        cases b with
        | false =>
          show ∃ F8 G8 acc, Ex F6 F8 ∧ Iv K B (G8 ++ [.o none acc]) (L2.wipe S4 vs1 ++ [some (.ref D)]) F8 Hb ∧ J1 ds i ds1 (j + 1) acc G8
          obtain ⟨_, Ic⟩ := back9 _ _ _ _ (Ib.wipe vs1)
          rw [ew1] at Ic
          exact ⟨Fb, _, acc8, ((e8.trans e9).trans ea).trans eb, Ic, qb⟩
        | true =>
          show te Sa Hb fun y H7 => ∃ acc, H7 D = some (.lst acc) ∧ acc.length < sizeLine ∧ (∃ F8 G8 acc', Ex F6 F8 ∧ Iv K B (G8 ++ [.o none acc']) (L2.wipe S4 vs1 ++ [some (.ref D)]) F8 (upd H7 D (.lst (acc ++ [y]))) ∧ J1 ds i ds1 (j + 1) acc' G8)
          refine dw_run (k' := fun G5 w => ∃ y, w = .d y ∧ acc8.length < sizeLine ∧ J1 ds i ds1 (j + 1) (acc8 ++ [y]) (wipeG G5 vs1)) qb Ib fun v Fc Hc Gc w ec Ic hv' qc => ?_
          obtain ⟨y, rfl, hz, jc⟩ := qc
          obtain ⟨hDc, Id⟩ := back9 _ _ _ _ (Ic.wipe vs1)
          rw [ew1] at Id
          refine ⟨accv9, hDc, by rw [da_len ha9]; exact hz, Fc, _, acc8 ++ [y], (((e8.trans e9).trans ea).trans eb).trans ec, ?_, jc⟩
          have hl : (L2.wipe S4 vs1).length = (wipeG Gc vs1).length := by
            have := Id.len
            simpa using this
          have Ie := Id.mut (i := (wipeG Gc vs1).length) (p := D) (q := none) (ds := acc8) (ds' := acc8 ++ [y]) (vs' := accv9 ++ [v]) (by simp) (by rw [← hl]; simp) (da_app (da_mono ((ea.trans eb).trans ec) ha9) (.cons hv' .nil))
          have eg : (wipeG Gc vs1 ++ [Sl.o none acc8]).set (wipeG Gc vs1).length (.o none (acc8 ++ [y])) = wipeG Gc vs1 ++ [.o none (acc8 ++ [y])] := by simp
          rw [eg] at Ie
          exact Ie
      · have e : j = ds1.length := by omega
        subst e
        refine .inl ⟨(Y1 _ H8 F8 e8 I8.ex).2 rfl, F8, _, acc8, e06.trans e8, ?_, kd acc8 G8 j8⟩
        obtain ⟨D', accv9, mu9, eD, hD9, ha9, Ia9, back9⟩ := I8.aside
        have I9 := (back9 _ _ _ _ (Ia9.wipe vs)).2
        have ew2 : L2.wipe (L2.wipe S4 vs1) vs = L2.wipe S vs := by
          rw [← ew]
          exact wipe_ext (wipe_length S4 vs1) fun k hk => wipe_ne fun z => hk (hv k z)
        rw [ew2] at I9
        exact I9
  · have e : i = ds.length := by omega
    subst e
    refine .inl ⟨(Y _ H2 F2 e2 I2.ex).2 rfl, ?_⟩
    have I3 : Iv K B (wipeG G2 vs ++ [.o none acc]) (S ++ [some (.ref D)]) F2 H2 := by
      obtain ⟨D', accv, mu, eD, hD3, ha3, Ia, back⟩ := I2.aside
      exact (back _ _ _ _ ((Ia.wipe vs).wiped (S := S) (by rw [wipe_length, wipe_length]) fun k hk => by rw [wipe_ne hk, wipe_ne hk])).2
    exact k (.ref D) F2 H2 (wipeG G2 vs) (.fr (.o none acc)) (e1.trans e2) I3 (hd acc G2 j2)
end
end DL
namespace DL
open PySem L2
/-! ### defs that raise -/
def spX (K : Fr) (pre : List PyData → Prop) (post : List PyData → Rs → Prop) (exc : List PyData → Value → Prop) : Sp := fun vs H Q E => ∃ F ds, Ex F H ∧ DqAll K F vs ds ∧ pre ds ∧
  (∀ v F' H' r, Ex F F' → Ex F' H' → Ex H H' → (∀ b o, F' b = some o → F b = none → H b = none) → Rr K (fun a => H a = none) F' H' v r → post ds r → Q v H') ∧
  ∀ cls F' H', Ex F F' → Ex F' H' → Ex H H' → (∀ b o, F' b = some o → F b = none → H b = none) → exc ds cls → E cls none H'
section
variable {K : Fr} {B : Bs} {G : En} {P : Po} {t : TA} {E : XK}
/-- what takes an exception of class cls, from the base B on -/
def Tk (K : Fr) (B : Bs) (exc : Value → Prop) (E : XK) : Prop := ∀ cls S F H G, Iv K B G S F H → exc cls → E cls none H
theorem dw_callX {pre : List PyData → Prop} {post : List PyData → Rs → Prop} {exc : List PyData → Value → Prop} {ex0 : Value → Prop} (hE : Tk K B ex0 E) (h : DA K B G t fun G1 ws => ∃ ds, allD ws = some ds ∧ pre ds ∧ (∀ r, post ds r → P G1 r) ∧ ∀ cls, exc ds cls → ex0 cls) : DW K B G (tCall (spX K pre post exc) [] E t) P := fun S F H Q I k => by
  show t S H fun vs H1 => spX K pre post exc (vs ++ []) H1 Q E
  refine h S F H _ I fun vs F1 H1 G1 ws e1 I1 hv ⟨ds, hd, hp, q, qx⟩ => ?_
  rw [List.append_nil]
  refine ⟨F1, ds, I1.ex, allD_ok hd hv, hp, fun v F2 H2 r a1 a2 a3 a4 a5 a6 => ?_, fun cls F2 H2 a1 a2 a3 a4 a5 => ?_⟩
  · match r, a5, a6 with
    | .p (.d d), a5, a6 => exact k v F2 H2 G1 (.p (.d d)) (e1.trans a1) ⟨I1.grow a1 a3 a2 a4, a5⟩ (q _ a6)
    | .fr s, ⟨A, b1, b2⟩, a6 =>
      refine k v F2 H2 G1 (.fr s) (e1.trans a1) ?_ (q _ a6)
      exact I1.add a1 a3 a2 a4 (some v) A (.inr ⟨v, rfl, b1⟩) fun a ha => ⟨(b2 a ha).2.2, (b2 a ha).1, (b2 a ha).2.1⟩
  · exact hE cls S F2 H2 G1 (I1.grow a1 a3 a2 a4) (qx cls a5)
/-- .. where nothing is raised -/
theorem dw_callN {pre : List PyData → Prop} {post : List PyData → Rs → Prop} {exc : List PyData → Value → Prop} (h : DA K B G t fun G1 ws => ∃ ds, allD ws = some ds ∧ pre ds ∧ (∀ r, post ds r → P G1 r) ∧ ∀ cls, ¬ exc ds cls) : DW K B G (tCall (spX K pre post exc) [] E t) P := by
  refine dw_callX (ex0 := fun _ => False) (fun _ _ _ _ _ _ z => z.elim) ?_
  exact h
/-- .. within try -/
def TkW (K : Fr) (B : Bs) (exc : Value → En → Prop) (W : WX) : Prop := ∀ cls S F H G, Iv K B G S F H → exc cls G → W cls none S H
theorem dw_callS {pre : List PyData → Prop} {post : List PyData → Rs → Prop} {exc : List PyData → Value → Prop} {W : WX} {ex0 : Value → En → Prop} (hE : TkW K B ex0 W) (h : DA K B G t fun G1 ws => ∃ ds, allD ws = some ds ∧ pre ds ∧ (∀ r, post ds r → P G1 r) ∧ ∀ cls, exc ds cls → ex0 cls G1) : DW K B G (tCallS (spX K pre post exc) (WE W) t) P := fun S F H Q I k => by
  show t S H fun vs H1 => spX K pre post exc vs H1 Q (fun cls d H => W cls d S H)
  refine h S F H _ I fun vs F1 H1 G1 ws e1 I1 hv ⟨ds, hd, hp, q, qx⟩ => ?_
  refine ⟨F1, ds, I1.ex, allD_ok hd hv, hp, fun v F2 H2 r a1 a2 a3 a4 a5 a6 => ?_, fun cls F2 H2 a1 a2 a3 a4 a5 => ?_⟩
  · match r, a5, a6 with
    | .p (.d d), a5, a6 => exact k v F2 H2 G1 (.p (.d d)) (e1.trans a1) ⟨I1.grow a1 a3 a2 a4, a5⟩ (q _ a6)
    | .fr s, ⟨A, b1, b2⟩, a6 =>
      refine k v F2 H2 G1 (.fr s) (e1.trans a1) ?_ (q _ a6)
      exact I1.add a1 a3 a2 a4 (some v) A (.inr ⟨v, rfl, b1⟩) fun a ha => ⟨(b2 a ha).2.2, (b2 a ha).1, (b2 a ha).2.1⟩
  · exact hE cls S F2 H2 G1 (I1.grow a1 a3 a2 a4) (qx cls a5)
variable {De0 : De}
/-- raise X(..), X without own fields -/
theorem ds_raise {W : WX} {cls : Value} {exc : Value → En → Prop} (hE : TkW K B exc W) (h : exc cls G) : DS K B G (fun _ σ H => (fun (_ : St) (H : Hp) (Q : XK) => Q cls none H) σ H fun cls d H' => W cls d σ H') De0 := fun S F H D I c => hE cls S F H G I h
/-- a caught exception -/
def exO (a : Addr) : Orel := ⟨fun _ _ v _ => v = .ref a, fun h _ _ => h⟩
/-- try .. except c as n -/
theorem ds_tryAs {c : Value} {i : Nat} {tb : WX → TS} {ts : Addr → Value → Option Addr → TS} {Wout : WX} {exc : Value → En → Prop} {E : De} (hi : i < G.length)
    (hb : ∀ (B' : Bs) (W : WX), TkW K B' exc W → DS K B' G (tb W) E) (hx : ∀ cls G1, exc cls G1 → PySem.W.exmOne K cls c = some true ∧ ∀ (B' : Bs) a, DS K B' (G1.set i (.ow (exO a))) (ts a cls none) { nx := fun G => E.nx (G.set i .un), rt := E.rt, bk := fun G => E.bk (G.set i .un), ct := fun G => E.ct (G.set i .un) }) :
    DS K B G (fun D σ H => tb (wAs K c i ts Wout D) D σ H) E := fun S F H D I cv => by
  obtain ⟨mu, _, I0, back, _⟩ := I.rebase
  have cov : Cov K ⟨F, H, mu⟩ F E D := ⟨fun S1 F1 H1 G1 e J p => cv.nx S1 F1 H1 G1 e (back _ _ _ _ J) p, fun S1 F1 H1 G1 v r e J p => cv.rt S1 F1 H1 G1 v r e (by
      cases r with
      | p w => exact ⟨back _ _ _ _ J.1, J.2⟩
      | fr s => exact back _ _ _ _ J) p, fun S1 F1 H1 G1 e J p => cv.bk S1 F1 H1 G1 e (back _ _ _ _ J) p, fun S1 F1 H1 G1 e J p => cv.ct S1 F1 H1 G1 e (back _ _ _ _ J) p⟩
  refine hb ⟨F, H, mu⟩ (wAs K c i ts Wout D) (fun cls S1 F1 H1 G1 J hx1 => ?_) S F H D I0 cov
  obtain ⟨e1, e2⟩ := hx cls G1 hx1
  refine ⟨true, e1, fun _ a ha => ?_, fun z => Bool.noConfusion z⟩
  have J1 : Iv K ⟨F, H, mu⟩ (G1.set i (.ow (exO a))) (S1.set i (some (.ref a))) F1 H1 := by
    obtain ⟨A, a1, a2, a3⟩ := J.own
    refine ⟨J.ex, J.f0, J.fr, J.nw, J.st, by simpa using J.len, fun j b => j ≠ i ∧ A j b, fun j s hj => ?_, fun j k b x y => a2 j k b x.2 y.2, fun j b x => a3 j b x.2⟩
    by_cases e : i = j
    · subst e
      obtain ⟨rfl, hl⟩ := set_same hj
      exact .inr ⟨.ref a, List.getElem?_set_self (by rw [J.len]; exact hl), rfl⟩
    · rw [List.getElem?_set_ne e] at hj
      rw [List.getElem?_set_ne e]
      rcases a1 j s hj with z | ⟨u, x1, x2⟩
      · exact .inl z
      · refine .inr ⟨u, x1, ?_⟩
        have ea : (fun b => j ≠ i ∧ A j b) = A j := by
          funext b
          exact propext ⟨fun z => z.2, fun z => ⟨fun z => e z.symm, z⟩⟩
        show SvR K F1 H1 u (fun b => j ≠ i ∧ A j b) s
        rw [ea]
        exact x2
  have f0 : Ex F F1 := J.f0
  refine e2 _ a _ F1 H1 _ J1 ⟨fun S2 F2 H2 G2 e J2 p => ?_, fun S2 F2 H2 G2 v r e J2 p => cov.rt S2 F2 H2 G2 v r (f0.trans e) J2 p, fun S2 F2 H2 G2 e J2 p => ?_, fun S2 F2 H2 G2 e J2 p => ?_⟩
  · exact cov.nx _ F2 H2 _ (f0.trans e) (J2.set_un i none) p
  · exact cov.bk _ F2 H2 _ (f0.trans e) (J2.set_un i none) p
  · exact cov.ct _ F2 H2 _ (f0.trans e) (J2.set_un i none) p
/-- try .. except c -/
theorem ds_tryOnly {c : Value} {tb : WX → TS} {ts : Addr → Value → Option Addr → TS} {Wout : WX} {exc : Value → En → Prop} {E : De}
    (hb : ∀ (B' : Bs) (W : WX), TkW K B' exc W → DS K B' G (tb W) E) (hx : ∀ cls G1, exc cls G1 → PySem.W.exmOne K cls c = some true ∧ ∀ (B' : Bs) a, DS K B' G1 (ts a cls none) E) :
    DS K B G (fun D σ H => tb (wOnly K c ts Wout D) D σ H) E := fun S F H D I cv => by
  obtain ⟨mu, _, I0, back, _⟩ := I.rebase
  have cov : Cov K ⟨F, H, mu⟩ F E D := ⟨fun S1 F1 H1 G1 e J p => cv.nx S1 F1 H1 G1 e (back _ _ _ _ J) p, fun S1 F1 H1 G1 v r e J p => cv.rt S1 F1 H1 G1 v r e (by
      cases r with
      | p w => exact ⟨back _ _ _ _ J.1, J.2⟩
      | fr s => exact back _ _ _ _ J) p, fun S1 F1 H1 G1 e J p => cv.bk S1 F1 H1 G1 e (back _ _ _ _ J) p, fun S1 F1 H1 G1 e J p => cv.ct S1 F1 H1 G1 e (back _ _ _ _ J) p⟩
  refine hb ⟨F, H, mu⟩ (wOnly K c ts Wout D) (fun cls S1 F1 H1 G1 J hx1 => ?_) S F H D I0 cov
  obtain ⟨e1, e2⟩ := hx cls G1 hx1
  exact ⟨true, e1, fun _ a ha => e2 _ a S1 F1 H1 D J (cov.mono J.f0), fun z => Bool.noConfusion z⟩
/-- isinstance(e, T), e the caught exception -/
theorem dw_slE {i : Nat} {a : Addr} (h : G[i]? = some (.ow (exO a))) (q : P G (.p (.sl i))) : DW K B G (tVar i) P := fun S F H Q I k => by
  obtain ⟨A, a1, _, _⟩ := I.own
  rcases a1 i _ h with e | ⟨v, h1, _⟩
  · cases e
  · exact ⟨v, h1, k _ F H G (.p (.sl i)) (Ex.refl F) ⟨I, h1⟩ q⟩
theorem rn_isE {i : Nat} {a D : Addr} {T : String} {b : Bool} (h : G[i]? = some (.ow (exO a))) (e : PySem.W.kitOne K (.ref D) (.type T) = some b) (q : P G (.p (.d (.bool b)))) : RWn K B G (rIsE K D a) [.sl i, .ty T] P := fun S F H Q vs I hv k => by
  obtain ⟨v, v', rfl, h1, h2⟩ := vws2 hv
  have h2 : v' = .ty T := h2
  subst h2
  obtain ⟨A, a1, _, _⟩ := I.own
  rcases a1 i _ h with e' | ⟨u, z1, z2⟩
  · cases e'
  · have h1 : S[i]? = some (some v) := h1
    rw [h1] at z1
    cases z1
    have z2 : v = .ref a := z2
    subst z2
    exact ⟨.ty T, .type T, b, rfl, fun _ h => h, e, ct_d k I (.bl _) q⟩
end
section
variable {P : Program} {w : World} {K : Fr} {mg : Str → Option Value} {base : Heap} {x qual : Str} {st : Stmt} {f : Addr} {fd : FuncData} {N ps : List Str} {k : Nat}
theorem fnX {pre : List PyData → Prop} {post : List PyData → Rs → Prop} {exc : List PyData → Value → Prop} (F : Fun K x qual st f fd) (S : FnScope N ps (defScope st)) (hl : ∀ ds, pre ds → ds.length = ps.length ∧ ds.length ≤ N.length)
    (hb : ∀ (cdv : Value) (A : Around) (outer : List Env) (s : Shared) (H : Hp) (E : XK), Room k (A.deeper (PyProof.Rows.envOfC qual (defScope st) s.heap.objs.size f cdv)) → ∃ t, PSs (cxOf (L2.CX P w) P w K mg base N qual (defScope st) f cdv A outer s H E) (defBody st) t ∧
      ∀ ds, pre ds → ∀ B, Tk K B (exc ds) E → DS K B (G0 N ds) t (E0 (post ds))) : FnOk P w K mg base (L2.CX P w) (k + 1) f fd ps (spX K pre post exc) := by
  refine F.okX S (fun vs H Q E h => ?_) (fun cdv A outer s H vs Q E hr h => ?_)
  · obtain ⟨F, ds, _, h1, h2, _⟩ := h
    rw [da_len h1]
    exact (hl ds h2).1
  · obtain ⟨F0, ds, ex, h1, h2, q, qx⟩ := h
    obtain ⟨t, ht, hs⟩ := hb cdv A outer s H E hr
    refine ⟨t, ht, ?_⟩
    have I0 := start_iv (N := N) ex h1 (hl ds h2).2
    have out : ∀ {G' : En} {S' : St} {F' H' : Hp}, Iv K ⟨F0, H, fun _ => False⟩ G' S' F' H' → Ex H H' ∧ ∀ b o, F' b = some o → F0 b = none → H b = none := fun {G' S' F' H'} J => ⟨fun b o h => J.fr b o h id, fun b o h n => by
      cases z : H b with
      | none => rfl
      | some u =>
        rcases J.nw b o h (nn z) with y | y
        · exact absurd n y
        · exact y.elim⟩
    refine hs ds h2 _ (fun cls S F H' G J hx => qx cls F H' J.f0 J.ex (out J).1 (out J).2 hx) _ F0 H _ I0 ⟨fun S F H' G e J p => ?_, fun S F H' G v r e J p => ?_, fun _ _ _ _ _ _ z => z.elim, fun _ _ _ _ _ _ z => z.elim⟩
    · exact q .non F H' (.p (.d .none)) e J.ex (out J).1 (out J).2 .non p
    · match r, J, p with
      | .p (.d d), J, p => exact q v F H' (.p (.d d)) e J.1.ex (out J.1).1 (out J.1).2 J.2 p
      | .p (.sl i), J, ⟨a, ds', hi, p⟩ =>
        obtain ⟨A, a1, a2, a3⟩ := J.1.own
        obtain ⟨u, z1, c, vs', z2, z3, z4, z5, _⟩ : ∃ v, S[i]? = some (some v) ∧ SvR K F H' v (A i) (.o a ds') := (a1 i _ hi).elim (fun z => by cases z) id
        have hv : S[i]? = some (some v) := J.2
        rw [hv] at z1
        cases z1
        exact q v F H' (.fr (.o none ds')) e J.1.ex (out J.1).1 (out J.1).2 ⟨A i, ⟨c, vs', z2, z3, z4, z5, fun _ z => by cases z⟩, fun a ha => ⟨(a3 i a ha).1, (a3 i a ha).2.1, (a3 i a ha).2.2.elim id False.elim⟩⟩ p
      | .fr s, J, ⟨hu, p⟩ =>
        obtain ⟨A, a1, a2, a3⟩ := J.own
        have J' := Iv.drop J
        obtain ⟨u, z1, z2⟩ : ∃ v', (S ++ [some v])[G.length]? = some (some v') ∧ SvR K F H' v' (A G.length) s := (a1 G.length s (by simp)).elim (fun z => absurd z hu) id
        have hv : (S ++ [some v])[G.length]? = some (some v) := by
          rw [← J'.len]
          simp
        rw [hv] at z1
        cases z1
        exact q v F H' (.fr s) e J'.ex (out J').1 (out J').2 ⟨_, z2, fun a ha => ⟨(a3 _ a ha).1, (a3 _ a ha).2.1, (a3 _ a ha).2.2.elim id False.elim⟩⟩ p
end
end DL
namespace DL
open PySem L2
/-- {k: v}, k a tuple of ints and texts -/
def tDisp1T (tk tv : TE) : TE := fun S H Q => ∀ p, H p = none → tk S (upd H p (.dT [])) fun x H1 => tv S H1 fun v H2 => ∃ (b : Addr) (k : List Key), x = .ref b ∧ H2 p = some (.dT []) ∧ H2 b = some (.tup (k.map kV)) ∧ Q (.ref p) (upd H2 p (.dT [(k, v)]))
section
open PySem.Spec PyProof.Rows
variable {X : Cx}
theorem pe_disp1T {k v : Expr} {tk tv : TE} {pos : Pos} (hu : X.A.units + 1 < cLine) (hk : PE X k tk) (hv : PE X v tv) : PE X (.Dict [some k] [v] pos) (tDisp1T tk tv) := by
  refine ⟨fun pins s σ H Q I q => ?_⟩
  have hn := I.hok.fresh (Nat.le_refl s.heap.objs.size)
  have I1 := I.laid (a := s.heap.objs.size) (o := .dT []) (h' := s.heap.push { cls := .type "dict", data := .dict #[] }) (t' := s.toks) (fun _ _ q => Heap.get?_push_of_some _ q) (Nat.le_refl _) (dt_empty s.heap I.big)
  have q := q _ hn
  rw [arm_eval_Dict, zip_pairTrees [some k] [v] X.env pos rfl rfl, dictDisplay_pairs (pairTrees [some k] [v] X.env pos) (by simp [pairTrees]) (by simp [pairTrees])]
  refine wpAny_bind (wpAny_standAt (wpAny_bind ?_))
  refine wpAny_subDictH (knd := tupleKind (mixKind X.prog X.w)) (Nat.lt_of_succ_lt hu) (by simp [pairTrees]) ?_
  refine pairTrees_cons_walk (thn (hk.run pins _ σ _ _ I1 q) fun u s1 ⟨x, H1, I2, rx, q1⟩ => thn (hv.run pins s1 σ H1 _ I2 q1) fun u2 s2 ⟨y, H2, I3, ry, b, ks, ex, e0, eb, q2⟩ => pairTrees_nil_walk ?_)
  subst ex
  cases (show u = Value.ref b from rx)
  obtain ⟨z, hd, xs, rel, dd⟩ := dt_of I3.hok e0
  cases rel
  refine ⟨[(ks, b, u2)], ⟨rfl, rfl, key_of I3.hok eb, trivial⟩, dd, fun h' tk' dd' hs => wpAny_pure ⟨.ref s.heap.objs.size, _, ?_, rfl, q2⟩⟩
  obtain ⟨q', es, ep, hq, h2, h3, h4, h6, h5⟩ := dd'
  refine d_write I3 (by rw [e0]; exact True.intro) hs ⟨q', hq⟩ ⟨by rw [sizeLine_eq]; exact (by decide : 1 ≤ 16777216), hd, [(ks, b, u2)], .cons ⟨rfl, ?_, ry⟩ .nil, q', es, ep, hq, h2, h3, h4, h5⟩
  rw [upd_ne (ne_of eb e0 (fun z => nomatch z))]
  exact eb
end
/-- the last slot's own thing, aside while the rest runs -/
theorem Iv.asideG {K : Fr} {B : Bs} {G : En} {S : St} {F H : Hp} {s : Sl} {x : V} (I : Iv K B (G ++ [s]) (S ++ [some x]) F H) (hs : s ≠ .un) : ∃ (A0 mu : Addr → Prop), SvR K F H x A0 s ∧ (∀ a, A0 a → F a = none ∧ H a ≠ none) ∧ Iv K ⟨F, H, mu⟩ G S F H ∧
    ∀ G1 S1 F1 H1, Iv K ⟨F, H, mu⟩ G1 S1 F1 H1 → (∀ a, A0 a → H1 a = H a) ∧ Iv K B (G1 ++ [s]) (S1 ++ [some x]) F1 H1 := by
  obtain ⟨A, h1, h2, h3⟩ := I.own
  have hl : S.length = G.length := by
    have := I.len
    simpa using this
  obtain ⟨u, e1, e2⟩ : ∃ v, (S ++ [some x])[G.length]? = some (some v) ∧ SvR K F H v (A G.length) s := (h1 G.length s (by simp)).elim (fun z => absurd z hs) id
  have ex : x = u := by
    rw [← hl] at e1
    have : (S ++ [some x])[S.length]? = some (some x) := by simp
    rw [this] at e1
    exact Option.some.inj (Option.some.inj e1)
  subst ex
  have I0 := I.drop
  have hm : ∀ a, (∃ i, i < G.length ∧ A i a) → F a = none ∧ H a ≠ none ∧ (B.H0 a = none ∨ B.mu a) := fun a ⟨i, _, h⟩ => h3 i a h
  have nD : ∀ a, A G.length a → ¬ ∃ i, i < G.length ∧ A i a := fun a ha ⟨i, hi, h⟩ => by
    have := h2 _ _ _ h ha
    omega
  refine ⟨A G.length, fun a => ∃ i, i < G.length ∧ A i a, e2, fun a ha => ⟨(h3 _ _ ha).1, (h3 _ _ ha).2.1⟩, ⟨I.ex, Ex.refl _, fun b o h _ => h, fun b o h _ => .inl (nn h), fun b h => h, hl, fun i a => i < G.length ∧ A i a, fun i s hi => ?_, fun i j a p q => h2 i j a p.2 q.2, fun i a h => ⟨(h3 i a h.2).1, (h3 i a h.2).2.1, .inr ⟨i, h⟩⟩⟩, fun G1 S1 F1 H1 J => ?_⟩
  · have hlt := (List.getElem?_eq_some_iff.mp hi).1
    rcases h1 i s (by rw [List.getElem?_append_left hlt]; exact hi) with z | ⟨u, z1, z2⟩
    · exact .inl z
    · refine .inr ⟨u, by rw [List.getElem?_append_left (by omega)] at z1; exact z1, ?_⟩
      have ea : (fun a => i < G.length ∧ A i a) = A i := by
        funext a
        exact propext ⟨fun z => z.2, fun z => ⟨hlt, z⟩⟩
      show SvR K F H u (fun a => i < G.length ∧ A i a) s
      rw [ea]
      exact z2
  · have hD : ∀ a, A G.length a → H1 a = H a := fun a ha => by
      obtain ⟨o, ho⟩ : ∃ o, H a = some o := by
        cases q : H a with
        | none => exact absurd q (h3 _ _ ha).2.1
        | some o => exact ⟨o, rfl⟩
      rw [ho]
      exact J.fr a o ho (nD a ha)
    have fD : ∀ a, A G.length a → F1 a = none := fun a ha => by
      cases q : F1 a with
      | none => rfl
      | some o =>
        rcases J.nw a o q (h3 _ _ ha).2.1 with z | z
        · exact absurd (h3 _ _ ha).1 z
        · exact absurd z (nD a ha)
    obtain ⟨A', k1, k2, k3⟩ := J.own
    have nA : ∀ i a, A G.length a → ¬ A' i a := fun i a ha z => by
      rcases (k3 i a z).2.2 with q | q
      · exact (h3 _ _ ha).2.1 q
      · exact nD a ha q
    refine ⟨hD, J.ex, I.f0.trans J.f0, fun b o h m => ?_, fun b o h n => ?_, fun b h => J.st b (I.st b h), by simp [J.len], fun i a => (i < G1.length ∧ A' i a) ∨ (i = G1.length ∧ A G.length a), fun i s' hi => ?_, fun i j a p q => ?_, fun i a h => ?_⟩
    · refine J.fr b o (I.fr b o h m) fun ⟨i, _, z⟩ => ?_
      rcases (h3 i b z).2.2 with q | q
      · rw [h] at q
        cases q
      · exact m q
    · rcases J.nw b o h (I.st b n) with z | z
      · obtain ⟨u, hu⟩ : ∃ u, F b = some u := by
          cases q : F b with
          | none => exact absurd q z
          | some u => exact ⟨u, rfl⟩
        exact I.nw b u hu n
      · rcases (hm b z).2.2 with q | q
        · exact absurd q n
        · exact .inr q
    · rcases app_get hi with ⟨hlt, h⟩ | ⟨hlt, e⟩
      · rcases k1 i s' h with z | ⟨u, z1, z2⟩
        · exact .inl z
        · refine .inr ⟨u, by rw [List.getElem?_append_left (by rw [J.len]; exact hlt)]; exact z1, ?_⟩
          have ea : (fun a => (i < G1.length ∧ A' i a) ∨ (i = G1.length ∧ A G.length a)) = A' i := by
            funext a
            exact propext ⟨fun z => z.elim (fun z => z.2) fun z => by omega, fun z => .inl ⟨hlt, z⟩⟩
          show SvR K F1 H1 u (fun a => (i < G1.length ∧ A' i a) ∨ (i = G1.length ∧ A G.length a)) s'
          rw [ea]
          exact z2
      · subst e hlt
        refine .inr ⟨x, by rw [← J.len]; simp, ?_⟩
        have ea : (fun a => (G1.length < G1.length ∧ A' G1.length a) ∨ (G1.length = G1.length ∧ A G.length a)) = A G.length := by
          funext a
          exact propext ⟨fun z => z.elim (fun z => by omega) fun z => z.2, fun z => .inr ⟨rfl, z⟩⟩
        show SvR K F1 H1 x (fun a => (G1.length < G1.length ∧ A' G1.length a) ∨ (G1.length = G1.length ∧ A G.length a)) s'
        rw [ea]
        exact slr_stab e2 J.f0 hD
    · rcases p with ⟨p1, p2⟩ | ⟨p1, p2⟩ <;> rcases q with ⟨q1, q2⟩ | ⟨q1, q2⟩
      · exact k2 _ _ _ p2 q2
      · exact absurd p2 (nA i a q2)
      · exact absurd q2 (nA j a p2)
      · omega
    · rcases h with ⟨_, h⟩ | ⟨_, h⟩
      · refine ⟨(k3 i a h).1, (k3 i a h).2.1, ?_⟩
        rcases (k3 i a h).2.2 with q | q
        · exact .inl (I.new0 q)
        · exact (hm a q).2.2
      · refine ⟨fD a h, ?_, (h3 _ _ h).2.2⟩
        rw [hD a h]
        exact (h3 _ _ h).2.1
section
variable {K : Fr} {B : Bs} {G : En} {P : Po} {tk tv : TE}
theorem Iv.newT {S : St} {F H : Hp} {p : Addr} (I : Iv K B G S F H) (hp : H p = none) : Iv K B (G ++ [.t []]) (S ++ [some (.ref p)]) F (upd H p (.dT [])) := by
  refine I.add (Ex.refl F) (Ex.new hp) (I.ex.trans (Ex.new hp)) (fun b o h n => ?_) _ (fun a => a = p) (.inr ⟨_, rfl, p, [], rfl, upd_same, rfl, .nil, rfl⟩) fun a e => ?_
  · rw [h] at n
    cases n
  · have e : a = p := e
    subst e
    exact ⟨hp, I.fnone hp, by rw [upd_same]; exact fun z => (by cases z)⟩
theorem dw_disp1T (h : ∀ B', DW K B' G tk fun G1 r1 => PW r1 fun w1 => DW K B' G1 tv fun G2 r2 => PW r2 fun w2 => ∃ ks d, w1 = .d (.tuple (ks.map keyD)) ∧ w2 = .d d ∧ P G2 (.fr (.t [(ks, d)]))) : DW K B G (tDisp1T tk tv) P := fun S F H Q I k => by
  intro p hp
  obtain ⟨A0, mu, a0, _, I0, back⟩ := (I.newT hp).asideG (fun z => nomatch z)
  refine dw_run (k' := fun G1 w1 => DW K ⟨F, upd H p (.dT []), mu⟩ G1 tv fun G2 r2 => PW r2 fun w2 => ∃ ks d, w1 = .d (.tuple (ks.map keyD)) ∧ w2 = .d d ∧ P G2 (.fr (.t [(ks, d)]))) (h _) I0 fun v1 F1 H1 G1 w1 e1 I1 r1 q1 => ?_
  refine dw_run (k' := fun G2 w2 => ∃ ks d, w1 = .d (.tuple (ks.map keyD)) ∧ w2 = .d d ∧ P G2 (.fr (.t [(ks, d)]))) q1 I1 fun v2 F2 H2 G2 w2 e2 I2 r2 ⟨ks, d, x1, x2, q2⟩ => ?_
  subst x1 x2
  obtain ⟨b, rfl, hb⟩ := key_at (dp_mono e2 r1) I2.ex
  obtain ⟨hD, J⟩ := back _ _ _ _ I2
  have hi : (G2 ++ [Sl.t []])[G2.length]? = some (.t []) := by simp
  have hl : S.length = G2.length := I2.len
  have hS : (S ++ [some (V.ref p)])[G2.length]? = some (some (.ref p)) := by
    rw [← hl]
    simp
  obtain ⟨p', kws, eS, ep, ek, ev⟩ := J.dct hi
  rw [hS] at eS
  cases eS
  have e0 : H2 p = some (.dT []) := by
    cases kws with
    | nil => exact ep
    | cons _ _ => cases ek
  refine ⟨b, ks, rfl, e0, hb, ?_⟩
  have J2 := J.mutG (s' := .t [(ks, d)]) (ob := .dT [(ks, v2)]) hi hS (fun A z => by
    obtain ⟨p', _, e, _, _, _, hA⟩ := z
    cases e
    exact hA) (fun z => nomatch z) fun A hA z => ⟨p, _, rfl, upd_same, rfl, .cons r2 .nil, hA⟩
  have eg : (G2 ++ [Sl.t []]).set G2.length (.t [(ks, d)]) = G2 ++ [.t [(ks, d)]] := by simp
  rw [eg] at J2
  exact k (.ref p) F2 _ G2 (.fr (.t [(ks, d)])) (e1.trans e2) J2 q2
end
end DL
namespace DL
open PySem L2
/-- what the written part says of an own error class without own fields -/
structure ExcT (K : Fr) (mg : Str → Option Value) (x : Str) (C : Addr) : Prop where
  y : PySem.W.excIn K C [.type "ValueError", .type "Exception", .type "BaseException", .type "object"] "ValueError.__new__" = true
  g : mg x = some (.ref C)
  k : PySem.W.keepIn K (.ref C) = true
  b : PySem.W.subIn K (.ref C) (.type "BaseException") = some true
  t : PySem.W.typeIn K (.ref C) = some (.type "type")
  s : PySem.W.subIn K (.ref C) (.ref C) = some true
  e : ExcC K C
  v : PySem.W.kitOne K (.ref C) (.type "ValueError") = some true
theorem ExcT.exm {K : Fr} {mg : Str → Option Value} {x : Str} {C : Addr} (T : ExcT K mg x C) : PySem.W.exmOne K (.ref C) (.ref C) = some true := PySem.W.exm_ref T.b T.e.hd T.t T.s
section
open PySem.Spec PyProof.Rows
variable {X : Cx}
theorem pe_globI {x : Str} {i : Int} {pos : Pos} (hg : Gl X x) (h : ∃ t, X.mg x = some (.int i t)) (hd : (x == ("__debug__" : Str)) = false := by decide) : PE X (.Name x pos) (tC (.int i)) := by
  obtain ⟨t, h⟩ := h
  exact pe_glob hg h ⟨t, rfl⟩ hd
def rIsE' (K : Fr) (D a : Addr) (cls : Value) (d : Option Addr) : List V → Hp → VK → Prop := fun xs H Q => cls = .ref D ∧ d = none ∧ rIsE K D a xs H Q
theorem kISE (K : Fr) (h : X.K = K) {a D : Addr} {oe : Obj} {cls : Value} {d : Option Addr} {pn : List (Addr × Obj)} (C : ExcC K D) (hz : Zc cls d oe) (hf : ∃ vs, oe.data = .fields vs) : CallR (X.suite a ((a, oe) :: pn)) (.builtin "isinstance") (rIsE' K D a cls d) := by
  subst h
  intro pins s σ H xs us Q I r h
  obtain ⟨e1, e2, h⟩ := h
  subst e1 e2
  exact call_isE C hz hf pins s σ H xs us Q I r h
end
section
variable {K : Fr} {B : Bs} {G : En} {P : Po} {te : TE} {w : W} {k : W → Prop}
theorem rn_isE' {i : Nat} {a D : Addr} {T : String} {b : Bool} (h : G[i]? = some (.ow (exO a))) (e : PySem.W.kitOne K (.ref D) (.type T) = some b) (q : P G (.p (.d (.bool b)))) : RWn K B G (rIsE' K D a (.ref D) none) [.sl i, .ty T] P := fun S F H Q vs I hv k =>
  ⟨rfl, rfl, rn_isE h e q S F H Q vs I hv k⟩
theorem pw_p (h : k w) : PW (.p w) k := h
theorem pw_o {a : Option Addr} {ds : List PyData} (h : k (.d (.list ds))) : PW (.fr (.o a ds)) k := h
end
end DL
namespace DL
open PySem L2
section
variable {K : Fr} {B : Bs} {G : En} {te : TE} {P : Po} {tt : TT}
/-- as dw_lc, the invariant chosen where the items are known -/
theorem dw_lcE {wi : TI} {g : TG} {ch : List Nat} {vs : List Nat} (hsub : ∀ k ∈ ch, k ∈ vs)
    (h : DI K B G wi fun G1 ds => ∃ J : Nat → List PyData → En → Prop, J 0 [] (wipeG G1 vs) ∧ (∀ (B' : Bs) i acc G2 d, ds[i]? = some d → J i acc G2 → DG K B' G2 g ch (.d d) fun G3 => DT K B' G3 tt fun G4 b => if b = true then DW K B' G4 te fun G5 r => PW r fun w => ∃ y, w = .d y ∧ acc.length < sizeLine ∧ J (i + 1) (acc ++ [y]) (wipeG G5 vs) else J (i + 1) acc (wipeG G4 vs)) ∧ ∀ acc G2, J ds.length acc G2 → P (wipeG G2 vs) (.fr (.o none acc))) :
    DW K B G (tLc wi g tt te vs) P := fun S F H Q I k => by
  refine h S F H _ I fun It F1 H1 G1 ds e1 I1 Y ⟨J, j0, hs, hd⟩ => ?_
  intro D hD
  refine ⟨fun i m H => m = ds.length - i ∧ i ≤ ds.length ∧ ∃ F2 G2 acc, Ex F1 F2 ∧ Iv K B (G2 ++ [.o none acc]) (L2.wipe S vs ++ [some (.ref D)]) F2 H ∧ J i acc G2, ⟨_, rfl, Nat.zero_le _, F1, _, [], Ex.refl _, (I1.wipe vs).newL hD .nil, j0⟩, ?_⟩
  rintro i m H2 ⟨rfl, hi, F2, G2, acc, e2, I2, j2⟩
  by_cases hlt : i < ds.length
  · obtain ⟨d, hd'⟩ : ∃ d, ds[i]? = some d := ⟨_, List.getElem?_eq_getElem hlt⟩
    refine .inr ⟨((Y i H2 F2 e2 I2.ex).1 d hd').1, fun H => ∃ F2 G2 acc, Ex F1 F2 ∧ Iv K B (G2 ++ [.o none acc]) (L2.wipe S vs ++ [some (.ref D)]) F2 H ∧ J (i + 1) acc G2, fun H' p => ⟨ds.length - (i + 1), by omega, rfl, hlt, p⟩, fun x H3 y => ?_⟩
    obtain ⟨F3, e3, I3, hx⟩ := Y.turn e2 I2 hd' y
    obtain ⟨D', accv, mu, eD, hD3, ha3, Ia, back⟩ := I3.aside
    cases eD
    refine hs _ i acc G2 d hd' j2 _ F3 H3 x _ Ia hx fun S4 F4 H4 G4 e4 I4 l4 u4 q => ?_
    have ew : L2.wipe S4 vs = L2.wipe S vs := by
      rw [wipe_ext l4 fun k hk => u4 k fun z => hk (hsub k z)]
      exact wipe_ext (wipe_length S vs) fun k hk => wipe_ne hk
    refine ⟨ew, q S4 F4 H4 _ I4 fun b F5 H5 G5 e5 I5 q5 => ?_⟩
    cases b with
    | false =>
      show ∃ F2 G2 acc, Ex F1 F2 ∧ Iv K B (G2 ++ [.o none acc]) (L2.wipe S vs ++ [some (.ref D)]) F2 H5 ∧ J (i + 1) acc G2
      obtain ⟨_, I6⟩ := back _ _ _ _ (I5.wipe vs)
      rw [ew] at I6
      exact ⟨F5, _, acc, ((e2.trans e3).trans e4).trans e5, I6, q5⟩
    | true =>
      show te S4 H5 fun y H4 => ∃ acc, H4 D = some (.lst acc) ∧ acc.length < sizeLine ∧ (∃ F2 G2 acc', Ex F1 F2 ∧ Iv K B (G2 ++ [.o none acc']) (L2.wipe S vs ++ [some (.ref D)]) F2 (upd H4 D (.lst (acc ++ [y]))) ∧ J (i + 1) acc' G2)
      refine dw_run (k' := fun G5 w => ∃ y, w = .d y ∧ acc.length < sizeLine ∧ J (i + 1) (acc ++ [y]) (wipeG G5 vs)) q5 I5 fun v F6 H6 G6 w e6 I6 hv q6 => ?_
      obtain ⟨y, rfl, hz, j6⟩ := q6
      obtain ⟨hD6, I7⟩ := back _ _ _ _ (I6.wipe vs)
      rw [ew] at I7
      refine ⟨accv, hD6, by rw [da_len ha3]; exact hz, F6, _, acc ++ [y], (((e2.trans e3).trans e4).trans e5).trans e6, ?_, j6⟩
      have hl : (L2.wipe S vs).length = (wipeG G6 vs).length := by
        have := I7.len
        simpa using this
      have I8 := I7.mut (i := (wipeG G6 vs).length) (p := D) (q := none) (ds := acc) (ds' := acc ++ [y]) (vs' := accv ++ [v]) (by simp) (by rw [← hl]; simp) (da_app (da_mono ((e4.trans e5).trans e6) ha3) (.cons hv .nil))
      have eg : (wipeG G6 vs ++ [Sl.o none acc]).set (wipeG G6 vs).length (.o none (acc ++ [y])) = wipeG G6 vs ++ [.o none (acc ++ [y])] := by simp
      rw [eg] at I8
      exact I8
  · have e : i = ds.length := by omega
    subst e
    refine .inl ⟨(Y _ H2 F2 e2 I2.ex).2 rfl, ?_⟩
    have I3 : Iv K B (wipeG G2 vs ++ [.o none acc]) (S ++ [some (.ref D)]) F2 H2 := by
      obtain ⟨D', accv, mu, eD, hD3, ha3, Ia, back⟩ := I2.aside
      exact (back _ _ _ _ ((Ia.wipe vs).wiped (S := S) (by rw [wipe_length, wipe_length]) fun k hk => by rw [wipe_ne hk, wipe_ne hk])).2
    exact k (.ref D) F2 H2 (wipeG G2 vs) (.fr (.o none acc)) (e1.trans e2) I3 (hd acc G2 j2)

/-- [f x for x in xs if p x], nothing else changes -/
theorem dw_lcF {α : Type} (xs : List α) (enc : α → PyData) (p : α → Bool) (f : α → PyData) {wi : TI} {i : Nat}
    (h : DI K B G wi fun G1 ds => ds = xs.map enc ∧ xs.length ≤ sizeLine ∧ (∀ (B' : Bs) x, x ∈ xs → DT K B' ((G1.set i .un).set i (.d (enc x))) tt fun G4 b => b = p x ∧ G4.set i .un = G1.set i .un ∧ (p x = true → DW K B' G4 te fun G5 r => PW r fun w => w = .d (f x) ∧ G5.set i .un = G1.set i .un)) ∧
      P (G1.set i .un) (.fr (.o none ((xs.filter p).map f)))) : DW K B G (tLc wi (gName i) tt te [i]) P := by
  refine dw_lcE (ch := [i]) (fun k hk => hk) ?_
  refine fun S F H R I k => h S F H R I fun J F1 H1 G1 ds e I1 Y ⟨hds, hz, hs, hp⟩ => k J F1 H1 G1 ds e I1 Y ⟨fun n acc G2 => acc = ((xs.take n).filter p).map f ∧ G2 = G1.set i .un, ⟨rfl, rfl⟩, fun B' n acc G2 d hd ⟨ha, hG⟩ => ?_, fun acc G2 ⟨ha, hG⟩ => ?_⟩
  · subst hds hG
    rw [List.getElem?_map] at hd
    obtain ⟨x, hx, rfl⟩ := Option.map_eq_some_iff.mp hd
    have hn : n < xs.length := (List.getElem?_eq_some_iff.mp hx).1
    have et : xs.take (n + 1) = xs.take n ++ [x] := by
      rw [List.take_succ, hx]
      rfl
    have hl : acc.length < sizeLine := by
      rw [ha, List.length_map]
      have := List.length_filter_le p (xs.take n)
      rw [List.length_take] at this
      omega
    refine dg_name ?_
    refine fun S F H Q I k => hs B' x (List.mem_of_getElem? hx) S F H Q I fun b F2 H2 G4 e2 I2 ⟨hb, hG, hw⟩ => k b F2 H2 G4 e2 I2 ?_
    subst hb
    cases q : p x with
    | true =>
      rw [if_pos rfl]
      refine fun S F H Q I k => hw q S F H Q I fun v F' H' G' r e V pq => k v F' H' G' r e V ?_
      match r, pq with
      | .p w, ⟨hw, hG⟩ => exact ⟨f x, hw, hl, by rw [et, List.filter_append, List.map_append, ← ha]; simp [List.filter, q], hG⟩
      | .fr (.o _ _), ⟨hw, hG⟩ => exact ⟨f x, hw, hl, by rw [et, List.filter_append, List.map_append, ← ha]; simp [List.filter, q], hG⟩
    | false =>
      rw [if_neg (by simp)]
      exact ⟨by rw [et, List.filter_append, List.map_append, ← ha]; simp [List.filter, q], hG⟩
  · subst hds hG
    rw [List.length_map, List.take_length] at ha
    rw [ha]
    show P ((G1.set i .un).set i .un) _
    rw [List.set_set]
    exact hp
/-- [f x for x in xs] -/
theorem dw_lcM {α : Type} (xs : List α) (enc : α → PyData) (f : α → PyData) {wi : TI} {i : Nat}
    (h : DI K B G wi fun G1 ds => ds = xs.map enc ∧ xs.length ≤ sizeLine ∧ (∀ (B' : Bs) x, x ∈ xs → DW K B' ((G1.set i .un).set i (.d (enc x))) te fun G5 r => PW r fun w => w = .d (f x) ∧ G5.set i .un = G1.set i .un) ∧
      P (G1.set i .un) (.fr (.o none (xs.map f)))) : DW K B G (tLc wi (gName i) tYes te [i]) P := by
  refine dw_lcF xs enc (fun _ => true) f ?_
  refine fun S F H R I k => h S F H R I fun J F1 H1 G1 ds e I1 Y ⟨hds, hz, hs, hp⟩ => k J F1 H1 G1 ds e I1 Y ⟨hds, hz, fun B' x hx => dt_yes ⟨rfl, by rw [List.set_set, List.set_set], fun _ => hs B' x hx⟩, ?_⟩
  rw [List.filter_eq_self.mpr (fun _ _ => rfl)]
  exact hp
end
section
variable {K : Fr} {B : Bs} {G : En} {te : TE} {P : Po} {tt tt1 : TT}
theorem dw_lc2E {wi wi1 : TI} {g g1 : TG} {ch ch1 : List Nat} {vs vs1 : List Nat} (hsub : ∀ k ∈ ch, k ∈ vs) (hsub1 : ∀ k ∈ ch1, k ∈ vs1) (hv : ∀ k ∈ vs1, k ∈ vs)
    (h : DI K B G wi fun G1 ds => ∃ (J : Nat → List PyData → En → Prop) (J1 : Nat → List PyData → Nat → List PyData → En → Prop), J 0 [] (wipeG G1 vs) ∧ (∀ (B' : Bs) i acc G2 d, ds[i]? = some d → J i acc G2 → DG K B' G2 g ch (.d d) fun G3 => DT K B' G3 tt fun G4 b => if b = true then
      DI K B' G4 wi1 fun G5 ds1 => J1 i ds1 0 acc (wipeG G5 vs1) ∧ (∀ (B'' : Bs) j acc G6 d1, ds1[j]? = some d1 → J1 i ds1 j acc G6 → DG K B'' G6 g1 ch1 (.d d1) fun G7 => DT K B'' G7 tt1 fun G8 b => if b = true then
        DW K B'' G8 te fun G9 r => PW r fun w => ∃ y, w = .d y ∧ acc.length < sizeLine ∧ J1 i ds1 (j + 1) (acc ++ [y]) (wipeG G9 vs1) else J1 i ds1 (j + 1) acc (wipeG G8 vs1)) ∧ (∀ acc G6, J1 i ds1 ds1.length acc G6 → J (i + 1) acc (wipeG G6 vs))
      else J (i + 1) acc (wipeG G4 vs)) ∧ ∀ acc G2, J ds.length acc G2 → P (wipeG G2 vs) (.fr (.o none acc))) :
    DW K B G (tLc2 wi g tt wi1 g1 tt1 te vs vs1) P := fun S F H Q I k => by
  refine h S F H _ I fun It F1 H1 G1 ds e1 I1 Y ⟨J, J1, j0, hs, hd⟩ => ?_
  intro D hD
  refine ⟨fun i m H => m = ds.length - i ∧ i ≤ ds.length ∧ ∃ F2 G2 acc, Ex F1 F2 ∧ Iv K B (G2 ++ [.o none acc]) (L2.wipe S vs ++ [some (.ref D)]) F2 H ∧ J i acc G2, ⟨_, rfl, Nat.zero_le _, F1, _, [], Ex.refl _, (I1.wipe vs).newL hD .nil, j0⟩, ?_⟩
  rintro i m H2 ⟨rfl, hi, F2, G2, acc, e2, I2, j2⟩
  by_cases hlt : i < ds.length
  · obtain ⟨d, hd'⟩ : ∃ d, ds[i]? = some d := ⟨_, List.getElem?_eq_getElem hlt⟩
    refine .inr ⟨((Y i H2 F2 e2 I2.ex).1 d hd').1, fun H => ∃ F2 G2 acc, Ex F1 F2 ∧ Iv K B (G2 ++ [.o none acc]) (L2.wipe S vs ++ [some (.ref D)]) F2 H ∧ J (i + 1) acc G2, fun H' p => ⟨ds.length - (i + 1), by omega, rfl, hlt, p⟩, fun x H3 y => ?_⟩
    obtain ⟨F3, e3, I3, hx⟩ := Y.turn e2 I2 hd' y
    obtain ⟨D', accv, mu, eD, hD3, ha3, Ia, back⟩ := I3.aside
    cases eD
    refine hs _ i acc G2 d hd' j2 _ F3 H3 x _ Ia hx fun S4 F4 H4 G4 e4 I4 l4 u4 q => ?_
    have ew : L2.wipe S4 vs = L2.wipe S vs := by
      rw [wipe_ext l4 fun k hk => u4 k fun z => hk (hsub k z)]
      exact wipe_ext (wipe_length S vs) fun k hk => wipe_ne hk
    refine ⟨ew, q S4 F4 H4 _ I4 fun b F5 H5 G5 e5 I5 q5 => ?_⟩
    cases b with
    | false =>
      show ∃ F2 G2 acc, Ex F1 F2 ∧ Iv K B (G2 ++ [.o none acc]) (L2.wipe S vs ++ [some (.ref D)]) F2 H5 ∧ J (i + 1) acc G2
      obtain ⟨_, I6⟩ := back _ _ _ _ (I5.wipe vs)
      rw [ew] at I6
      exact ⟨F5, _, acc, ((e2.trans e3).trans e4).trans e5, I6, q5⟩
    | true =>
      show wi1 S4 H5 fun J1' H4 => ∃ W1 : Nat → Nat → Hp → Prop, _ ∧ _
      refine q5 S4 F5 H5 _ I5 fun It1 F6 H6 G6 ds1 e6 I6 Y1 ⟨k0, ks, kd⟩ => ?_
      obtain ⟨_, I7⟩ := back _ _ _ _ (I6.wipe vs1)
      have e06 : Ex F1 F6 := (((e2.trans e3).trans e4).trans e5).trans e6
      refine ⟨fun j m H => m = ds1.length - j ∧ j ≤ ds1.length ∧ ∃ F8 G8 acc, Ex F6 F8 ∧ Iv K B (G8 ++ [.o none acc]) (L2.wipe S4 vs1 ++ [some (.ref D)]) F8 H ∧ J1 i ds1 j acc G8, ⟨_, rfl, Nat.zero_le _, F6, _, acc, Ex.refl _, I7, k0⟩, ?_⟩
      rintro j m H8 ⟨rfl, hj, F8, G8, acc8, e8, I8, j8⟩
      by_cases hlt1 : j < ds1.length
      · obtain ⟨d1, hd1⟩ : ∃ d, ds1[j]? = some d := ⟨_, List.getElem?_eq_getElem hlt1⟩
        refine .inr ⟨((Y1 j H8 F8 e8 I8.ex).1 d1 hd1).1, fun H => ∃ F8 G8 acc, Ex F6 F8 ∧ Iv K B (G8 ++ [.o none acc]) (L2.wipe S4 vs1 ++ [some (.ref D)]) F8 H ∧ J1 i ds1 (j + 1) acc G8, fun H' p => ⟨ds1.length - (j + 1), by omega, rfl, hlt1, p⟩, fun x H9 y => ?_⟩
        obtain ⟨F9, e9, I9, hx9⟩ := Y1.turn e8 I8 hd1 y
        obtain ⟨D', accv9, mu9, eD, hD9, ha9, Ia9, back9⟩ := I9.aside
        cases eD
        refine ks _ j acc8 G8 d1 hd1 j8 _ F9 H9 x _ Ia9 hx9 fun Sa Fa Ha Ga ea Ja la ua qa => ?_
        have ew1 : L2.wipe Sa vs1 = L2.wipe S4 vs1 := by
          rw [wipe_ext la fun k hk => ua k fun z => hk (hsub1 k z)]
          exact wipe_ext (wipe_length S4 vs1) fun k hk => wipe_ne hk
        refine ⟨ew1, qa Sa Fa Ha _ Ja fun b Fb Hb Gb eb Ib qb => ?_⟩
        cases b with
        | false =>
          show ∃ F8 G8 acc, Ex F6 F8 ∧ Iv K B (G8 ++ [.o none acc]) (L2.wipe S4 vs1 ++ [some (.ref D)]) F8 Hb ∧ J1 i ds1 (j + 1) acc G8
          obtain ⟨_, Ic⟩ := back9 _ _ _ _ (Ib.wipe vs1)
          rw [ew1] at Ic
          exact ⟨Fb, _, acc8, ((e8.trans e9).trans ea).trans eb, Ic, qb⟩
        | true =>
          show te Sa Hb fun y H7 => ∃ acc, H7 D = some (.lst acc) ∧ acc.length < sizeLine ∧ (∃ F8 G8 acc', Ex F6 F8 ∧ Iv K B (G8 ++ [.o none acc']) (L2.wipe S4 vs1 ++ [some (.ref D)]) F8 (upd H7 D (.lst (acc ++ [y]))) ∧ J1 i ds1 (j + 1) acc' G8)
          refine dw_run (k' := fun G5 w => ∃ y, w = .d y ∧ acc8.length < sizeLine ∧ J1 i ds1 (j + 1) (acc8 ++ [y]) (wipeG G5 vs1)) qb Ib fun v Fc Hc Gc w ec Ic hv' qc => ?_
          obtain ⟨y, rfl, hz, jc⟩ := qc
          obtain ⟨hDc, Id⟩ := back9 _ _ _ _ (Ic.wipe vs1)
          rw [ew1] at Id
          refine ⟨accv9, hDc, by rw [da_len ha9]; exact hz, Fc, _, acc8 ++ [y], (((e8.trans e9).trans ea).trans eb).trans ec, ?_, jc⟩
          have hl : (L2.wipe S4 vs1).length = (wipeG Gc vs1).length := by
            have := Id.len
            simpa using this
          have Ie := Id.mut (i := (wipeG Gc vs1).length) (p := D) (q := none) (ds := acc8) (ds' := acc8 ++ [y]) (vs' := accv9 ++ [v]) (by simp) (by rw [← hl]; simp) (da_app (da_mono ((ea.trans eb).trans ec) ha9) (.cons hv' .nil))
          have eg : (wipeG Gc vs1 ++ [Sl.o none acc8]).set (wipeG Gc vs1).length (.o none (acc8 ++ [y])) = wipeG Gc vs1 ++ [.o none (acc8 ++ [y])] := by simp
          rw [eg] at Ie
          exact Ie
      · have e : j = ds1.length := by omega
        subst e
        refine .inl ⟨(Y1 _ H8 F8 e8 I8.ex).2 rfl, F8, _, acc8, e06.trans e8, ?_, kd acc8 G8 j8⟩
        obtain ⟨D', accv9, mu9, eD, hD9, ha9, Ia9, back9⟩ := I8.aside
        have I9 := (back9 _ _ _ _ (Ia9.wipe vs)).2
        have ew2 : L2.wipe (L2.wipe S4 vs1) vs = L2.wipe S vs := by
          rw [← ew]
          exact wipe_ext (wipe_length S4 vs1) fun k hk => wipe_ne fun z => hk (hv k z)
        rw [ew2] at I9
        exact I9
  · have e : i = ds.length := by omega
    subst e
    refine .inl ⟨(Y _ H2 F2 e2 I2.ex).2 rfl, ?_⟩
    have I3 : Iv K B (wipeG G2 vs ++ [.o none acc]) (S ++ [some (.ref D)]) F2 H2 := by
      obtain ⟨D', accv, mu, eD, hD3, ha3, Ia, back⟩ := I2.aside
      exact (back _ _ _ _ ((Ia.wipe vs).wiped (S := S) (by rw [wipe_length, wipe_length]) fun k hk => by rw [wipe_ne hk, wipe_ne hk])).2
    exact k (.ref D) F2 H2 (wipeG G2 vs) (.fr (.o none acc)) (e1.trans e2) I3 (hd acc G2 j2)

theorem set4 {α : Type} (G : List α) {i i1 : Nat} (u : α) (h : i ≠ i1) : ((((G.set i1 u).set i u).set i1 u).set i u) = (G.set i1 u).set i u := by
  have e := List.set_comm (l := G.set i1 u) u u h
  rw [e, List.set_set, List.set_set]
/-- [f x y for x in xs for y in ys x], nothing else changes -/
theorem dw_lc2M {α β : Type} (xs : List α) (enc : α → PyData) (ys : α → List β) (enc1 : β → PyData) (f : α → β → PyData) {wi wi1 : TI} {i i1 : Nat} (hne : i ≠ i1) (hz : (xs.flatMap fun x => (ys x).map (f x)).length ≤ sizeLine)
    (h : DI K B G wi fun G1 ds => ds = xs.map enc ∧ (∀ (B' : Bs) x, x ∈ xs → DI K B' (((G1.set i1 .un).set i .un).set i (.d (enc x))) wi1 fun G5 ds1 => ds1 = (ys x).map enc1 ∧ G5 = ((G1.set i1 .un).set i .un).set i (.d (enc x)) ∧
      ∀ (B'' : Bs) y, y ∈ ys x → DW K B'' ((((G1.set i1 .un).set i .un).set i (.d (enc x))).set i1 (.d (enc1 y))) te fun G9 r => PW r fun w => w = .d (f x y) ∧ G9.set i1 .un = ((((G1.set i1 .un).set i .un).set i (.d (enc x))).set i1 .un)) ∧
      P ((G1.set i1 .un).set i .un) (.fr (.o none (xs.flatMap fun x => (ys x).map (f x))))) : DW K B G (tLc2 wi (gName i) tYes wi1 (gName i1) tYes te [i, i1] [i1]) P := by
  refine dw_lc2E (ch := [i]) (ch1 := [i1]) (fun k hk => by simp at hk; simp [hk]) (fun k hk => hk) (fun k hk => by simp at hk; simp [hk]) ?_
  refine fun S F H R I k => h S F H R I fun J F1 H1 G1 ds e I1 Y ⟨hds, hs, hp⟩ => k J F1 H1 G1 ds e I1 Y ⟨fun n acc G2 => acc = ((xs.take n).flatMap fun x => (ys x).map (f x)) ∧ G2 = (G1.set i1 .un).set i .un,
    fun n ds1 m acc G6 => ∃ x, xs[n]? = some x ∧ ds1 = (ys x).map enc1 ∧ acc = ((xs.take n).flatMap fun x => (ys x).map (f x)) ++ ((ys x).take m).map (f x) ∧ G6 = ((((G1.set i1 .un).set i .un).set i (.d (enc x))).set i1 .un), ⟨rfl, rfl⟩, fun B' n acc G2 d hd ⟨ha, hG⟩ => ?_, fun acc G2 ⟨ha, hG⟩ => ?_⟩
  · subst hds hG
    rw [List.getElem?_map] at hd
    obtain ⟨x, hx, rfl⟩ := Option.map_eq_some_iff.mp hd
    have hn : n < xs.length := (List.getElem?_eq_some_iff.mp hx).1
    have et : xs.take (n + 1) = xs.take n ++ [x] := by
      rw [List.take_succ, hx]
      rfl
    refine dg_name (dt_yes ?_)
    rw [if_pos rfl]
    refine fun S F H R I k => hs B' x (List.mem_of_getElem? hx) S F H R I fun J2 F2 H2 G5 ds1 e2 I2 Y2 ⟨hds1, hG5, hw⟩ => k J2 F2 H2 G5 ds1 e2 I2 Y2 ⟨⟨x, hx, hds1, by rw [ha]; simp, by rw [hG5]; rfl⟩, fun B'' m acc2 G6 d1 hd1 ⟨x', hx', hds', ha', hG6⟩ => ?_, fun acc2 G6 ⟨x', hx', hds', ha', hG6⟩ => ?_⟩
    · rw [hx] at hx'
      obtain rfl := Option.some.inj hx'
      subst hds1 hG6
      rw [List.getElem?_map] at hd1
      obtain ⟨y, hy, rfl⟩ := Option.map_eq_some_iff.mp hd1
      have hm : m < (ys x).length := (List.getElem?_eq_some_iff.mp hy).1
      have et1 : (ys x).take (m + 1) = (ys x).take m ++ [y] := by
        rw [List.take_succ, hy]
        rfl
      have hl : acc2.length < sizeLine := by
        have e1 : xs = xs.take n ++ x :: xs.drop (n + 1) := by
          rw [List.getElem?_eq_getElem hn] at hx
          have := Option.some.inj hx
          rw [← this, ← List.drop_eq_getElem_cons hn, List.take_append_drop]
        rw [ha', List.length_append, List.length_map, List.length_take]
        have hz2 := hz
        rw [e1, List.flatMap_append, List.length_append, List.flatMap_cons, List.length_append, List.length_map] at hz2
        omega
      refine dg_name (dt_yes ?_)
      rw [if_pos rfl, List.set_set]
      refine fun S F H Q I k => hw B'' y (List.mem_of_getElem? hy) S F H Q I fun v F' H' G' r e V pq => k v F' H' G' r e V ?_
      match r, pq with
      | .p w, ⟨hw, hG⟩ => exact ⟨f x y, hw, hl, x, hx, rfl, by rw [et1, List.map_append, ← List.append_assoc, ← ha']; rfl, hG⟩
      | .fr (.o _ _), ⟨hw, hG⟩ => exact ⟨f x y, hw, hl, x, hx, rfl, by rw [et1, List.map_append, ← List.append_assoc, ← ha']; rfl, hG⟩
    · rw [hx] at hx'
      obtain rfl := Option.some.inj hx'
      subst hds1 hG6
      rw [List.length_map, List.take_length] at ha'
      refine ⟨by rw [ha', et, List.flatMap_append]; simp, ?_⟩
      show (((((((G1.set i1 .un).set i .un).set i (.d (enc x))).set i1 .un)).set i1 .un).set i .un) = _
      rw [List.set_set]
      have e := List.set_comm (l := ((G1.set i1 .un).set i .un).set i (.d (enc x))) Sl.un Sl.un hne.symm
      rw [e, List.set_set, List.set_set, List.set_comm (l := (G1.set i1 .un)) Sl.un Sl.un hne, List.set_set]
  · subst hds hG
    rw [List.length_map, List.take_length] at ha
    rw [ha]
    show P ((((G1.set i1 .un).set i .un).set i1 .un).set i .un) _
    rw [set4 _ _ hne]
    exact hp
end
/-! ### loops whose invariant is chosen where the items are known -/
section
variable {K : Fr} {B : Bs} {G : En} {te : TE} {P : Po} {tt : TT} {t : TS} {E : De}
theorem ds_forE {wi : TI} {g : TG} {ch : List Nat} (h : DI K B G wi fun G1 ds => ∃ J : Nat → En → Prop, J 0 G1 ∧ (∀ i G2 d, ds[i]? = some d → J i G2 → DG K B G2 g ch (.d d) fun G3 => DS K B G3 t { E with nx := J (i + 1), ct := J (i + 1), bk := E.nx }) ∧ ∀ G2, J ds.length G2 → E.nx G2) :
    DS K B G (tFor wi g t) E := fun S F H D I c => by
  refine h S F H _ I fun It F1 H1 G1 ds e1 I1 Y ⟨J, j0, hs, hd⟩ => ?_
  refine ⟨fun i m S H => m = ds.length - i ∧ i ≤ ds.length ∧ ∃ F2 G2, Ex F1 F2 ∧ Iv K B G2 S F2 H ∧ J i G2, ⟨_, rfl, Nat.zero_le _, F1, G1, Ex.refl _, I1, j0⟩, ?_⟩
  rintro i m S2 H2 ⟨rfl, hi, F2, G2, e2, I2, j2⟩
  by_cases hlt : i < ds.length
  · obtain ⟨d, hd'⟩ : ∃ d, ds[i]? = some d := ⟨_, List.getElem?_eq_getElem hlt⟩
    refine .inr ⟨((Y i H2 F2 e2 I2.ex).1 d hd').1, fun S H => ∃ F2 G2, Ex F1 F2 ∧ Iv K B G2 S F2 H ∧ J (i + 1) G2, fun S' H' p => ⟨ds.length - (i + 1), by omega, rfl, hlt, p⟩, fun x H3 y => ?_⟩
    obtain ⟨F3, e3, I3, hx⟩ := Y.turn e2 I2 hd' y
    refine hs i G2 d hd' j2 S2 F3 H3 x _ I3 hx fun S4 F4 H4 G4 e4 I4 _ _ q => ?_
    have e5 := (e2.trans e3).trans e4
    exact q S4 F4 H4 _ I4 ⟨fun S F H G e I j => ⟨F, G, e5.trans e, I, j⟩, fun S F H G v r e => c.rt S F H G v r ((e1.trans e5).trans e), fun S F H G e I p => c.nx S F H G ((e1.trans e5).trans e) I p, fun S F H G e I j => ⟨F, G, e5.trans e, I, j⟩⟩
  · have e : i = ds.length := by omega
    subst e
    exact .inl ⟨(Y _ H2 F2 e2 I2.ex).2 rfl, c.nx S2 F2 H2 G2 (e1.trans e2) I2 (hd G2 j2)⟩
end
end DL
namespace DL
open PySem L2
/-! ### specs by a parameter -/
def spI {ι : Type} (K : Fr) (args : ι → List PyData) (pre : ι → Prop) (res : ι → Rs → Prop) : Sp := fun vs H Q E => ∃ x, pre x ∧ sp0 K (fun ds => ds = args x) (fun _ r => res x r) vs H Q E
def spJ {ι : Type} (K : Fr) (ls args : ι → List PyData) (pre : ι → Prop) (res : ι → List PyData → PyData → Prop) : Sp := fun vs H Q E => ∃ x, pre x ∧ sp1 K (fun l ds => l = ls x ∧ ds = args x) (fun _ _ l' d => res x l' d) vs H Q E
def spXI {ι : Type} (K : Fr) (args : ι → List PyData) (pre : ι → Prop) (res : ι → Rs → Prop) (exc : ι → Value → Prop) : Sp := fun vs H Q E => ∃ x, pre x ∧ spX K (fun ds => ds = args x) (fun _ r => res x r) (fun _ c => exc x c) vs H Q E
section
variable {P : Program} {w : World} {K : Fr} {mg : Str → Option Value} {base : Heap} {CX : CXT} {k : Nat} {f : Addr} {fd : FuncData} {ps : List Str}
theorem fnEx {ι : Type} {pre : ι → Prop} {sp : ι → Sp} (h : ∀ x, pre x → FnOk P w K mg base CX k f fd ps (sp x)) : FnOk P w K mg base CX k f fd ps (fun vs H Q E => ∃ x, pre x ∧ sp x vs H Q E) where
  len := fun vs H Q E ⟨x, hp, hs⟩ => (h x hp).len vs H Q E hs
  run := fun A outer s H args us vs Q E hr h1 h2 h3 ⟨x, hp, hs⟩ => (h x hp).run A outer s H args us vs Q E hr h1 h2 h3 hs
variable {x qual : Str} {st : Stmt} {N : List Str}
theorem fnI {ι : Type} {args : ι → List PyData} {pre : ι → Prop} {res : ι → Rs → Prop} (F : Fun K x qual st f fd) (S : FnScope N ps (defScope st)) (hl : ∀ x, (args x).length = ps.length ∧ ps.length ≤ N.length)
    (hb : ∀ (cdv : Value) (A : Around) (outer : List Env) (s : Shared) (H : Hp) (E : XK), Room k (A.deeper (PyProof.Rows.envOfC qual (defScope st) s.heap.objs.size f cdv)) → ∃ t, PSs (cxOf CX0 P w K mg base N qual (defScope st) f cdv A outer s H E).nox (defBody st) t ∧
      ∀ x, pre x → ∀ B, DS K B (G0 N (args x)) t (E0 (res x))) : FnOk P w K mg base CX0 (k + 1) f fd ps (spI K args pre res) :=
  fnEx (sp := fun x => sp0 K (fun ds => ds = args x) (fun _ r => res x r)) fun x hp => fn0 F S (fun ds e => by
    subst e
    have := hl x
    exact ⟨this.1, by omega⟩) fun cdv A outer s H E hr => by
      obtain ⟨t, h1, h2⟩ := hb cdv A outer s H E hr
      exact ⟨t, h1, fun ds e B => by
        subst e
        exact h2 x hp B⟩
theorem fnJ {ι : Type} {ls args : ι → List PyData} {pre : ι → Prop} {res : ι → List PyData → PyData → Prop} (F : Fun K x qual st f fd) (S : FnScope N ps (defScope st)) (hl : ∀ x, (args x).length + 1 = ps.length ∧ ps.length ≤ N.length)
    (hb : ∀ (cdv : Value) (A : Around) (outer : List Env) (s : Shared) (H : Hp) (E : XK), Room k (A.deeper (PyProof.Rows.envOfC qual (defScope st) s.heap.objs.size f cdv)) → ∃ t, PSs (cxOf CX0 P w K mg base N qual (defScope st) f cdv A outer s H E).nox (defBody st) t ∧
      ∀ x, pre x → ∀ p B, DS K B (G1 N p (ls x) (args x)) t (E1 p (res x))) : FnOk P w K mg base CX0 (k + 1) f fd ps (spJ K ls args pre res) :=
  fnEx (sp := fun x => sp1 K (fun l ds => l = ls x ∧ ds = args x) (fun _ _ l' d => res x l' d)) fun x hp => fn1 F S (fun l ds e => by
    obtain ⟨e1, e2⟩ := e
    subst e1 e2
    have := hl x
    exact ⟨this.1, by omega⟩) fun cdv A outer s H E hr => by
      obtain ⟨t, h1, h2⟩ := hb cdv A outer s H E hr
      exact ⟨t, h1, fun p l ds e B => by
        obtain ⟨e1, e2⟩ := e
        subst e1 e2
        exact h2 x hp p B⟩
theorem fnXI {ι : Type} {args : ι → List PyData} {pre : ι → Prop} {res : ι → Rs → Prop} {exc : ι → Value → Prop} (F : Fun K x qual st f fd) (S : FnScope N ps (defScope st)) (hl : ∀ x, (args x).length = ps.length ∧ ps.length ≤ N.length)
    (hb : ∀ (cdv : Value) (A : Around) (outer : List Env) (s : Shared) (H : Hp) (E : XK), Room k (A.deeper (PyProof.Rows.envOfC qual (defScope st) s.heap.objs.size f cdv)) → ∃ t, PSs (cxOf (L2.CX P w) P w K mg base N qual (defScope st) f cdv A outer s H E) (defBody st) t ∧
      ∀ x, pre x → ∀ B, Tk K B (exc x) E → DS K B (G0 N (args x)) t (E0 (res x))) : FnOk P w K mg base (L2.CX P w) (k + 1) f fd ps (spXI K args pre res exc) :=
  fnEx (sp := fun x => spX K (fun ds => ds = args x) (fun _ r => res x r) (fun _ c => exc x c)) fun x hp => fnX F S (fun ds e => by
    subst e
    have := hl x
    exact ⟨this.1, by omega⟩) fun cdv A outer s H E hr => by
      obtain ⟨t, h1, h2⟩ := hb cdv A outer s H E hr
      exact ⟨t, h1, fun ds e B hE => by
        subst e
        exact h2 x hp B hE⟩
end
section
variable {K : Fr} {B : Bs} {G G1 : En} {P : Po} {t : TA} {E : XK} {S : St} {F F1 H1 : Hp} {Q : VK} {vs : List V} {ws : List W}
theorem core0 {pre : List PyData → Prop} {post : List PyData → Rs → Prop} {ds : List PyData} (k : Ct K B S F P Q) (e1 : Ex F F1) (I1 : Iv K B G1 S F1 H1) (hv : Vws K S F1 vs ws) (hd : allD ws = some ds) (hp : pre ds) (q : ∀ r, post ds r → P G1 r) : sp0 K pre post vs H1 Q E := by
  refine ⟨F1, ds, I1.ex, allD_ok hd hv, hp, fun v F2 H2 r a1 a2 a3 a4 a5 a6 => ?_⟩
  match r, a5, a6 with
  | .p (.d d), a5, a6 => exact k v F2 H2 G1 (.p (.d d)) (e1.trans a1) ⟨I1.grow a1 a3 a2 a4, a5⟩ (q _ a6)
  | .fr s, ⟨A, b1, b2⟩, a6 =>
    refine k v F2 H2 G1 (.fr s) (e1.trans a1) ?_ (q _ a6)
    exact I1.add a1 a3 a2 a4 (some v) A (.inr ⟨v, rfl, b1⟩) fun a ha => ⟨(b2 a ha).2.2, (b2 a ha).1, (b2 a ha).2.1⟩
theorem coreX {pre : List PyData → Prop} {post : List PyData → Rs → Prop} {exc : List PyData → Value → Prop} {ds : List PyData} (k : Ct K B S F P Q) (e1 : Ex F F1) (I1 : Iv K B G1 S F1 H1) (hv : Vws K S F1 vs ws) (hd : allD ws = some ds) (hp : pre ds) (q : ∀ r, post ds r → P G1 r)
    (hE : ∀ cls F2 H2, Iv K B G1 S F2 H2 → exc ds cls → E cls none H2) : spX K pre post exc vs H1 Q E := by
  refine ⟨F1, ds, I1.ex, allD_ok hd hv, hp, fun v F2 H2 r a1 a2 a3 a4 a5 a6 => ?_, fun cls F2 H2 a1 a2 a3 a4 a5 => hE cls F2 H2 (I1.grow a1 a3 a2 a4) a5⟩
  match r, a5, a6 with
  | .p (.d d), a5, a6 => exact k v F2 H2 G1 (.p (.d d)) (e1.trans a1) ⟨I1.grow a1 a3 a2 a4, a5⟩ (q _ a6)
  | .fr s, ⟨A, b1, b2⟩, a6 =>
    refine k v F2 H2 G1 (.fr s) (e1.trans a1) ?_ (q _ a6)
    exact I1.add a1 a3 a2 a4 (some v) A (.inr ⟨v, rfl, b1⟩) fun a ha => ⟨(b2 a ha).2.2, (b2 a ha).1, (b2 a ha).2.1⟩
theorem core1 {pre : List PyData → List PyData → Prop} {post : List PyData → List PyData → List PyData → PyData → Prop} {i : Nat} {a : Option Addr} {ls ds : List PyData} {wr : List W} (k : Ct K B S F P Q) (e1 : Ex F F1) (I1 : Iv K B G1 S F1 H1) (hv : Vws K S F1 vs (.sl i :: wr)) (hd : allD wr = some ds) (hi : G1[i]? = some (.o a ls)) (hp : pre ls ds) (q : ∀ ls' d, post ls ds ls' d → P (G1.set i (.o a ls')) (.p (.d d))) : sp1 K pre post vs H1 Q E := by
  cases hv with
  | @cons v0 _ vr _ hv0 hvr =>
  obtain ⟨A, h1, h2, h3⟩ := I1.own
  obtain ⟨u, z1, p, vs0, rfl, z2, z3, z4, z5⟩ : ∃ v, S[i]? = some (some v) ∧ SvR K F1 H1 v (A i) (.o a ls) := (h1 i _ hi).elim (fun z => by cases z) id
  have hv0 : S[i]? = some (some v0) := hv0
  rw [hv0] at z1
  cases z1
  obtain ⟨y1, y2, y3⟩ := h3 i p z4
  refine ⟨F1, p, vs0, vr, ls, ds, rfl, I1.ex, y1, z2, z3, allD_ok hd hvr, hp, fun v F2 H2 vs' ls' d a1 a2 a3 a4 a5 a6 a7 a8 a9 => ?_⟩
  refine k v F2 H2 (G1.set i (.o a ls')) (.p (.d d)) (e1.trans a1) ⟨?_, a8⟩ (q ls' d a9)
  have own : ∀ j b, A j b → F2 b = none ∧ H2 b ≠ none ∧ (j ≠ i → H2 b = H1 b) := fun j b hb => by
    obtain ⟨x, y, z⟩ := h3 j b hb
    refine ⟨?_, ?_, fun hj => ?_⟩
    · cases q : F2 b with
      | none => rfl
      | some o => exact absurd (a4 b o q x) y
    · by_cases hbp : b = p
      · rw [hbp, a6]
        exact fun z => by cases z
      · cases q : H1 b with
        | none => exact absurd q y
        | some o =>
          rw [a3 b o q hbp]
          exact fun z => by cases z
    · cases q : H1 b with
      | none => exact absurd q y
      | some o =>
        refine a3 b o q fun e => ?_
        subst e
        exact hj (h2 _ _ _ hb z4)
  refine ⟨a2, I1.f0.trans a1, fun b o hb hm => ?_, fun b o hb hn => ?_, fun b hb => ?_, by simpa using I1.len, A, fun j s2 hj => ?_, h2, fun j b hb => ⟨(own j b hb).1, (own j b hb).2.1, (h3 j b hb).2.2⟩⟩
  · refine a3 b o (I1.fr b o hb hm) fun e => ?_
    subst e
    rcases y3 with z | z
    · rw [hb] at z
      cases z
    · exact hm z
  · cases q : F1 b with
    | some u => exact I1.nw b u q hn
    | none => exact absurd (I1.new0 (a4 b o hb q)) hn
  · have := I1.st b hb
    by_cases hbp : b = p
    · rw [hbp, a6]
      exact fun z => by cases z
    · cases q : H1 b with
      | none => exact absurd q this
      | some o =>
        rw [a3 b o q hbp]
        exact fun z => by cases z
  · by_cases e : i = j
    · subst e
      obtain ⟨rfl, _⟩ := set_same hj
      exact .inr ⟨_, hv0, p, vs', rfl, a6, a7, z4, z5⟩
    · rw [List.getElem?_set_ne e] at hj
      rcases h1 j s2 hj with z | ⟨u, x1, x2⟩
      · exact .inl z
      · exact .inr ⟨u, x1, slr_stab x2 a1 fun b hb => (own j b hb).2.2 (Ne.symm e)⟩
theorem dw_callI {ι : Type} {args : ι → List PyData} {pre : ι → Prop} {res : ι → Rs → Prop} (h : DA K B G t fun G1 ws => ∃ x, pre x ∧ allD ws = some (args x) ∧ ∀ r, res x r → P G1 r) : DW K B G (tCall (spI K args pre res) [] E t) P := fun S F H Q I k => by
  show t S H fun vs H1 => ∃ x, pre x ∧ sp0 K (fun ds => ds = args x) (fun _ r => res x r) (vs ++ []) H1 Q E
  refine h S F H _ I fun vs F1 H1 G1 ws e1 I1 hv ⟨x, hp, hd, q⟩ => ⟨x, hp, ?_⟩
  rw [List.append_nil]
  exact core0 k e1 I1 hv hd rfl q
theorem dw_callJ {ι : Type} {ls args : ι → List PyData} {pre : ι → Prop} {res : ι → List PyData → PyData → Prop} (h : DA K B G t fun G1 ws => ∃ x i a wr, pre x ∧ ws = .sl i :: wr ∧ allD wr = some (args x) ∧ G1[i]? = some (.o a (ls x)) ∧ ∀ l' d, res x l' d → P (G1.set i (.o a l')) (.p (.d d))) : DW K B G (tCall (spJ K ls args pre res) [] E t) P := fun S F H Q I k => by
  show t S H fun vs H1 => ∃ x, pre x ∧ sp1 K (fun l ds => l = ls x ∧ ds = args x) (fun _ _ l' d => res x l' d) (vs ++ []) H1 Q E
  refine h S F H _ I fun vs F1 H1 G1 ws e1 I1 hv ⟨x, i, a, wr, hp, hw, hd, hi, q⟩ => ⟨x, hp, ?_⟩
  rw [List.append_nil]
  subst hw
  exact core1 k e1 I1 hv hd hi ⟨rfl, rfl⟩ q
theorem dw_callXI {ι : Type} {args : ι → List PyData} {pre : ι → Prop} {res : ι → Rs → Prop} {exc : ι → Value → Prop} {ex0 : Value → Prop} (hE : Tk K B ex0 E) (h : DA K B G t fun G1 ws => ∃ x, pre x ∧ allD ws = some (args x) ∧ (∀ r, res x r → P G1 r) ∧ ∀ c, exc x c → ex0 c) : DW K B G (tCall (spXI K args pre res exc) [] E t) P := fun S F H Q I k => by
  show t S H fun vs H1 => ∃ x, pre x ∧ spX K (fun ds => ds = args x) (fun _ r => res x r) (fun _ c => exc x c) (vs ++ []) H1 Q E
  refine h S F H _ I fun vs F1 H1 G1 ws e1 I1 hv ⟨x, hp, hd, q, qx⟩ => ⟨x, hp, ?_⟩
  rw [List.append_nil]
  exact coreX k e1 I1 hv hd rfl q fun cls F2 H2 J z => hE cls S F2 H2 G1 J (qx cls z)
theorem dw_callNI {ι : Type} {args : ι → List PyData} {pre : ι → Prop} {res : ι → Rs → Prop} {exc : ι → Value → Prop} (h : DA K B G t fun G1 ws => ∃ x, pre x ∧ allD ws = some (args x) ∧ (∀ r, res x r → P G1 r) ∧ ∀ c, ¬ exc x c) : DW K B G (tCall (spXI K args pre res exc) [] E t) P :=
  dw_callXI (ex0 := fun _ => False) (fun _ _ _ _ _ _ z => z.elim) h
theorem dw_callSI {ι : Type} {args : ι → List PyData} {pre : ι → Prop} {res : ι → Rs → Prop} {exc : ι → Value → Prop} {W : WX} {ex0 : Value → En → Prop} (hE : TkW K B ex0 W) (h : DA K B G t fun G1 ws => ∃ x, pre x ∧ allD ws = some (args x) ∧ (∀ r, res x r → P G1 r) ∧ ∀ c, exc x c → ex0 c G1) : DW K B G (tCallS (spXI K args pre res exc) (WE W) t) P := fun S F H Q I k => by
  show t S H fun vs H1 => ∃ x, pre x ∧ spX K (fun ds => ds = args x) (fun _ r => res x r) (fun _ c => exc x c) vs H1 Q (fun cls d H => W cls d S H)
  refine h S F H _ I fun vs F1 H1 G1 ws e1 I1 hv ⟨x, hp, hd, q, qx⟩ => ⟨x, hp, ?_⟩
  exact coreX k e1 I1 hv hd rfl q fun cls F2 H2 J z => hE cls S F2 H2 G1 J (qx cls z)
end
end DL
namespace DL
open PySem L2
section
variable {K : Fr} {B : Bs} {G : En} {t u : TS} {E : De}
/-- between two statements: what is known of the slots -/
theorem ds_mid (M : En → Prop) (h1 : DS K B G t { E with nx := M }) (h2 : ∀ G1, M G1 → DS K B G1 u E) : DS K B G (tSeq t u) E := fun S F H D I c => by
  show t { D with nx := u D } S H
  exact h1 S F H _ I ⟨fun S F H G1 e I1 q => h2 G1 q S F H D I1 (c.mono e), c.rt, c.bk, c.ct⟩
theorem ite_k {c : Bool} {X Y : Prop} (h1 : c = true → X) (h2 : c = false → Y) : if c = true then X else Y := by
  cases c with
  | true =>
    rw [if_pos rfl]
    exact h1 rfl
  | false =>
    rw [if_neg (by simp)]
    exact h2 rfl
theorem ati {α β : Type} {f : α → β} {xs : List α} {i : Nat} {x : α} (h : xs[i]? = some x) : atI (xs.map f) (i : Int) = some (f x) := by
  have hl := (List.getElem?_eq_some_iff.mp h).1
  have e : ixN (xs.map f).length (i : Int) = some i := by
    unfold ixN
    rw [if_pos (Int.natCast_nonneg i), if_pos (by rw [List.length_map]; exact_mod_cast hl)]
    rfl
  unfold atI
  rw [e]
  show (xs.map f)[i]? = _
  rw [List.getElem?_map, h]
  rfl
theorem atn {α : Type} {xs : List α} {i : Nat} {x : α} (h : xs[i]? = some x) : atI xs (i : Int) = some x := by
  have := ati (f := id) h
  simpa using this
end
end DL
namespace DL
open PySem L2
theorem szl {n : Nat} (h : n ≤ 1000000) : n ≤ sizeLine := by
  rw [sizeLine_eq]
  omega
theorem szlt {n : Nat} (h : n ≤ 1000000) : n < sizeLine := by
  rw [sizeLine_eq]
  omega
theorem ite_t {X Y : Prop} (h : X) : if true = true then X else Y := by rw [if_pos rfl]; exact h
theorem ite_f {X Y : Prop} (h : Y) : if false = true then X else Y := by rw [if_neg (by simp)]; exact h
section
variable {K : Fr} {B : Bs} {G : En} {P : Po} {d : PyData}
theorem isi_int (q : P G (.p (.d (.bool (isiD d "int"))))) : RWn K B G (rIsi K) [.d d, .ty "int"] P := rn_isi rfl (kit_int d) q
theorem isi_bool (q : P G (.p (.d (.bool (isiD d "bool"))))) : RWn K B G (rIsi K) [.d d, .ty "bool"] P := rn_isi rfl (kit_bool d) q
theorem isi_str (q : P G (.p (.d (.bool (isiD d "str"))))) : RWn K B G (rIsi K) [.d d, .ty "str"] P := rn_isi rfl (kit_str d) q
theorem isi_tuple (q : P G (.p (.d (.bool (isiD d "tuple"))))) : RWn K B G (rIsi K) [.d d, .ty "tuple"] P := rn_isi rfl (kit_tuple d) q
theorem isi_list (q : P G (.p (.d (.bool (isiD d "list"))))) : RWn K B G (rIsi K) [.d d, .ty "list"] P := rn_isi rfl (kit_list d) q
theorem rn_lenD {ds : List PyData} (q : P G (.p (.d (.int (ds.length : Int))))) : RWn K B G (rLEN K) [.d (.list ds)] P := rn_lenL rfl q
theorem isN_d (q : P G (.p (.d (.bool (isNone d))))) : RW2 K B G (fun x y H Q => y = .non ∧ Q (.bl (decide (x = .non))) H) (.d d) (.d .none) P := rw_isN rfl q
theorem notN_d (q : P G (.p (.d (.bool (!isNone d))))) : RW2 K B G (fun x y H Q => y = .non ∧ Q (.bl (!decide (x = .non))) H) (.d d) (.d .none) P := rw_notN rfl q
end
end DL
namespace DL
open PySem L2
section
variable {d : PyData}
theorem isi_t (h : isiD d "tuple" = true) : ∃ xs, d = .tuple xs := by
  cases d with
  | tuple xs => exact ⟨xs, rfl⟩
  | none => exact Bool.noConfusion h
  | bool _ => exact Bool.noConfusion h
  | int _ => exact Bool.noConfusion h
  | str _ => exact Bool.noConfusion h
  | list _ => exact Bool.noConfusion h
  | dict _ => exact Bool.noConfusion h
theorem isi_l (h : isiD d "list" = true) : ∃ xs, d = .list xs := by
  cases d with
  | list xs => exact ⟨xs, rfl⟩
  | none => exact Bool.noConfusion h
  | bool _ => exact Bool.noConfusion h
  | int _ => exact Bool.noConfusion h
  | str _ => exact Bool.noConfusion h
  | tuple _ => exact Bool.noConfusion h
  | dict _ => exact Bool.noConfusion h
theorem isi_s (h : isiD d "str" = true) : ∃ z, d = .str (mkS z) := by
  cases d with
  | str x => exact ⟨_, congrArg PyData.str (mkS_of x).symm⟩
  | none => exact Bool.noConfusion h
  | bool _ => exact Bool.noConfusion h
  | int _ => exact Bool.noConfusion h
  | list _ => exact Bool.noConfusion h
  | tuple _ => exact Bool.noConfusion h
  | dict _ => exact Bool.noConfusion h
theorem isi_b (h : isiD d "bool" = true) : ∃ b, d = .bool b := by
  cases d with
  | bool b => exact ⟨b, rfl⟩
  | none => exact Bool.noConfusion h
  | int _ => exact Bool.noConfusion h
  | str _ => exact Bool.noConfusion h
  | list _ => exact Bool.noConfusion h
  | tuple _ => exact Bool.noConfusion h
  | dict _ => exact Bool.noConfusion h
theorem isi_i (h : isiD d "int" = true) (h' : isiD d "bool" = false) : ∃ i, d = .int i := by
  cases d with
  | int i => exact ⟨i, rfl⟩
  | bool _ => exact Bool.noConfusion h'
  | none => exact Bool.noConfusion h
  | str _ => exact Bool.noConfusion h
  | list _ => exact Bool.noConfusion h
  | tuple _ => exact Bool.noConfusion h
  | dict _ => exact Bool.noConfusion h
theorem not_f {b : Bool} (h : (!b) = true) : b = false := by
  cases b
  · rfl
  · exact absurd h (by simp)
theorem not_t {b : Bool} (h : (!b) = false) : b = true := by
  cases b
  · exact absurd h (by simp)
  · rfl
end
end DL
namespace DL
open PySem L2
/-! ### the ends, so told that terms stay small -/
def De.nxt (E : De) (f : En → Prop) : De := ⟨f, E.rt, E.bk, E.ct⟩
def De.lp (E : De) (f : En → Prop) : De := ⟨f, E.rt, E.nx, f⟩
section
variable {K : Fr} {B : Bs} {G : En} {t u : TS} {E : De} {f : En → Prop} {r : Rs} {d : PyData} {s : Sl} {i : Nat}
theorem nx_nxt (h : f G) : (E.nxt f).nx G := h
theorem rt_nxt (h : E.rt G r) : (E.nxt f).rt G r := h
theorem bk_nxt (h : E.bk G) : (E.nxt f).bk G := h
theorem ct_nxt (h : E.ct G) : (E.nxt f).ct G := h
theorem nx_lp (h : f G) : (E.lp f).nx G := h
theorem rt_lp (h : E.rt G r) : (E.lp f).rt G r := h
theorem bk_lp (h : E.nx G) : (E.lp f).bk G := h
theorem ct_lp (h : f G) : (E.lp f).ct G := h
theorem asn_d (h : E.nx (G.set i (.d d))) : AsN E G i (.p (.d d)) := h
theorem asn_fr (h : E.nx (G.set i s)) : AsN E G i (.fr s) := h
theorem ds_seq' (h : DS K B G t (E.nxt fun G1 => DS K B G1 u E)) : DS K B G (tSeq t u) E := ds_seq h
theorem ds_mid' (M : En → Prop) (h1 : DS K B G t (E.nxt M)) (h2 : ∀ G1, M G1 → DS K B G1 u E) : DS K B G (tSeq t u) E := ds_mid M h1 h2
theorem ds_forE' {wi : TI} {g : TG} {ch : List Nat} (h : DI K B G wi fun G1 ds => ∃ J : Nat → En → Prop, J 0 G1 ∧ (∀ i G2 d, ds[i]? = some d → J i G2 → DG K B G2 g ch (.d d) fun G3 => DS K B G3 t (E.lp (J (i + 1)))) ∧ ∀ G2, J ds.length G2 → E.nx G2) :
    DS K B G (tFor wi g t) E := ds_forE h
theorem ds_while' {tt : TT} (J : Nat → En → Prop) (m : Nat) (h0 : J m G) (hs : ∀ m G1, J m G1 → DT K B G1 tt fun G2 b => if b = true then DS K B G2 t (E.lp fun G3 => ∃ m', m' < m ∧ J m' G3) else E.nx G2) : DS K B G (tWhile tt t) E := ds_while J m h0 hs
variable {p : Rs → Prop} {a : Addr} {q : List PyData → PyData → Prop} {ls : List PyData}
theorem rt_E0 (h : p (.p (.d d))) : (DL.E0 p).rt G (.p (.d d)) := h
theorem rt_E0o {o : Option Addr} {ds : List PyData} (h : p (.fr (.o o ds))) : (DL.E0 p).rt G (.fr (.o o ds)) := And.intro (fun z => Sl.noConfusion z) h
theorem rt_E0s {o : Option Addr} {ds : List PyData} (hi : G[i]? = some (.o o ds)) (h : p (.fr (.o none ds))) : (DL.E0 p).rt G (.p (.sl i)) := ⟨o, ds, hi, h⟩
theorem nx_E0 (h : p (.p (.d .none))) : (DL.E0 p).nx G := h
theorem rt_E1 (hi : G[0]? = some (.o (some a) ls)) (h : q ls d) : (DL.E1 a q).rt G (.p (.d d)) := ⟨d, ls, rfl, hi, h⟩
theorem rt_E1o {o : Option Addr} {ds : List PyData} (hi : G[0]? = some (.o (some a) ls)) (h : q ls (.list ds)) : (DL.E1 a q).rt G (.fr (.o o ds)) := ⟨.list ds, ls, rfl, hi, h⟩
end
end DL
namespace DL
open PySem L2
theorem ite_T {c : Bool} {X Y : Prop} (e : c = true) (h : X) : if c = true then X else Y := by rw [if_pos e]; exact h
theorem ite_F {c : Bool} {X Y : Prop} (e : c = false) (h : Y) : if c = true then X else Y := by rw [e, if_neg (by simp)]; exact h
section
variable {G : En} {PT : En → Bool → Prop} {b : Bool} {ds : List PyData} {i : Int} {j : Nat}
theorem tr_b (h : PT G b) : TrW G PT (.d (.bool b)) := ⟨b, rfl, h⟩
theorem tr_i (h : PT G (i != 0)) : TrW G PT (.d (.int i)) := ⟨_, rfl, h⟩
theorem tr_n (h : PT G false) : TrW G PT (.d .none) := ⟨_, rfl, h⟩
theorem tr_T (h : PT G (!ds.isEmpty)) : TrW G PT (.d (.tuple ds)) := ⟨_, rfl, h⟩
theorem tr_L (h : PT G (!ds.isEmpty)) : TrW G PT (.d (.list ds)) := ⟨_, rfl, h⟩
theorem tr_o {a : Option Addr} (hi : G[j]? = some (.o a ds)) (h : PT G (!ds.isEmpty)) : TrW G PT (.sl j) := ⟨a, ds, hi, h⟩
end
end DL
namespace DL
open PySem L2
/-! ### shapes of data, equality of data -/
def Shp (n : Nat) (d : PyData) : Prop := d.canLay0 = true ∧ d.depth ≤ n
theorem shp_all {n : Nat} : ∀ {xs : List PyData}, (∀ x ∈ xs, Shp n x) → PyData.canLayAll0 xs = true ∧ PyData.depthAll xs ≤ n
  | [], _ => ⟨by simp [PyData.canLayAll0], by simp [PyData.depthAll]⟩
  | x :: xs, h => by
    obtain ⟨a, b⟩ := h x List.mem_cons_self
    obtain ⟨c, d⟩ := shp_all fun y hy => h y (List.mem_cons_of_mem _ hy)
    refine ⟨by simp [PyData.canLayAll0, a, c], ?_⟩
    simp only [PyData.depthAll]
    omega
theorem shp_list {n : Nat} {xs : List PyData} (h : ∀ x ∈ xs, Shp n x) : Shp (n + 1) (.list xs) := by
  obtain ⟨a, b⟩ := shp_all h
  exact ⟨by simp [PyData.canLay0, a], by simp only [PyData.depth]; omega⟩
theorem shp_tup {n : Nat} {xs : List PyData} (h : ∀ x ∈ xs, Shp n x) : Shp (n + 1) (.tuple xs) := by
  obtain ⟨a, b⟩ := shp_all h
  exact ⟨by simp [PyData.canLay0, a], by simp only [PyData.depth]; omega⟩
theorem shp_int (n : Nat) (i : Int) : Shp n (.int i) := ⟨by simp [PyData.canLay0], by simp [PyData.depth]⟩
theorem shp_bool (n : Nat) (b : Bool) : Shp n (.bool b) := ⟨by simp [PyData.canLay0], by simp [PyData.depth]⟩
theorem shp_none (n : Nat) : Shp n .none := ⟨by simp [PyData.canLay0], by simp [PyData.depth]⟩
theorem shp_str (n : Nat) {z : List Nat} (h : ∀ c ∈ z, c < 0x110000) : Shp n (.str (mkS z)) := by
  refine ⟨?_, by simp [PyData.depth]⟩
  simp only [PyData.canLay0, PyData.strOk, mkS]
  simpa using h
theorem shp_mono {n k : Nat} {d : PyData} (h : Shp n d) (hk : n ≤ k) : Shp k d := ⟨h.1, Nat.le_trans h.2 hk⟩
theorem shp_ok {n : Nat} {d : PyData} (h : Shp n d) (hn : n ≤ 64) : SeqAt.shaped d = true := by
  unfold SeqAt.shaped
  rw [h.1, decide_eq_true (Nat.le_trans h.2 hn)]
  rfl
theorem eqv_nil (xs : List PyData) : PyData.eqv (.list xs) (.list []) = xs.isEmpty := by
  cases xs <;> simp [PyData.eqv, PyData.eqvAll]
theorem eqv_nilT (xs : List PyData) : PyData.eqv (.tuple xs) (.tuple []) = xs.isEmpty := by
  cases xs <;> simp [PyData.eqv, PyData.eqvAll]
theorem any_inj {α : Type} [DecidableEq α] {f : α → PyData} (h : ∀ a b, PyData.eqv (f a) (f b) = decide (a = b)) (xs : List α) (x : α) : ((xs.map f).any fun z => PyData.eqv z (f x)) = decide (x ∈ xs) := by
  rw [List.any_map]
  induction xs with
  | nil => rfl
  | cons y ys ih =>
    rw [List.any_cons, ih]
    show (PyData.eqv (f y) (f x) || decide (x ∈ ys)) = decide (x ∈ y :: ys)
    rw [h]
    by_cases e : y = x
    · subst e
      simp
    · have e' : ¬ x = y := fun z => e z.symm
      simp [e, e']
theorem any_true {α : Type} (b : α → Bool) (xs : List α) : ((xs.map fun x => PyData.bool (b x)).any fun z => PyData.eqv z (.bool true)) = xs.any b := by
  rw [List.any_map]
  congr 1
  funext x
  show (PyData.eqv (.bool (b x)) (.bool true)) = b x
  simp [PyData.eqv]
theorem any_false {α : Type} (b : α → Bool) (xs : List α) : ((xs.map fun x => PyData.bool (b x)).any fun z => PyData.eqv z (.bool false)) = xs.any fun x => !b x := by
  rw [List.any_map]
  congr 1
  funext x
  show (PyData.eqv (.bool (b x)) (.bool false)) = !b x
  simp [PyData.eqv]
abbrev iD (n : Nat) : PyData := .int (n : Int)
theorem rng_nD (n : Nat) : rngD 0 ((n : Nat) : Int).toNat = (List.range n).map iD := by
  unfold rngD
  rw [Int.toNat_natCast]
  congr 1
  funext i
  show PyData.int (0 + (i : Int)) = PyData.int (i : Int)
  rw [Int.zero_add]
theorem eqv_iD (a b : Nat) : PyData.eqv (iD a) (iD b) = decide (a = b) := by
  simp only [PyData.eqv]
  by_cases h : a = b
  · subst h
    simp
  · rw [decide_eq_false h]
    have : ¬ ((a : Int) = (b : Int)) := fun e => h (Int.ofNat.inj e)
    simpa using this
theorem filter_isEmpty {α : Type} (p : α → Bool) (f : α → PyData) (xs : List α) : (((xs.filter p).map f).isEmpty) = !xs.any p := by
  induction xs with
  | nil => rfl
  | cons x xs ih =>
    rw [List.filter_cons, List.any_cons]
    cases p x with
    | true => simp
    | false => simpa using ih
end DL
namespace DL
open PySem L2
section
variable {K : Fr} {B : Bs} {G : En} {P : Po}
/-- [..] != [] -/
theorem rw_neF {α : Type} {xs : List α} {p : α → Bool} {f : α → PyData} (h : ∀ x ∈ xs, Shp 60 (f x)) (q : P G (.p (.d (.bool (xs.any p))))) : RW2 K B G (rNE K) (.d (.list ((xs.filter p).map f))) (.d (.list [])) P := by
  refine rw_neD rfl rfl (shp_ok (shp_list (n := 60) fun x hx => ?_) (by decide)) (shp_ok (shp_list (n := 0) fun x hx => nomatch hx) (by decide)) ?_
  · obtain ⟨y, hy, rfl⟩ := List.mem_map.mp hx
    exact h y (List.mem_filter.mp hy).1
  · rw [eqv_nil, filter_isEmpty, Bool.not_not]
    exact q
end
end DL
namespace DL
open PySem L2
/-! ### the law itself: its script stands as it came -/
def scr (K : Fr) (ns : List Int) : Orel := ⟨fun F _ v _ => ∃ p, v = .ref p ∧ SqL K F p (ns.map V.int), fun ⟨p, e, h⟩ ex _ => ⟨p, e, sl_mono ex h⟩⟩
def spLaw (K : Fr) (n : Nat) : Sp := fun vs H Q _ => ∃ (a : Addr) (ns : List Int), vs = [.ref a] ∧ ns.length ≤ n ∧ SqL K H a (ns.map V.int) ∧ ∀ H', Q (.bl true) H'
def GL (K : Fr) (N : List Str) (ns : List Int) : En := .ow (scr K ns) :: List.replicate (N.length - 1) .un
section
variable {P : Program} {w : World} {K : Fr} {mg : Str → Option Value} {base : Heap} {x qual : Str} {st : Stmt} {f : Addr} {fd : FuncData} {N : List Str} {p : Str} {k n : Nat}
theorem fnLaw (F : Fun K x qual st f fd) (S : FnScope N [p] (defScope st)) (hN : 1 ≤ N.length)
    (hb : ∀ (cdv : Value) (A : Around) (outer : List Env) (s : Shared) (H : Hp) (E : XK), Room k (A.deeper (PyProof.Rows.envOfC qual (defScope st) s.heap.objs.size f cdv)) → ∃ t, PSs (cxOf CX0 P w K mg base N qual (defScope st) f cdv A outer s H E).nox (defBody st) t ∧
      ∀ ns : List Int, ns.length ≤ n → ∀ B, DS K B (GL K N ns) t (DL.E0 fun r => r = .p (.d (.bool true)))) : FnOk P w K mg base CX0 (k + 1) f fd [p] (spLaw K n) := by
  refine F.ok S (fun vs H Q E h => ?_) (fun cdv A outer s H vs Q E hr h => ?_)
  · obtain ⟨a, ns, rfl, _⟩ := h
    rfl
  · obtain ⟨a, ns, rfl, hl, hs, q⟩ := h
    obtain ⟨t, ht, hd⟩ := hb cdv A outer s H E hr
    refine ⟨t, ht, ?_⟩
    have I0 : Iv K ⟨H, H, fun _ => False⟩ (GL K N ns) (L2.start N [.ref a]) H H := by
      refine ⟨Ex.refl _, Ex.refl _, fun b o h _ => h, fun b o h _ => .inl (nn h), fun b h => h, by simp [L2.start, GL], fun _ _ => False, fun i s' hi => ?_, fun _ _ _ z => z.elim, fun _ _ z => z.elim⟩
      cases i with
      | zero =>
        have e : s' = .ow (scr K ns) := by
          simp [GL] at hi
          exact hi.symm
        subst e
        exact .inr ⟨.ref a, rfl, a, rfl, hs⟩
      | succ i =>
        left
        unfold GL at hi
        rw [List.getElem?_cons_succ, List.getElem?_replicate] at hi
        split at hi
        · exact (Option.some.inj hi).symm
        · cases hi
    refine hd ns hl _ _ H H _ I0 ⟨fun S F H' G e J p => ?_, fun S F H' G v r e J p => ?_, fun _ _ _ _ _ _ z => z.elim, fun _ _ _ _ _ _ z => z.elim⟩
    · cases p
    · match r, J, p with
      | .p (.d d), J, p =>
        have p : Rs.p (.d d) = .p (.d (.bool true)) := p
        cases p
        rw [dp_bl J.2]
        exact q H'
      | .p (.sl i), J, ⟨a, ds', hi, p⟩ => cases p
      | .fr s, J, ⟨hu, p⟩ => cases p
end
section
variable {K : Fr} {B : Bs} {G : En} {P : Po}
theorem dw_scr {i : Nat} {ns : List Int} (h : G[i]? = some (.ow (scr K ns))) (q : P G (.p (.sl i))) : DW K B G (tVar i) P := fun S F H Q I k => by
  obtain ⟨A, a1, _, _⟩ := I.own
  rcases a1 i _ h with e | ⟨v, h1, _⟩
  · cases e
  · exact ⟨v, h1, k _ F H G (.p (.sl i)) (Ex.refl F) ⟨I, h1⟩ q⟩
theorem rn_listScr {i : Nat} {ns : List Int} (h : G[i]? = some (.ow (scr K ns))) (q : P G (.fr (.o none (ns.map .int)))) : RWn K B G (rLIST K) [.sl i] P := fun S F H Q vs I hv k => by
  obtain ⟨v, rfl, h1⟩ := vws1 hv
  obtain ⟨A, a1, _, _⟩ := I.own
  rcases a1 i _ h with e | ⟨u, z1, p, rfl, hs⟩
  · cases e
  · have h1 : S[i]? = some (some v) := h1
    rw [h1] at z1
    cases z1
    exact ⟨p, _, rfl, .inl (sl_mono I.ex hs), fun c hc => ct_L k I hc (da_ints _) q⟩
end
end DL
/-! sets of texts: the library's proofs for sets of ints, turned to texts -/
namespace L2
open PySem PySem.Spec PyProof.Rows
def keyT (e : Int × Value) : Str := match e.2 with | .str k _ => k | _ => ⟨#[]⟩
def GoodT (w : World) (e : Int × Value) : Prop := ∃ k tk, e.2 = Value.str k tk ∧ e.1 = hashStr w k

/-- the set of texts at a: S its members, n their number; its table rises and can be walked -/
def SetT (w : World) (h : Heap) (a : Addr) (S : Str → Bool) (n : Nat) : Prop :=
  ∃ o es ep t, h.get? a = some o ∧ o.ExactSet ∧ o.data = .set es ep t ∧ (∀ e ∈ es.toList, GoodT w e) ∧ (es.toList.map keyT).Nodup ∧ (∀ k, S k = true ↔ k ∈ es.toList.map keyT) ∧
    es.size < scanBound ∧ t.fits es.size = true ∧ es.size = n ∧ Ris t.place.toList ∧ (w.params.followText "set-order" = true ∨ t.led = true)

section
variable {P : Program} {w : World} {h h' : Heap} {a : Addr} {S : Str → Bool} {n : Nat}

theorem SetT.at (R : SetT w h a S n) (k : ∀ o, h.get? a = some o → h'.get? a = some o) : SetT w h' a S n := by
  obtain ⟨o, es, ep, t, ho, r⟩ := R
  exact ⟨o, es, ep, t, k o ho, r⟩
theorem SetT.lt (R : SetT w h a S n) : a < h.objs.size := by
  obtain ⟨o, es, ep, t, ho, r⟩ := R
  exact Heap.lt_size ho
theorem SetT.congr {S' : Str → Bool} (R : SetT w h a S n) (e : ∀ k, S' k = S k) : SetT w h a S' n := by
  have q : S' = S := funext e
  rw [q]; exact R
theorem goodT_elems {l : List (Int × Value)} (g : ∀ e ∈ l, GoodT w e) : ElemsOf (PySem.strKind P w) l := fun e he => by
  obtain ⟨k, tk, h1, h2⟩ := g e he
  exact ⟨⟨k, by rw [h1]; exact strKind_is P w k tk, h2⟩, by rw [h1] <;> rfl⟩
theorem goodT_is {e : Int × Value} (g : GoodT w e) (k : Str) : (PySem.strKind P w).is k e.2 = true ↔ keyT e = k := by
  obtain ⟨k0, tk, h1, _⟩ := g
  unfold keyT
  rw [h1]
  show ((k0 == k) = true) ↔ k0 = k
  exact beq_iff_eq
theorem goodT_mem {l : List (Int × Value)} (g : ∀ e ∈ l, GoodT w e) (k : Str) : k ∈ l.map keyT ↔ ∃ e ∈ l, (PySem.strKind P w).is k e.2 = true := by
  rw [List.mem_map]
  constructor
  · rintro ⟨e, he, q⟩
    exact ⟨e, he, (goodT_is (g e he) k).2 q⟩
  · rintro ⟨e, he, q⟩
    exact ⟨e, he, (goodT_is (g e he) k).1 q⟩
theorem SetT.setOf (R : SetT w h a S n) : h.SetOf (PySem.strKind P w) a S n := by
  obtain ⟨o, es, ep, t, ho, hx, hd, g, nd, hm, hb, hf, hn, _⟩ := R
  exact ⟨o, es, ep, t, ho, hx, hd, goodT_elems g, fun k => (hm k).trans (goodT_mem g k), hb, hf, hn⟩
end

section
variable {P : Program} {w : World} {A : Around} {E : Value → Shared → Prop} {s : Shared} {a : Addr} {S : Str → Bool} {n : Nat}

/-! ### add -/
theorem setT_add_tail {g : Bool → Sem Unit} (hg : ∀ (b : Bool) (s₁ : Shared) (Q' : Unit → Shared → Prop), Q' () s₁ → wpAny (model P w) A (g b) Q' E s₁)
    {o : Obj} {es : Array (Int × Value)} {ep : Nat} {t : SetTable} (ho : s.heap.get? a = some o) (hex : o.ExactSet) (hd : o.data = .set es ep t)
    {es1 : Array (Int × Value)} {t2 : SetTable} {S' : Str → Bool} (g1 : ∀ e ∈ es1.toList, GoodT w e) (nd1 : (es1.toList.map keyT).Nodup) (m1 : ∀ k, S' k = true ↔ k ∈ es1.toList.map keyT)
    (hb1 : es1.size < scanBound) (hf2 : t2.fits es1.size = true) (hr : Ris t2.place.toList) (hl : w.params.followText "set-order" = true ∨ t2.led = true) {wasDummy : Bool} {R : Option Bool → Shared → Prop}
    (hR : ∀ h', Heap.SameBut a s.heap h' → SetT w h' a S' es1.size → R (some true) { s with heap := h' }) :
    wpAny (model P w) A (do
        storeSet a es1 t2
        if (!wasDummy && t2.tooFull) = true then do
            g (relayAll t2 es1 (SetTable.grown es1.size)).2.2
            storeSet a (relayAll t2 es1 (SetTable.grown es1.size)).1 (relayAll t2 es1 (SetTable.grown es1.size)).2.1
            pure (some true)
          else pure (some true)) R E s := by
  refine wpAny_bind (wpAny_storeSet_of ho hd ?_ (fits_of_scanBound hb1))
  have ho1 := store_at (es' := es1) (t' := t2) ho hd
  have sb1 := Heap.SameBut.update s.heap a (Obj.putSet es1 t2)
  split
  · have pm := relayAll_perm t2 es1 (SetTable.grown es1.size)
    have hf3 := relayAll_fits t2 es1 (SetTable.grown es1.size)
    have hr3 := relayAll_ris t2 es1 (SetTable.grown es1.size)
    have hl3 := relayAll_led t2 es1 (SetTable.grown es1.size)
    generalize relayAll t2 es1 (SetTable.grown es1.size) = Z at pm hf3 hr3 hl3 ⊢
    obtain ⟨es2, t3, gave⟩ := Z
    dsimp only at pm hf3 hr3 hl3 ⊢
    have hsz : es2.size = es1.size := by rw [← Array.length_toList, pm.length_eq, Array.length_toList]
    have hb2 : es2.size < scanBound := by rw [hsz]; exact hb1
    refine wpAny_bind (hg _ _ _ ?_)
    refine wpAny_bind (wpAny_storeSet_of ho1 rfl ?_ (fits_of_scanBound hb2))
    have ho2 := store_at (es' := es2) (t' := t3) ho1 rfl
    refine wpAny_pure (hR _ (sb1.trans (Heap.SameBut.update _ a _)) ?_)
    exact ⟨_, es2, _, t3, ho2, hex, rfl, fun e he => g1 e (pm.mem_iff.mp he), (pm.map keyT).nodup_iff.mpr nd1, fun k => (m1 k).trans (pm.map keyT).mem_iff.symm, hb2, hf3, hsz, hr3,
      hl.imp id fun z => by rw [hl3]; exact z⟩
  · exact wpAny_pure (hR _ sb1 ⟨_, es1, _, t2, ho1, hex, rfl, g1, nd1, m1, hb1, hf2, rfl, hr, hl⟩)

theorem setT_add_hashed {k : Str} {tk : Tok} {Q : Bool → Shared → Prop} (R : SetT w s.heap a S n) (room : n + 1 < scanBound)
    (hQ : ∀ h', Heap.SameBut a s.heap h' → SetT w h' a (fun j => S j || decide (j = k)) (if S k = true then n else n + 1) → Q (!S k) { s with heap := h' }) :
    wpAny (model P w) A (setAddHashed a (.str k tk) ((PySem.strKind P w).hash k)) Q E s := by
  obtain ⟨o, es, ep, t, ho, hex, hd, g, nd, hm, hb, hf, hn, hr, hl⟩ := R
  have hkey : (PySem.strKind P w).is k (.str k tk) = true := strKind_is P w k tk
  have hsc : (Value.str k tk).scannable = true := rfl
  have hel : ElemsOf (PySem.strKind P w) es.toList := goodT_elems g
  unfold setAddHashed setAddHashedIn
  refine wpAny_holding (wpAny_bind (wpAny_setState_of ho hd hf ?_))
  dsimp only
  rw [byScan_of hsc hb hel]
  simp only [↓reduceIte]
  unfold setAddByScan
  refine wpAny_bind ?_
  refine wpAny_bind (wpAny_rule ?_)
  refine wpAny_bind (wpAny_setScan_of hkey ho hd hf hel ?_)
  cases hfi : List.findIdx? (fun e => (PySem.strKind P w).is k e.2) es.toList with
  | some j =>
    dsimp only
    obtain ⟨hj, pj, _⟩ := List.findIdx?_eq_some_iff_getElem.mp hfi
    have hSk : S k = true := (hm k).2 ((goodT_mem (P := P) (w := w) g k).2 ⟨es.toList[j], List.getElem_mem hj, pj⟩)
    refine wpAny_pure (wpAny_pure ?_)
    have q := hQ s.heap (Heap.SameBut.refl a s.heap) ⟨o, es, ep, t, ho, hex, hd, g, nd, fun i => by
      rw [Bool.or_eq_true, decide_eq_true_eq, ← hm i]
      exact ⟨fun z => z.elim id (fun e => e ▸ hSk), .inl⟩, hb, hf, by rw [if_pos hSk]; exact hn, hr, hl⟩
    rw [hSk] at q
    exact q
  | none =>
    dsimp only
    have hnk : k ∉ es.toList.map keyT := fun z => by
      obtain ⟨e, he, q⟩ := (goodT_mem (P := P) (w := w) g k).1 z
      have c := List.findIdx?_eq_none_iff.mp hfi e he
      rw [q] at c
      cases c
    have hSk : S k = false := by
      cases q : S k with
      | false => rfl
      | true => exact absurd ((hm k).1 q) hnk
    have hgw : ∀ (b : Bool) {s₁ : Shared} {Q' : Unit → Shared → Prop}, Q' () s₁ → wpAny (model P w) A (match b with | true => rule "set.scan.the-table-gave-way" | false => pure ()) Q' E s₁ :=
      fun b s₁ Q' q => by cases b <;> first | exact wpAny_pure q | exact wpAny_rule q
    have pm := layNew_perm t es ((PySem.strKind P w).hash k) (.str k tk)
    have hf1 := layNew_fits t es ((PySem.strKind P w).hash k) (.str k tk)
    have hr1 := layNew_ris t es ((PySem.strKind P w).hash k) (.str k tk) hr
    have hl1 := layNew_led t es ((PySem.strKind P w).hash k) (.str k tk)
    generalize layNew t es ((PySem.strKind P w).hash k) (.str k tk) = Z at pm hf1 hr1 hl1 ⊢
    obtain ⟨es1, t1, wasDummy, gave⟩ := Z
    dsimp only at pm hf1 hr1 hl1 ⊢
    rw [Array.toList_push] at pm
    have pc : es1.toList.Perm (((PySem.strKind P w).hash k, Value.str k tk) :: es.toList) := pm.trans (List.perm_append_singleton _ _)
    have pk : (es1.toList.map keyT).Perm (k :: es.toList.map keyT) := pc.map keyT
    have g1 : ∀ e ∈ es1.toList, GoodT w e := fun e he => by
      rcases List.mem_cons.mp (pc.mem_iff.mp he) with z | z
      · rw [z]; exact ⟨k, tk, rfl, rfl⟩
      · exact g e z
    have nd1 : (es1.toList.map keyT).Nodup := pk.nodup_iff.mpr (List.nodup_cons.mpr ⟨hnk, nd⟩)
    have m1 : ∀ i, (S i || decide (i = k)) = true ↔ i ∈ es1.toList.map keyT := fun i => by
      rw [Bool.or_eq_true, decide_eq_true_eq, hm i, pk.mem_iff, List.mem_cons]
      exact Or.comm
    have hsz : es1.size = n + 1 := by rw [← Array.length_toList, pc.length_eq, List.length_cons, Array.length_toList, hn]
    have hb1 : es1.size < scanBound := by rw [hsz]; exact room
    have hled : w.params.followText "set-order" = true ∨ t1.led = true := hl.imp id fun z => by rw [hl1]; exact z
    have fin : ∀ h', Heap.SameBut a s.heap h' → SetT w h' a (fun j => S j || decide (j = k)) es1.size → Q true { s with heap := h' } := fun h' sb r => by
      have q := hQ h' sb
      rw [hSk] at q
      rw [hsz] at r
      exact q r
    refine wpAny_bind (hgw _ ?_)
    split
    · refine wpAny_bind ?_
      rw [hashByValue_scannable 8 hsc]
      refine wpAny_pure ?_
      refine setT_add_tail ?_ ho hex hd g1 nd1 m1 hb1 ?_ ?_ ?_ ?_
      · intro b s₁ Q' q; cases b <;> first | exact wpAny_pure q | exact wpAny_rule q
      · first | (split <;> first | exact hf1 | exact SetTable.fits_plain_off hf1) | exact hf1
      · first | (split <;> exact hr1) | exact hr1
      · first | (split <;> exact hled) | exact hled
      · intro h' sb r; dsimp only; exact wpAny_pure (fin h' sb r)
    · refine wpAny_bind (wpAny_pure ?_)
      simp only [↓reduceIte]
      refine setT_add_tail ?_ ho hex hd g1 nd1 m1 hb1 hf1 hr1 hled ?_
      · intro b s₁ Q' q; cases b <;> first | exact wpAny_pure q | exact wpAny_rule q
      · intro h' sb r; dsimp only; exact wpAny_pure (fin h' sb r)

/-- found.add(k) -/
theorem setT_add {k : Str} {tk : Tok} {Q : Value → Shared → Prop} (R : SetT w s.heap a S n) (room : n + 1 < scanBound)
    (hQ : ∀ h', Heap.SameBut a s.heap h' → SetT w h' a (fun j => S j || decide (j = k)) (if S k = true then n else n + 1) → Q .none { s with heap := h', toks := s.toks + 1 }) :
    wpAny (model P w) A (call (.builtin "set.add") [.ref a, .str k tk]) Q E s := by
  have hS : s.heap.SetOf (PySem.strKind P w) a S n := R.setOf
  refine wpAny_call_entry F.slot_set_add hS.typeIs F.entry_set_add ?_ (F.args_set_add_2 _ _)
  unfold Builtin.«set.add» Builtin.Frozenset.oneOther
  simp only [List.isEmpty_nil, bind_assoc]
  unfold Builtin.Frozenset.addrOf setAdd
  refine wpAny_bind (wpAny_pure ?_)
  try dsimp only
  refine wpAny_bind (wpAny_pure ?_)
  try dsimp only
  refine wpAny_bind ?_
  refine wpAny_holding ?_
  refine wpAny_bind ((PySem.strKind P w).pyHash (strKind_is P w k tk) ?_)
  refine setT_add_hashed (s := { s with toks := s.toks + 1 }) R room fun h' sb r => ?_
  show wpAny _ _ (ret Value.none) _ _ _
  exact wpAny_pure ⟨_, rfl, hQ h' sb r⟩
end
theorem setT_new_at {w : World} {h : Heap} {a : Addr} {ns : List Str} (ho : h.get? a = some { cls := .type "set", dict := none, data := .set #[] 0 (.fresh 0 0 (!w.params.followText "set-order")) }) : SetT w h a (fun j => decide (j ∈ ns.take 0)) 0 :=
  ⟨_, #[], 0, _, ho, ⟨rfl, rfl, rfl⟩, rfl, (fun e he => by simp at he), (by simp), (fun k => by simp), (by decide), (by rfl), rfl, List.Pairwise.nil, by
    show _ ∨ (!w.params.followText "set-order") = true
    cases w.params.followText "set-order"
    · exact .inr rfl
    · exact .inl rfl⟩
section
variable {P : Program} {w : World} {A : Around} {E : Value → Shared → Prop} {s : Shared}
theorem setT_update {I : Addr} {fp wr : List Addr} {G : Array GenState → Array GenState → Prop} {n : Nat} {Pv : Nat → Value → Prop} {St : Nat → Shared → Prop} {R : Result → Shared → Prop}
    (W : WalksS P w A.in1 I fp wr G n Pv St) (S : Addr) (hSf : S ∉ fp) (ns : List Str) (hn : n = ns.length) (hb : ns.length + 1 < scanBound) (hval : ∀ i v, Pv i v → ∃ k t, ns[i]? = some k ∧ v = .str k t) :
    ∀ (k i : Nat) (s : Shared), n - i = k → i ≤ n → St i s → (∃ c, c ≤ i ∧ SetT w s.heap S (fun j => decide (j ∈ ns.take i)) c) →
      (∀ s' c, Moved (S :: wr) G s s' → c ≤ n → SetT w s'.heap S (fun j => decide (j ∈ ns)) c → R (.ok (.ret .none)) s') →
      codeAny (model P w) A (.builtin "set.update.loop" ⟨[.ref S, .ref I], []⟩) R s := by
  have hSw : S ∉ wr := fun h => hSf (W.sub _ h)
  have hsub : ∀ b ∈ wr, b ∈ S :: wr := fun b hb => List.mem_cons_of_mem _ hb
  intro k
  induction k with
  | zero =>
    intro i s hk' hi hst ⟨c, hc, hS⟩ hR
    have hin : i = n := by omega
    subst hin
    refine codeAny_builtin F.entry_set_update_loop ?_
    rw [Around.under_plainId F.plain_set_update_loop _]
    show wpAny _ A.in1 (pyNext (.ref I) >>= _) _ _ s
    refine wpAny_bind (W.done s _ _ hst fun s' hm => ?_)
    show wpAny _ A.in1 (ret Value.none) _ _ s'
    have e : ns.take i = ns := List.take_of_length_le (by omega)
    rw [e] at hS
    exact wpAny_pure (hR s' c (hm.mono hsub) hc (hS.at fun o e => hm.heap S o hSw e))
  | succ k ih =>
    intro i s hk' hi hst ⟨c, hc, hS⟩ hR
    have hlt : i < n := by omega
    refine codeAny_builtin F.entry_set_update_loop ?_
    rw [Around.under_plainId F.plain_set_update_loop _]
    show wpAny _ A.in1 (pyNext (.ref I) >>= _) _ _ s
    refine wpAny_bind (W.item i s _ _ hlt hst fun v s' hP hst' hm => ?_)
    obtain ⟨z, t, hz, rfl⟩ := hval i v hP
    have hS' : SetT w s'.heap S (fun j => decide (j ∈ ns.take i)) c := hS.at fun o e => hm.heap S o hSw e
    show wpAny _ A.in1 (holding [Value.str z t] (setAdd S (.str z t)) >>= _) _ _ s'
    refine wpAny_bind (wpAny_holding ?_)
    unfold setAdd
    refine wpAny_holding ?_
    refine wpAny_bind ((PySem.strKind P w).pyHash (k := z) (strKind_is _ _ _ _) ?_)
    refine setT_add_hashed (s := { s' with toks := s'.toks + 1 }) hS' (by omega) fun h' hsb hS2 => ?_
    have hS3 : SetT w h' S (fun j => decide (j ∈ ns.take (i + 1))) (if decide (z ∈ ns.take i) = true then c else c + 1) := hS2.congr fun j => by
      rw [List.take_add_one, hz]
      simp [List.mem_append]
    have hc3 : (if decide (z ∈ ns.take i) = true then c else c + 1) ≤ i + 1 := by
      split <;> omega
    refine wpAny_pure ⟨plainId_quiet F.plain_set_update_loop _, ih (i + 1) _ (by omega) hlt (W.frame _ s' _ _ hst' (Nat.le_succ _) fun b hb o e => ?_) ⟨_, hc3, hS3⟩ fun s'' c2 hm'' hc'' hS'' => ?_⟩
    · rw [hsb.2 b (fun h : b = S => hSf (by rw [← h]; exact hb))]; exact e
    · refine hR s'' c2 (Moved.trans W.gtrans ((hm.mono hsub).then_heap (Nat.le_succ _) fun b o hb e => ?_) hm'') hc'' hS''
      rw [hsb.2 b (fun h : b = S => hb (by rw [h]; exact List.mem_cons_self))]; exact e

theorem strsT_at : ∀ {vs : List Value} {ns : List Str}, StrsAre vs ns → ∀ (i : Nat) (v : Value), vs[i]? = some v → ∃ t, v = .str (ns.getD i ⟨#[]⟩) t
  | _, _, .nil, _, _, e => by simp at e
  | _, _, .cons y t _, 0, _, e => by
    cases e
    exact ⟨t, rfl⟩
  | _, _, .cons _ _ h, i + 1, v, e => by
    obtain ⟨t, q⟩ := strsT_at h i v (by simpa using e)
    exact ⟨t, by simpa using q⟩
theorem call_set_lstS {l : Addr} {items : Array Value} (ns : List Str) {Q : Value → Shared → Prop} (hh : A.handled = none) (hl : s.heap.IsList l items) (hit : StrsAre items.toList ns) (hb : ns.length + 1 < scanBound)
    (h : ∀ (h' : Heap) (tk c : Nat), SetT w h' s.heap.objs.size (fun j => decide (j ∈ ns)) c → c ≤ ns.length → (∀ b o, s.heap.get? b = some o → h'.get? b = some o) → Q (.ref s.heap.objs.size) { s with heap := h', toks := tk }) :
    wpAny (model P w) A (call (.type "set") [.ref l]) Q E s := by
  have hisz : items.size = ns.length := by
    have q := StrsAre.length hit
    rw [Array.length_toList] at q
    exact q
  obtain ⟨c, tl, hmro⟩ := F.called_set.mro
  have hmade := F.called_set.made
  have hsub := F.called_set.sub
  refine wpAny_call (codeAny_of_tree ?_)
  show wpAny _ _ (callAny (.type "set") _) _ _ _
  refine wpAny_pure ⟨Code.quiet_builtin _ (by decide +kernel), codeAny_builtin F.entry_type_call ?_⟩
  rw [Around.under_plain (weight_type_call_type "set" [.ref l] []) rfl]
  have h1 := F.called_set.notType
  have h2 := F.called_set.canCreate
  have hct := F.typeCall_set_1 (.ref l)
  repeat (any_goals (first | assumption | wp_step))

  refine codeAny_mono (code_set_led1 (.ref l) (E := E) (Q₁ := fun obj s₁ => obj = .ref s.heap.objs.size ∧ s₁ = { s with heap := s.heap.push { cls := .type "set", dict := none, data := .set #[] 0 (.fresh 0 0 (!w.params.followText "set-order")) } }) ⟨rfl, rfl⟩) fun r s₁ hr => ?_
  cases r with
  | error e => exact hr
  | ok fl =>
    cases fl with
    | ret obj =>
      obtain ⟨rfl, rfl⟩ := hr
      have hS : (s.heap.push { cls := .type "set", dict := none, data := .set #[] 0 (.fresh 0 0 (!w.params.followText "set-order")) }).get? s.heap.objs.size = some { cls := .type "set", dict := none, data := .set #[] 0 (.fresh 0 0 (!w.params.followText "set-order")) } := Heap.get?_push_size _ rfl
      have hT : Shared.TypeIs { s with heap := s.heap.push { cls := .type "set", dict := none, data := .set #[] 0 (.fresh 0 0 (!w.params.followText "set-order")) } } (.ref s.heap.objs.size) "set" := ⟨_, hS, rfl⟩
      have hli := F.called_set.init.lookup
      have hbi := F.called_set.init.bind (.ref s.heap.objs.size)
      repeat (any_goals (first | assumption | wp_step))

      refine codeAny_mono (codeAny_call_builtin (R := wants (fun r s₂ => r = .none ∧ ∃ h' tk c, s₂ = { s with heap := h', toks := tk } ∧ SetT w h' s.heap.objs.size (fun j => decide (j ∈ ns)) c ∧ c ≤ ns.length ∧
          (∀ b o, s.heap.get? b = some o → h'.get? b = some o)) E) F.called_set.init.plain F.entry_set_init (check_set_init_1 hT ?_)) fun r₂ s₂ hr₂ => ?_
      · obtain ⟨ol, hol, hcl, nl, hdl⟩ := hl
        obtain ⟨ocls, odict, odata, oslots⟩ := ol
        simp only at hcl hdl
        subst hcl; subst hdl
        have hol' : (s.heap.push { cls := .type "set", dict := none, data := .set #[] 0 (.fresh 0 0 (!w.params.followText "set-order")) }).get? l = some { cls := .type "list", dict := odict, data := .seq items nl, slots := oslots } := Heap.get?_push_of_some _ hol
        have hsls := F.sub_list_set
        have hslf := F.sub_list_frozenset
        have hne : (Value.type "list" == Value.type "dict") = false := by decide
        have hl1 : (s.heap.push { cls := .type "set", dict := none, data := .set #[] 0 (.fresh 0 0 (!w.params.followText "set-order")) }).IsList l items := ⟨_, hol', rfl, nl, rfl⟩
        unfold Builtin.«set.__init__» noKeywords Builtin.Frozenset.updateFrom
        generalize hPI : pyIter = PI
        wp_walk
        subst hPI

        refine wpAny_pyIter_list hl1 ?_
        refine wpAny_bind (wpAny_runValue ?_)
        have hlS : l < s.heap.objs.size := Heap.lt_size hol
        have hh3 : A.in1.in1.in1.handled = none := by simp [hh]
        have hz1 : (s.heap.push { cls := .type "set", dict := none, data := .set #[] 0 (.fresh 0 0 (!w.params.followText "set-order")) }).objs.size = s.heap.objs.size + 1 := Heap.size_push ..
        have hneI : l ≠ (s.heap.push { cls := .type "set", dict := none, data := .set #[] 0 (.fresh 0 0 (!w.params.followText "set-order")) }).objs.size := by
          rw [Heap.size_push]; exact Nat.ne_of_lt (Nat.lt_succ_of_lt hlS)
        have hSf : s.heap.objs.size ∉ [(s.heap.push { cls := .type "set", dict := none, data := .set #[] 0 (.fresh 0 0 (!w.params.followText "set-order")) }).objs.size, l] := by
          rw [Heap.size_push]; simp only [List.mem_cons, List.mem_singleton, List.not_mem_nil, or_false, not_or]
          exact ⟨Nat.ne_of_lt (Nat.lt_succ_self _), Nat.ne_of_gt hlS⟩
        have hval : ∀ (i : Nat) (v : Value), items[i]? = some v → ∃ k t, ns[i]? = some k ∧ v = .str k t := fun i v hv => by
          have hi : i < ns.length := by rw [← hisz]; exact (Array.getElem?_eq_some_iff.mp hv).1
          obtain ⟨t, e⟩ := strsT_at hit i v (by rw [Array.getElem?_toList]; exact hv)
          refine ⟨ns[i], t, List.getElem?_eq_getElem hi, ?_⟩
          rw [e, List.getD_eq_getElem?_getD, List.getElem?_eq_getElem hi] <;> rfl
        refine setT_update ((Walks.list hh3 _ l hneI items).toS) s.heap.objs.size
          hSf ns hisz hb hval (items.size - 0) 0 _ (by omega) (Nat.zero_le _)
          ⟨⟨_, Heap.get?_push_size _ rfl, rfl, rfl⟩, (hl1.push _)⟩ ?hS0 ?hR
        case hS0 =>
          have hget : ((s.heap.push { cls := .type "set", dict := none, data := .set #[] 0 (.fresh 0 0 (!w.params.followText "set-order")) }).push { cls := .type "list_iterator", data := .fields #[.ref l, .int 0 0] }).get? s.heap.objs.size
              = some { cls := .type "set", dict := none, data := .set #[] 0 (.fresh 0 0 (!w.params.followText "set-order")) } := Heap.get?_push_of_some _ hS
          exact ⟨0, Nat.le_refl 0, setT_new_at hget⟩
        case hR =>
          intro s' c' hm hc' hS'
          obtain ⟨h', g2, d', tk', os'⟩ := s'
          have eg : g2 = s.gens := hm.gens
          have ed : d' = s.drawn := hm.drawn
          have eo : os' = s.os := hm.os
          subst eg; subst ed; subst eo
          show wpAny _ _ _ _ _ _
          refine wpAny_pure ?_
          show wpAny _ _ (ret Value.none) _ _ _
          rw [hisz] at hc'
          refine wpAny_pure ⟨rfl, h', tk', c', rfl, hS', hc', fun b o e => ?_⟩
          have hb0 : b < s.heap.objs.size := Heap.lt_size e
          have hb1 : b ≠ s.heap.objs.size := Nat.ne_of_lt hb0
          have hb2 : b ≠ (s.heap.push { cls := .type "set", dict := none, data := .set #[] 0 (.fresh 0 0 (!w.params.followText "set-order")) }).objs.size := by
            rw [Heap.size_push]; exact Nat.ne_of_lt (Nat.lt_succ_of_lt hb0)
          exact hm.heap b o (by simp only [List.mem_cons, List.mem_singleton, List.not_mem_nil, or_false, not_or]; exact ⟨hb1, hb2⟩) (Heap.get?_push_of_some _ (Heap.get?_push_of_some _ e))

      · cases r₂ with
        | error e => exact hr₂
        | ok fl₂ =>
          cases fl₂ with
          | ret r =>
            obtain ⟨rfl, h', tk, c', rfl, hS', hc', hk'⟩ := hr₂
            repeat (any_goals (first | assumption | wp_step))
            exact h _ _ _ hS' hc' hk'
          | _ => exact hr₂.elim
    | _ => exact hr.elim

end
section
variable {P : Program} {w : World} {A : Around} {E : Value → Shared → Prop} {s : Shared} {a : Addr}
theorem strs_of : ∀ (l : List Value), (∀ v ∈ l, ∃ k tk, v = Value.str k tk) → PySem.W.EachIs (fun v z => ∃ t, v = Value.str z t) l (l.map fun v => keyT (0, v))
  | [], _ => .nil
  | v :: l, h => by
    obtain ⟨k, tk, rfl⟩ := h v List.mem_cons_self
    exact .cons ⟨tk, rfl⟩ (strs_of l fun u hu => h u (List.mem_cons_of_mem _ hu))
theorem sorted_setT {S : Str → Bool} {n : Nat} {Q : Value → Shared → Prop} (R : SetT w s.heap a S n) (hh : A.handled = none) (h64 : n ≤ 1000) (hu : A.units + 4 < cLine)
    (hQ : ∀ s' p (out : List Value) (c : Nat) (ns : List Str), (∀ b o, s.heap.get? b = some o → s'.heap.get? b = some o) → s'.gens = s.gens → s'.os = s.os → s.heap.objs.size ≤ p →
      s'.heap.get? p = some (seqObj "list" out.toArray c) → PySem.W.EachIs (fun v z => ∃ t, v = Value.str z t) out ns → (∃ ms : List Str, ns = ms.mergeSort (PySem.W.dataLe false PyData.str) ∧ ms.Nodup ∧ (∀ k, k ∈ ms ↔ S k = true)) → ns.length = n → Q (.ref p) s') :
    wpAny (model P w) A (call (.builtin "sorted") [.ref a]) Q E s := by
  obtain ⟨o, es, ep, t, ho, hex, hd, g, nd, hm, hb, hf, hn, hr, hl⟩ := R
  refine Calls.call_function_entry kind_sorted plain_sorted entry_sorted (args_sorted1 _) ?_
  unfold Builtin.«sorted»
  refine wpAny_bind (m := checkCount "sorted" 1 1 _) (wpAny_pure ?_)
  refine wpAny_bind (collect_set (A := A.in1) hh ⟨o, ho, hex.1, hd⟩ hf hb hr hl fun s1 vs k1 hz g1 o1 pm => ?_)
  have hvl : vs.length = n := by rw [pm.length_eq, List.length_map, Array.length_toList]; exact hn
  have hI := strs_of vs fun v hv => by
    obtain ⟨e, he, q⟩ := List.mem_map.mp (pm.mem_iff.mp hv)
    obtain ⟨k, tk, h1, _⟩ := g e he
    exact ⟨k, tk, by rw [← q]; exact h1⟩
  have pk : (vs.map fun v => keyT (0, v)).Perm (es.toList.map keyT) := by
    have q := pm.map fun v => keyT (0, v)
    rw [List.map_map] at q
    exact q
  refine wpAny_bind (wpAny_newList ?_ (by rw [hvl, sizeLine_eq]; omega))
  have hoL : (s1.heap.push (seqObj "list" vs.toArray 0)).get? s1.heap.objs.size = some (seqObj "list" vs.toArray 0) := Heap.get?_push_size _ rfl
  refine wpAny_bind (wpAny_holding (PySem.W.list_sort_data (enc := PyData.str) (bs := vs.map fun v => keyT (0, v)) hoL hI (hI.mono fun v z q => ?_) (PySem.W.AllAlike.of fun b b' => ?_) (PySem.W.Sortable.others fun b => ⟨(nomatch ·), fun xs => (nomatch ·)⟩) (by rw [List.length_map, hvl, sizeLine_eq]; omega) (fun b hb => ?_) fun out ho1 ho2 => ?_))
  · obtain ⟨t, rfl⟩ := q
    exact ⟨[], .str _ _, by simp⟩
  · simp [PySem.W.alike]
  · simp [PyData.depth]
    show A.in1.units + 1 < cLine
    simp
    omega
  obtain ⟨c, hc⟩ := sortedHeap_at (vs := vs) (out := out.toArray) hoL
  refine wpAny_pure ⟨_, rfl, hQ _ s1.heap.objs.size out c _ (fun b u e => ?_) g1 o1 hz hc ho2 ⟨_, rfl, pk.nodup_iff.mpr nd, fun k => by rw [pk.mem_iff, ← hm k]⟩ ?_⟩
  · have q := k1 b u e
    have hlt := Heap.lt_size q
    show (sortedHeap (s1.heap.push (seqObj "list" vs.toArray 0)) s1.heap.objs.size vs out.toArray).get? b = some u
    rw [sortedHeap_old (Nat.ne_of_lt hlt) (by rw [size_push']; exact Nat.lt_succ_of_lt hlt)]
    exact Heap.get?_push_of_some _ q
  · rw [List.length_mergeSort, List.length_map]; exact hvl
end
end L2
namespace DL
open PySem L2
/-! ### a def of which one argument is an own thing of the caller's, which it may change -/
def Sl.q : Sl → Option Addr
  | .o q _ => q
  | .k q _ => q
  | _ => none
def Sl.re : Sl → Option Addr → Sl
  | .o _ ds, q => .o q ds
  | .k _ kvs, q => .k q kvs
  | s, _ => s
def Sl.tr : Sl → Bool
  | .o _ _ => true
  | .k _ _ => true
  | _ => false
section
variable {K : Fr} {F H : Hp} {v : V} {A : Addr → Prop} {s : Sl}
theorem svr_ref (h : SvR K F H v A s) (ht : s.tr = true) : ∃ p, v = .ref p ∧ A p ∧ H p ≠ none ∧ ∀ a, s.q = some a → p = a := by
  cases s with
  | o q ds =>
    obtain ⟨p, vs, h1, h2, h3, h4, h5⟩ := h
    exact ⟨p, h1, h4, nn h2, h5⟩
  | k q ds =>
    obtain ⟨p, vs, h1, h2, h3, h4, h5, h6⟩ := h
    exact ⟨p, h1, h5, nn h2, h6⟩
  | _ => cases ht
theorem svr_re {p : Addr} (h : SvR K F H (.ref p) A s) (q : Option Addr) (hq : ∀ a, q = some a → p = a) : SvR K F H (.ref p) A (s.re q) := by
  cases s with
  | o q' ds =>
    obtain ⟨p', vs, h1, h2, h3, h4, h5⟩ := h
    cases h1
    exact ⟨p, vs, rfl, h2, h3, h4, hq⟩
  | k q' ds =>
    obtain ⟨p', vs, h1, h2, h3, h4, h5, h6⟩ := h
    cases h1
    exact ⟨p, vs, rfl, h2, h3, h4, h5, hq⟩
  | _ => exact h
theorem re_tr (q : Option Addr) : (s.re q).tr = s.tr := by cases s <;> rfl
theorem re_un (q : Option Addr) (ht : s.tr = true) : s.re q ≠ .un := by
  cases s <;> simp [Sl.tr, Sl.re] at *
theorem tr_un (ht : s.tr = true) : s ≠ .un := by
  cases s <;> simp [Sl.tr] at *
end
/-- what a call leaves: ok tells the addresses that a result's own thing may have -/
def spG (K : Fr) (pre : List PyData → Sl → List PyData → Prop) (post : List PyData → Sl → List PyData → Sl → Rs → Prop) (exc : List PyData → Sl → List PyData → Sl → Value → Prop) : Sp := fun vs H Q E =>
  ∃ F p A vs1 vs2 ds1 s ds2, vs = vs1 ++ .ref p :: vs2 ∧ Ex F H ∧ s.tr = true ∧ SvR K F H (.ref p) A s ∧ (∀ a, A a → F a = none ∧ H a ≠ none) ∧ DqAll K F vs1 ds1 ∧ DqAll K F vs2 ds2 ∧ pre ds1 s ds2 ∧
  (∀ v F' H' A' s' r, Ex F F' → Ex F' H' → (∀ b o, H b = some o → ¬ A b → H' b = some o) → (∀ b, H b ≠ none → H' b ≠ none) → (∀ b o, F' b = some o → F b = none → H b = none ∨ A b) → s'.tr = true → SvR K F' H' (.ref p) A' s' →
    (∀ a, A' a → F' a = none ∧ H' a ≠ none ∧ (A a ∨ H a = none)) → Rr K (fun a => (H a = none ∨ A a) ∧ ¬ A' a) F' H' v r → post ds1 s ds2 s' r → Q v H') ∧
  ∀ cls F' H' A' s', Ex F F' → Ex F' H' → (∀ b o, H b = some o → ¬ A b → H' b = some o) → (∀ b, H b ≠ none → H' b ≠ none) → (∀ b o, F' b = some o → F b = none → H b = none ∨ A b) → s'.tr = true → SvR K F' H' (.ref p) A' s' →
    (∀ a, A' a → F' a = none ∧ H' a ≠ none ∧ (A a ∨ H a = none)) → exc ds1 s ds2 s' cls → E cls none H'
section
variable {K : Fr} {B : Bs} {G : En} {S : St} {F H F' H' : Hp}
/-- slot i's own thing was changed by a call -/
theorem Iv.called {i : Nat} {s s' : Sl} {p : Addr} {A A' : Addr → Prop} {An : Nat → Addr → Prop} (I : Iv K B G S F H) (hi : G[i]? = some s) (hS : S[i]? = some (some (.ref p))) (hA : A = An i)
    (h1 : ∀ i s, G[i]? = some s → s = .un ∨ ∃ v, S[i]? = some (some v) ∧ SvR K F H v (An i) s) (h2 : ∀ i j a, An i a → An j a → i = j) (h3 : ∀ i a, An i a → F a = none ∧ H a ≠ none ∧ (B.H0 a = none ∨ B.mu a))
    (a1 : Ex F F') (a2 : Ex F' H') (a3 : ∀ b o, H b = some o → ¬ A b → H' b = some o) (a4 : ∀ b, H b ≠ none → H' b ≠ none) (a5 : ∀ b o, F' b = some o → F b = none → H b = none ∨ A b) (a6 : SvR K F' H' (.ref p) A' s')
    (a7 : ∀ a, A' a → F' a = none ∧ H' a ≠ none ∧ (A a ∨ H a = none)) : Iv K B (G.set i s') S F' H' ∧ ∀ j b, An j b → j ≠ i → F' b = none ∧ H' b ≠ none ∧ ¬ A' b := by
  subst hA
  have own : ∀ j b, An j b → j ≠ i → F' b = none ∧ H' b = H b ∧ H' b ≠ none ∧ ¬ A' b := fun j b hb hj => by
    obtain ⟨x, y, z⟩ := h3 j b hb
    have nA : ¬ An i b := fun z => hj (h2 _ _ _ hb z)
    refine ⟨?_, ?_, a4 b y, fun w => ?_⟩
    · cases q : F' b with
      | none => rfl
      | some o =>
        rcases a5 b o q x with z | z
        · exact absurd z y
        · exact absurd z nA
    · cases q : H b with
      | none => exact absurd q y
      | some o => exact a3 b o q nA
    · rcases (a7 b w).2.2 with z | z
      · exact nA z
      · exact y z
  refine ⟨⟨a2, I.f0.trans a1, fun b o hb hm => ?_, fun b o hb hn => ?_, fun b hb => a4 b (I.st b hb), by simpa using I.len, fun j b => if j = i then A' b else An j b, fun j s2 hj => ?_, fun j k b x y => ?_, fun j b x => ?_⟩, fun j b hb hj => ⟨(own j b hb hj).1, (own j b hb hj).2.2.1, (own j b hb hj).2.2.2⟩⟩
  · refine a3 b o (I.fr b o hb hm) fun z => ?_
    rcases (h3 i b z).2.2 with y | y
    · rw [hb] at y
      cases y
    · exact hm y
  · cases q : F b with
    | some u => exact I.nw b u q hn
    | none =>
      rcases a5 b o hb q with z | z
      · exact absurd (I.new0 z) hn
      · rcases (h3 i b z).2.2 with y | y
        · exact absurd y hn
        · exact .inr y
  · by_cases e : i = j
    · subst e
      obtain ⟨rfl, _⟩ := set_same hj
      refine .inr ⟨_, hS, ?_⟩
      simpa using a6
    · rw [List.getElem?_set_ne e] at hj
      have e' : ¬ j = i := fun z => e z.symm
      rcases h1 j s2 hj with z | ⟨u, x1, x2⟩
      · exact .inl z
      · refine .inr ⟨u, x1, ?_⟩
        simp only [e', if_false]
        exact slr_stab x2 a1 fun b hb => (own j b hb e').2.1
  · by_cases ej : j = i <;> by_cases ek : k = i
    · rw [ej, ek]
    · simp only [ej, ek, if_true, if_false] at x y
      exact absurd x (own k b y ek).2.2.2
    · simp only [ej, ek, if_true, if_false] at x y
      exact absurd y (own j b x ej).2.2.2
    · simp only [ej, ek, if_false] at x y
      exact h2 _ _ _ x y
  · by_cases ej : j = i
    · simp only [ej, if_true] at x
      obtain ⟨y1, y2, y3⟩ := a7 b x
      refine ⟨y1, y2, ?_⟩
      rcases y3 with y | y
      · exact (h3 i b y).2.2
      · exact .inl (I.new0 y)
    · simp only [ej, if_false] at x
      exact ⟨(own j b x ej).1, (own j b x ej).2.2.1, (h3 j b x).2.2⟩
/-- .. and gave an own thing besides -/
theorem Iv.addO {s : Sl} {v : V} {A0 : Addr → Prop} (I : Iv K B G S F H) (hs : SvR K F H v A0 s) (hn : ∀ a, A0 a → F a = none ∧ H a ≠ none ∧ (B.H0 a = none ∨ B.mu a))
    (own : ∃ An : Nat → Addr → Prop, (∀ i s, G[i]? = some s → s = .un ∨ ∃ v, S[i]? = some (some v) ∧ SvR K F H v (An i) s) ∧ (∀ i j a, An i a → An j a → i = j) ∧ (∀ i a, An i a → F a = none ∧ H a ≠ none ∧ (B.H0 a = none ∨ B.mu a)) ∧ ∀ i a, An i a → ¬ A0 a) :
    Iv K B (G ++ [s]) (S ++ [some v]) F H := by
  obtain ⟨An, b1, b2, b3, b4⟩ := own
  have hl := I.len
  refine ⟨I.ex, I.f0, I.fr, I.nw, I.st, by simp [hl], fun j b => if j = G.length then A0 b else An j b ∧ j < G.length, fun j s2 hj => ?_, fun j k b x y => ?_, fun j b x => ?_⟩
  · rcases app_get hj with ⟨hlt, h⟩ | ⟨rfl, rfl⟩
    · have e : ¬ j = G.length := by omega
      rcases b1 j s2 h with z | ⟨u, x1, x2⟩
      · exact .inl z
      · refine .inr ⟨u, by rw [List.getElem?_append_left (by omega)]; exact x1, ?_⟩
        simp only [e, if_false]
        have ea : (fun b => An j b ∧ j < G.length) = An j := by
          funext b
          exact propext ⟨fun z => z.1, fun z => ⟨z, hlt⟩⟩
        rw [ea]
        exact x2
    · refine .inr ⟨v, by rw [List.getElem?_append_right (by omega), hl]; simp, ?_⟩
      simpa using hs
  · by_cases ej : j = G.length <;> by_cases ek : k = G.length
    · rw [ej, ek]
    · simp only [ej, ek, if_true, if_false] at x y
      exact absurd x (b4 _ _ y.1)
    · simp only [ej, ek, if_true, if_false] at x y
      exact absurd y (b4 _ _ x.1)
    · simp only [ej, ek, if_false] at x y
      exact b2 _ _ _ x.1 y.1
  · by_cases ej : j = G.length
    · simp only [ej, if_true] at x
      exact hn b x
    · simp only [ej, if_false] at x
      exact b3 j b x.1
end
/-- the arguments: one own thing among data -/
def splitW : List W → Option (List PyData × Nat × List PyData)
  | [] => none
  | .d d :: r => (splitW r).map fun x => (d :: x.1, x.2)
  | .sl i :: r => (allD r).map fun ds => ([], i, ds)
  | .ty _ :: _ => none
theorem splitW_ok {K : Fr} {S : St} {F : Hp} : ∀ {ws : List W} {ds1 : List PyData} {i : Nat} {ds2 : List PyData} {vs : List V}, splitW ws = some (ds1, i, ds2) → Vws K S F vs ws → ∃ vs1 v vs2, vs = vs1 ++ v :: vs2 ∧ S[i]? = some (some v) ∧ DqAll K F vs1 ds1 ∧ DqAll K F vs2 ds2
  | .d d :: r, ds1, i, ds2, _, e, .cons h t => by
    simp only [splitW, Option.map_eq_some_iff] at e
    obtain ⟨⟨a, b, c⟩, e1, e2⟩ := e
    cases e2
    obtain ⟨vs1, v, vs2, rfl, h2, h3, h4⟩ := splitW_ok e1 t
    exact ⟨_ :: vs1, v, vs2, rfl, h2, .cons h h3, h4⟩
  | .sl i :: r, ds1, _, ds2, _, e, .cons h t => by
    simp only [splitW, Option.map_eq_some_iff] at e
    obtain ⟨ds, e1, e2⟩ := e
    cases e2
    exact ⟨[], _, _, rfl, h, .nil, allD_ok e1 t⟩
  | [], _, _, _, _, e, _ => by cases e
  | .ty _ :: _, _, _, _, _, e, _ => by cases e
section
variable {K : Fr} {B : Bs} {G : En} {P : Po} {t : TA} {E : XK} {S : St} {F H F1 H1 : Hp} {Q : VK} {vs : List V} {ws : List W}
variable {pre : List PyData → Sl → List PyData → Prop} {post : List PyData → Sl → List PyData → Sl → Rs → Prop} {exc : List PyData → Sl → List PyData → Sl → Value → Prop}
theorem coreG {ds1 ds2 : List PyData} {i : Nat} {s : Sl} {G1 : En} (k : Ct K B S F P Q) (e1 : Ex F F1) (I1 : Iv K B G1 S F1 H1) (hv : Vws K S F1 vs ws) (hd : splitW ws = some (ds1, i, ds2)) (hi : G1[i]? = some s) (ht : s.tr = true) (hp : pre ds1 (s.re none) ds2)
    (q : ∀ s' r, s'.tr = true → post ds1 (s.re none) ds2 s' r → P (G1.set i (s'.re s.q)) r) (qx : ∀ cls F' H' s', s'.tr = true → Iv K B (G1.set i (s'.re s.q)) S F' H' → exc ds1 (s.re none) ds2 s' cls → E cls none H') : spG K pre post exc vs H1 Q E := by
  obtain ⟨vs1, v, vs2, rfl, hS, m1, m2⟩ := splitW_ok hd hv
  obtain ⟨An, h1, h2, h3⟩ := I1.own
  obtain ⟨u, z1, z2⟩ : ∃ v, S[i]? = some (some v) ∧ SvR K F1 H1 v (An i) s := (h1 i _ hi).elim (fun z => absurd z (tr_un ht)) id
  rw [hS] at z1
  cases z1
  obtain ⟨p, rfl, hAp, _, hq⟩ := svr_ref z2 ht
  refine ⟨F1, p, An i, vs1, vs2, ds1, s.re none, ds2, rfl, I1.ex, by rw [re_tr]; exact ht, svr_re z2 none (fun _ z => nomatch z), fun a ha => ⟨(h3 i a ha).1, (h3 i a ha).2.1⟩, m1, m2, hp, fun v F2 H2 A' s' r a1 a2 a3 a4 a5 a6 a7 a8 a9 b0 => ?_, fun cls F2 H2 A' s' a1 a2 a3 a4 a5 a6 a7 a8 b0 => ?_⟩
  · obtain ⟨J, own⟩ := I1.called hi hS rfl h1 h2 h3 a1 a2 a3 a4 a5 (svr_re a7 s.q hq) a8
    match r, a9, b0 with
    | .p (.d d), a9, b0 => exact k v F2 H2 _ (.p (.d d)) (e1.trans a1) ⟨J, a9⟩ (q _ _ a6 b0)
    | .fr s2, ⟨A2, c1, c2⟩, b0 =>
      refine k v F2 H2 _ (.fr s2) (e1.trans a1) ?_ (q _ _ a6 b0)
      refine J.addO c1 (fun a ha => ⟨(c2 a ha).1, (c2 a ha).2.1, (c2 a ha).2.2.1.elim (fun z => .inl (I1.new0 z)) fun z => (h3 i a z).2.2⟩) ⟨fun j b => if j = i then A' b else An j b, fun j s3 hj => ?_, fun j l b x y => ?_, fun j b x => ?_, fun j b x => ?_⟩
      · by_cases e : i = j
        · subst e
          obtain ⟨rfl, _⟩ := set_same hj
          refine .inr ⟨_, hS, ?_⟩
          simpa using svr_re a7 s.q hq
        · rw [List.getElem?_set_ne e] at hj
          have e' : ¬ j = i := fun z => e z.symm
          rcases h1 j s3 hj with z | ⟨u, x1, x2⟩
          · exact .inl z
          · refine .inr ⟨u, x1, ?_⟩
            simp only [e', if_false]
            refine slr_stab x2 a1 fun b hb => ?_
            cases y : H1 b with
            | none => exact absurd y (h3 j b hb).2.1
            | some o => exact a3 b o y fun z => e' (h2 _ _ _ hb z)
      · by_cases ej : j = i <;> by_cases el : l = i
        · rw [ej, el]
        · simp only [ej, el, if_true, if_false] at x y
          exact absurd x (own l b y el).2.2
        · simp only [ej, el, if_true, if_false] at x y
          exact absurd y (own j b x ej).2.2
        · simp only [ej, el, if_false] at x y
          exact h2 _ _ _ x y
      · by_cases ej : j = i
        · simp only [ej, if_true] at x
          obtain ⟨y1, y2, y3⟩ := a8 b x
          refine ⟨y1, y2, ?_⟩
          rcases y3 with y | y
          · exact (h3 i b y).2.2
          · exact .inl (I1.new0 y)
        · simp only [ej, if_false] at x
          exact ⟨(own j b x ej).1, (own j b x ej).2.1, (h3 j b x).2.2⟩
      · by_cases ej : j = i
        · simp only [ej, if_true] at x
          exact fun z => (c2 b z).2.2.2 x
        · simp only [ej, if_false] at x
          exact fun z => (c2 b z).2.2.1.elim (h3 j b x).2.1 fun y => ej (h2 _ _ _ x y)
  · obtain ⟨J, _⟩ := I1.called hi hS rfl h1 h2 h3 a1 a2 a3 a4 a5 (svr_re a7 s.q hq) a8
    exact qx cls F2 H2 s' a6 J b0
end
/-! .. by a parameter -/
def spH {ι : Type} (K : Fr) (args1 : ι → List PyData) (own : ι → Sl) (args2 : ι → List PyData) (pre : ι → Prop) (res : ι → Sl → Rs → Prop) (exc : ι → Sl → Value → Prop) : Sp := fun vs H Q E =>
  ∃ x, pre x ∧ spG K (fun a s b => a = args1 x ∧ s.re none = (own x).re none ∧ b = args2 x) (fun _ _ _ s' r => res x (s'.re none) r) (fun _ _ _ s' c => exc x (s'.re none) c) vs H Q E
section
variable {K : Fr} {B : Bs} {G : En} {P : Po} {t : TA} {E : XK} {ι : Type} {args1 args2 : ι → List PyData} {own : ι → Sl} {pre : ι → Prop} {res : ι → Sl → Rs → Prop} {exc : ι → Sl → Value → Prop}
theorem re_re {s : Sl} {q q' : Option Addr} : (s.re q).re q' = s.re q' := by cases s <;> rfl
theorem dw_callHX {ex0 : Value → Prop} (hE : Tk K B ex0 E) (h : DA K B G t fun G1 ws => ∃ x i s, pre x ∧ splitW ws = some (args1 x, i, args2 x) ∧ G1[i]? = some s ∧ s.tr = true ∧ s.re none = (own x).re none ∧ (∀ s' r, s'.tr = true → res x s' r → P (G1.set i (s'.re s.q)) r) ∧ ∀ s' c, exc x s' c → ex0 c) :
    DW K B G (tCall (spH K args1 own args2 pre res exc) [] E t) P := fun S F H Q I k => by
  show t S H fun vs H1 => spH K args1 own args2 pre res exc (vs ++ []) H1 Q E
  refine h S F H _ I fun vs F1 H1 G1 ws e1 I1 hv ⟨x, i, s, hp, hd, hi, ht, ho, q, qx⟩ => ?_
  rw [List.append_nil]
  refine ⟨x, hp, coreG k e1 I1 hv hd hi ht ⟨rfl, by rw [re_re]; exact ho, rfl⟩ (fun s' r ht' a => ?_) (fun cls F' H' s' ht' J a => hE cls _ _ _ _ J (qx _ _ a))⟩
  have := q (s'.re none) r (by rw [re_tr]; exact ht') a
  rw [re_re] at this
  exact this
theorem dw_callH (h : DA K B G t fun G1 ws => ∃ x i s, pre x ∧ splitW ws = some (args1 x, i, args2 x) ∧ G1[i]? = some s ∧ s.tr = true ∧ s.re none = (own x).re none ∧ (∀ s' r, s'.tr = true → res x s' r → P (G1.set i (s'.re s.q)) r) ∧ ∀ s' c, ¬ exc x s' c) :
    DW K B G (tCall (spH K args1 own args2 pre res exc) [] E t) P := dw_callHX (ex0 := fun _ => False) (fun _ _ _ _ _ _ z => z.elim) h
theorem dw_callHS {W : WX} {ex0 : Value → En → Prop} (hE : TkW K B ex0 W) (h : DA K B G t fun G1 ws => ∃ x i s, pre x ∧ splitW ws = some (args1 x, i, args2 x) ∧ G1[i]? = some s ∧ s.tr = true ∧ s.re none = (own x).re none ∧ (∀ s' r, s'.tr = true → res x s' r → P (G1.set i (s'.re s.q)) r) ∧ ∀ s' c, s'.tr = true → exc x s' c → ex0 c (G1.set i (s'.re s.q))) :
    DW K B G (tCallS (spH K args1 own args2 pre res exc) (WE W) t) P := fun S F H Q I k => by
  show t S H fun vs H1 => spH K args1 own args2 pre res exc vs H1 Q (fun cls d H => W cls d S H)
  refine h S F H _ I fun vs F1 H1 G1 ws e1 I1 hv ⟨x, i, s, hp, hd, hi, ht, ho, q, qx⟩ => ?_
  refine ⟨x, hp, coreG k e1 I1 hv hd hi ht ⟨rfl, by rw [re_re]; exact ho, rfl⟩ (fun s' r ht' a => ?_) (fun cls F' H' s' ht' J a => ?_)⟩
  · have := q (s'.re none) r (by rw [re_tr]; exact ht') a
    rw [re_re] at this
    exact this
  · have := qx (s'.re none) cls (by rw [re_tr]; exact ht') a
    rw [re_re] at this
    exact hE cls _ _ _ _ J this
end
/-! the def's body -/
def GH (N : List Str) (p : Addr) (ds1 : List PyData) (s : Sl) (ds2 : List PyData) : En := ds1.map Sl.d ++ s.re (some p) :: (ds2.map Sl.d ++ List.replicate (N.length - (ds1.length + 1 + ds2.length)) .un)
def OwnH (j : Nat) (p : Addr) (post : Sl → Prop) (G : En) : Prop := ∃ s, G[j]? = some s ∧ s.tr = true ∧ s.q = some p ∧ post (s.re none)
def RetH (j : Nat) (p : Addr) (post : Sl → Rs → Prop) (G : En) : Rs → Prop
  | .p (.d d) => OwnH j p (fun s => post s (.p (.d d))) G
  | .p (.sl i) => i ≠ j ∧ ∃ a ds, G[i]? = some (.o a ds) ∧ OwnH j p (fun s => post s (.fr (.o none ds))) G
  | .p (.ty _) => False
  | .fr s2 => s2 ≠ .un ∧ OwnH j p (fun s => post s (.fr s2)) G
def EH (j : Nat) (p : Addr) (post : Sl → Rs → Prop) : De := { nx := fun G => OwnH j p (fun s => post s (.p (.d .none))) G, rt := fun G r => RetH j p post G r }
theorem start_ivH {K : Fr} {F H : Hp} {N : List Str} {vs1 vs2 : List V} {ds1 ds2 : List PyData} {p : Addr} {A : Addr → Prop} {s : Sl} (ex : Ex F H) (h1 : DqAll K F vs1 ds1) (h2 : DqAll K F vs2 ds2) (hs : SvR K F H (.ref p) A s) (hA : ∀ a, A a → F a = none ∧ H a ≠ none) (hl : ds1.length + 1 + ds2.length ≤ N.length) :
    Iv K ⟨F, H, A⟩ (GH N p ds1 s ds2) (L2.start N (vs1 ++ .ref p :: vs2)) F H := by
  have l1 := da_len h1
  have l2 := da_len h2
  refine ⟨ex, Ex.refl _, fun b o h _ => h, fun b o h _ => .inl (nn h), fun b h => h, by simp [L2.start, GH, l1, l2]; omega, fun j a => j = ds1.length ∧ A a, fun i s2 hi => ?_, fun i j a x y => by rw [x.1, y.1], fun i a x => ⟨(hA a x.2).1, (hA a x.2).2, .inr x.2⟩⟩
  unfold GH at hi
  unfold L2.start
  rw [List.map_append, List.append_assoc]
  by_cases c1 : i < ds1.length
  · rw [List.getElem?_append_left (by simpa using c1), List.getElem?_map, List.getElem?_eq_getElem c1] at hi
    cases hi
    obtain ⟨v, y1, y2⟩ := da_get h1 (List.getElem?_eq_getElem c1)
    refine .inr ⟨v, ?_, y2⟩
    rw [List.getElem?_append_left (by rw [List.length_map, l1]; exact c1), List.getElem?_map, y1]
    rfl
  · rw [List.getElem?_append_right (by simpa using Nat.le_of_not_lt c1), List.length_map] at hi
    by_cases c2 : i = ds1.length
    · subst c2
      rw [Nat.sub_self] at hi
      cases hi
      refine .inr ⟨.ref p, ?_, ?_⟩
      · rw [List.getElem?_append_right (by rw [List.length_map, l1]; exact Nat.le_refl _), List.length_map, l1, Nat.sub_self]
        rfl
      · have ea : (fun a => ds1.length = ds1.length ∧ A a) = A := by
          funext a
          simp
        show SvR K F H (.ref p) (fun a => ds1.length = ds1.length ∧ A a) (s.re (some p))
        rw [ea]
        exact svr_re hs _ fun a z => Option.some.inj z
    · obtain ⟨m, rfl⟩ : ∃ m, i = ds1.length + (m + 1) := ⟨i - ds1.length - 1, by omega⟩
      rw [Nat.add_sub_cancel_left, List.getElem?_cons_succ] at hi
      rw [List.getElem?_append_right (by rw [List.length_map, l1]; omega), List.length_map, l1, Nat.add_sub_cancel_left, List.map_cons, List.cons_append, List.getElem?_cons_succ]
      by_cases c3 : m < ds2.length
      · rw [List.getElem?_append_left (by simpa using c3), List.getElem?_map, List.getElem?_eq_getElem c3] at hi
        cases hi
        obtain ⟨v, y1, y2⟩ := da_get h2 (List.getElem?_eq_getElem c3)
        refine .inr ⟨v, ?_, y2⟩
        rw [List.getElem?_append_left (by rw [List.length_map, l2]; exact c3), List.getElem?_map, y1]
        rfl
      · refine .inl ?_
        rw [List.getElem?_append_right (by simpa using Nat.le_of_not_lt c3)] at hi
        simp only [List.getElem?_replicate] at hi
        split at hi
        · exact (Option.some.inj hi).symm
        · cases hi
section
variable {P : Program} {w : World} {K : Fr} {mg : Str → Option Value} {base : Heap} {x qual : Str} {st : Stmt} {f : Addr} {fd : FuncData} {N ps : List Str} {k : Nat}
variable {ι : Type} {args1 args2 : ι → List PyData} {own : ι → Sl} {pre : ι → Prop} {res : ι → Sl → Rs → Prop} {exc : ι → Sl → Value → Prop}
/-- what a body leaves, told to the caller -/
theorem endH {F0 H : Hp} {p : Addr} {A : Addr → Prop} {j : Nat} {G' : En} {S' : St} {F' H' : Hp} {post : Sl → Prop} (J : Iv K ⟨F0, H, A⟩ G' S' F' H') (hA : ∀ a, A a → F0 a = none ∧ H a ≠ none) (ho : OwnH j p post G') :
    ∃ An : Nat → Addr → Prop, ∃ s, G'[j]? = some s ∧ (∀ i s, G'[i]? = some s → s = .un ∨ ∃ v, S'[i]? = some (some v) ∧ SvR K F' H' v (An i) s) ∧ (∀ i j a, An i a → An j a → i = j) ∧ (∀ i a, An i a → F' a = none ∧ H' a ≠ none ∧ (H a = none ∨ A a)) ∧
      (∀ b o, H b = some o → ¬ A b → H' b = some o) ∧ (∀ b, H b ≠ none → H' b ≠ none) ∧ (∀ b o, F' b = some o → F0 b = none → H b = none ∨ A b) ∧ (s.re none).tr = true ∧ SvR K F' H' (.ref p) (An j) (s.re none) ∧ (∀ a, An j a → F' a = none ∧ H' a ≠ none ∧ (A a ∨ H a = none)) ∧ post (s.re none) := by
  obtain ⟨s, hj, ht, hq, hp⟩ := ho
  obtain ⟨An, h1, h2, h3⟩ := J.own
  obtain ⟨u, z1, z2⟩ : ∃ v, S'[j]? = some (some v) ∧ SvR K F' H' v (An j) s := (h1 j _ hj).elim (fun z => absurd z (tr_un ht)) id
  obtain ⟨p', rfl, _, _, y⟩ := svr_ref z2 ht
  have e : p' = p := y _ hq
  subst e
  refine ⟨An, s, hj, h1, h2, h3, fun b o a1 a2 => J.fr b o a1 a2, fun b h => J.st b h, fun b o a1 a2 => ?_, by rw [re_tr]; exact ht, svr_re z2 none (fun _ z => nomatch z), fun a ha => ?_, hp⟩
  · cases z : H b with
    | none => exact .inl rfl
    | some u =>
      rcases J.nw b o a1 (nn z) with y | y
      · exact absurd a2 y
      · exact .inr y
  · obtain ⟨x1, x2, x3⟩ := h3 j a ha
    exact ⟨x1, x2, x3.elim .inr .inl⟩
theorem retH {F0 H : Hp} {p : Addr} {A : Addr → Prop} {Q : VK} {post : Sl → Rs → Prop} {j : Nat} (hA : ∀ a, A a → F0 a = none ∧ H a ≠ none)
    (q : ∀ v F' H' A' s' r, Ex F0 F' → Ex F' H' → (∀ b o, H b = some o → ¬ A b → H' b = some o) → (∀ b, H b ≠ none → H' b ≠ none) → (∀ b o, F' b = some o → F0 b = none → H b = none ∨ A b) → s'.tr = true → SvR K F' H' (.ref p) A' s' →
      (∀ a, A' a → F' a = none ∧ H' a ≠ none ∧ (A a ∨ H a = none)) → Rr K (fun a => (H a = none ∨ A a) ∧ ¬ A' a) F' H' v r → post s' r → Q v H') {G : En} {S : St} {F H' : Hp} {v : V} {r : Rs} (e : Ex F0 F) (J : Vr K ⟨F0, H, A⟩ G S F H' v r) (pr : RetH j p post G r) : Q v H' := by
  match r, J, pr with
  | .p (.d d), J, pr =>
    have pr : OwnH j p (fun s => post s (.p (.d d))) G := pr
    obtain ⟨An, s', hj, h1, h2, h3, b1, b2, b3, b4, b5, b6, b7⟩ := endH J.1 hA pr
    exact q v F H' (An j) _ (.p (.d d)) e J.1.ex b1 b2 b3 b4 b5 b6 J.2 b7
  | .p (.sl i), J, ⟨hij, a, ds, hi, pr⟩ =>
    obtain ⟨An, s', hj, h1, h2, h3, b1, b2, b3, b4, b5, b6, b7⟩ := endH J.1 hA pr
    obtain ⟨u, z1, c, vs', z2, z3, z4, z5, _⟩ : ∃ v, S[i]? = some (some v) ∧ SvR K F H' v (An i) (.o a ds) := (h1 i _ hi).elim (fun z => by cases z) id
    have hv : S[i]? = some (some v) := J.2
    rw [hv] at z1
    cases z1
    exact q v F H' (An j) _ (.fr (.o none ds)) e J.1.ex b1 b2 b3 b4 b5 b6 ⟨An i, ⟨c, vs', z2, z3, z4, z5, fun _ z => by cases z⟩, fun a ha => ⟨(h3 i a ha).1, (h3 i a ha).2.1, (h3 i a ha).2.2, fun z => hij (h2 _ _ _ ha z)⟩⟩ b7
  | .fr s2, J, ⟨hu, pr⟩ =>
    have J' := Iv.drop J
    have lj : j < G.length := by
      obtain ⟨s, hj, _⟩ := pr
      exact (List.getElem?_eq_some_iff.mp hj).1
    have pr' : OwnH j p (fun s => post s (.fr s2)) (G ++ [s2]) := by
      obtain ⟨s, hj, y⟩ := pr
      exact ⟨s, by rw [List.getElem?_append_left lj]; exact hj, y⟩
    obtain ⟨An, s', hj, h1, h2, h3, b1, b2, b3, b4, b5, b6, b7⟩ := endH J hA pr'
    obtain ⟨u, z1, z2⟩ : ∃ v', (S ++ [some v])[G.length]? = some (some v') ∧ SvR K F H' v' (An G.length) s2 := (h1 G.length s2 (by simp)).elim (fun z => absurd z hu) id
    have hv : (S ++ [some v])[G.length]? = some (some v) := by
      rw [← J'.len]
      simp
    rw [hv] at z1
    cases z1
    exact q v F H' (An j) _ (.fr s2) e J.ex b1 b2 b3 b4 b5 b6 ⟨_, z2, fun a ha => ⟨(h3 _ a ha).1, (h3 _ a ha).2.1, (h3 _ a ha).2.2, fun z => absurd (h2 _ _ _ ha z) (by omega)⟩⟩ b7
theorem reO {j : Nat} {p : Addr} {post : Sl → Prop} {G : En} (h : OwnH j p post G) : OwnH j p (fun s => post (s.re none)) G := by
  obtain ⟨s, a, b, c, d⟩ := h
  exact ⟨s, a, b, c, by show post ((s.re none).re none); rw [re_re]; exact d⟩
theorem reR {j : Nat} {p : Addr} {post : Sl → Rs → Prop} {G : En} : ∀ {r : Rs}, RetH j p post G r → RetH j p (fun s r => post (s.re none) r) G r
  | .p (.d _), h => reO (post := fun s => post s _) h
  | .p (.sl _), ⟨h1, a, ds, h2, h3⟩ => ⟨h1, a, ds, h2, reO (post := fun s => post s _) h3⟩
  | .p (.ty _), h => h.elim
  | .fr _, ⟨h1, h2⟩ => ⟨h1, reO (post := fun s => post s _) h2⟩
/-- what takes an exception, the own thing at slot j -/
def TkH (K : Fr) (B : Bs) (j : Nat) (p : Addr) (exc : Sl → Value → Prop) (E : XK) : Prop := ∀ cls S F H G, Iv K B G S F H → OwnH j p (fun s => exc s cls) G → E cls none H
theorem fnH {j : Nat} (F : Fun K x qual st f fd) (S : FnScope N ps (defScope st)) (hl : ∀ x, (args1 x).length = j ∧ j + 1 + (args2 x).length = ps.length ∧ ps.length ≤ N.length)
    (hb : ∀ (cdv : Value) (A : Around) (outer : List Env) (s : Shared) (H : Hp) (E : XK), Room k (A.deeper (PyProof.Rows.envOfC qual (defScope st) s.heap.objs.size f cdv)) → ∃ t, PSs (cxOf CX0 P w K mg base N qual (defScope st) f cdv A outer s H E).nox (defBody st) t ∧
      ∀ x, pre x → ∀ p B, DS K B (GH N p (args1 x) (own x) (args2 x)) t (EH j p (res x))) : FnOk P w K mg base CX0 (k + 1) f fd ps (spH K args1 own args2 pre res (fun _ _ _ => False)) := by
  refine F.ok S (fun vs H Q E h => ?_) (fun cdv A outer s H vs Q E hr h => ?_)
  · obtain ⟨x, hp, F, p, A, vs1, vs2, ds1, s, ds2, rfl, _, _, _, _, m1, m2, ⟨rfl, _, rfl⟩, _⟩ := h
    rw [List.length_append, List.length_cons, da_len m1, da_len m2, ← (hl x).2.1, (hl x).1]
    omega
  · obtain ⟨x, hp, F0, p, A0, vs1, vs2, ds1, so, ds2, rfl, ex, ht, hs, hA, m1, m2, ⟨rfl, ho, rfl⟩, q, _⟩ := h
    obtain ⟨t, ht', hS⟩ := hb cdv A outer s H E hr
    refine ⟨t, ht', ?_⟩
    obtain ⟨l1, l2, l3⟩ := hl x
    have eg : so.re (some p) = (own x).re (some p) := by rw [← re_re (s := so) (q := none), ho, re_re]
    have I0 : Iv K ⟨F0, H, A0⟩ (GH N p (args1 x) (own x) (args2 x)) (L2.start N (vs1 ++ .ref p :: vs2)) F0 H := by
      have J := start_ivH (N := N) ex m1 m2 hs hA (by omega)
      unfold GH at J ⊢
      rw [← eg]
      exact J
    have q' : ∀ v F' H' A' s' r, Ex F0 F' → Ex F' H' → (∀ b o, H b = some o → ¬ A0 b → H' b = some o) → (∀ b, H b ≠ none → H' b ≠ none) → (∀ b o, F' b = some o → F0 b = none → H b = none ∨ A0 b) → s'.tr = true → SvR K F' H' (.ref p) A' s' →
      (∀ a, A' a → F' a = none ∧ H' a ≠ none ∧ (A0 a ∨ H a = none)) → Rr K (fun a => (H a = none ∨ A0 a) ∧ ¬ A' a) F' H' v r → res x (s'.re none) r → Q v H' := fun v F' H' A' s' r b1 b2 b3 b4 b5 b6 b7 b8 b9 c => q v F' H' A' s' r b1 b2 b3 b4 b5 b6 b7 b8 b9 c
    refine hS x hp p _ _ F0 H _ I0 ⟨fun S F H' G e J pr => ?_, fun S F H' G v r e J pr => ?_, fun _ _ _ _ _ _ z => z.elim, fun _ _ _ _ _ _ z => z.elim⟩
    · exact retH (post := fun s r => res x (s.re none) r) (j := j) hA q' (v := .non) (r := .p (.d .none)) e ⟨J, Dq.non⟩ (reO (post := fun s => res x s (.p (.d .none))) pr)
    · exact retH (post := fun s r => res x (s.re none) r) (j := j) hA q' e J (reR pr)
theorem fnHX {j : Nat} (F : Fun K x qual st f fd) (S : FnScope N ps (defScope st)) (hl : ∀ x, (args1 x).length = j ∧ j + 1 + (args2 x).length = ps.length ∧ ps.length ≤ N.length)
    (hb : ∀ (cdv : Value) (A : Around) (outer : List Env) (s : Shared) (H : Hp) (E : XK), Room k (A.deeper (PyProof.Rows.envOfC qual (defScope st) s.heap.objs.size f cdv)) → ∃ t, PSs (cxOf (L2.CX P w) P w K mg base N qual (defScope st) f cdv A outer s H E) (defBody st) t ∧
      ∀ x, pre x → ∀ p B, TkH K B j p (exc x) E → DS K B (GH N p (args1 x) (own x) (args2 x)) t (EH j p (res x))) : FnOk P w K mg base (L2.CX P w) (k + 1) f fd ps (spH K args1 own args2 pre res exc) := by
  refine F.okX S (fun vs H Q E h => ?_) (fun cdv A outer s H vs Q E hr h => ?_)
  · obtain ⟨x, hp, F, p, A, vs1, vs2, ds1, s, ds2, rfl, _, _, _, _, m1, m2, ⟨rfl, _, rfl⟩, _⟩ := h
    rw [List.length_append, List.length_cons, da_len m1, da_len m2, ← (hl x).2.1, (hl x).1]
    omega
  · obtain ⟨x, hp, F0, p, A0, vs1, vs2, ds1, so, ds2, rfl, ex, ht, hs, hA, m1, m2, ⟨rfl, ho, rfl⟩, q, qx⟩ := h
    obtain ⟨t, ht', hS⟩ := hb cdv A outer s H E hr
    refine ⟨t, ht', ?_⟩
    obtain ⟨l1, l2, l3⟩ := hl x
    have eg : so.re (some p) = (own x).re (some p) := by rw [← re_re (s := so) (q := none), ho, re_re]
    have I0 : Iv K ⟨F0, H, A0⟩ (GH N p (args1 x) (own x) (args2 x)) (L2.start N (vs1 ++ .ref p :: vs2)) F0 H := by
      have J := start_ivH (N := N) ex m1 m2 hs hA (by omega)
      unfold GH at J ⊢
      rw [← eg]
      exact J
    have q' : ∀ v F' H' A' s' r, Ex F0 F' → Ex F' H' → (∀ b o, H b = some o → ¬ A0 b → H' b = some o) → (∀ b, H b ≠ none → H' b ≠ none) → (∀ b o, F' b = some o → F0 b = none → H b = none ∨ A0 b) → s'.tr = true → SvR K F' H' (.ref p) A' s' →
      (∀ a, A' a → F' a = none ∧ H' a ≠ none ∧ (A0 a ∨ H a = none)) → Rr K (fun a => (H a = none ∨ A0 a) ∧ ¬ A' a) F' H' v r → res x (s'.re none) r → Q v H' := fun v F' H' A' s' r b1 b2 b3 b4 b5 b6 b7 b8 b9 c => q v F' H' A' s' r b1 b2 b3 b4 b5 b6 b7 b8 b9 c
    refine hS x hp p ⟨F0, H, A0⟩ (fun cls S F H' G J hx => ?_) _ F0 H _ I0 ⟨fun S F H' G e J pr => ?_, fun S F H' G v r e J pr => ?_, fun _ _ _ _ _ _ z => z.elim, fun _ _ _ _ _ _ z => z.elim⟩
    · obtain ⟨An, s', hj, h1, h2, h3, b1, b2, b3, b4, b5, b6, b7⟩ := endH J hA hx
      exact qx cls F H' (An j) _ J.f0 J.ex b1 b2 b3 b4 b5 b6 (by show exc x ((s'.re none).re none) cls; rw [re_re]; exact b7)
    · exact retH (post := fun s r => res x (s.re none) r) (j := j) hA q' (v := .non) (r := .p (.d .none)) e ⟨J, Dq.non⟩ (reO (post := fun s => res x s (.p (.d .none))) pr)
    · exact retH (post := fun s r => res x (s.re none) r) (j := j) hA q' e J (reR pr)
end
end DL
/-! ### the library's data orders, as rules of the hand layer -/
namespace L2
open PySem PySem.Spec PyProof.Rows PySem.W
/-- two lists side by side -/
theorem ei_of_vals {α : Type} {R : V → α → Prop} : ∀ {xs : List V} {us : List Value} {bs : List α}, Vals xs us → EachIs R xs bs → EachIs (fun u b => ∃ v, RelV v u ∧ R v b) us bs
  | _, _, _, .nil, .nil => .nil
  | _, _, _, .cons r rs, .cons h hs => .cons ⟨_, r, h⟩ (ei_of_vals rs hs)
theorem vals_of_ei {α : Type} {R : V → α → Prop} : ∀ {us : List Value} {bs : List α}, EachIs (fun u b => ∃ v, RelV v u ∧ R v b) us bs → ∃ xs, Vals xs us ∧ EachIs R xs bs
  | _, _, .nil => ⟨[], .nil, .nil⟩
  | _, _, .cons ⟨v, h1, h2⟩ hs => by
    obtain ⟨xs, a, b⟩ := vals_of_ei hs
    exact ⟨v :: xs, .cons h1 a, .cons h2 b⟩
def rSortedD (K : PySem.W.Frag) : List V → Hp → VK → Prop := fun vs H Q => ∃ (β : Type) (a : Addr) (xs : List V) (bs : List β) (enc : β → PyData) (R : V → β → Prop), vs = [V.ref a] ∧ SqL K H a xs ∧ EachIs R xs bs ∧ (∀ v b, R v b → Dp K H v (enc b)) ∧
  AllAlike (bs.map enc) ∧ Sortable (bs.map enc) ∧ (∀ b ∈ bs, (enc b).depth ≤ 60) ∧ ∀ ys p, EachIs R ys (bs.mergeSort (dataLe false enc)) → H p = none → Q (.ref p) (upd H p (.lst ys))
/-! data without lists -/
mutual
def noL : PyData → Bool
  | .none => true
  | .bool _ => true
  | .int _ => true
  | .str _ => true
  | .tuple xs => noLs xs
  | .list _ => false
  | .dict _ => false
def noLs : List PyData → Bool
  | [] => true
  | x :: r => noL x && noLs r
end
theorem noLs_iff : ∀ {xs : List PyData}, noLs xs = true ↔ ∀ x ∈ xs, noL x = true
  | [] => by simp [noLs]
  | x :: r => by simp [noLs, noLs_iff (xs := r)]
mutual
theorem reads_noL {h : Heap} : ∀ {v : Value} {d : PyData} {as : List Addr}, Reads h v d as → noL d = true → as = []
  | _, _, _, .none, _ => rfl
  | _, _, _, .bool _, _ => rfl
  | _, _, _, .int _ _, _ => rfl
  | _, _, _, .str _ _, _ => rfl
  | _, _, _, .tuple _ _ _ r, h => readsAll_noL r (noLs_iff.mp h)
  | _, _, _, .list _ _ _ r, h => by rw [noL] at h; cases h
  | _, _, _, .dict _ _ _ r1 r2, h => by rw [noL] at h; cases h
theorem readsAll_noL {h : Heap} : ∀ {v : List Value} {d : List PyData} {as : List Addr}, ReadsAll h v d as → (∀ x ∈ d, noL x = true) → as = []
  | _, _, _, .nil, _ => rfl
  | _, _, _, .cons r rs, h => by
    rw [reads_noL r (h _ List.mem_cons_self), readsAll_noL rs fun x hx => h x (List.mem_cons_of_mem _ hx)]
    rfl
end
def rSortD (K : PySem.W.Frag) : V → List V → Hp → VK → Prop := fun x vs H Q => ∃ (β : Type) (a : Addr) (xs : List V) (bs : List β) (enc : β → PyData) (R : V → β → Prop), x = V.ref a ∧ vs = [] ∧ H a = some (.lst xs) ∧ EachIs R xs bs ∧ (∀ v b, R v b → Dp K H v (enc b)) ∧
  AllAlike (bs.map enc) ∧ Sortable (bs.map enc) ∧ (∀ b ∈ bs, (enc b).depth ≤ 60 ∧ noL (enc b) = true) ∧ ∀ ys, EachIs R ys (bs.mergeSort (dataLe false enc)) → Q .non (upd H a (.lst ys))
def rMinD (K : PySem.W.Frag) : List V → Hp → VK → Prop := fun vs H Q => ∃ (a : Addr) (xs : List V) (d : PyData) (ds : List PyData), vs = [V.ref a] ∧ SqL K H a xs ∧ DpAll K H xs (d :: ds) ∧ AlikeAll (d :: ds) ∧ PyData.depthAll (d :: ds) ≤ 60 ∧
  ∀ (i : Nat) (x : V), xs[i]? = some x → (d :: ds)[i]? = some (minD d ds) → Q x H
def rLtD (K : PySem.W.Frag) : R2 := fun x y H Q => ∃ d e, Dp K H x d ∧ Dp K H y e ∧ alike d e = true ∧ d ≠ .none ∧ d.depth ≤ 60 ∧ Q (.bl (dataLt d e)) H
def rGtD (K : PySem.W.Frag) : R2 := fun x y H Q => ∃ d e, Dp K H x d ∧ Dp K H y e ∧ alike d e = true ∧ d ≠ .none ∧ d.depth ≤ 60 ∧ Q (.bl (dataLt e d)) H
section
variable {X : Cx}
theorem ei_mem {α β : Type} {R : α → β → Prop} : ∀ {as : List α} {bs : List β}, EachIs R as bs → EachIs (fun a b => R a b ∧ b ∈ bs) as bs := PySem.W.each_mem
theorem cr_sortedD (hu : X.A.units + 65 < cLine) : CallR X (.builtin "sorted") (rSortedD X.K) := by
  intro pins s σ H vs us Q I r h
  obtain ⟨β, a, xs, bs, enc, R, rfl, hs, he, hd, h1, h2, h3, q⟩ := h
  obtain ⟨its, rv, hl, hz⟩ := I.list hs
  rw [Vals.ref1 r]
  have e1 := ei_of_vals rv he
  have hlen : its.length = bs.length := e1.length
  refine sorted_data (R := fun u b => ∃ v, RelV v u ∧ R v b) (bs := bs) (enc := enc) hl.isList e1 (e1.mono fun u b ⟨v, r1, r2⟩ => Dp.reads I _ v u (hd v b r2) r1) h1 h2 (by rw [← hlen, ← rv.length]; exact hz) (fun b hb => by have := h3 b hb; omega) fun out o1 o2 => ?_
  obtain ⟨ep, he'⟩ := PyProof.Rows.sortedAll_at s.heap its out.toArray
  obtain ⟨ys, y1, y2⟩ := vals_of_ei o2
  have hy : ys.length ≤ sizeLine := by rw [y1.length, o1, ← hlen, ← rv.length]; exact hz
  exact ⟨.ref _, upd H (s.heap.objs.size + 1) (.lst ys), I.laid (t' := s.toks) (fun _ _ => PyProof.Rows.sortedAll_old) (Nat.le_succ _) ⟨hy, out, ep, y1, he'⟩, rfl, q _ _ y2 (I.hok.fresh (Nat.le_succ _))⟩
theorem mt_sortD (hu : X.A.units + 65 < cLine) : MtR X "list.sort" (rSortD X.K) := by
  intro pins s σ H x xs v us Q I rx rxs h
  obtain ⟨β, a, xs, bs, enc, R, rfl, rfl, ha, he, hd, h1, h2, h3, q⟩ := h
  cases rx
  cases rxs
  obtain ⟨hz, its, n, rv, hob⟩ := I.hok a _ ha
  have e1 := ei_of_vals rv he
  have hlen : its.length = bs.length := e1.length
  refine list_sort_data (R := fun u b => ∃ v, RelV v u ∧ R v b) (bs := bs) (enc := enc) hob e1 ((ei_mem e1).mono fun u b z => ?_) h1 h2 (by rw [← hlen, ← rv.length]; exact hz) (fun b hb => by have := (h3 b hb).1; omega) fun out o1 o2 => ?_
  · obtain ⟨⟨v, r1, r2⟩, hb⟩ := z
    obtain ⟨as, hr⟩ := Dp.reads I _ v u (hd v b r2) r1
    exact ⟨as, hr, by rw [reads_noL hr (h3 b hb).2]; simp⟩
  · obtain ⟨ys, y1, y2⟩ := vals_of_ei o2
    obtain ⟨ep, he'⟩ := PyProof.Rows.sortedHeap_at (vs := its) (out := out.toArray) hob
    have hy : ys.length ≤ sizeLine := by rw [y1.length, o1, ← hlen, ← rv.length]; exact hz
    refine ⟨.non, upd H a (.lst ys), I.write (e := a) (t' := s.toks) (by rw [ha]; trivial) (.inl rfl) (fun b u hb hu => ?_) ⟨_, he'⟩ ⟨hy, out, ep, y1, he'⟩, rfl, q _ y2⟩
    rw [PyProof.Rows.sortedHeap_old hb (Heap.lt_size hu)]
    exact hu
theorem dp_all_at {K : PySem.W.Frag} {H : Hp} : ∀ {xs : List V} {ds : List PyData} {i : Nat} {x : V}, DpAll K H xs ds → xs[i]? = some x → ∃ d, ds[i]? = some d ∧ Dp K H x d
  | _, _, _, _, .nil, e => by simp at e
  | _, _, 0, _, .cons h _, e => by
    simp at e
    subst e
    exact ⟨_, rfl, h⟩
  | _, _, i + 1, _, .cons _ a, e => by
    obtain ⟨d, h1, h2⟩ := dp_all_at a (i := i) (by simpa using e)
    exact ⟨d, by simpa using h1, h2⟩
theorem cr_minD (hc : X.calm = true) (hu : X.A.units + 65 < cLine) : CallR X (.builtin "min") (rMinD X.K) := by
  intro pins s σ H vs us Q I r h
  obtain ⟨a, xs, d, ds, rfl, hs, hd, ha, h3, q⟩ := h
  obtain ⟨its, rv, hl, hz⟩ := I.list hs
  rw [Vals.ref1 r]
  obtain ⟨as, hr⟩ := Dp.readsAll I _ xs its hd rv
  refine min_list_data (I.ok.hd hc) hl.isList (by simpa using hr) ha (by omega) fun i v h' tk bs hv hrd hk => ?_
  have hv' : its[i]? = some v := by simpa using hv
  have hi : i < xs.length := by
    rw [rv.length]
    exact (List.getElem?_eq_some_iff.mp hv').1
  have hx : xs[i]? = some xs[i] := List.getElem?_eq_getElem hi
  obtain ⟨u, hu1, hu2⟩ := rv.get hx
  rw [hv'] at hu1
  cases hu1
  obtain ⟨e, he1, he2⟩ := dp_all_at hd hx
  have I' : Inv X pins σ H { s with heap := h', toks := tk } := I.kept hk
  obtain ⟨as2, hr2⟩ := Dp.reads I' e xs[i] v he2 hu2
  have hm : minD d ds ∈ d :: ds := by
    unfold minD
    have : ∀ (l : List PyData) (a : PyData), l.foldl (fun a y => if dataLt y a then y else a) a ∈ a :: l := by
      intro l
      induction l with
      | nil => intro a; simp
      | cons y l ih =>
        intro a
        rw [List.foldl_cons]
        have := ih (if dataLt y a then y else a)
        rcases List.mem_cons.mp this with z | z
        · rw [z]
          split <;> simp
        · exact List.mem_cons_of_mem _ (List.mem_cons_of_mem _ z)
    exact this ds d
  have em : e = minD d ds := alike_unique e (minD d ds) v as2 bs (ha.1 e (List.mem_of_getElem? he1) _ hm) hr2 hrd
  exact ⟨xs[i], H, I', hu2, q i xs[i] hx (by rw [he1, em])⟩
theorem op_ltD (hu : X.A.units + 65 < cLine) : OpR X (compareOp .Lt) (rLtD X.K) := by
  intro pins s σ H x y v u Q I rx ry h
  obtain ⟨d, e, hd, he, ha, hn, hdp, q⟩ := h
  obtain ⟨as, r1⟩ := Dp.reads I d x v hd rx
  obtain ⟨bs, r2⟩ := Dp.reads I e y u he ry
  exact lt_data r1 r2 ha hn (by omega) ⟨.bl _, H, I, rfl, q⟩
theorem op_gtD (hu : X.A.units + 65 < cLine) : OpR X (compareOp .Gt) (rGtD X.K) := by
  intro pins s σ H x y v u Q I rx ry h
  obtain ⟨d, e, hd, he, ha, hn, hdp, q⟩ := h
  obtain ⟨as, r1⟩ := Dp.reads I d x v hd rx
  obtain ⟨bs, r2⟩ := Dp.reads I e y u he ry
  exact gt_data r1 r2 ha hn (by omega) ⟨.bl _, H, I, rfl, q⟩
end
end L2
namespace DL
open PySem L2
/-! ### an own dict whose keys are ints, texts -/
section
variable {K : Fr} {F H : Hp} {κ : Type} [DecidableEq κ]
def lkG (kvs : List (κ × PyData)) (k : κ) : Option PyData := (kvs.find? fun kv => decide (kv.1 = k)).map (·.2)
def putG (kvs : List (κ × PyData)) (k : κ) (d : PyData) : List (κ × PyData) :=
  if (kvs.any fun kv => decide (kv.1 = k)) = true then kvs.map fun kv => if kv.1 = k then (kv.1, d) else kv else kvs ++ [(k, d)]
theorem lkG_val {k : κ} : ∀ {kws : List (κ × V)} {kvs : List (κ × PyData)}, kws.map (·.1) = kvs.map (·.1) → DqAll K F (kws.map (·.2)) (kvs.map (·.2)) → (valV kws k).isSome = (lkG kvs k).isSome ∧ ∀ d, lkG kvs k = some d → ∃ v, valV kws k = some v ∧ Dq K F v d
  | [], [], _, _ => ⟨rfl, fun d h => nomatch h⟩
  | (a, v) :: kws, (b, e) :: kvs, h1, h2 => by
    cases h2 with
    | cons u1 u2 =>
      have h3 := List.cons.inj h1
      obtain ⟨i1, i2⟩ := lkG_val (k := k) h3.2 u2
      have ea : a = b := h3.1
      subst ea
      by_cases hk : a = k
      · subst hk
        refine ⟨by rw [valV_pos rfl]; simp [lkG], fun d hd => ⟨v, valV_pos rfl, ?_⟩⟩
        have : d = e := by
          simp [lkG] at hd
          exact hd.symm
        rw [this]
        exact u1
      · have e1 : lkG ((a, e) :: kvs) k = lkG kvs k := by simp [lkG, List.find?_cons, hk]
        rw [valV_neg hk, e1]
        exact ⟨i1, i2⟩
theorem putG_keys {k : κ} {v : V} {d : PyData} : ∀ {kws : List (κ × V)} {kvs : List (κ × PyData)}, kws.map (·.1) = kvs.map (·.1) → DqAll K F (kws.map (·.2)) (kvs.map (·.2)) → Dq K F v d →
    (putK kws k v).map (·.1) = (putG kvs k d).map (·.1) ∧ DqAll K F ((putK kws k v).map (·.2)) ((putG kvs k d).map (·.2)) := by
  intro kws kvs h1 h2 hd
  have hany : ∀ {kws : List (κ × V)} {kvs : List (κ × PyData)}, kws.map (·.1) = kvs.map (·.1) → (kws.any fun kv => decide (kv.1 = k)) = (kvs.any fun kv => decide (kv.1 = k)) := by
    intro kws kvs h
    have e1 : (kws.any fun kv => decide (kv.1 = k)) = (kws.map (·.1)).any fun x => decide (x = k) := by rw [List.any_map]; rfl
    have e2 : (kvs.any fun kv => decide (kv.1 = k)) = (kvs.map (·.1)).any fun x => decide (x = k) := by rw [List.any_map]; rfl
    rw [e1, e2, h]
  have hrep : ∀ {kws : List (κ × V)} {kvs : List (κ × PyData)}, kws.map (·.1) = kvs.map (·.1) → DqAll K F (kws.map (·.2)) (kvs.map (·.2)) →
      (kws.map fun kv => if kv.1 = k then (kv.1, v) else kv).map (·.1) = (kvs.map fun kv => if kv.1 = k then (kv.1, d) else kv).map (·.1) ∧ DqAll K F ((kws.map fun kv => if kv.1 = k then (kv.1, v) else kv).map (·.2)) ((kvs.map fun kv => if kv.1 = k then (kv.1, d) else kv).map (·.2)) := by
    intro kws
    induction kws with
    | nil =>
      intro kvs h1 h2
      cases kvs with
      | nil => exact ⟨rfl, .nil⟩
      | cons _ _ => cases h1
    | cons a kws ih =>
      intro kvs h1 h2
      cases kvs with
      | nil => cases h1
      | cons b kvs =>
        have h3 := List.cons.inj h1
        have h31 : a.1 = b.1 := h3.1
        cases h2 with
        | cons u1 u2 =>
          obtain ⟨i1, i2⟩ := ih h3.2 u2
          simp only [List.map_cons]
          by_cases hk : a.1 = k
          · rw [if_pos hk, if_pos (h31 ▸ hk)]
            exact ⟨by rw [i1, h31], .cons hd i2⟩
          · rw [if_neg hk, if_neg (h31 ▸ hk)]
            exact ⟨by rw [i1, h31], .cons u1 i2⟩
  unfold putK putG
  rw [hany h1]
  split
  · exact hrep h1 h2
  · refine ⟨by rw [List.map_append, List.map_append, h1]; rfl, ?_⟩
    rw [List.map_append, List.map_append]
    exact da_app h2 (.cons hd .nil)
end
section
variable {K : Fr} {B : Bs} {G : En} {P : Po} {td ty tv te : TE} {E : De} {S : St} {F H : Hp}
theorem keyK_at {v : V} {k : Key} (h : Dq K F v (keyD k)) : v = kV k := by
  cases k with
  | inl i => exact dp_int h
  | inr s => exact dp_str h
theorem Iv.dctK (I : Iv K B G S F H) {i : Nat} {qq : Option Addr} {kvs : List (Key × PyData)} (h : G[i]? = some (.k qq kvs)) : ∃ p kws, S[i]? = some (some (.ref p)) ∧ H p = some (.dK kws) ∧ kws.map (·.1) = kvs.map (·.1) ∧ DqAll K F (kws.map (·.2)) (kvs.map (·.2)) := by
  obtain ⟨A, h1, _, _⟩ := I.own
  rcases h1 i _ h with e | ⟨v, h1, p, kws, rfl, h5, h6, h7, _⟩
  · cases e
  · exact ⟨p, kws, h1, h5, h6, h7⟩
theorem dw_slK {i : Nat} {qq : Option Addr} {kvs : List (Key × PyData)} (h : G[i]? = some (.k qq kvs)) (q : P G (.p (.sl i))) : DW K B G (tVar i) P := fun S F H Q I k => by
  obtain ⟨p, kws, e, _⟩ := I.dctK h
  exact ⟨_, e, k _ F H G (.p (.sl i)) (Ex.refl F) ⟨I, e⟩ q⟩
theorem Iv.newK {S : St} {F H : Hp} {p : Addr} (I : Iv K B G S F H) (hp : H p = none) : Iv K B (G ++ [.k none []]) (S ++ [some (.ref p)]) F (upd H p (.dK [])) := by
  refine I.add (Ex.refl F) (Ex.new hp) (I.ex.trans (Ex.new hp)) (fun b o h n => ?_) _ (fun a => a = p) (.inr ⟨_, rfl, p, [], rfl, upd_same, rfl, .nil, rfl, fun _ z => nomatch z⟩) fun a e => ?_
  · rw [h] at n
    cases n
  · have e : a = p := e
    subst e
    exact ⟨hp, I.fnone hp, by rw [upd_same]; exact fun z => (by cases z)⟩
theorem dw_newK (q : P G (.fr (.k none []))) : DW K B G tDNewK P := fun S F H Q I k => by
  intro p hp
  exact k (.ref p) F _ G (.fr (.k none [])) (Ex.refl F) (I.newK hp) q
theorem dw_dInK (h : DW K B G ty fun G1 r1 => PW r1 fun w1 => DW K B G1 td fun G2 r2 => PW r2 fun w2 => ∃ i qq ks kvs, w1 = .d (keyD ks) ∧ w2 = .sl i ∧ G2[i]? = some (.k qq kvs) ∧ P G2 (.p (.d (.bool (lkG kvs ks).isSome)))) : DW K B G (tDIn ty td) P := fun S F H Q I k => by
  show ty S H fun y H1 => td S H1 fun x H2 => ∃ a o, x = .ref a ∧ DGet H2 a y o ∧ Q (.bl o.isSome) H2
  refine dw_run (k' := fun G1 w1 => DW K B G1 td fun G2 r2 => PW r2 fun w2 => ∃ i qq ks kvs, w1 = .d (keyD ks) ∧ w2 = .sl i ∧ G2[i]? = some (.k qq kvs) ∧ P G2 (.p (.d (.bool (lkG kvs ks).isSome)))) h I fun v1 F1 H1 G1 w1 e1 I1 a1 q1 => ?_
  refine dw_run (k' := fun G2 w2 => ∃ i qq ks kvs, w1 = .d (keyD ks) ∧ w2 = .sl i ∧ G2[i]? = some (.k qq kvs) ∧ P G2 (.p (.d (.bool (lkG kvs ks).isSome)))) q1 I1 fun v2 F2 H2 G2 w2 e2 I2 a2 ⟨i, qq, ks, kvs, x1, x2, hi, q2⟩ => ?_
  subst x1 x2
  obtain rfl := keyK_at (dp_mono e2 a1)
  obtain ⟨p, kws, hS, hp, hk, hv⟩ := I2.dctK hi
  have a2 : S[i]? = some (some v2) := a2
  rw [hS] at a2
  cases a2
  refine ⟨p, _, rfl, DGet.k hp, ?_⟩
  rw [(lkG_val (k := ks) hk hv).1]
  exact ct_d (k.mono (e1.trans e2)) I2 (.bl _) q2
theorem dw_dNotInK (h : DW K B G ty fun G1 r1 => PW r1 fun w1 => DW K B G1 td fun G2 r2 => PW r2 fun w2 => ∃ i qq ks kvs, w1 = .d (keyD ks) ∧ w2 = .sl i ∧ G2[i]? = some (.k qq kvs) ∧ P G2 (.p (.d (.bool (!(lkG kvs ks).isSome))))) : DW K B G (tDNotIn ty td) P := fun S F H Q I k => by
  show ty S H fun y H1 => td S H1 fun x H2 => ∃ a o, x = .ref a ∧ DGet H2 a y o ∧ Q (.bl (!o.isSome)) H2
  refine dw_run (k' := fun G1 w1 => DW K B G1 td fun G2 r2 => PW r2 fun w2 => ∃ i qq ks kvs, w1 = .d (keyD ks) ∧ w2 = .sl i ∧ G2[i]? = some (.k qq kvs) ∧ P G2 (.p (.d (.bool (!(lkG kvs ks).isSome))))) h I fun v1 F1 H1 G1 w1 e1 I1 a1 q1 => ?_
  refine dw_run (k' := fun G2 w2 => ∃ i qq ks kvs, w1 = .d (keyD ks) ∧ w2 = .sl i ∧ G2[i]? = some (.k qq kvs) ∧ P G2 (.p (.d (.bool (!(lkG kvs ks).isSome))))) q1 I1 fun v2 F2 H2 G2 w2 e2 I2 a2 ⟨i, qq, ks, kvs, x1, x2, hi, q2⟩ => ?_
  subst x1 x2
  obtain rfl := keyK_at (dp_mono e2 a1)
  obtain ⟨p, kws, hS, hp, hk, hv⟩ := I2.dctK hi
  have a2 : S[i]? = some (some v2) := a2
  rw [hS] at a2
  cases a2
  refine ⟨p, _, rfl, DGet.k hp, ?_⟩
  rw [(lkG_val (k := ks) hk hv).1]
  exact ct_d (k.mono (e1.trans e2)) I2 (.bl _) q2
theorem dw_dGetK (h : DW K B G td fun G1 r1 => PW r1 fun w1 => DW K B G1 ty fun G2 r2 => PW r2 fun w2 => ∃ i qq ks kvs d, w1 = .sl i ∧ w2 = .d (keyD ks) ∧ G2[i]? = some (.k qq kvs) ∧ lkG kvs ks = some d ∧ P G2 (.p (.d d))) : DW K B G (tDGet td ty) P := fun S F H Q I k => by
  show td S H fun x H1 => ty S H1 fun y H2 => ∃ a v, x = .ref a ∧ DGet H2 a y (some v) ∧ Q v H2
  refine dw_run (k' := fun G1 w1 => DW K B G1 ty fun G2 r2 => PW r2 fun w2 => ∃ i qq ks kvs d, w1 = .sl i ∧ w2 = .d (keyD ks) ∧ G2[i]? = some (.k qq kvs) ∧ lkG kvs ks = some d ∧ P G2 (.p (.d d))) h I fun v1 F1 H1 G1 w1 e1 I1 a1 q1 => ?_
  refine dw_run (k' := fun G2 w2 => ∃ i qq ks kvs d, w1 = .sl i ∧ w2 = .d (keyD ks) ∧ G2[i]? = some (.k qq kvs) ∧ lkG kvs ks = some d ∧ P G2 (.p (.d d))) q1 I1 fun v2 F2 H2 G2 w2 e2 I2 a2 ⟨i, qq, ks, kvs, d, x1, x2, hi, hd, q2⟩ => ?_
  subst x1 x2
  obtain rfl := keyK_at a2
  obtain ⟨p, kws, hS, hp, hk, hv⟩ := I2.dctK hi
  have a1 : S[i]? = some (some v1) := a1
  rw [hS] at a1
  cases a1
  obtain ⟨v, ev, hvd⟩ := (lkG_val (k := ks) hk hv).2 d hd
  exact ⟨p, v, rfl, by rw [← ev]; exact DGet.k hp, ct_d (k.mono (e1.trans e2)) I2 hvd q2⟩
theorem ds_dPutK (h : DW K B G tv fun G1 r1 => PW r1 fun w1 => DW K B G1 td fun G2 r2 => PW r2 fun w2 => DW K B G2 ty fun G3 r3 => PW r3 fun w3 => ∃ i qq ks kvs d, w1 = .d d ∧ w2 = .sl i ∧ w3 = .d (keyD ks) ∧ G3[i]? = some (.k qq kvs) ∧ kvs.length < sizeLine ∧ E.nx (G3.set i (.k qq (putG kvs ks d)))) : DS K B G (sDPut td ty tv) E := fun S F H D I c => by
  show tv S H fun v H1 => td S H1 fun x H2 => ty S H2 fun y H3 => ∃ a H4, x = .ref a ∧ DPut H3 a y v H4 ∧ D.nx S H4
  refine dw_run (k' := fun G1 w1 => DW K B G1 td fun G2 r2 => PW r2 fun w2 => DW K B G2 ty fun G3 r3 => PW r3 fun w3 => ∃ i qq ks kvs d, w1 = .d d ∧ w2 = .sl i ∧ w3 = .d (keyD ks) ∧ G3[i]? = some (.k qq kvs) ∧ kvs.length < sizeLine ∧ E.nx (G3.set i (.k qq (putG kvs ks d)))) h I fun v1 F1 H1 G1 w1 e1 I1 a1 q1 => ?_
  refine dw_run (k' := fun G2 w2 => DW K B G2 ty fun G3 r3 => PW r3 fun w3 => ∃ i qq ks kvs d, w1 = .d d ∧ w2 = .sl i ∧ w3 = .d (keyD ks) ∧ G3[i]? = some (.k qq kvs) ∧ kvs.length < sizeLine ∧ E.nx (G3.set i (.k qq (putG kvs ks d)))) q1 I1 fun v2 F2 H2 G2 w2 e2 I2 a2 q2 => ?_
  refine dw_run (k' := fun G3 w3 => ∃ i qq ks kvs d, w1 = .d d ∧ w2 = .sl i ∧ w3 = .d (keyD ks) ∧ G3[i]? = some (.k qq kvs) ∧ kvs.length < sizeLine ∧ E.nx (G3.set i (.k qq (putG kvs ks d)))) q2 I2 fun v3 F3 H3 G3 w3 e3 I3 a3 ⟨i, qq, ks, kvs, d, x1, x2, x3, hi, hz, q3⟩ => ?_
  subst x1 x2 x3
  obtain rfl := keyK_at a3
  obtain ⟨p, kws, hS, hp, hk, hv⟩ := I3.dctK hi
  have a2 : S[i]? = some (some v2) := a2
  rw [hS] at a2
  cases a2
  have hl : kws.length = kvs.length := by
    have := congrArg List.length hk
    simpa using this
  refine ⟨p, _, rfl, DPut.k hp (by rw [hl]; exact hz), ?_⟩
  refine c.nx S F3 _ _ ((e1.trans e2).trans e3) (I3.mutG hi hS (fun A z => ?_) (fun z => nomatch z) fun A hA z => ?_) q3
  · obtain ⟨p', _, e, _, _, _, hA, _⟩ := z
    cases e
    exact hA
  · obtain ⟨z1, z2⟩ := putG_keys (k := ks) hk hv (dp_mono (e2.trans e3) a1)
    exact ⟨p, _, rfl, upd_same, z1, z2, hA, by obtain ⟨p', _, e, _, _, _, _, y⟩ := z; cases e; exact y⟩
end
end DL
namespace DL
open PySem L2
section
variable {X : Cx}
theorem kSORTD (K : Fr) (h : X.K = K) (hu : X.A.units + 65 < cLine) : CallR X (.builtin "sorted") (rSortedD K) := h ▸ cr_sortedD hu
theorem kLSORTD (K : Fr) (h : X.K = K) (hu : X.A.units + 65 < cLine) : MtR X "list.sort" (rSortD K) := h ▸ mt_sortD hu
theorem kMIND (K : Fr) (h : X.K = K) (hc : X.calm = true) (hu : X.A.units + 65 < cLine) : CallR X (.builtin "min") (rMinD K) := h ▸ cr_minD hc hu
theorem kLTD (K : Fr) (h : X.K = K) (hu : X.A.units + 65 < cLine) : OpR X (compareOp .Lt) (rLtD K) := h ▸ op_ltD hu
theorem kGTD (K : Fr) (h : X.K = K) (hu : X.A.units + 65 < cLine) : OpR X (compareOp .Gt) (rGtD K) := h ▸ op_gtD hu
theorem kTGL (K : Fr) (h : X.K = K) {es : List Expr} {j : Nat} {t : TGs} {n : Nat} {pos : Pos} (hc : X.calm = true) (ht : PGs X es t)
    (hn : (assignEach es X.env).length = n := by rfl) (hst : (assignEach es X.env).findIdx? (·.1) = none := by rfl) : PG X (.Tuple es j pos) (gLst K n t) := h ▸ pg_lst hc ht hn hst
end
section
variable {K : Fr} {B : Bs} {G : En} {P : Po} {w1 w2 : W}
open PySem.W (EachIs dataLe dataLt alike AllAlike Sortable)
theorem ei_da {F : Hp} {β : Type} {enc : β → PyData} : ∀ {vs : List V} {bs : List β}, DqAll K F vs (bs.map enc) → EachIs (fun v b => Dq K F v (enc b)) vs bs
  | _, [], .nil => .nil
  | _, b :: bs, .cons h t => .cons h (ei_da t)
theorem da_ei {F : Hp} {β : Type} {enc : β → PyData} : ∀ {vs : List V} {bs : List β}, EachIs (fun v b => Dq K F v (enc b)) vs bs → DqAll K F vs (bs.map enc)
  | _, _, .nil => .nil
  | _, _, .cons h t => .cons h (da_ei t)
/-- sorted(xs) -/
def srtD {β : Type} (enc : β → PyData) (bs : List β) : List β := bs.mergeSort (dataLe false enc)
theorem rn_sortD {β : Type} {bs : List β} {enc : β → PyData} (e1 : wd G w1 = some (.list (bs.map enc))) (h1 : AllAlike (bs.map enc)) (h2 : Sortable (bs.map enc)) (h3 : ∀ b ∈ bs, (enc b).depth ≤ 60)
    (q : P G (.fr (.o none ((srtD enc bs).map enc)))) : RWn K B G (rSortedD K) [w1] P := fun S F H Q vs I hv k => by
  obtain ⟨v, rfl, h⟩ := vws1 hv
  obtain ⟨p, us, rfl, hp, ha⟩ := wd_list I h e1
  exact ⟨β, p, us, bs, enc, fun v b => Dq K F v (enc b), rfl, SqL.of hp, ei_da ha, fun v b z => dq_dp (dp_mono I.ex z), h1, h2, h3, fun ys c hy hc => ct_L k I hc (da_ei hy) q⟩
/-- xs.sort() -/
theorem rm_sortD {β : Type} {bs : List β} {enc : β → PyData} {i : Nat} {a : Option Addr} (hi : G[i]? = some (.o a (bs.map enc))) (h1 : AllAlike (bs.map enc)) (h2 : Sortable (bs.map enc)) (h3 : ∀ b ∈ bs, (enc b).depth ≤ 60 ∧ noL (enc b) = true)
    (q : P (G.set i (.o a ((srtD enc bs).map enc))) (.p (.d .none))) : RWm K B G (rSortD K) (.sl i) [] P := fun S F H Q v vs I hv hs k => by
  cases hs
  obtain ⟨p, us, e, hp, hF, ha⟩ := I.lst hi
  have hv : S[i]? = some (some v) := hv
  rw [e] at hv
  cases hv
  exact ⟨β, p, us, bs, enc, fun v b => Dq K F v (enc b), rfl, rfl, hp, ei_da ha, fun v b z => dq_dp (dp_mono I.ex z), h1, h2, h3, fun ys hy => k .non F _ _ (.p (.d .none)) (Ex.refl F) ⟨I.mut hi e (da_ei hy), .non⟩ q⟩
/-- min(xs) -/
theorem rn_minD {d : PyData} {ds : List PyData} (e1 : wd G w1 = some (.list (d :: ds))) (h1 : PySem.W.AlikeAll (d :: ds)) (h2 : PyData.depthAll (d :: ds) ≤ 60) (q : P G (.p (.d (PySem.W.minD d ds)))) : RWn K B G (rMinD K) [w1] P := fun S F H Q vs I hv k => by
  obtain ⟨v, rfl, h⟩ := vws1 hv
  obtain ⟨p, us, rfl, hp, ha⟩ := wd_list I h e1
  refine ⟨p, us, d, ds, rfl, SqL.of hp, dqa_dp (da_mono I.ex ha), h1, h2, fun i x hx hd => ?_⟩
  obtain ⟨e, he, hx'⟩ := da_get' ha hx
  rw [hd] at he
  cases he
  exact ct_d k I hx' q
theorem rw_ltD {d e : PyData} (e1 : wd G w1 = some d) (e2 : wd G w2 = some e) (ha : alike d e = true) (hn : d ≠ .none) (hd : d.depth ≤ 60) (q : P G (.p (.d (.bool (dataLt d e))))) : RW2 K B G (rLtD K) w1 w2 P := fun S F H Q v1 v2 I h1 h2 k =>
  ⟨d, e, dq_dp (wd_dq I h1 e1), dq_dp (wd_dq I h2 e2), ha, hn, hd, ct_d k I (.bl _) q⟩
theorem rw_gtD {d e : PyData} (e1 : wd G w1 = some d) (e2 : wd G w2 = some e) (ha : alike d e = true) (hn : d ≠ .none) (hd : d.depth ≤ 60) (q : P G (.p (.d (.bool (dataLt e d))))) : RW2 K B G (rGtD K) w1 w2 P := fun S F H Q v1 v2 I h1 h2 k =>
  ⟨d, e, dq_dp (wd_dq I h1 e1), dq_dp (wd_dq I h2 e2), ha, hn, hd, ct_d k I (.bl _) q⟩
/-- a, b = [..] -/
theorem dg_lst {n : Nat} {gs : TGs} {cs : List Nat} {ds : List PyData} {Pe : En → Prop} (hn : ds.length = n) (h : DGs K B G gs cs ds Pe) : DG K B G (gLst K n gs) cs (.d (.list ds)) Pe := fun S F H v Q I hv k => by
  obtain ⟨a, vs, rfl, hs, ha⟩ := dp_lst hv
  exact ⟨a, vs, rfl, SqL.of (I.ex _ _ hs), by rw [da_len ha]; exact hn, h S F H vs Q I ha k⟩
/-! ### texts -/
theorem sub_at (a b : List Nat) (i : Nat) (h : i ≤ a.length) : (decide (i + (mkS b).length ≤ (mkS a).length) && Builtin.Str.subAt (mkS a) (mkS b) i) = decide ((a.drop i).take b.length = b) := by
  have e : Builtin.Str.subAt (mkS a) (mkS b) i = decide ((a.drop i).take b.length = b) := by
    unfold Builtin.Str.subAt mkS
    rw [Bool.eq_iff_iff, beq_iff_eq, decide_eq_true_eq]
    show (a.toArray.extract i (i + b.toArray.size)) = b.toArray ↔ _
    rw [← Array.toList_inj]
    simp [List.take_drop, Nat.add_sub_cancel_left]
  rw [e, mkS_len, mkS_len]
  by_cases c : (a.drop i).take b.length = b
  · have := congrArg List.length c
    rw [List.length_take, List.length_drop] at this
    rw [decide_eq_true c, Bool.and_true]
    exact decide_eq_true (by omega)
  · rw [decide_eq_false c, Bool.and_false]
theorem sw_eq (a b : List Nat) : Txt.startswith (mkS a) (mkS b) = decide (a.take b.length = b) := by
  have := sub_at a b 0 (Nat.zero_le _)
  rw [List.drop_zero] at this
  exact this
theorem sw3_eq (a b : List Nat) (i : Nat) (h : i ≤ a.length) : Txt.startswith3 (mkS a) (mkS b) (i : Int) = decide ((a.drop i).take b.length = b) := by
  have e : fromIndex (mkS a).length (i : Int) = i := by
    unfold fromIndex
    omega
  unfold Txt.startswith3
  rw [e]
  exact sub_at a b i h
/-- t.startswith(u) -/
theorem rm_sw {a b : List Nat} (q : P G (.p (.d (.bool (decide (a.take b.length = b)))))) : RWm K B G (fun x xs H Q => ∃ a b, x = .str a ∧ xs = [.str b] ∧ Q (.bl (Txt.startswith a b)) H) (.d (.str (mkS a))) [.d (.str (mkS b))] P := fun S F H Q v vs I hv hs k => by
  obtain ⟨y, rfl, hy⟩ := vws1 hs
  obtain rfl := dp_str hv
  obtain rfl := dp_str hy
  refine ⟨_, _, rfl, rfl, ?_⟩
  rw [sw_eq]
  exact ct_d k I (.bl _) q
theorem rm_sw3 {a b : List Nat} {i : Nat} (h : i ≤ a.length) (q : P G (.p (.d (.bool (decide ((a.drop i).take b.length = b)))))) : RWm K B G (fun x xs H Q => ∃ (a b : Str) (i : Int), x = .str a ∧ xs = [.str b, .int i] ∧ Q (.bl (Txt.startswith3 a b i)) H) (.d (.str (mkS a))) [.d (.str (mkS b)), .d (.int (i : Int))] P := fun S F H Q v vs I hv hs k => by
  obtain ⟨y, z, rfl, hy, hz⟩ := vws2 hs
  obtain rfl := dp_str hv
  obtain rfl := dp_str hy
  obtain rfl := dp_int hz
  refine ⟨_, _, _, rfl, rfl, ?_⟩
  rw [sw3_eq a b i h]
  exact ct_d k I (.bl _) q
end
/-! ### reversed(range(n)), enumerate(list) -/
section
variable {K : Fr} {B : Bs} {G : En} {P : Po} {te : TE} {ta : TA} {PI : En → List PyData → Prop}
def rngR (n : Nat) : List PyData := (List.range n).map fun (i : Nat) => PyData.int (((n - 1 - i : Nat)) : Int)
theorem rngR_get {n i : Nat} {d : PyData} (h : (rngR n)[i]? = some d) : i < n ∧ d = .int ((n - 1 - i : Nat) : Int) := by
  unfold rngR at h
  rw [List.getElem?_map] at h
  by_cases hi : i < n
  · rw [List.getElem?_range hi] at h
    exact ⟨hi, (Option.some.inj h).symm⟩
  · rw [List.getElem?_eq_none (by simpa using hi)] at h
    cases h
theorem rngR_len (n : Nat) : (rngR n).length = n := by simp [rngR]
theorem di_revR1 (h : DW K B G te fun G1 r1 => PW r1 fun w => ∃ n : Nat, w = .d (.int (n : Int)) ∧ n ≤ 1000000 ∧ PI G1 (rngR n)) : DI K B G (iRevR (tRg1 te)) PI := fun S F H R I k => by
  show te S H fun x H1 => ∃ n : Int, x = .int n ∧ _
  refine dw_run (k' := fun G1 w => ∃ n : Nat, w = .d (.int (n : Int)) ∧ n ≤ 1000000 ∧ PI G1 (rngR n)) h I fun v F1 H1 G1 w e1 I1 hv ⟨n, hw, hz, q⟩ => ?_
  subst hw
  refine ⟨(n : Int), dp_int hv, by omega, by omega, by omega, by omega, k _ F1 H1 G1 _ e1 I1 (fun i H2 F2 eF eH => ⟨fun d hd => ?_, fun e => ?_⟩) q⟩
  · obtain ⟨hi, rfl⟩ := rngR_get hd
    refine ⟨?_, fun x H' y => ?_⟩
    · show i < ((n : Int) - 0).toNat
      omega
    · obtain ⟨e, y⟩ := y
      subst e y
      have e2 : (0 : Int) + (((((n : Int) - 0).toNat : Nat)) : Int) - 1 + (i : Int) * (-1) = ((n - 1 - i : Nat) : Int) := by omega
      rw [e2]
      exact ⟨F2, Ex.refl _, Ex.refl _, eH, (fun b o z n => by rw [z] at n; cases n), .int _⟩
  · rw [rngR_len] at e
    show ((n : Int) - 0).toNat ≤ i
    omega
theorem di_enumL (h : DA K B G ta fun G1 ws => ∃ ds, ws = [.d (.list ds)] ∧ PI G1 (enD ds)) : DI K B G (iENUM K ta) PI := fun S F H R I k => by
  refine .inl ?_
  show ta S H fun vs H1 => ∃ a xs, vs = [.ref a] ∧ SqL K H1 a xs ∧ R (Ite K a) H1
  refine h S F H _ I fun vs F1 H1 G1 ws e1 I1 hv ⟨ds, hw, q⟩ => ?_
  subst hw
  obtain ⟨v, rfl, hv1⟩ := vws1 hv
  obtain ⟨a, xs, rfl, hp, ha⟩ := dp_lst hv1
  refine ⟨a, xs, rfl, SqL.of (I1.ex _ _ hp), k _ F1 H1 G1 _ e1 I1 (fun i H2 F2 eF eH => ⟨fun d hd => ?_, fun e => ?_⟩) q⟩
  · obtain ⟨x, hx, rfl⟩ := enD_get hd
    obtain ⟨u, hu, hd2⟩ := da_get ha hx
    have sq : SqL K H2 a xs := SqL.of (eH _ _ (eF _ _ hp))
    refine ⟨⟨xs, u, sq, hu⟩, fun v H' y => ?_⟩
    obtain ⟨T, x', rfl, hT, rfl, hx'⟩ := y
    have e3 := hx' xs sq
    rw [hu] at e3
    cases e3
    refine ⟨upd F2 T (.tup [.int (i : Nat), u]), Ex.new (eH.free hT), Ex.new hT, eH.both _ _, fun b o h1 h2 => ?_, .tup upd_same (.cons (.int _) (.cons (dp_mono (eF.trans (Ex.new (eH.free hT))) hd2) .nil))⟩
    by_cases hb : b = T
    · rw [hb]
      exact hT
    · rw [upd_ne hb] at h1
      rw [h1] at h2
      cases h2
  · rw [enD_len] at e
    exact ⟨xs, SqL.of (eH _ _ (eF _ _ hp)), by rw [da_len ha, e]; exact Nat.le_refl _⟩
/-! ### {k: v}, k an int or a text -/
theorem dw_disp1K {tk tv : TE} (h : ∀ B', DW K B' G tk fun G1 r1 => PW r1 fun w1 => DW K B' G1 tv fun G2 r2 => PW r2 fun w2 => ∃ k d, w1 = .d (keyD k) ∧ w2 = .d d ∧ P G2 (.fr (.k none [(k, d)]))) : DW K B G (tDisp [(tk, tv)]) P := fun S F H Q I k => by
  intro p hp
  obtain ⟨A0, mu, a0, _, I0, back⟩ := (I.newK hp).asideG (fun z => nomatch z)
  show tk S (upd H p (.dK [])) fun x H1 => tv S H1 fun y H2 => _
  refine dw_run (k' := fun G1 w1 => DW K ⟨F, upd H p (.dK []), mu⟩ G1 tv fun G2 r2 => PW r2 fun w2 => ∃ k d, w1 = .d (keyD k) ∧ w2 = .d d ∧ P G2 (.fr (.k none [(k, d)]))) (h _) I0 fun v1 F1 H1 G1 w1 e1 I1 r1 q1 => ?_
  refine dw_run (k' := fun G2 w2 => ∃ k d, w1 = .d (keyD k) ∧ w2 = .d d ∧ P G2 (.fr (.k none [(k, d)]))) q1 I1 fun v2 F2 H2 G2 w2 e2 I2 r2 ⟨ks, d, x1, x2, q2⟩ => ?_
  subst x1 x2
  obtain rfl := keyK_at (dp_mono e2 r1)
  obtain ⟨hD, J⟩ := back _ _ _ _ I2
  have hi : (G2 ++ [Sl.k none []])[G2.length]? = some (.k none []) := by simp
  have hl : S.length = G2.length := I2.len
  have hS : (S ++ [some (V.ref p)])[G2.length]? = some (some (.ref p)) := by
    rw [← hl]
    simp
  obtain ⟨p', kws, z1, z2, z3, z4⟩ := J.dctK hi
  rw [hS] at z1
  cases z1
  have ek : kws = [] := by simpa using z3
  subst ek
  refine ⟨z2, [(ks, v2)], rfl, by simp, ?_⟩
  have J2 : Iv K B ((G2 ++ [Sl.k none []]).set G2.length (.k none [(ks, d)])) (S ++ [some (.ref p)]) F2 (upd H2 p (.dK [(ks, v2)])) := J.mutG hi hS (fun A z => by
    obtain ⟨p', _, e, _, _, _, hA, _⟩ := z
    cases e
    exact hA) (fun z => nomatch z) fun A hA z => ⟨p, [(ks, v2)], rfl, upd_same, rfl, .cons r2 .nil, hA, fun _ z => nomatch z⟩
  have eG : (G2 ++ [Sl.k none []]).set G2.length (.k none [(ks, d)]) = G2 ++ [.k none [(ks, d)]] := by simp
  rw [eG] at J2
  have em : mergeK [] [(ks, v2)] = [(ks, v2)] := rfl
  rw [em]
  exact k (.ref p) F2 _ G2 (.fr (.k none [(ks, d)])) (e1.trans e2) J2 q2
end
/-! ### sorted(set(texts)) -/
end DL
namespace L2
open PySem PySem.Spec PyProof.Rows
/-- the set of texts at a -/
def SetTO (w : World) (a : Addr) (S : Str → Bool) (n : Nat) : HO := .ext fun h => SetT w h a S n
def rMkSetT (w : World) (K : PySem.W.Frag) : List V → Hp → VK → Prop := fun xs H Q => ∃ (l : Addr) (ns : List Str), xs = [.ref l] ∧ SqL K H l (ns.map V.str) ∧ ns.length ≤ 2000 ∧ ∀ p n, H p = none → n ≤ ns.length → Q (.ref p) (upd H p (SetTO w p (fun j => decide (j ∈ ns)) n))
def rSortSetT (w : World) : List V → Hp → VK → Prop := fun vs H Q => ∃ (a : Addr) (S : Str → Bool) (n : Nat), vs = [V.ref a] ∧ H a = some (SetTO w a S n) ∧ n ≤ 1000 ∧
  ∀ (ms : List Str) (p : Addr), ms.Nodup → (∀ k, k ∈ ms ↔ S k = true) → H p = none → Q (.ref p) (upd H p (.lst ((ms.mergeSort (PySem.W.dataLe false PyData.str)).map V.str)))
section
variable {X : Cx}
theorem setT_new {w : World} {P : Program} {H : Hp} {h : Heap} {a : Addr} {S : Str → Bool} {n : Nat} (R : SetT w h a S n) : ObjOk P w H h a (SetTO w a S n) := by
  have ⟨o, _, _, _, ho, _⟩ := R
  exact ⟨R, ⟨o, ho⟩, fun h1 h2 p k => SetT.at p k⟩
theorem setT_get {pins : List (Addr × Obj)} {σ : St} {H : Hp} {s : Shared} {a : Addr} {S : Str → Bool} {n : Nat} (I : Inv X pins σ H s) (ha : H a = some (SetTO X.w a S n)) : SetT X.w s.heap a S n := (I.hok a _ ha).1
theorem cr_setT (hc : X.calm = true) : CallR X (.type "set") (rMkSetT X.w X.K) := by
  intro pins s σ H xs us Q I r h
  obtain ⟨l, ns, rfl, hs, hl, q⟩ := h
  rw [Vals.ref1 r]
  obtain ⟨its, rv, pl, hz⟩ := I.list hs
  refine call_set_lstS ns (I.ok.hd hc) pl.isList (by simpa using strsAre_of rv) (by unfold scanBound; omega) fun h' tk c R hcl hk => ?_
  exact ⟨.ref _, upd H s.heap.objs.size (SetTO X.w s.heap.objs.size (fun j => decide (j ∈ ns)) c), I.laid (t' := tk) hk (Nat.le_refl _) (setT_new R), rfl, q _ _ (I.hok.fresh (Nat.le_refl _)) hcl⟩
theorem strs_vals : ∀ {us : List Value} {zs : List Str}, PySem.W.EachIs (fun v z => ∃ t, v = Value.str z t) us zs → Vals (zs.map V.str) us
  | _, _, .nil => .nil
  | _, _, .cons h t => .cons (by obtain ⟨t, rfl⟩ := h; exact ⟨t, rfl⟩) (strs_vals t)
theorem cr_sortSetT (hc : X.calm = true) (hu : X.A.units + 65 < cLine) : CallR X (.builtin "sorted") (rSortSetT X.w) := by
  intro pins s σ H vs us Q I r h
  obtain ⟨a, S, n, rfl, ha, h64, q⟩ := h
  have R := setT_get I ha
  rw [Vals.ref1 r]
  refine sorted_setT R (I.ok.hd hc) h64 (by omega) fun s' p out c ns k g o hp hg hi hm hl => ?_
  obtain ⟨ms, rfl, hnd, hm⟩ := hm
  have hlen : ((ms.mergeSort (PySem.W.dataLe false PyData.str)).map V.str).length ≤ sizeLine := by rw [List.length_map, hl, sizeLine_eq]; omega
  have hn : H p = none := I.hok.fresh hp
  have J : Inv X pins σ (upd H p (.lst ((ms.mergeSort (PySem.W.dataLe false PyData.str)).map V.str))) { s with heap := s'.heap, gens := s'.gens, drawn := s'.drawn, toks := s'.toks } :=
    I.call (ch := []) (Un.laid k hp hn) (I.hok.laid k hp ⟨hlen, out, c, strs_vals hi, hg⟩) (by rw [g]; exact I.bare) (fun _ z => nomatch z)
  have e : s' = { s with heap := s'.heap, gens := s'.gens, drawn := s'.drawn, toks := s'.toks } := by
    cases s'
    cases s
    cases o
    rfl
  rw [e]
  exact ⟨.ref p, _, J, rfl, q ms p hnd hm hn⟩
end
end L2
namespace DL
open PySem L2
theorem kSETT {X : Cx} (w : World) (K : Fr) (hw : X.w = w) (h : X.K = K) (hc : X.calm = true) : CallR X (.type "set") (rMkSetT w K) := hw ▸ h ▸ cr_setT hc
theorem kSORTSETT {X : Cx} (w : World) (hw : X.w = w) (hc : X.calm = true) (hu : X.A.units + 65 < cLine) : CallR X (.builtin "sorted") (rSortSetT w) := hw ▸ cr_sortSetT hc hu
section
variable {K : Fr} {B : Bs} {G : En} {P : Po} {te : TE} {w : World}
/-- sorted(set(xs)): the different texts of xs, sorted -/
theorem dw_sortSetT (h : DW K B G te fun G1 r1 => PW r1 fun w1 => ∃ ns : List Str, wd G1 w1 = some (.list (ns.map .str)) ∧ ns.length ≤ 1000 ∧ ∀ ms : List Str, ms.Nodup → (∀ k, k ∈ ms ↔ k ∈ ns) → P G1 (.fr (.o none ((srtD PyData.str ms).map .str)))) : DW K B G (tCB (rSortSetT w) (tCons (tCB (rMkSetT w K) (tCons te tNil)) tNil)) P := fun S F H Q I k => by
  show te S H fun x H1 => rMkSetT w K [x] H1 fun y H2 => rSortSetT w [y] H2 Q
  refine dw_run (k' := fun G1 w1 => ∃ ns : List Str, wd G1 w1 = some (.list (ns.map .str)) ∧ ns.length ≤ 1000 ∧ ∀ ms : List Str, ms.Nodup → (∀ k, k ∈ ms ↔ k ∈ ns) → P G1 (.fr (.o none ((srtD PyData.str ms).map .str)))) h I fun v1 F1 H1 G1 w1 e1 I1 r1 ⟨ns, hd, hl, q⟩ => ?_
  obtain ⟨l, us, rfl, hp, ha⟩ := wd_list I1 r1 hd
  obtain rfl := da_strs_eq ha
  refine ⟨l, ns, rfl, SqL.of hp, by omega, fun p n hp hn => ⟨p, _, n, rfl, upd_same, by omega, fun ms c hnd hm hc => ?_⟩⟩
  have J := I1.newH hp (SetTO w p (fun j => decide (j ∈ ns)) n)
  exact ct_L (k.mono e1) J hc (da_strs _) (q ms hnd fun k => by rw [hm k]; simp)
end
end DL
namespace DL
open PySem L2
/-! ### texts as lists of code points -/
abbrev zD (z : List Nat) : PyData := .str (mkS z)
abbrev nD (n : Nat) : PyData := .int (n : Int)
theorem eqv_zD (s t : List Nat) : PyData.eqv (zD s) (zD t) = decide (s = t) := by
  have : PyData.eqv (zD s) (zD t) = (mkS s == mkS t) := by simp only [PyData.eqv]
  rw [this]
  by_cases h : s = t
  · simp [h]
  · have : mkS s ≠ mkS t := fun e => h (mkS_inj.mp e)
    simp [h, this]
theorem mkS_dec (a b : List Nat) : decide (mkS a = mkS b) = decide (a = b) := decide_eq_decide.mpr mkS_inj
theorem mkS_cps (a : List Nat) : (mkS a).cps.toList = a := by simp [mkS]
section
variable {K : Fr} {B : Bs} {G : En} {P : Po} {w1 w2 : W}
theorem rw_eqZ {a b : List Nat} (q : P G (.p (.d (.bool (decide (a = b)))))) : RW2 K B G (rEQ K) (.d (.str (mkS a))) (.d (.str (mkS b))) P := rw_eqS (by rw [mkS_dec]; exact q)
theorem rw_neZ {a b : List Nat} (q : P G (.p (.d (.bool (!decide (a = b)))))) : RW2 K B G (rNE K) (.d (.str (mkS a))) (.d (.str (mkS b))) P := rw_neS (by rw [mkS_dec]; exact q)
theorem sIx_nat (len n lo : Nat) (h : lo ≤ len) : HT.sIx len lo (some (n : Int)) = min n len := by
  unfold HT.sIx
  simp only []
  rw [if_neg (by omega)]
  rfl
theorem cut_from {α : Type} (z : List α) (n : Nat) : cutD z (some (n : Int)) none = z.drop n := by
  unfold cutD
  rw [sIx_nat _ _ _ (Nat.zero_le _)]
  have : HT.sIx z.length z.length none = z.length := rfl
  rw [this]
  by_cases h : n ≤ z.length
  · rw [Nat.min_eq_left h, List.take_of_length_le (by rw [List.length_drop]; exact Nat.le_refl _)]
  · rw [Nat.min_eq_right (by omega), List.drop_length, List.drop_of_length_le (by omega)]
    simp
theorem cut_to {α : Type} (z : List α) (n : Nat) : cutD z none (some (n : Int)) = z.take n := by
  unfold cutD
  rw [sIx_nat _ _ _ (Nat.le_refl _)]
  have : HT.sIx z.length 0 none = 0 := rfl
  rw [this, List.drop_zero, Nat.sub_zero]
  by_cases h : n ≤ z.length
  · rw [Nat.min_eq_left h]
  · rw [Nat.min_eq_right (by omega), List.take_of_length_le (Nat.le_refl _), List.take_of_length_le (by omega)]
theorem cut_mid {α : Type} (z : List α) (a n : Nat) : cutD z (some (a : Int)) (some ((a + n : Nat) : Int)) = (z.drop a).take n := by
  unfold cutD
  rw [sIx_nat _ _ _ (Nat.zero_le _), sIx_nat _ _ _ (Nat.le_refl _)]
  by_cases h : a ≤ z.length
  · rw [Nat.min_eq_left h]
    by_cases h2 : a + n ≤ z.length
    · rw [Nat.min_eq_left h2, Nat.add_sub_cancel_left]
    · rw [Nat.min_eq_right (by omega), List.take_of_length_le (by rw [List.length_drop]; omega), List.take_of_length_le (by rw [List.length_drop]; omega)]
  · rw [Nat.min_eq_right (by omega), Nat.min_eq_right (by omega), List.drop_length, List.drop_of_length_le (by omega)]
    simp
theorem rs_from {z : List Nat} {n : Nat} (hz : z.length ≤ 1000000) (q : P G (.p (.d (.str (mkS (z.drop n)))))) : RWs K B G (rSLC K) (.d (.str (mkS z))) (some (n : Int)) none P := rs_S (szl hz) (by rw [cut_from]; exact q)
theorem rs_to {z : List Nat} {n : Nat} (hz : z.length ≤ 1000000) (q : P G (.p (.d (.str (mkS (z.take n)))))) : RWs K B G (rSLC K) (.d (.str (mkS z))) none (some (n : Int)) P := rs_S (szl hz) (by rw [cut_to]; exact q)
theorem rs_mid {z : List Nat} {a n : Nat} {e : Int} (he : e = ((a + n : Nat) : Int)) (hz : z.length ≤ 1000000) (q : P G (.p (.d (.str (mkS ((z.drop a).take n)))))) : RWs K B G (rSLC K) (.d (.str (mkS z))) (some (a : Int)) (some e) P := by
  subst he
  exact rs_S (szl hz) (by rw [cut_mid]; exact q)
theorem rs_Lto {ds : List PyData} {n : Nat} (e1 : wd G w1 = some (.list ds)) (q : P G (.fr (.o none (ds.take n)))) : RWs K B G (rSLC K) w1 none (some (n : Int)) P := rs_L e1 (by rw [cut_to]; exact q)
theorem rs_Tto {ds : List PyData} {n : Nat} (q : P G (.p (.d (.tuple (ds.take n))))) : RWs K B G (rSLC K) (.d (.tuple ds)) none (some (n : Int)) P := rs_T (by rw [cut_to]; exact q)
theorem rs_Tfrom {ds : List PyData} {n : Nat} (q : P G (.p (.d (.tuple (ds.drop n))))) : RWs K B G (rSLC K) (.d (.tuple ds)) (some (n : Int)) none P := rs_T (by rw [cut_from]; exact q)
theorem rn_lenZ {z : List Nat} (hz : z.length ≤ 1000000) (q : P G (.p (.d (.int (z.length : Int))))) : RWn K B G (rLEN K) [.d (.str (mkS z))] P := rn_lenS (szl hz) q
theorem rw_addZ {a b : List Nat} (hz : a.length + b.length ≤ 1000000) (q : P G (.p (.d (.str (mkS (a ++ b)))))) : RW2 K B G (rADD K) (.d (.str (mkS a))) (.d (.str (mkS b))) P := rw_addS (szl hz) q
/-- x in xs, xs a list of encoded things -/
theorem rw_inLE {α : Type} [DecidableEq α] {f : α → PyData} {xs : List α} {x : α} {d : PyData} (hf : ∀ a b, PyData.eqv (f a) (f b) = decide (a = b)) (hd : wd G w1 = some (f x)) (e2 : wd G w2 = some (.list (xs.map f))) (s1 : Shp 50 (f x)) (s2 : ∀ y ∈ xs, Shp 50 (f y)) (q : P G (.p (.d (.bool (decide (x ∈ xs)))))) : RW2 K B G (rIN K) w1 w2 P :=
  rw_inL hd e2 (shp_ok s1 (by decide)) (shp_ok (shp_list fun y hy => by
    obtain ⟨a, ha, rfl⟩ := List.mem_map.mp hy
    exact s2 a ha) (by decide)) (by rw [any_inj hf]; exact q)
theorem rw_niLE {α : Type} [DecidableEq α] {f : α → PyData} {xs : List α} {x : α} (hf : ∀ a b, PyData.eqv (f a) (f b) = decide (a = b)) (hd : wd G w1 = some (f x)) (e2 : wd G w2 = some (.list (xs.map f))) (s1 : Shp 50 (f x)) (s2 : ∀ y ∈ xs, Shp 50 (f y)) (q : P G (.p (.d (.bool (!decide (x ∈ xs)))))) : RW2 K B G (rNI K) w1 w2 P :=
  rw_niL hd e2 (shp_ok s1 (by decide)) (shp_ok (shp_list fun y hy => by
    obtain ⟨a, ha, rfl⟩ := List.mem_map.mp hy
    exact s2 a ha) (by decide)) (by rw [any_inj hf]; exact q)
/-- xs != [] -/
theorem rw_neNil {xs : List PyData} (e1 : wd G w1 = some (.list xs)) (h : ∀ x ∈ xs, Shp 60 x) (q : P G (.p (.d (.bool (!xs.isEmpty))))) : RW2 K B G (rNE K) w1 (.d (.list [])) P :=
  rw_neD e1 rfl (shp_ok (shp_list h) (by decide)) (shp_ok (n := 1) (shp_list (by simp)) (by decide)) (by rw [eqv_nil]; exact q)
theorem rw_eqNil {xs : List PyData} (e1 : wd G w1 = some (.list xs)) (h : ∀ x ∈ xs, Shp 60 x) (q : P G (.p (.d (.bool xs.isEmpty)))) : RW2 K B G (rEQ K) w1 (.d (.list [])) P :=
  rw_eqD e1 rfl (shp_ok (shp_list h) (by decide)) (shp_ok (n := 1) (shp_list (by simp)) (by decide)) (by rw [eqv_nil]; exact q)
/-- ''.join of texts -/
theorem join0_rows : ∀ cs : List (List Nat), Txt.join (mkS []) (cs.map mkS) = mkS cs.flatten := by
  have f : ∀ (cs : List (List Nat)) (acc : Array Nat), (cs.map mkS).foldl (fun acc p => acc ++ (mkS []).cps ++ p.cps) acc = acc ++ cs.flatten.toArray := by
    intro cs
    induction cs with
    | nil => intro acc; simp
    | cons c cs ih =>
      intro acc
      rw [List.map_cons, List.foldl_cons, ih]
      simp [mkS]
  intro cs
  cases cs with
  | nil => rfl
  | cons c cs =>
    show (⟨(cs.map mkS).foldl (fun acc p => acc ++ (mkS []).cps ++ p.cps) (mkS c).cps⟩ : Str) = mkS (c :: cs).flatten
    rw [f]
    simp [mkS]
theorem rm_joinR {cs : List (List Nat)} (e2 : wd G w2 = some (.list (cs.map zD))) (hz : (cs.map List.length).sum ≤ 16777216) (q : P G (.p (.d (.str (mkS cs.flatten))))) : RWm K B G (rJOIN K) (.d (.str (mkS []))) [w2] P := fun S F H Q v vs I hv hs k => by
  obtain ⟨y, rfl, hy⟩ := vws1 hs
  obtain rfl := dp_str hv
  obtain ⟨p, us, rfl, hp, ha⟩ := wd_list I hy e2
  have e : us = (cs.map mkS).map V.str := da_strs_eq (by rw [List.map_map]; exact ha)
  subst e
  refine ⟨_, p, cs.map mkS, rfl, rfl, .inl (SqL.of hp), ?_, ?_⟩
  · rw [mkS_len, List.map_map]
    have : (List.map ((fun x => x.length) ∘ mkS) cs) = cs.map List.length := List.map_congr_left fun c _ => mkS_len c
    show (List.map ((fun x => x.length) ∘ mkS) cs).sum + _ ≤ _
    rw [this]
    simpa using hz
  · rw [join0_rows]
    exact ct_d k I (.str _) q
end
end DL
namespace L2
open PySem PySem.Spec PyProof.Rows
/-- sorted(xs), xs of at most one item -/
def rSorted1 (K : PySem.W.Frag) : List V → Hp → VK → Prop := fun vs H Q => ∃ (a : Addr) (xs : List V), vs = [V.ref a] ∧ SqL K H a xs ∧ xs.length ≤ 1 ∧ ∀ p, H p = none → Q (.ref p) (upd H p (.lst xs))
def rSortedU (K : PySem.W.Frag) : List V → Hp → VK → Prop := fun vs H Q => rSortedD K vs H Q ∨ rSorted1 K vs H Q
section
variable {X : Cx}
theorem perm_le1 {α : Type} {l m : List α} (h : l.Perm m) (hl : m.length ≤ 1) : l = m := by
  match m, hl with
  | [], _ => exact h.eq_nil
  | [x], _ => exact List.perm_singleton.mp h
theorem cr_sorted1 : CallR X (.builtin "sorted") (rSorted1 X.K) := by
  intro pins s σ H vs us Q I r h
  obtain ⟨a, xs, rfl, hs, h1, q⟩ := h
  obtain ⟨its, rv, hl, hz⟩ := I.list hs
  rw [Vals.ref1 r]
  have hlen : its.length ≤ 1 := by rw [← rv.length]; exact h1
  refine SrtO.sorted_ord (ltv := fun _ _ => false) ⟨fun _ _ _ => rfl, fun _ _ _ _ _ => rfl⟩ hl.isList (by rw [← rv.length]; exact hz) (fun h2 h₁ a' _ _ => absurd h2 (by omega)) fun out o1 o2 => ?_
  obtain ⟨ep, he'⟩ := PyProof.Rows.sortedAll_at s.heap its out.toArray
  have e := perm_le1 o2.perm hlen
  subst e
  exact ⟨.ref _, upd H (s.heap.objs.size + 1) (.lst xs), I.laid (t' := s.toks) (fun _ _ => PyProof.Rows.sortedAll_old) (Nat.le_succ _) ⟨hz, out, ep, rv, he'⟩, rfl, q _ (I.hok.fresh (Nat.le_succ _))⟩
theorem cr_sortedU (hu : X.A.units + 65 < cLine) : CallR X (.builtin "sorted") (rSortedU X.K) := by
  intro pins s σ H vs us Q I r h
  rcases h with h | h
  · exact cr_sortedD hu pins s σ H vs us Q I r h
  · exact cr_sorted1 pins s σ H vs us Q I r h
end
end L2
namespace DL
open PySem L2
theorem kSORTU {X : Cx} (K : Fr) (h : X.K = K) (hu : X.A.units + 65 < cLine) : CallR X (.builtin "sorted") (rSortedU K) := h ▸ cr_sortedU hu
section
variable {K : Fr} {B : Bs} {G : En} {P : Po} {w1 w2 : W}
theorem rn_sortU {β : Type} {bs : List β} {enc : β → PyData} (e1 : wd G w1 = some (.list (bs.map enc))) (h1 : PySem.W.AllAlike (bs.map enc)) (h2 : PySem.W.Sortable (bs.map enc)) (h3 : ∀ b ∈ bs, (enc b).depth ≤ 60)
    (q : P G (.fr (.o none ((srtD enc bs).map enc)))) : RWn K B G (rSortedU K) [w1] P := fun S F H Q vs I hv k => .inl (rn_sortD e1 h1 h2 h3 q S F H Q vs I hv k)
theorem rn_sortU1 {ds : List PyData} (e1 : wd G w1 = some (.list ds)) (h : ds.length ≤ 1) (q : P G (.fr (.o none ds))) : RWn K B G (rSortedU K) [w1] P := fun S F H Q vs I hv k => .inr (by
  obtain ⟨v, rfl, h'⟩ := vws1 hv
  obtain ⟨p, us, rfl, hp, ha⟩ := wd_list I h' e1
  exact ⟨p, us, rfl, SqL.of hp, by rw [da_len ha]; exact h, fun c hc => ct_L k I hc ha q⟩)
end
/-! tuples of numbers -/
abbrev wD (way : List Nat) : PyData := .tuple (way.map nD)
theorem cast_lt : ∀ {a b : List Nat}, (a.map fun n : Nat => (n : Int)) < (b.map fun n : Nat => (n : Int)) ↔ a < b
  | [], [] => by simp
  | [], _ :: _ => by simp
  | _ :: _, [] => by simp
  | x :: a, y :: b => by
    rw [List.map_cons, List.map_cons, List.cons_lt_cons_iff, List.cons_lt_cons_iff, cast_lt (a := a) (b := b)]
    constructor
    · rintro (h | ⟨h1, h2⟩)
      · exact .inl (by omega)
      · exact .inr ⟨by omega, h2⟩
    · rintro (h | ⟨h1, h2⟩)
      · exact .inl (by omega)
      · exact .inr ⟨by omega, h2⟩
theorem wD_int (way : List Nat) : way.map nD = (way.map fun n : Nat => (n : Int)).map PyData.int := by
  rw [List.map_map]
  rfl
theorem lt_wD (a b : List Nat) : PySem.W.dataLt (wD a) (wD b) = decide (a < b) := by
  rw [PySem.W.dataLt_tuple, wD_int, wD_int]
  refine (PySem.W.dataLt_ints _ _).trans ?_
  exact decide_eq_decide.mpr cast_lt
theorem alike_wD (a b : List Nat) : PySem.W.alike (wD a) (wD b) = true := by
  have : PySem.W.alike (wD a) (wD b) = PySem.W.alikeAll (a.map nD) (b.map nD) := by simp [PySem.W.alike]
  rw [this, wD_int, wD_int]
  exact PySem.W.alike_ints _ _
theorem srt_wD {l : List (List Nat)} (h : l.Pairwise (· < ·)) : srtD wD l = l := by
  refine List.mergeSort_of_pairwise (h.imp fun {a b} z => ?_)
  show (!PySem.W.dataLt (wD b) (wD a)) = true
  rw [lt_wD, decide_eq_false (List.lt_asymm z)]
  rfl
theorem shp_wD (a : List Nat) : Shp 1 (wD a) := shp_tup fun x hx => by
  obtain ⟨n, _, rfl⟩ := List.mem_map.mp hx
  exact shp_int 0 _
end DL
namespace DL
open PySem L2
/-! ### a call whose last argument is a new own thing -/
def DAF (K : Fr) (B : Bs) (G : En) (ta : TA) (P : En → List W → Sl → Prop) : Prop := ∀ S F H (Q : List V → Hp → Prop), Iv K B G S F H → (∀ vs v F' H' G' ws s, Ex F F' → Iv K B (G' ++ [s]) (S ++ [some v]) F' H' → Vws K S F' vs ws → P G' ws s → Q (vs ++ [v]) H') → ta S H Q
section
variable {K : Fr} {B : Bs} {G : En} {te : TE} {tr t : TA}
theorem daf_last {P : En → List W → Sl → Prop} (h : DW K B G te fun G1 r => ∃ s, r = .fr s ∧ P G1 [] s) : DAF K B G (tCons te tNil) P := fun S F H Q I k => by
  show te S H fun x H1 => Q [x] H1
  refine h S F H _ I fun v F1 H1 G1 r e1 hv ⟨s, hr, q⟩ => ?_
  subst hr
  exact k [] v F1 H1 G1 [] s e1 hv .nil q
theorem daf_cons {P : En → List W → Sl → Prop} (h : DW K B G te fun G1 r1 => PW r1 fun w1 => DAF K B G1 tr fun G2 ws s => P G2 (w1 :: ws) s) : DAF K B G (tCons te tr) P := fun S F H Q I k => by
  show te S H fun x H1 => tr S H1 fun xs H2 => Q (x :: xs) H2
  refine dw_run (k' := fun G1 w1 => DAF K B G1 tr fun G2 ws s => P G2 (w1 :: ws) s) h I fun v F1 H1 G1 w e1 I1 hv q => ?_
  exact q S F1 H1 _ I1 fun vs u F2 H2 G2 ws s e2 I2 hvs q2 => k (v :: vs) u F2 H2 G2 (w :: ws) s (e1.trans e2) I2 (.cons (hv.mono e2) hvs) q2
variable {P : Po} {E : XK} {ι : Type} {args1 args2 : ι → List PyData} {own : ι → Sl} {pre : ι → Prop} {res : ι → Sl → Rs → Prop} {exc : ι → Sl → Value → Prop}
theorem splitW_last : ∀ {ws : List W} {ds : List PyData} {i : Nat}, allD ws = some ds → splitW (ws ++ [.sl i]) = some (ds, i, [])
  | [], _, _, e => by
    cases e
    rfl
  | .d d :: r, _, i, e => by
    simp only [allD, Option.map_eq_some_iff] at e
    obtain ⟨es, e1, rfl⟩ := e
    show (splitW (r ++ [.sl i])).map _ = _
    rw [splitW_last e1]
    rfl
theorem vws_snoc {S : St} {F : Hp} {v : V} {n : Nat} (hn : S.length = n) : ∀ {vs : List V} {ws : List W} {ds : List PyData}, allD ws = some ds → Vws K S F vs ws → Vws K (S ++ [some v]) F (vs ++ [v]) (ws ++ [.sl n])
  | _, [], _, _, .nil => .cons (by show (S ++ [some v])[n]? = _; rw [← hn]; simp) .nil
  | _, .d d :: r, _, e, .cons h t => by
    simp only [allD, Option.map_eq_some_iff] at e
    obtain ⟨es, e1, rfl⟩ := e
    exact .cons h (vws_snoc hn e1 t)
theorem dw_callHL (h : DAF K B G t fun G1 ws s => ∃ x, pre x ∧ allD ws = some (args1 x) ∧ args2 x = [] ∧ s.tr = true ∧ s.re none = (own x).re none ∧ (∀ s' r, s'.tr = true → res x s' r → ∃ d, r = .p (.d d) ∧ P G1 (.p (.d d))) ∧ ∀ s' c, ¬ exc x s' c) :
    DW K B G (tCall (spH K args1 own args2 pre res exc) [] E t) P := fun S F H Q I k => by
  show t S H fun vs H1 => spH K args1 own args2 pre res exc (vs ++ []) H1 Q E
  refine h S F H _ I fun vs v F1 H1 G1 ws s e1 I1 hv ⟨x, hp, hd, h2, ht, ho, q, qx⟩ => ?_
  rw [List.append_nil]
  have hl : S.length = G1.length := by
    have := I1.len
    simpa using this
  have hi : (G1 ++ [s])[G1.length]? = some s := by simp
  refine ⟨x, hp, coreG (S := S ++ [some v]) (P := fun G' r => ∃ s' d, G' = G1 ++ [s'] ∧ r = .p (.d d) ∧ P G1 (.p (.d d))) (fun u F' H' G' r e2 J pq => ?_) e1 I1 (vws_snoc hl hd hv) (splitW_last hd) hi ht ⟨rfl, by rw [re_re]; exact ho, h2.symm⟩ (fun s' r ht' a => ?_) (fun cls F' H' s' ht' J a => absurd a (qx _ _))⟩
  · obtain ⟨s', d, rfl, rfl, p⟩ := pq
    exact k u F' H' G1 (.p (.d d)) e2 ⟨J.1.drop, J.2⟩ p
  · obtain ⟨d, rfl, p⟩ := q (s'.re none) r (by rw [re_tr]; exact ht') a
    exact ⟨s'.re s.q, d, by simp, rfl, p⟩
end
end DL
/-! own lists of own lists of data -/
namespace DL
open PySem L2
noncomputable def mixH (X : Addr → Prop) (H F : Hp) : Hp := fun a => @ite _ (X a) (Classical.propDecidable _) (H a) (F a)
theorem mix_in {X : Addr → Prop} {H F : Hp} {a : Addr} (h : X a) : mixH X H F a = H a := if_pos h
theorem mix_out {X : Addr → Prop} {H F : Hp} {a : Addr} (h : ¬ X a) : mixH X H F a = F a := if_neg h
def LLs (K : Fr) (F H : Hp) : List Addr → List (List PyData) → Prop
  | [], [] => True
  | q :: qs, ds :: dss => (∃ vs, H q = some (.lst vs) ∧ DqAll K F vs ds) ∧ LLs K F H qs dss
  | _, _ => False
section
variable {K : Fr} {F F' H H' : Hp}
theorem lls_stab : ∀ {qs : List Addr} {dss : List (List PyData)}, LLs K F H qs dss → Ex F F' → (∀ q ∈ qs, H' q = H q) → LLs K F' H' qs dss
  | [], [], _, _, _ => trivial
  | q :: qs, ds :: dss, ⟨⟨vs, h1, h2⟩, h3⟩, e, k => ⟨⟨vs, by rw [k q (by simp)]; exact h1, da_mono e h2⟩, lls_stab h3 e fun q hq => k q (List.mem_cons_of_mem _ hq)⟩
theorem lls_len : ∀ {qs : List Addr} {dss : List (List PyData)}, LLs K F H qs dss → qs.length = dss.length
  | [], [], _ => rfl
  | _ :: _, _ :: _, ⟨_, h⟩ => congrArg (· + 1) (lls_len h)
theorem lls_get : ∀ {qs : List Addr} {dss : List (List PyData)} {i : Nat} {ds : List PyData}, LLs K F H qs dss → dss[i]? = some ds → ∃ q vs, qs[i]? = some q ∧ H q = some (.lst vs) ∧ DqAll K F vs ds
  | [], [], _, _, _, e => by simp at e
  | q :: qs, ds :: dss, 0, _, ⟨⟨vs, h1, h2⟩, _⟩, e => by
    simp at e
    subst e
    exact ⟨q, vs, rfl, h1, h2⟩
  | q :: qs, ds :: dss, i + 1, _, ⟨_, h3⟩, e => by
    obtain ⟨q', vs, a, b, c⟩ := lls_get (i := i) h3 (by simpa using e)
    exact ⟨q', vs, by simpa using a, b, c⟩
theorem lls_set : ∀ {qs : List Addr} {dss : List (List PyData)} {i : Nat} {q : Addr} {vs : List V} {ds : List PyData}, qs.Nodup → LLs K F H qs dss → qs[i]? = some q → DqAll K F vs ds → LLs K F (upd H q (.lst vs)) qs (dss.set i ds)
  | [], [], _, _, _, _, _, _, e, _ => by simp at e
  | q :: qs, ds :: dss, 0, _, vs, _, hn, ⟨_, h3⟩, e, hv => by
    simp at e
    subst e
    refine ⟨⟨vs, upd_same, hv⟩, lls_stab h3 (Ex.refl F) fun a ha => upd_ne fun z => ?_⟩
    subst z
    exact (List.nodup_cons.mp hn).1 ha
  | q :: qs, ds :: dss, i + 1, q', vs, _, hn, ⟨⟨us, h1, h2⟩, h3⟩, e, hv => by
    have e : qs[i]? = some q' := by simpa using e
    refine ⟨⟨us, ?_, h2⟩, lls_set (i := i) (List.nodup_cons.mp hn).2 h3 e hv⟩
    rw [upd_ne]
    · exact h1
    · intro z
      subst z
      exact (List.nodup_cons.mp hn).1 (List.mem_of_getElem? e)
theorem lls_snoc : ∀ {qs : List Addr} {dss : List (List PyData)} {q : Addr} {vs : List V} {ds : List PyData}, LLs K F H qs dss → H q = some (.lst vs) → DqAll K F vs ds → LLs K F H (qs ++ [q]) (dss ++ [ds])
  | [], [], _, vs, _, _, h1, h2 => ⟨⟨vs, h1, h2⟩, trivial⟩
  | _ :: _, _ :: _, _, _, _, ⟨a, b⟩, h1, h2 => ⟨a, lls_snoc b h1 h2⟩
end
/-- p: the outer list's address, qs: the inner ones' -/
def LLr (K : Fr) (p : Addr) (qs : List Addr) (dss : List (List PyData)) : Orel where
  rel F H v A := v = .ref p ∧ H p = some (.lst (qs.map V.ref)) ∧ LLs K F H qs dss ∧ A p ∧ (∀ q ∈ qs, A q) ∧ (p :: qs).Nodup
  stab := fun ⟨h1, h2, h3, h4, h5, h6⟩ e k => ⟨h1, by rw [k _ h4]; exact h2, lls_stab h3 e fun q hq => k q (h5 q hq), h4, h5, h6⟩
section
variable {K : Fr} {B : Bs} {G : En} {S : St} {F H : Hp} {s s' : Sl} {v : V} {d : PyData} {p : Addr} {qs : List Addr} {dss : List (List PyData)} {te ta tb : TE} {P : Po} {E : De} {t : TS}
theorem Iv.ll (I : Iv K B G S F H) {i : Nat} (h : G[i]? = some (.ow (LLr K p qs dss))) : S[i]? = some (some (.ref p)) ∧ H p = some (.lst (qs.map V.ref)) ∧ LLs K F H qs dss ∧ (p :: qs).Nodup ∧ F p = none ∧ ∀ q ∈ qs, F q = none := by
  obtain ⟨A, h1, _, h3⟩ := I.own
  rcases h1 i _ h with e | ⟨v, k1, rfl, k2, k3, k4, k5, k6⟩
  · cases e
  · exact ⟨k1, k2, k3, k6, (h3 i p k4).1, fun q hq => (h3 i q (k5 q hq)).1⟩
/-- slot i's own thing changes at the place x -/
theorem Iv.mutW (I : Iv K B G S F H) {i : Nat} (hi : G[i]? = some s) (hs : s ≠ .un) (x : Addr) (o : HO) (hx : ∀ A v, SvR K F H v A s → A x ∧ SvR K F (upd H x o) v A s') : Iv K B (G.set i s') S F (upd H x o) := by
  obtain ⟨A, h1, h2, h3⟩ := I.own
  obtain ⟨u, e1, e2⟩ : ∃ v, S[i]? = some (some v) ∧ SvR K F H v (A i) s := (h1 i _ hi).elim (fun z => absurd z hs) id
  obtain ⟨e5, e6⟩ := hx _ _ e2
  obtain ⟨k1, k2, k3⟩ := h3 i x e5
  refine ⟨I.ex.mut k1 _, I.f0, fun b o hb hm => ?_, I.nw, fun b hb => ?_, by simpa using I.len, A, fun j s hj => ?_, h2, fun j a ha => ?_⟩
  · have nb : b ≠ x := fun z => by
      subst z
      rcases k3 with z | z
      · rw [hb] at z
        cases z
      · exact hm z
    rw [upd_ne nb]
    exact I.fr b o hb hm
  · by_cases nb : b = x
    · rw [nb, upd_same]
      exact fun z => by cases z
    · rw [upd_ne nb]
      exact I.st b hb
  · by_cases e : i = j
    · subst e
      obtain ⟨rfl, _⟩ := set_same hj
      exact .inr ⟨_, e1, e6⟩
    · rw [List.getElem?_set_ne e] at hj
      rcases h1 j s hj with z | ⟨u, z1, z2⟩
      · exact .inl z
      · refine .inr ⟨u, z1, slr_stab z2 (Ex.refl F) fun a ha => ?_⟩
        rw [upd_ne]
        intro z
        subst z
        exact e (h2 _ _ _ e5 ha)
  · obtain ⟨x1, y, z⟩ := h3 j a ha
    refine ⟨x1, ?_, z⟩
    by_cases na : a = x
    · rw [na, upd_same]
      exact fun z => by cases z
    · rw [upd_ne na]
      exact y
/-- slot i's own thing is frozen: the places X of it are data from now on -/
theorem Iv.frzW (I : Iv K B G S F H) {i : Nat} (hi : G[i]? = some s) (hs : s ≠ .un) (h : ∀ A v, SvR K F H v A s → (∀ a, A a → F a = none) → ∃ X : Addr → Prop, (∀ a, X a → A a) ∧ Dq K (mixH X H F) v d) : ∃ F', Ex F F' ∧ Iv K B (G.set i (.d d)) S F' H := by
  obtain ⟨A, h1, h2, h3⟩ := I.own
  obtain ⟨u, e1, e2⟩ : ∃ v, S[i]? = some (some v) ∧ SvR K F H v (A i) s := (h1 i _ hi).elim (fun z => absurd z hs) id
  obtain ⟨X, x1, x2⟩ := h _ _ e2 fun a ha => (h3 i a ha).1
  have eF : Ex F (mixH X H F) := fun b o hb => by
    by_cases hX : X b
    · rw [(h3 i b (x1 b hX)).1] at hb
      cases hb
    · rw [mix_out hX]
      exact hb
  refine ⟨mixH X H F, eF, ⟨fun b o hb => ?_, I.f0.trans eF, I.fr, fun b o hb hn => ?_, I.st, by simpa using I.len, fun j a => j ≠ i ∧ A j a, fun j s hj => ?_, fun j k a ha hb => h2 j k a ha.2 hb.2, fun j a ha => ?_⟩⟩
  · have hb : mixH X H F b = some o := hb
    by_cases hX : X b
    · rw [mix_in hX] at hb
      exact hb
    · rw [mix_out hX] at hb
      exact I.ex b o hb
  · have hb : mixH X H F b = some o := hb
    by_cases hX : X b
    · rcases (h3 i b (x1 b hX)).2.2 with z | z
      · exact absurd z hn
      · exact .inr z
    · rw [mix_out hX] at hb
      exact I.nw b o hb hn
  · by_cases e : i = j
    · subst e
      obtain ⟨rfl, _⟩ := set_same hj
      exact .inr ⟨_, e1, x2⟩
    · rw [List.getElem?_set_ne e] at hj
      rcases h1 j s hj with z | ⟨u, z1, z2⟩
      · exact .inl z
      · refine .inr ⟨u, z1, ?_⟩
        have ea : (fun a => j ≠ i ∧ A j a) = A j := by
          funext a
          exact propext ⟨fun z => z.2, fun z => ⟨Ne.symm e, z⟩⟩
        show SvR K _ H u (fun a => j ≠ i ∧ A j a) s
        rw [ea]
        exact slr_stab z2 eF fun _ _ => rfl
  · obtain ⟨x, y, z⟩ := h3 j a ha.2
    refine ⟨?_, y, z⟩
    rw [mix_out fun q => ha.1 (h2 _ _ _ ha.2 (x1 a q))]
    exact x
theorem lls_dq {F' : Hp} : ∀ {qs : List Addr} {dss : List (List PyData)}, LLs K F H qs dss → Ex F F' → (∀ q ∈ qs, F' q = H q) → DqAll K F' (qs.map V.ref) (dss.map .list)
  | [], [], _, _, _ => .nil
  | q :: qs, ds :: dss, ⟨⟨vs, h1, h2⟩, h3⟩, e, k => .cons (.lst (by rw [k q (by simp)]; exact h1) (da_mono e h2)) (lls_dq h3 e fun q hq => k q (List.mem_cons_of_mem _ hq))
theorem Iv.frzLL (I : Iv K B G S F H) {i : Nat} (hi : G[i]? = some (.ow (LLr K p qs dss))) : ∃ F', Ex F F' ∧ Iv K B (G.set i (.d (.list (dss.map .list)))) S F' H := by
  refine I.frzW hi (fun z => by cases z) fun A v ⟨h1, h2, h3, h4, h5, h6⟩ hF => ⟨fun a => a = p ∨ a ∈ qs, fun a ha => ?_, ?_⟩
  · rcases ha with rfl | ha
    · exact h4
    · exact h5 a ha
  · subst h1
    refine .lst (xs := qs.map V.ref) (by rw [mix_in (.inl rfl)]; exact h2) (lls_dq h3 (fun b o hb => ?_) fun q hq => mix_in (.inr hq))
    rw [mix_out]
    · exact hb
    · rintro (rfl | hb2)
      · rw [hF _ h4] at hb
        cases hb
      · rw [hF _ (h5 _ hb2)] at hb
        cases hb
theorem ds_freezeLL (i : Nat) (hi : G[i]? = some (.ow (LLr K p qs dss))) (h : DS K B (G.set i (.d (.list (dss.map .list)))) t E) : DS K B G t E := fun S F H D I c => by
  obtain ⟨F', e, I2⟩ := I.frzLL hi
  exact h S _ H D I2 (c.mono e)
/-- m[a][b] -/
theorem ixN_nat {n a : Nat} (h : a < n) : ixN n (a : Int) = some a := by
  unfold ixN
  rw [if_pos (by omega), if_pos (by omega)]
  simp
theorem atI_nat {α : Type} {xs : List α} {a : Nat} {x : α} (h : xs[a]? = some x) : atI xs (a : Int) = some x := atn h
theorem dw_ixx {i : Nat} (h0 : G[i]? = some (.ow (LLr K p qs dss))) (h : DW K B G ta fun G1 r1 => PW r1 fun w1 => ∃ (a : Nat) (ds : List PyData), w1 = .d (.int (a : Int)) ∧ G1[i]? = some (.ow (LLr K p qs dss)) ∧ dss[a]? = some ds ∧ DW K B G1 tb fun G2 r2 => PW r2 fun w2 => ∃ (b : Nat) (d : PyData), w2 = .d (.int (b : Int)) ∧ G2[i]? = some (.ow (LLr K p qs dss)) ∧ ds[b]? = some d ∧ P G2 (.p (.d d))) :
    DW K B G (tOp (rIx K) (tOp (rIx K) (tVar i) ta) tb) P := fun S F H Q I k => by
  show (tVar i) S H fun x0 H0 => ta S H0 fun y0 H1 => rIx K x0 y0 H1 fun x H2 => tb S H2 fun y H3 => rIx K x y H3 Q
  obtain ⟨k1, _⟩ := I.ll h0
  refine ⟨_, k1, ?_⟩
  refine dw_run (k' := fun G1 w1 => ∃ (a : Nat) (ds : List PyData), w1 = .d (.int (a : Int)) ∧ G1[i]? = some (.ow (LLr K p qs dss)) ∧ dss[a]? = some ds ∧ DW K B G1 tb fun G2 r2 => PW r2 fun w2 => ∃ (b : Nat) (d : PyData), w2 = .d (.int (b : Int)) ∧ G2[i]? = some (.ow (LLr K p qs dss)) ∧ ds[b]? = some d ∧ P G2 (.p (.d d))) h I fun v1 F1 H1 G1 w1 e1 I1 r1 ⟨a, ds, hw1, g1, ga, q1⟩ => ?_
  subst hw1
  obtain rfl := dp_int r1
  obtain ⟨_, m1, m2, _, _, _⟩ := I1.ll g1
  obtain ⟨q, vs, n1, n2, n3⟩ := lls_get m2 ga
  refine .inl ⟨p, _, _, .ref q, rfl, rfl, SqL.of m1, atn (by rw [List.getElem?_map, n1]; rfl), ?_⟩
  refine dw_run (k' := fun G2 w2 => ∃ (b : Nat) (d : PyData), w2 = .d (.int (b : Int)) ∧ G2[i]? = some (.ow (LLr K p qs dss)) ∧ ds[b]? = some d ∧ P G2 (.p (.d d))) q1 I1 fun v2 F2 H2 G2 w2 e2 I2 r2 ⟨b, d, hw2, g2, gb, q2⟩ => ?_
  subst hw2
  obtain rfl := dp_int r2
  obtain ⟨_, m1, m2, _, _, _⟩ := I2.ll g2
  obtain ⟨q', vs', n1', n2', n3'⟩ := lls_get m2 ga
  rw [n1] at n1'
  cases n1'
  obtain ⟨v, z1, z2⟩ := da_get n3' gb
  exact .inl ⟨q, _, _, v, rfl, rfl, SqL.of n2', atn z1, ct_d (k.mono (e1.trans e2)) I2 z2 q2⟩
/-- m[a][b] = d -/
theorem ds_setxx {i : Nat} (h : DW K B G te fun G1 r1 => PW r1 fun w => ∃ d, w = .d d ∧ ∃ (p : Addr) (qs : List Addr) (dss : List (List PyData)), G1[i]? = some (.ow (LLr K p qs dss)) ∧ DW K B G1 ta fun G2 r2 => PW r2 fun w2 => ∃ (a : Nat) (ds : List PyData), w2 = .d (.int (a : Int)) ∧ G2[i]? = some (.ow (LLr K p qs dss)) ∧ dss[a]? = some ds ∧ DW K B G2 tb fun G3 r3 => PW r3 fun w3 => ∃ b : Nat, w3 = .d (.int (b : Int)) ∧ G3[i]? = some (.ow (LLr K p qs dss)) ∧ b < ds.length ∧ E.nx (G3.set i (.ow (LLr K p qs (dss.set a (ds.set b d)))))) :
    DS K B G (tAsg te (gSub (tOp (rIx K) (tVar i) ta) tb rSetL)) E := fun S F H D I c => by
  show te S H fun v H0 => (tVar i) S H0 fun x0 H0 => ta S H0 fun y0 H1 => rIx K x0 y0 H1 fun o H1 => tb S H1 fun i H2 => rSetL o i v H2 fun H3 => D.nx S H3
  refine dw_run (k' := fun G1 w => ∃ d, w = .d d ∧ ∃ (p : Addr) (qs : List Addr) (dss : List (List PyData)), G1[i]? = some (.ow (LLr K p qs dss)) ∧ DW K B G1 ta fun G2 r2 => PW r2 fun w2 => ∃ (a : Nat) (ds : List PyData), w2 = .d (.int (a : Int)) ∧ G2[i]? = some (.ow (LLr K p qs dss)) ∧ dss[a]? = some ds ∧ DW K B G2 tb fun G3 r3 => PW r3 fun w3 => ∃ b : Nat, w3 = .d (.int (b : Int)) ∧ G3[i]? = some (.ow (LLr K p qs dss)) ∧ b < ds.length ∧ E.nx (G3.set i (.ow (LLr K p qs (dss.set a (ds.set b d)))))) h I fun v1 F1 H1 G1 w1 e1 I1 hv1 ⟨d, hw1, p, qs, dss, g1, q1⟩ => ?_
  subst hw1
  obtain ⟨k1, _⟩ := I1.ll g1
  refine ⟨_, k1, ?_⟩
  refine dw_run (k' := fun G2 w2 => ∃ (a : Nat) (ds : List PyData), w2 = .d (.int (a : Int)) ∧ G2[i]? = some (.ow (LLr K p qs dss)) ∧ dss[a]? = some ds ∧ DW K B G2 tb fun G3 r3 => PW r3 fun w3 => ∃ b : Nat, w3 = .d (.int (b : Int)) ∧ G3[i]? = some (.ow (LLr K p qs dss)) ∧ b < ds.length ∧ E.nx (G3.set i (.ow (LLr K p qs (dss.set a (ds.set b d)))))) q1 I1 fun v2 F2 H2 G2 w2 e2 I2 hv2 ⟨a, ds, hw2, g2, ga, q2⟩ => ?_
  subst hw2
  obtain rfl := dp_int hv2
  obtain ⟨_, m1, m2, _, _, _⟩ := I2.ll g2
  obtain ⟨q, vs, n1, n2, n3⟩ := lls_get m2 ga
  refine .inl ⟨p, _, _, .ref q, rfl, rfl, SqL.of m1, atn (by rw [List.getElem?_map, n1]; rfl), ?_⟩
  refine dw_run (k' := fun G3 w3 => ∃ b : Nat, w3 = .d (.int (b : Int)) ∧ G3[i]? = some (.ow (LLr K p qs dss)) ∧ b < ds.length ∧ E.nx (G3.set i (.ow (LLr K p qs (dss.set a (ds.set b d)))))) q2 I2 fun v3 F3 H3 G3 w3 e3 I3 hv3 ⟨b, hw3, g3, hl, q3⟩ => ?_
  subst hw3
  obtain rfl := dp_int hv3
  obtain ⟨_, m1', m2', hnd, _, _⟩ := I3.ll g3
  obtain ⟨q', vs', n1', n2', n3'⟩ := lls_get m2' ga
  rw [n1] at n1'
  cases n1'
  have hq : q ∈ qs := List.mem_of_getElem? n1
  have hqp : p ≠ q := fun z => (List.nodup_cons.mp hnd).1 (z ▸ hq)
  refine ⟨q, vs', (b : Int), b, rfl, rfl, n2', ixN_nat (by rw [da_len n3']; exact hl), ?_⟩
  refine c.nx S F3 _ _ ((e1.trans e2).trans e3) (I3.mutW (s' := .ow (LLr K p qs (dss.set a (ds.set b d)))) g3 (fun z => by cases z) q _ fun A v ⟨h1, h2, h3, h4, h5, h6⟩ => ⟨h5 q hq, ?_⟩) q3
  refine ⟨h1, ?_, lls_set (List.nodup_cons.mp hnd).2 h3 n1 (da_set b n3' (dp_mono (e2.trans e3) hv1)), h4, h5, h6⟩
  rw [upd_ne hqp]
  exact h2
end
end DL
namespace DL
open PySem L2
section
variable {K : Fr} {B : Bs} {G : En} {S : St} {F H : Hp} {v x : V} {p : Addr} {qs : List Addr} {dss : List (List PyData)} {ds : List PyData} {te : TE} {tt : TT} {P : Po}
theorem get_n {α : Type} {G : List α} {a b : α} : (G ++ [a] ++ [b])[G.length]? = some a := by simp
theorem get_n1 {α : Type} {G : List α} {a b : α} : (G ++ [a] ++ [b])[G.length + 1]? = some b := by
  rw [List.append_assoc, List.getElem?_append_right (by omega)]
  simp
theorem get_lt {α : Type} {G r : List α} {i : Nat} (h : i < G.length) : (G ++ r)[i]? = G[i]? := List.getElem?_append_left h
/-- the last but one slot's list goes behind the last slot's lists -/
theorem Iv.mergeLL (I : Iv K B (G ++ [.o none ds] ++ [.ow (LLr K p qs dss)]) (S ++ [some v] ++ [some x]) F H) : ∃ q, v = .ref q ∧ x = .ref p ∧ H p = some (.lst (qs.map V.ref)) ∧ Iv K B (G ++ [.ow (LLr K p (qs ++ [q]) (dss ++ [ds]))]) (S ++ [some x]) F (upd H p (.lst (qs.map V.ref ++ [v]))) := by
  obtain ⟨A, h1, h2, h3⟩ := I.own
  have hl : S.length = G.length := by
    have := I.len
    simpa using this
  obtain ⟨u, e1, q, vs, rfl, e3, e4, e5, _⟩ : ∃ u, (S ++ [some v] ++ [some x])[G.length]? = some (some u) ∧ SvR K F H u (A G.length) (.o none ds) := (h1 G.length _ get_n).elim (fun z => by cases z) id
  rw [← hl, get_n] at e1
  cases e1
  obtain ⟨u, e1, rfl, m2, m3, m4, m5, m6⟩ : ∃ u, (S ++ [some (V.ref q)] ++ [some x])[G.length + 1]? = some (some u) ∧ SvR K F H u (A (G.length + 1)) (.ow (LLr K p qs dss)) := (h1 (G.length + 1) _ get_n1).elim (fun z => by cases z) id
  rw [← hl, get_n1] at e1
  cases e1
  have hqp : p ≠ q := fun z => by
    subst z
    have := h2 _ _ _ e5 m4
    omega
  have hqq : q ∉ qs := fun z => by
    have := h2 _ _ _ e5 (m5 q z)
    omega
  obtain ⟨k1, k2, k3⟩ := h3 _ p m4
  refine ⟨q, rfl, rfl, m2, ⟨I.ex.mut k1 _, I.f0, fun b o hb hm => ?_, I.nw, fun b hb => ?_, by simp [hl], fun j a => (j < G.length ∧ A j a) ∨ (j = G.length ∧ (A G.length a ∨ A (G.length + 1) a)), fun j s hj => ?_, fun i j a ha hb => ?_, fun j a ha => ?_⟩⟩
  · have nb : b ≠ p := fun z => by
      subst z
      rcases k3 with z | z
      · rw [hb] at z
        cases z
      · exact hm z
    rw [upd_ne nb]
    exact I.fr b o hb hm
  · by_cases nb : b = p
    · rw [nb, upd_same]
      exact fun z => by cases z
    · rw [upd_ne nb]
      exact I.st b hb
  · rcases app_get hj with ⟨hlt, h⟩ | ⟨hlt, e⟩
    · rcases h1 j s (by rw [List.append_assoc, get_lt hlt]; exact h) with z | ⟨u, z1, z2⟩
      · exact .inl z
      · refine .inr ⟨u, ?_, ?_⟩
        · rw [List.append_assoc, get_lt (by omega)] at z1
          rw [get_lt (by omega)]
          exact z1
        · have ea : (fun a => (j < G.length ∧ A j a) ∨ (j = G.length ∧ (A G.length a ∨ A (G.length + 1) a))) = A j := by
            funext a
            exact propext ⟨fun z => z.elim (fun z => z.2) fun z => by omega, fun z => .inl ⟨hlt, z⟩⟩
          show SvR K F _ u (fun a => (j < G.length ∧ A j a) ∨ (j = G.length ∧ (A G.length a ∨ A (G.length + 1) a))) s
          rw [ea]
          refine slr_stab z2 (Ex.refl F) fun a ha => upd_ne fun z => ?_
          subst z
          have := h2 _ _ _ ha m4
          omega
    · subst e hlt
      refine .inr ⟨.ref p, by rw [← hl]; simp, rfl, ?_, ?_, .inr ⟨rfl, .inr m4⟩, fun a ha => .inr ⟨rfl, ?_⟩, ?_⟩
      · rw [upd_same, List.map_append]
        rfl
      · refine lls_stab (lls_snoc m3 e3 e4) (Ex.refl F) fun a ha => upd_ne fun z => ?_
        subst z
        rcases List.mem_append.mp ha with ha | ha
        · exact (List.nodup_cons.mp m6).1 ha
        · exact hqp (List.mem_singleton.mp ha)
      · rcases List.mem_append.mp ha with ha | ha
        · exact .inr (m5 a ha)
        · rw [List.mem_singleton.mp ha]
          exact .inl e5
      · rw [List.nodup_cons] at m6 ⊢
        refine ⟨fun z => ?_, List.nodup_append.mpr ⟨m6.2, by simp, fun a ha b hb z => ?_⟩⟩
        · rcases List.mem_append.mp z with z | z
          · exact m6.1 z
          · exact hqp (List.mem_singleton.mp z)
        · rw [List.mem_singleton.mp hb] at z
          exact hqq (z ▸ ha)
  · have key : ∀ i, ((i < G.length ∧ A i a) ∨ (i = G.length ∧ (A G.length a ∨ A (G.length + 1) a))) → ∃ k, A k a ∧ (i < G.length → k = i) ∧ (i = G.length → G.length ≤ k) ∧ i ≤ G.length := fun i z => by
      rcases z with ⟨z1, z2⟩ | ⟨z1, z2 | z2⟩
      · exact ⟨i, z2, fun _ => rfl, fun z => by omega, by omega⟩
      · exact ⟨_, z2, fun z => by omega, fun _ => Nat.le_refl _, by omega⟩
      · exact ⟨_, z2, fun z => by omega, fun _ => by omega, by omega⟩
    obtain ⟨k1, a1, b1, c1, d1⟩ := key i ha
    obtain ⟨k2, a2, b2, c2, d2⟩ := key j hb
    have := h2 _ _ _ a1 a2
    rcases Nat.lt_or_eq_of_le d1 with q1 | q1 <;> rcases Nat.lt_or_eq_of_le d2 with q2 | q2
    · rw [← b1 q1, ← b2 q2, this]
    · have := b1 q1
      have := c2 q2
      omega
    · have := c1 q1
      have := b2 q2
      omega
    · omega
  · have fin : ∀ k, A k a → F a = none ∧ upd H p (.lst (qs.map V.ref ++ [V.ref q])) a ≠ none ∧ (B.H0 a = none ∨ B.mu a) := fun k hk => by
      obtain ⟨x, y, z⟩ := h3 k a hk
      refine ⟨x, ?_, z⟩
      by_cases na : a = p
      · rw [na, upd_same]
        exact fun z => by cases z
      · rw [upd_ne na]
        exact y
    rcases ha with ⟨_, ha⟩ | ⟨_, ha | ha⟩
    · exact fin _ ha
    · exact fin _ ha
    · exact fin _ ha
theorem Iv.newLL (I : Iv K B G S F H) (hp : H p = none) : Iv K B (G ++ [.ow (LLr K p [] [])]) (S ++ [some (.ref p)]) F (upd H p (.lst [])) := by
  refine I.add (Ex.refl F) (Ex.new hp) (I.ex.trans (Ex.new hp)) (fun b o h n => ?_) _ (fun a => a = p) (.inr ⟨_, rfl, ⟨rfl, upd_same, trivial, rfl, ⟨fun q hq => (nomatch hq), List.nodup_cons.mpr ⟨fun h => (nomatch h), .nil⟩⟩⟩⟩) fun a e => ?_
  · rw [h] at n
    cases n
  · have e : a = p := e
    subst e
    exact ⟨hp, I.fnone hp, by rw [upd_same]; exact fun z => (by cases z)⟩
/-- [[..] for ..]: a new list of new lists -/
theorem dw_lcLL {wi : TI} {g : TG} {ch : List Nat} {vs : List Nat} (hsub : ∀ k ∈ ch, k ∈ vs)
    (h : DI K B G wi fun G1 ds => ∃ J : Nat → List (List PyData) → En → Prop, J 0 [] (wipeG G1 vs) ∧ ds.length ≤ sizeLine ∧ (∀ (B' : Bs) i acc G2 d, ds[i]? = some d → J i acc G2 → DG K B' G2 g ch (.d d) fun G3 => DW K B' G3 te fun G5 r => ∃ es, r = .fr (.o none es) ∧ acc.length < sizeLine ∧ J (i + 1) (acc ++ [es]) (wipeG G5 vs)) ∧ ∀ acc G2, J ds.length acc G2 → ∀ p qs, P (wipeG G2 vs) (.fr (.ow (LLr K p qs acc)))) :
    DW K B G (tLc wi g tYes te vs) P := fun S F H Q I k => by
  refine h S F H _ I fun It F1 H1 G1 ds e1 I1 Y ⟨J, j0, hz, hs, hd⟩ => ?_
  intro D hD
  refine ⟨fun i m H => m = ds.length - i ∧ i ≤ ds.length ∧ ∃ F2 G2 acc qs, Ex F1 F2 ∧ Iv K B (G2 ++ [.ow (LLr K D qs acc)]) (L2.wipe S vs ++ [some (.ref D)]) F2 H ∧ J i acc G2, ⟨_, rfl, Nat.zero_le _, F1, _, [], [], Ex.refl _, (I1.wipe vs).newLL hD, j0⟩, ?_⟩
  rintro i m H2 ⟨rfl, hi, F2, G2, acc, qs, e2, I2, j2⟩
  by_cases hlt : i < ds.length
  · obtain ⟨d, hd'⟩ : ∃ d, ds[i]? = some d := ⟨_, List.getElem?_eq_getElem hlt⟩
    refine .inr ⟨((Y i H2 F2 e2 I2.ex).1 d hd').1, fun H => ∃ F2 G2 acc qs, Ex F1 F2 ∧ Iv K B (G2 ++ [.ow (LLr K D qs acc)]) (L2.wipe S vs ++ [some (.ref D)]) F2 H ∧ J (i + 1) acc G2, fun H' p => ⟨ds.length - (i + 1), by omega, rfl, hlt, p⟩, fun x H3 y => ?_⟩
    obtain ⟨F3, e3, I3, hx⟩ := Y.turn e2 I2 hd' y
    obtain ⟨A0, mu, _, _, Ia, back⟩ := I3.asideG (fun z => by cases z)
    refine hs _ i acc G2 d hd' j2 _ F3 H3 x _ Ia hx fun S4 F4 H4 G4 e4 I4 l4 u4 q => ?_
    have ew : L2.wipe S4 vs = L2.wipe S vs := by
      rw [wipe_ext l4 fun k hk => u4 k fun z => hk (hsub k z)]
      exact wipe_ext (wipe_length S vs) fun k hk => wipe_ne hk
    refine ⟨ew, ?_⟩
    show te S4 H4 fun y H4 => ∃ acc, H4 D = some (.lst acc) ∧ acc.length < sizeLine ∧ (∃ F2 G2 acc' qs, Ex F1 F2 ∧ Iv K B (G2 ++ [.ow (LLr K D qs acc')]) (L2.wipe S vs ++ [some (.ref D)]) F2 (upd H4 D (.lst (acc ++ [y]))) ∧ J (i + 1) acc' G2)
    refine q S4 F4 H4 _ I4 fun v F6 H6 G6 r e6 hr hq => ?_
    obtain ⟨es, rfl, hz6, j6⟩ := hq
    have hr : Iv K _ (G6 ++ [.o none es]) (S4 ++ [some v]) F6 H6 := hr
    obtain ⟨_, I7⟩ := back _ _ _ _ hr
    obtain ⟨q', rfl, hx, hD6, I8⟩ := I7.mergeLL
    obtain ⟨_, hm1, hm2, _, _, _⟩ := I7.ll get_n1
    refine ⟨qs.map V.ref, hD6, by rw [List.length_map, lls_len hm2]; exact hz6, F6, _, acc ++ [es], qs ++ [q'], ((e2.trans e3).trans e4).trans e6, ?_, j6⟩
    obtain ⟨A1, mu1, _, _, Ib, back1⟩ := I8.asideG (fun z => by cases z)
    have := (back1 _ _ _ _ (Ib.wipe vs)).2
    rw [ew] at this
    exact this
  · have e : i = ds.length := by omega
    subst e
    refine .inl ⟨(Y _ H2 F2 e2 I2.ex).2 rfl, ?_⟩
    have I3 : Iv K B (wipeG G2 vs ++ [.ow (LLr K D qs acc)]) (S ++ [some (.ref D)]) F2 H2 := by
      obtain ⟨A0, mu, _, _, Ia, back⟩ := I2.asideG (fun z => by cases z)
      exact (back _ _ _ _ ((Ia.wipe vs).wiped (S := S) (by rw [wipe_length, wipe_length]) fun k hk => by rw [wipe_ne hk, wipe_ne hk])).2
    exact k (.ref D) F2 H2 (wipeG G2 vs) (.fr (.ow (LLr K D qs acc))) (e1.trans e2) I3 (hd acc G2 j2 D qs)
end
end DL
/-! zip(text, tuple); list(zip(text, tuple)) -/
namespace DL
open PySem PySem.Spec PyProof.Rows L2
open PySem.Sem (wp)
section
variable {prog : Program} {w : World} {A : Around} {E : Value → Shared → Prop} {s : Shared}
theorem alive_ {a : Addr} {Q : Option Obj → Shared → Prop} (h : Q (s.heap.get? a) s) : wpAny (model prog w) A (loadIfAlive a) Q E s := fun Γ p hΓ => by
  unfold loadIfAlive
  rw [Sem.wp_loadIfAlive]
  exact h
/-- a zip, whatever its tuple is -/
abbrev IsZipA (h : Heap) (z TI TO : Addr) (old b : Value) : Prop := h.get? z = some { cls := .type "zip", dict := none, data := .fields #[old, b, .bool false, .ref TI, .ref TO], slots := #[] }
variable {z TI TO i1 i2 : Addr} {fp1 fp2 : List Addr} {n1 n2 i : Nat} {P1 P2 : Nat → Value → Prop} {St1 St2 : Nat → Heap → Prop} {a1 a2 : Value}
theorem free_no {b : Value} {a : Int} {ta : Tok} {ob : Obj} {Q : Bool → Shared → Prop} (hz : IsZipA s.heap z TI TO (.int a ta) b) (hal : s.heap.get? a.toNat = some ob)
    (h : ∀ h0, IsZipA h0 z TI TO (.int a ta) (.bool true) → Heap.SameBut z s.heap h0 → Q false { s with heap := h0 }) : wpAny (model prog w) A (Builtin.SmallTypes.ownedTupleIsFree (.ref z)) Q E s := by
  unfold Builtin.SmallTypes.ownedTupleIsFree
  refine wpAny_bind (wpAny_field hz rfl (x := .int a ta) rfl ?_)
  refine wpAny_bind (alive_ ?_)
  rw [hal, if_neg (by simp)]
  refine wpAny_bind (wpAny_field hz rfl (x := b) rfl ?_)
  by_cases hb : (b != Value.bool true) = true
  · rw [if_pos hb]
    refine wpAny_bind (wpAny_setField_rec hz (by simp) fun h0 hz0 hs0 => ?_)
    exact wpAny_pure (h h0 hz0 hs0)
  · rw [if_neg hb]
    have e : b = .bool true := by
      have : (b == Value.bool true) = true := by simpa [bne] using hb
      exact eq_of_beq this
    subst e
    exact wpAny_pure (h s.heap hz ⟨rfl, fun _ _ => rfl⟩)
theorem zipN_item {b : Value} {a : Int} {ta : Tok} {ob : Obj} {Q : Value → Shared → Prop} (S : ZipSep2 z TI TO i1 i2 fp1 fp2) (D1 : Draws prog w A i1 fp1 n1 P1 St1) (D2 : Draws prog w A i2 fp2 n2 P2 St2)
    (hz : IsZipA s.heap z TI TO (.int a ta) b) (hal : s.heap.get? a.toNat = some ob) (hTI : IsTupOf2 s.heap TI (.ref i1) (.ref i2)) (st1 : St1 i s.heap) (st2 : St2 i s.heap) (hlt1 : i < n1) (hlt2 : i < n2)
    (hQ : ∀ x1 x2 h' tk, P1 i x1 → P2 i x2 → IsZipA h' z TI TO (.int a ta) (.bool true) → St1 (i + 1) h' → St2 (i + 1) h' → IsTupOf2 h' s.heap.objs.size x1 x2 → h'.objs.size = s.heap.objs.size + 1 →
      (∀ c o, c ≠ z → c ≠ i1 → c ≠ i2 → s.heap.get? c = some o → h'.get? c = some o) → Q (.ref s.heap.objs.size) { s with heap := h', toks := tk }) :
    wpAny (model prog w) A (Builtin.«zip.__next__» ⟨[.ref z], []⟩) (fun fin s' => ∃ v, fin = .done (.ret v) ∧ Q v s') E s := by
  obtain ⟨hp, g, d, tk0, os⟩ := s
  show wpAny _ _ (field (.ref z) 2 >>= _) _ _ _
  refine wpAny_bind (wpAny_field hz rfl (x := .bool false) rfl ?_)
  show wpAny _ _ (field (.ref z) 3 >>= _) _ _ _
  refine wpAny_bind (wpAny_field hz rfl (x := .ref TI) rfl ?_)
  refine wpAny_bind (wpAny_seqItems hTI rfl ?_)
  show wpAny _ _ (Builtin.SmallTypes.ownedTupleIsFree (.ref z) >>= _) _ _ _
  refine wpAny_bind (free_no hz hal fun h0 hz0 hs0 => ?_)
  rw [if_neg (by decide)]
  show wpAny _ _ (forIn #[Value.ref i1, Value.ref i2] _ _ >>= _) _ _ _
  refine wpAny_bind ?_
  rw [← Array.forIn_toList]
  simp only [List.forIn_cons, List.forIn_nil]
  refine wpAny_bind (wpAny_bind (wpAny_holding ?_))
  show wpAny _ _ (Builtin.SmallTypes.nextOf (.ref i1) >>= _) _ _ ⟨h0, g, d, tk0, os⟩
  refine wpAny_bind (D1.item i _ _ _ hlt1 (D1.over st1 hs0 S.zf1) fun x1 p1 tk1 hx1 sn1 hp1 => wpAny_pure ?_)
  replace hp1 : Heap.SameBut i1 h0 p1 := hp1
  refine wpAny_pure ?_
  refine wpAny_bind (wpAny_bind (wpAny_holding ?_))
  show wpAny _ _ (Builtin.SmallTypes.nextOf (.ref i2) >>= _) _ _ ⟨p1, g, d, tk1, os⟩
  refine wpAny_bind (D2.item i _ _ _ hlt2 (D2.over (D2.over st2 hs0 S.zf2) hp1 S.sep1_2) fun x2 p2 tk2 hx2 sn2 hp2 => wpAny_pure ?_)
  replace hp2 : Heap.SameBut i2 p1 p2 := hp2
  refine wpAny_pure (wpAny_pure ?_)
  refine wpAny_bind (wpAny_newTuple (hsz := by show 2 ≤ sizeLine; decide) ?_)
  have hsz : p2.objs.size = hp.objs.size := by rw [hp2.1, hp1.1, hs0.1]
  refine wpAny_pure ⟨_, rfl, ?_⟩
  show Q (.ref p2.objs.size) ⟨p2.push { cls := .type "tuple", data := .seq #[x1, x2] }, g, d, tk2, os⟩
  have up : ∀ c o, p2.get? c = some o → (p2.push { cls := .type "tuple", data := .seq #[x1, x2] }).get? c = some o := fun c o e => Heap.get?_push_of_some _ e
  have hk : ∀ c o, c ≠ z → c ≠ i1 → c ≠ i2 → hp.get? c = some o → p2.get? c = some o := fun c o cz c1 c2 e => hp2.extBut _ _ c2 (hp1.extBut _ _ c1 (hs0.extBut _ _ cz e))
  have hT : IsTupOf2 (p2.push { cls := .type "tuple", data := .seq #[x1, x2] }) hp.objs.size x1 x2 := by
    rw [← hsz]
    exact Heap.get?_push_size _ rfl
  have hzz := up _ _ (hp2.extBut _ _ S.zi2 (hp1.extBut _ _ S.zi1 hz0))
  rw [hsz]
  exact hQ x1 x2 _ tk2 hx1 hx2 hzz (D1.frame _ _ _ (D1.over sn1 hp2 S.sep2_1) fun b _ o e => up b o e) (D2.frame _ _ _ sn2 fun b _ o e => up b o e) hT (by rw [Heap.size_push, hsz]) fun c o cz c1 c2 e => up c o (hk c o cz c1 c2 e)
theorem zipN_end {b : Value} {a : Int} {ta : Tok} {ob : Obj} {Q : PySem.Fin → Shared → Prop} (S : ZipSep2 z TI TO i1 i2 fp1 fp2) (D1 : Draws prog w A i1 fp1 n1 P1 St1) (D2 : Draws prog w A i2 fp2 n2 P2 St2)
    (hz : IsZipA s.heap z TI TO (.int a ta) b) (hal : s.heap.get? a.toNat = some ob) (hTI : IsTupOf2 s.heap TI (.ref i1) (.ref i2)) (st1 : St1 i s.heap) (st2 : St2 i s.heap) (hle1 : i ≤ n1) (hle2 : i ≤ n2) (hend : i = n1 ∨ i = n2)
    (hE : ∀ h' tk e, (∀ c o, c ≠ z → c ≠ TO → c ≠ i1 → c ≠ i2 → s.heap.get? c = some o → h'.get? c = some o) → (∃ o, h'.get? e = some o ∧ o.cls = .type "StopIteration") → E (.ref e) { s with heap := h', toks := tk }) :
    wpAny (model prog w) A (Builtin.«zip.__next__» ⟨[.ref z], []⟩) Q E s := by
  obtain ⟨hp, g, d, tk0, os⟩ := s
  show wpAny _ _ (field (.ref z) 2 >>= _) _ _ _
  refine wpAny_bind (wpAny_field hz rfl (x := .bool false) rfl ?_)
  show wpAny _ _ (field (.ref z) 3 >>= _) _ _ _
  refine wpAny_bind (wpAny_field hz rfl (x := .ref TI) rfl ?_)
  refine wpAny_bind (wpAny_seqItems hTI rfl ?_)
  show wpAny _ _ (Builtin.SmallTypes.ownedTupleIsFree (.ref z) >>= _) _ _ _
  refine wpAny_bind (free_no hz hal fun h0 hz0 hs0 => ?_)
  rw [if_neg (by decide)]
  show wpAny _ _ (forIn #[Value.ref i1, Value.ref i2] _ _ >>= _) _ _ _
  refine wpAny_bind ?_
  rw [← Array.forIn_toList]
  simp only [List.forIn_cons, List.forIn_nil]
  refine wpAny_bind (wpAny_bind (wpAny_holding ?_))
  show wpAny _ _ (Builtin.SmallTypes.nextOf (.ref i1) >>= _) _ _ ⟨h0, g, d, tk0, os⟩
  by_cases hlt1 : i < n1
  · refine wpAny_bind (D1.item i _ _ _ hlt1 (D1.over st1 hs0 S.zf1) fun x1 p1 tk1 hx1 sn1 hp1 => wpAny_pure ?_)
    replace hp1 : Heap.SameBut i1 h0 p1 := hp1
    refine wpAny_pure ?_
    have hi2 : i = n2 := by omega
    refine wpAny_bind (wpAny_bind (wpAny_holding ?_))
    show wpAny _ _ (Builtin.SmallTypes.nextOf (.ref i2) >>= _) _ _ ⟨p1, g, d, tk1, os⟩
    refine wpAny_bind (D2.done ⟨p1, g, d, tk1, os⟩ _ _ (by rw [← hi2]; exact (D2.over (D2.over st2 hs0 S.zf2) hp1 S.sep1_2)) fun q e hq he => ?_)
    replace hq : Heap.ExtBut i2 p1 q := hq
    exact hE q tk1 e (fun c o cz _ c1 c2 x => hq _ _ c2 (hp1.extBut _ _ c1 (hs0.extBut _ _ cz x))) he
  · have hi1 : i = n1 := by omega
    refine wpAny_bind (D1.done ⟨h0, g, d, tk0, os⟩ _ _ (by rw [← hi1]; exact (D1.over st1 hs0 S.zf1)) fun q e hq he => ?_)
    replace hq : Heap.ExtBut i1 h0 q := hq
    exact hE q tk0 e (fun c o cz _ c1 c2 x => hq _ _ c1 (hs0.extBut _ _ cz x)) he
end
section
variable {prog : Program} {w : World} {A : Around} {E : Value → Shared → Prop} {s : Shared} {z TI TO i1 i2 : Addr} {fp1 fp2 : List Addr} {n1 n2 i : Nat} {P1 P2 : Nat → Value → Prop} {St1 St2 : Nat → Heap → Prop}
/-- a zip that list() walks -/
structure ZL (z TI TO i1 i2 : Addr) (St1 St2 : Nat → Heap → Prop) (i : Nat) (h : Heap) : Prop where
  zz : IsZip h z TI TO .none ∨ ∃ (a : Int) (ta : Tok) (b : Value) (ob : Obj), IsZipA h z TI TO (.int a ta) b ∧ h.get? a.toNat = some ob ∧ a.toNat ≠ z ∧ a.toNat ≠ TO ∧ a.toNat ≠ i1 ∧ a.toNat ≠ i2
  ti : IsTupOf2 h TI (.ref i1) (.ref i2)
  to : ∃ a1 a2, IsTupOf2 h TO a1 a2
  s1 : St1 i h
  s2 : St2 i h
theorem zl_item {Q : Option Value → Shared → Prop} (S : ZipSep2 z TI TO i1 i2 fp1 fp2) (D1 : Draws prog w A.in1 i1 fp1 n1 P1 St1) (D2 : Draws prog w A.in1 i2 fp2 n2 P2 St2)
    (L : ZL z TI TO i1 i2 St1 St2 i s.heap) (hlt1 : i < n1) (hlt2 : i < n2)
    (hQ : ∀ x1 x2 h' tk, P1 i x1 → P2 i x2 → ZL z TI TO i1 i2 St1 St2 (i + 1) h' → IsTupOf2 h' s.heap.objs.size x1 x2 → h'.objs.size = s.heap.objs.size + 1 →
      (∀ c o, c ≠ z → c ≠ TO → c ≠ i1 → c ≠ i2 → s.heap.get? c = some o → h'.get? c = some o) → Q (some (.ref s.heap.objs.size)) { s with heap := h', toks := tk }) :
    wpAny (model prog w) A (pyNext (.ref z)) Q E s := by
  obtain ⟨zz, ti, ⟨a1, a2, to⟩, s1, s2⟩ := L
  rcases zz with hz | ⟨a, ta, b, ob, hz, hal, n1', n2', n3', n4'⟩
  · have lt : ∀ {c o}, s.heap.get? c = some o → s.heap.objs.size ≠ c := fun e => Nat.ne_of_gt (Heap.lt_size e)
    have l1 : s.heap.objs.size ≠ i1 := by obtain ⟨_, e⟩ := D1.live _ _ s1; exact lt e
    have l2 : s.heap.objs.size ≠ i2 := by obtain ⟨_, e⟩ := D2.live _ _ s2; exact lt e
    refine wpAny_pyNext_zipD2_item S D1 D2 hz ti to s1 s2 hlt1 hlt2 fun x1 x2 h' tk y1 y2 b1 b2 d1 d2 b5 b6 b7 => ?_
    refine hQ x1 x2 h' tk y1 y2 ⟨.inr ⟨_, _, _, _, b1, b5, lt hz, lt to, l1, l2⟩, b7 _ _ S.TIz S.TITO S.TIi1 S.TIi2 ti, ⟨_, _, b2⟩, d1, d2⟩ b5 b6 b7
  · have hT : s.TypeIs (.ref z) "zip" := ⟨_, hz, rfl⟩
    unfold pyNext
    exact wpAny_bind (wpAny_attempt (wpAny_callSpecial?_slot (name := Str.ofString "__next__") hT F.slot_zip_next
      (wpAny_call_entry F.slot_zip_next hT F.entry_zip_next
        (zipN_item S D1 D2 hz hal ti s1 s2 hlt1 hlt2 fun x1 x2 h' tk y1 y2 b1 d1 d2 b5 b6 b7 => wpAny_pure (hQ x1 x2 h' tk y1 y2 ⟨.inr ⟨a, ta, _, ob, b1, b7 _ _ n1' n3' n4' hal, n1', n2', n3', n4'⟩, b7 _ _ S.TIz S.TIi1 S.TIi2 ti, ⟨_, _, b7 _ _ S.TOz S.Ti1 S.Ti2 to⟩, d1, d2⟩ b5 b6 fun c o cz _ c1 c2 x => b7 c o cz c1 c2 x)) (F.args_zip_next_1 _))))
theorem zl_end {Q : Option Value → Shared → Prop} (S : ZipSep2 z TI TO i1 i2 fp1 fp2) (D1 : Draws prog w A.in1 i1 fp1 n1 P1 St1) (D2 : Draws prog w A.in1 i2 fp2 n2 P2 St2)
    (L : ZL z TI TO i1 i2 St1 St2 i s.heap) (hle1 : i ≤ n1) (hle2 : i ≤ n2) (hend : i = n1 ∨ i = n2)
    (hQ : ∀ h' tk, (∀ c o, c ≠ z → c ≠ TO → c ≠ i1 → c ≠ i2 → s.heap.get? c = some o → h'.get? c = some o) → Q none { s with heap := h', toks := tk }) :
    wpAny (model prog w) A (pyNext (.ref z)) Q E s := by
  obtain ⟨zz, ti, ⟨a1, a2, to⟩, s1, s2⟩ := L
  rcases zz with hz | ⟨a, ta, b, ob, hz, hal, n1', n2', n3', n4'⟩
  · exact wpAny_pyNext_zipD2_end S D1 D2 hz ti to s1 s2 hle1 hle2 hend hQ
  · have hT : s.TypeIs (.ref z) "zip" := ⟨_, hz, rfl⟩
    unfold pyNext
    refine wpAny_bind (wpAny_attempt (wpAny_callSpecial?_slot (name := Str.ofString "__next__") hT F.slot_zip_next
      (wpAny_call_entry F.slot_zip_next hT F.entry_zip_next (zipN_end S D1 D2 hz hal ti s1 s2 hle1 hle2 hend fun h' tk e hk he => ?_) (F.args_zip_next_1 _))))
    obtain ⟨o, ho, hc⟩ := he
    refine wpAny_bind (wpAny_isInstance (T := "StopIteration") (b := true) ⟨o, ho, hc⟩ isSubtype_stop ?_)
    exact wpAny_pure (hQ _ _ hk)
end
end DL
namespace DL
open PySem PySem.Spec PyProof.Rows L2
open PySem.Sem (wp)
section
variable {prog : Program} {w : World} {A : Around} {E : Value → Shared → Prop} {s : Shared} {z TI TO i1 i2 : Addr} {fp1 fp2 : List Addr} {n1 n2 n i : Nat} {P1 P2 : Nat → Value → Prop} {St1 St2 : Nat → Heap → Prop} {R : Result → Shared → Prop}
/-- the pairs that were made -/
def TsOk (P1 P2 : Nat → Value → Prop) (h : Heap) (Ts : List Addr) : Prop := ∀ j T, Ts[j]? = some T → ∃ x y, P1 j x ∧ P2 j y ∧ IsTupOf2 h T x y
theorem TsOk.kept {h h' : Heap} {Ts : List Addr} (t : TsOk P1 P2 h Ts) (k : ∀ T ∈ Ts, ∀ o, h.get? T = some o → h'.get? T = some o) : TsOk P1 P2 h' Ts := fun j T e => by
  obtain ⟨x, y, a, b, c⟩ := t j T e
  exact ⟨x, y, a, b, k T (List.mem_of_getElem? e) _ c⟩
theorem ZL.kept {h h' : Heap} (S : ZipSep2 z TI TO i1 i2 fp1 fp2) (D1 : Draws prog w A i1 fp1 n1 P1 St1) (D2 : Draws prog w A i2 fp2 n2 P2 St2) (L : ZL z TI TO i1 i2 St1 St2 i h) (k : ∀ c o, h.get? c = some o → h'.get? c = some o) : ZL z TI TO i1 i2 St1 St2 i h' := by
  obtain ⟨zz, ti, ⟨a1, a2, to⟩, s1, s2⟩ := L
  refine ⟨?_, k _ _ ti, ⟨a1, a2, k _ _ to⟩, D1.frame _ _ _ s1 fun b _ o e => k b o e, D2.frame _ _ _ s2 fun b _ o e => k b o e⟩
  rcases zz with hz | ⟨a, ta, b, ob, hz, hal, r⟩
  · exact .inl (k _ _ hz)
  · exact .inr ⟨a, ta, b, ob, k _ _ hz, k _ _ hal, r⟩
theorem ZL.upd {h h' : Heap} {l : Addr} (S : ZipSep2 z TI TO i1 i2 fp1 fp2) (D1 : Draws prog w A i1 fp1 n1 P1 St1) (D2 : Draws prog w A i2 fp2 n2 P2 St2) (L : ZL z TI TO i1 i2 St1 St2 i h) (hb : Heap.SameBut l h h') (lz : l ≠ z) (lI : l ≠ TI) (lO : l ≠ TO) (l1 : l ∉ fp1) (l2 : l ∉ fp2) (la : ∀ a o, h.get? a = some o → o.cls = .type "list" → True)
    (hl : ∃ xs c, h.get? l = some { cls := .type "list", dict := none, data := .seq xs c, slots := #[] }) (hl' : ∃ o, h'.get? l = some o) : ZL z TI TO i1 i2 St1 St2 i h' := by
  obtain ⟨zz, ti, ⟨a1, a2, to⟩, s1, s2⟩ := L
  refine ⟨?_, hb.extBut _ _ (Ne.symm lI) ti, ⟨a1, a2, hb.extBut _ _ (Ne.symm lO) to⟩, D1.frame _ _ _ s1 fun b hbb o e => hb.extBut _ _ (fun q => l1 (q ▸ hbb)) e, D2.frame _ _ _ s2 fun b hbb o e => hb.extBut _ _ (fun q => l2 (q ▸ hbb)) e⟩
  rcases zz with hz | ⟨a, ta, b, ob, hz, hal, r⟩
  · exact .inl (hb.extBut _ _ (Ne.symm lz) hz)
  · by_cases e : a.toNat = l
    · obtain ⟨o, ho⟩ := hl'
      exact .inr ⟨a, ta, b, o, hb.extBut _ _ (Ne.symm lz) hz, by rw [e]; exact ho, r⟩
    · exact .inr ⟨a, ta, b, ob, hb.extBut _ _ (Ne.symm lz) hz, hb.extBut _ _ e hal, r⟩
theorem zl_loop (S : ZipSep2 z TI TO i1 i2 fp1 fp2) (D1 : Draws prog w A.in1.in1 i1 fp1 n1 P1 St1) (D2 : Draws prog w A.in1.in1 i2 fp2 n2 P2 St2) (hn1 : n ≤ n1) (hn2 : n ≤ n2) (hend : n = n1 ∨ n = n2) (hn : n ≤ sizeLine) (l : Addr) (res : Value) (base : Nat)
    (lz : l ≠ z) (lI : l ≠ TI) (lO : l ≠ TO) (l1 : l ∉ fp1) (l2 : l ∉ fp2) (h0 : Heap) (hz0 : z < base) (hO0 : TO < base) (h10 : i1 < base) (h20 : i2 < base) (hl0 : l < base) :
    ∀ (k i : Nat) (s : Shared) (acc : Array Value) (c : Nat) (Ts : List Addr), n - i = k → i ≤ n → ZL z TI TO i1 i2 St1 St2 i s.heap → s.heap.get? l = some { cls := .type "list", dict := none, data := .seq acc c, slots := #[] } →
    acc.toList = Ts.map Value.ref → Ts.length = i → TsOk P1 P2 s.heap Ts → Ts.Nodup → (∀ T ∈ Ts, base ≤ T ∧ T < s.heap.objs.size) → base ≤ s.heap.objs.size → (∀ c o, c ≠ z → c ≠ TO → c ≠ i1 → c ≠ i2 → c ≠ l → h0.get? c = some o → s.heap.get? c = some o) →
    (∀ h' tk acc' c' Ts', h'.get? l = some { cls := .type "list", dict := none, data := .seq acc' c', slots := #[] } → acc'.toList = Ts'.map Value.ref → Ts'.length = n → TsOk P1 P2 h' Ts' → Ts'.Nodup → (∀ T ∈ Ts', base ≤ T) →
      (∀ c o, c ≠ z → c ≠ TO → c ≠ i1 → c ≠ i2 → c ≠ l → h0.get? c = some o → h'.get? c = some o) → R (.ok (.ret res)) { s with heap := h', toks := tk }) →
    codeAny (model prog w) A (.builtin "list.extend.loop" ⟨[.ref l, .ref z, res], []⟩) R s := by
  have hls : ∀ {c : Addr}, base ≤ c → c ≠ z ∧ c ≠ TO ∧ c ≠ i1 ∧ c ≠ i2 ∧ c ≠ l := fun h => ⟨Nat.ne_of_gt (Nat.lt_of_lt_of_le hz0 h), Nat.ne_of_gt (Nat.lt_of_lt_of_le hO0 h), Nat.ne_of_gt (Nat.lt_of_lt_of_le h10 h), Nat.ne_of_gt (Nat.lt_of_lt_of_le h20 h), Nat.ne_of_gt (Nat.lt_of_lt_of_le hl0 h)⟩
  have l1' : l ≠ i1 := fun e => l1 (e ▸ S.mem1)
  have l2' : l ≠ i2 := fun e => l2 (e ▸ S.mem2)
  intro k
  induction k with
  | zero =>
    intro i s acc c Ts hk hi L hS ha ht hT hnd hb hbs hkp hR
    have hin : i = n := by omega
    subst hin
    refine codeAny_builtin F.entry_extend_loop ?_
    rw [Around.under_plainId F.plain_extend_loop _]
    show wpAny _ A.in1 (pyNext (.ref z) >>= _) _ _ s
    refine wpAny_bind (zl_end S D1 D2 L hn1 hn2 hend fun h' tk hk' => ?_)
    refine wpAny_pure (hR h' tk acc c Ts (hk' l _ lz lO l1' l2' hS) ha ht (hT.kept fun T hT o e => ?_) hnd (fun T hT => (hb T hT).1) fun c o a b d e f g => hk' c o a b d e (hkp c o a b d e f g))
    obtain ⟨a, b, d, e', _⟩ := hls (hb T hT).1
    exact hk' T o a b d e' e
  | succ k ih =>
    intro i s acc c Ts hk hi L hS ha ht hT hnd hb hbs hkp hR
    have hlt : i < n := by omega
    refine codeAny_builtin F.entry_extend_loop ?_
    rw [Around.under_plainId F.plain_extend_loop _]
    show wpAny _ A.in1 (pyNext (.ref z) >>= _) _ _ s
    refine wpAny_bind (zl_item S D1 D2 L (by omega) (by omega) fun x1 x2 h' tk y1 y2 L' hT' hsz hk' => ?_)
    have hS' := hk' l _ lz lO l1' l2' hS
    show wpAny _ A.in1 (updateSeq l (·.push _) >>= _) _ _ _
    refine wpAny_bind ?_
    have hasz : acc.size = i := by
      rw [← Array.length_toList, ha, List.length_map, ht]
    refine wpAny_updateSeq hS' rfl (wpAny_pure ⟨plainId_quiet F.plain_extend_loop _, ?_⟩) (by rw [hasz]; omega) (by show (acc.push _).size ≤ sizeLine + 1; rw [Array.size_push, hasz]; omega)
    have sb : Heap.SameBut l h' (h'.update l (Obj.mapSeq (·.push (Value.ref s.heap.objs.size)))) := Heap.SameBut.update ..
    have hnew := Heap.get?_update_self (Obj.mapSeq (·.push (Value.ref s.heap.objs.size))) hS' rfl
    have hTl := hls hbs
    refine ih (i + 1) _ (acc.push (.ref s.heap.objs.size)) _ (Ts ++ [s.heap.objs.size]) (by omega) hlt (L'.upd S D1 D2 sb lz lI lO l1 l2 (fun _ _ _ _ => trivial) ⟨_, _, hS'⟩ ⟨_, hnew⟩) hnew ?_ ?_ (fun j T e => ?_) ?_ (fun T hTm => ?_) ?_ (fun c o a b d e f g => ?_) fun h'' tk' acc' c' Ts' a b d e f g k' => hR h'' tk' acc' c' Ts' a b d e f g k'
    · rw [Array.toList_push, ha, List.map_append]
      rfl
    · rw [List.length_append, ht]
      rfl
    · by_cases hj : j < Ts.length
      · rw [List.getElem?_append_left hj] at e
        obtain ⟨x, y, a, b, c⟩ := hT j T e
        obtain ⟨q1, q2, q3, q4, q5⟩ := hls (hb T (List.mem_of_getElem? e)).1
        exact ⟨x, y, a, b, sb.extBut _ _ q5 (hk' _ _ q1 q2 q3 q4 c)⟩
      · rw [List.getElem?_append_right (by omega)] at e
        have hj1 : j = Ts.length := by
          have := (List.getElem?_eq_some_iff.mp e).1
          simp at this
          omega
        subst hj1
        simp at e
        subst e
        rw [ht]
        exact ⟨x1, x2, y1, y2, sb.extBut _ _ hTl.2.2.2.2 hT'⟩
    · refine List.nodup_append.mpr ⟨hnd, by simp, fun a ha' b hb' e => ?_⟩
      rw [List.mem_singleton.mp hb'] at e
      have := (hb a ha').2
      rw [e] at this
      exact Nat.lt_irrefl _ this
    · show base ≤ T ∧ T < (h'.update l _).objs.size
      rw [sb.1, hsz]
      rcases List.mem_append.mp hTm with q | q
      · exact ⟨(hb T q).1, Nat.lt_succ_of_lt (hb T q).2⟩
      · rw [List.mem_singleton.mp q]
        exact ⟨hbs, Nat.lt_succ_self _⟩
    · show base ≤ (h'.update l _).objs.size
      rw [sb.1, hsz]
      exact Nat.le_succ_of_le hbs
    · exact sb.extBut _ _ f (hk' _ _ a b d e (hkp c o a b d e f g))
theorem zip_no_len : typeLookup (.type "zip") "__len__" = pure none := by rw [typeLookup_type, builtinLookup_eq_fast]; kernel_rfl
theorem zip_no_hint : typeLookup (.type "zip") "__length_hint__" = pure none := by rw [typeLookup_type, builtinLookup_eq_fast]; kernel_rfl
theorem ZL.ty (L : ZL z TI TO i1 i2 St1 St2 i s.heap) : s.TypeIs (.ref z) "zip" := by
  rcases L.zz with hz | ⟨a, ta, b, ob, hz, _⟩
  · exact ⟨_, hz, rfl⟩
  · exact ⟨_, hz, rfl⟩
theorem ZL.iter {Q : Value → Shared → Prop} (L : ZL z TI TO i1 i2 St1 St2 i s.heap) (h : Q (.ref z) s) : wpAny (model prog w) A (pyIter (.ref z)) Q E s := by
  have hT := L.ty
  refine wpAny_pyIter_slot hT F.slot_zip_iter (wpAny_call_entry F.slot_zip_iter hT F.entry_zip_iter ?_ (F.args_zip_iter_1 _))
  show wpAny _ _ (ret (.ref z)) _ _ s
  exact wpAny_pure ⟨_, rfl, "zip", _, hT, F.slot_zip_next.lookup, h⟩
theorem list_of_zip {Q : Value → Shared → Prop} (S : ZipSep2 z TI TO i1 i2 fp1 fp2) (D1 : Draws prog w A.in1.in1.in1 i1 fp1 n1 P1 St1) (D2 : Draws prog w A.in1.in1.in1 i2 fp2 n2 P2 St2) (hn1 : n ≤ n1) (hn2 : n ≤ n2) (hend : n = n1 ∨ n = n2) (hn : n ≤ sizeLine)
    (L : ZL z TI TO i1 i2 St1 St2 0 s.heap) (hf : ∀ b, b ∈ z :: TI :: TO :: (fp1 ++ fp2) → b < s.heap.objs.size)
    (hQ : ∀ h' tk acc' c' Ts', h'.get? s.heap.objs.size = some { cls := .type "list", dict := none, data := .seq acc' c', slots := #[] } → acc'.toList = Ts'.map Value.ref → Ts'.length = n → TsOk P1 P2 h' Ts' → Ts'.Nodup → (∀ T ∈ Ts', s.heap.objs.size < T) →
      (∀ c o, c ≠ z → c ≠ TO → c ≠ i1 → c ≠ i2 → s.heap.get? c = some o → h'.get? c = some o) → Q (.ref s.heap.objs.size) { s with heap := h', toks := tk }) :
    wpAny (model prog w) A (call (.type "list") [.ref z]) Q E s := by
  have lt : ∀ b, b ∈ z :: TI :: TO :: (fp1 ++ fp2) → s.heap.objs.size ≠ b := fun b hb => Nat.ne_of_gt (hf b hb)
  have lz := lt z (by simp)
  have lI := lt TI (by simp)
  have lO := lt TO (by simp)
  have l1 : s.heap.objs.size ∉ fp1 := fun h => lt _ (by simp [h]) rfl
  have l2 : s.heap.objs.size ∉ fp2 := fun h => lt _ (by simp [h]) rfl
  refine callType_codes (Q₁ := fun obj s₁ => obj = .ref s.heap.objs.size ∧ s₁ = { s with heap := s.heap.push { cls := .type "list", data := .seq #[] } }) F.called_list (F.typeCall_list_1 _) F.entry_list_init
    (code_list_new _ ⟨rfl, rfl⟩) fun obj s₁ h₁ => ?_
  obtain ⟨rfl, rfl⟩ := h₁
  have hS : (s.heap.push { cls := .type "list", data := .seq #[] }).get? s.heap.objs.size = some { cls := .type "list", data := .seq #[] } := Heap.get?_push_size _ rfl
  refine ⟨⟨_, hS, rfl⟩, F.args_list_init_2 _ _, ?_⟩
  have L0 : ZL z TI TO i1 i2 St1 St2 0 (s.heap.push { cls := .type "list", data := .seq #[] }) := L.kept S D1 D2 fun c o e => Heap.get?_push_of_some _ e
  have hsz0 : (s.heap.push { cls := .type "list", data := .seq #[] }).objs.size = s.heap.objs.size + 1 := Heap.size_push ..
  generalize hl : s.heap.objs.size = l at *
  generalize hh : s.heap.push { cls := .type "list", data := .seq #[] } = h0 at *
  have k0 : ∀ c o, s.heap.get? c = some o → h0.get? c = some o := fun c o e => by
    rw [← hh]
    exact Heap.get?_push_of_some _ e
  show wpAny _ A.in1.in1 (do let old ← Builtin.List.listItems (.ref l); Builtin.List.listUpdate (.ref l) (fun _ => #[]); letGo old.toList.reverse; Builtin.List.listExtendWith (.ref l) (.ref z) .none) _ _ { s with heap := h0 }
  refine wpAny_bind ?_
  unfold Builtin.List.listItems
  refine wpAny_bind (wpAny_seqItems hS rfl (wpAny_pure ?_))
  show wpAny _ A.in1.in1 (updateSeq l (fun _ => #[]) >>= fun _ => letGo (#[] : Array Value).toList.reverse >>= fun _ => Builtin.List.listExtendWith (.ref l) (.ref z) .none) _ _ { s with heap := h0 }
  refine wpAny_bind (wpAny_updateSeq hS rfl ?_)
  have hS₂ := Heap.get?_update_self (Obj.mapSeq (fun _ => (#[] : Array Value))) hS rfl
  have sb1 : Heap.SameBut l h0 (h0.update l (Obj.mapSeq (fun _ => (#[] : Array Value)))) := Heap.SameBut.update ..
  have L1 := L0.upd S D1 D2 sb1 lz lI lO l1 l2 (fun _ _ _ _ => trivial) ⟨_, _, hS⟩ ⟨_, hS₂⟩
  generalize h0.update l (Obj.mapSeq (fun _ => (#[] : Array Value))) = hA at *
  refine wpAny_bind (wpAny_letGo ?_)
  unfold Builtin.List.listExtendWith
  have hT : Shared.TypeIs { s with heap := hA } (.ref z) "zip" := L1.ty
  refine wpAny_bind (wpAny_typeOf hT ?_)
  have e1 : Builtin.List.listSameRef (.ref l) (.ref z) = false := by simp [Builtin.List.listSameRef, lz]
  have e2 : (Value.type "zip" == Value.type "list") = false := by decide
  have e3 : (Value.type "zip" == Value.type "tuple") = false := by decide
  simp only [e1, e2, e3, Bool.or_false, Bool.false_eq_true, if_false]
  refine wpAny_bind (ZL.iter (s := { s with heap := hA }) L1 ?_)
  refine wpAny_bind (wpAny_holding ?_)
  unfold Builtin.List.listLengthHint
  refine wpAny_bind (wpAny_specialOf hT zip_no_len ?_)
  show wpAny _ A.in1.in1 (specialOf (Value.ref z) (Str.ofString "__length_hint__") >>= _) _ _ _
  refine wpAny_bind (wpAny_specialOf hT zip_no_hint ?_)
  refine wpAny_pure ?_
  show wpAny _ A.in1.in1 (rule "list.extend.makes-room" >>= fun _ => Builtin.List.listTouch (.ref l) >>= fun _ =>
    again (.builtin "list.extend.loop" ⟨[.ref l, .ref z, .none], []⟩)) _ _ _
  refine wpAny_bind (wpAny_rule ?_)
  refine wpAny_bind ?_
  show wpAny _ A.in1.in1 (updateSeq l (·.push .none) >>= fun _ => updateSeq l (·.pop)) _ _ _
  refine wpAny_bind (wpAny_updateSeq hS₂ rfl ?_)
  have hS₃ := Heap.get?_update_self (Obj.mapSeq (·.push Value.none)) hS₂ rfl
  have sb2 : Heap.SameBut l hA (hA.update l (Obj.mapSeq (·.push Value.none))) := Heap.SameBut.update ..
  have L2 := L1.upd S D1 D2 sb2 lz lI lO l1 l2 (fun _ _ _ _ => trivial) ⟨_, _, hS₂⟩ ⟨_, hS₃⟩
  generalize hA.update l (Obj.mapSeq (·.push Value.none)) = hB at *
  refine wpAny_updateSeq (hz := by seq_fits) hS₃ rfl ?_
  have hS₄ := Heap.get?_update_self (Obj.mapSeq (·.pop)) hS₃ rfl
  have sb3 : Heap.SameBut l hB (hB.update l (Obj.mapSeq (·.pop))) := Heap.SameBut.update ..
  have L3 := L2.upd S D1 D2 sb3 lz lI lO l1 l2 (fun _ _ _ _ => trivial) ⟨_, _, hS₃⟩ ⟨_, hS₄⟩
  generalize hB.update l (Obj.mapSeq (·.pop)) = hC at *
  have hszC : hC.objs.size = l + 1 := by rw [sb3.1, sb2.1, sb1.1]; exact hsz0
  have kC : ∀ c o, c ≠ l → h0.get? c = some o → hC.get? c = some o := fun c o e x => sb3.extBut _ _ e (sb2.extBut _ _ e (sb1.extBut _ _ e x))
  refine wpAny_pure ⟨plainId_quiet F.plain_extend_loop _, zl_loop S D1 D2 hn1 hn2 hend hn l .none (l + 1) lz lI lO l1 l2 h0 ?_ ?_ ?_ ?_ ?_ n 0 { s with heap := hC } #[] _ [] rfl (Nat.zero_le _) L3 hS₄ rfl rfl (fun j T e => by simp at e) .nil (fun T h => nomatch h) (by show l + 1 ≤ hC.objs.size; rw [hszC]; exact Nat.le_refl _) (fun c o _ _ _ _ e x => kC c o e x) fun h' tk acc' c' Ts' a1 a2 a3 a4 a5 a6 a7 => ?_⟩
  · exact Nat.lt_succ_of_lt (hf z (by simp))
  · exact Nat.lt_succ_of_lt (hf TO (by simp))
  · exact Nat.lt_succ_of_lt (hf i1 (by simp [S.mem1]))
  · exact Nat.lt_succ_of_lt (hf i2 (by simp [S.mem2]))
  · exact Nat.lt_succ_self _
  · refine ⟨rfl, hQ h' tk acc' c' Ts' a1 a2 a3 a4 a5 a6 fun c o b1 b2 b3 b4 e => a7 c o b1 b2 b3 b4 (fun q => ?_) (k0 c o e)⟩
    have := Heap.lt_size e
    rw [hl, q] at this
    exact Nat.lt_irrefl _ this
end
end DL
namespace DL
open PySem PySem.Spec PyProof.Rows L2
open PySem.Sem (wp)
/-- pairs laid at Ts -/
def addT (H : Hp) : List Addr → List (Nat × V) → Hp
  | T :: Ts, (c, y) :: r => addT (upd H T (.tup [.str ⟨#[c]⟩, y])) Ts r
  | _, _ => H
section
variable {X : Cx} {pins : List (Addr × Obj)} {σ : L2.St} {s : Shared}
theorem addT_inv {h' : Heap} : ∀ {Ts : List Addr} {zs : List (Nat × V)} {H : Hp} {G : Heap}, Inv X pins σ H { s with heap := G } → (∀ b o, G.get? b = some o → h'.get? b = some o) → Ts.Nodup → Ts.length = zs.length → (∀ T ∈ Ts, G.get? T = none ∧ H T = none) →
    (∀ (j : Nat) (T : Addr) (z : Nat × V), Ts[j]? = some T → zs[j]? = some z → ∃ t u, RelV z.2 u ∧ IsTupOf2 h' T (.str ⟨#[z.1]⟩ t) u) →
    ∃ G' : Heap, Inv X pins σ (addT H Ts zs) { s with heap := G' } ∧ (∀ b o, G'.get? b = some o → h'.get? b = some o) ∧ (∀ b, b ∉ Ts → (G.get? b = none → G'.get? b = none) ∧ addT H Ts zs b = H b)
  | [], [], H, G, I, k, _, _, _, _ => ⟨G, I, k, fun b _ => ⟨id, rfl⟩⟩
  | T :: Ts, (c, y) :: zs, H, G, I, k, hn, hl, hf, hv => by
    obtain ⟨t, u, ru, hT⟩ := hv 0 T (c, y) rfl rfl
    obtain ⟨f1, f2⟩ := hf T List.mem_cons_self
    classical
    obtain ⟨G1, g1, g2⟩ := restrict h' fun b => decide ((∃ o, G.get? b = some o) ∨ b = T)
    have k1 : ∀ b o, G.get? b = some o → G1.get? b = some o := fun b o e => by
      rw [g1 b (decide_eq_true (.inl ⟨o, e⟩))]
      exact k b o e
    have kT : IsTupOf2 G1 T (.str ⟨#[c]⟩ t) u := by
      show G1.get? T = _
      rw [g1 T (decide_eq_true (.inr rfl))]
      exact hT
    have k2 : ∀ b o, G1.get? b = some o → h'.get? b = some o := fun b o e => by
      by_cases q : (∃ o, G.get? b = some o) ∨ b = T
      · rw [g1 b (decide_eq_true q)] at e
        exact e
      · rw [g2 b (decide_eq_false q)] at e
        cases e
    have I1 : Inv X pins σ (upd H T (.tup [.str ⟨#[c]⟩, y])) { s with heap := G1 } :=
      Inv.laidN (s := { s with heap := G }) (t' := s.toks) I k1 f1 f2 ⟨by show 2 ≤ sizeLine; decide, [.str ⟨#[c]⟩ t, u], .cons ⟨t, rfl⟩ (.cons ru .nil), ⟨_, kT, rfl, _, rfl⟩⟩
    have hn' := List.nodup_cons.mp hn
    have nT : ∀ T' ∈ Ts, T' ≠ T := fun T' h e => hn'.1 (e ▸ h)
    have hfr : ∀ T' ∈ Ts, G1.get? T' = none ∧ upd H T (.tup [.str ⟨#[c]⟩, y]) T' = none := fun T' h => by
      refine ⟨g2 T' (decide_eq_false fun z => ?_), ?_⟩
      · rcases z with ⟨o, z⟩ | z
        · rw [(hf T' (List.mem_cons_of_mem _ h)).1] at z
          cases z
        · exact nT T' h z
      · rw [upd_ne (nT T' h)]
        exact (hf T' (List.mem_cons_of_mem _ h)).2
    obtain ⟨G', a, b, d⟩ := addT_inv I1 k2 hn'.2 (by simpa using hl) hfr fun j T' z e1 e2 => hv (j + 1) T' z (by simpa using e1) (by simpa using e2)
    refine ⟨G', a, b, fun q hq => ?_⟩
    have q1 : q ≠ T := fun e => hq (by simp [e])
    have q2 : q ∉ Ts := fun e => hq (List.mem_cons_of_mem _ e)
    obtain ⟨d1, d2⟩ := d q q2
    refine ⟨fun e => d1 (g2 q (decide_eq_false fun z => ?_)), ?_⟩
    · rcases z with ⟨o, z⟩ | z
      · rw [e] at z
        cases z
      · exact q1 z
    · show addT (upd H T (.tup [.str ⟨#[c]⟩, y])) Ts zs q = H q
      rw [d2, upd_ne q1]
  | [], _ :: _, _, _, _, _, _, hl, _, _ => by cases hl
  | _ :: _, [], _, _, _, _, _, hl, _, _ => by cases hl
theorem vals_refs : ∀ Ts : List Addr, Vals (Ts.map V.ref) (Ts.map Value.ref)
  | [] => .nil
  | _ :: Ts => .cons rfl (vals_refs Ts)
theorem lt5 (m b q : Nat) (hb : b < m) (h : q = m + 4 ∨ q = m + 2 ∨ q = m + 3 ∨ q = m ∨ q = m + 1 ∨ q = b) : q < m + 5 := by omega
theorem ne4 (m q : Nat) (h : q < m) : q ≠ m + 4 ∧ q ≠ m + 3 ∧ q ≠ m ∧ q ≠ m + 1 := by omega
theorem sepN (m b : Nat) (h : b < m) : ZipSep2 (m + 4) (m + 2) (m + 3) m (m + 1) [m] [m + 1, b] where
  TIz := Nat.ne_of_lt (by omega : m + 2 < m + 4)
  TOz := Nat.ne_of_lt (by omega : m + 3 < m + 4)
  TITO := Nat.ne_of_lt (by omega : m + 2 < m + 3)
  TIi1 := Nat.ne_of_gt (by omega : m < m + 2)
  mem1 := by simp
  zf1 := fun e => Nat.ne_of_gt (by omega : m < m + 4) (List.mem_singleton.mp e)
  Tf1 := fun e => Nat.ne_of_gt (by omega : m < m + 3) (List.mem_singleton.mp e)
  TIi2 := Nat.ne_of_gt (by omega : m + 1 < m + 2)
  mem2 := by simp
  zf2 := fun e => by
    rcases List.mem_cons.mp e with e | e
    · exact Nat.ne_of_gt (by omega : m + 1 < m + 4) e
    · exact Nat.ne_of_gt (by omega : b < m + 4) (List.mem_singleton.mp e)
  Tf2 := fun e => by
    rcases List.mem_cons.mp e with e | e
    · exact Nat.ne_of_gt (by omega : m + 1 < m + 3) e
    · exact Nat.ne_of_gt (by omega : b < m + 3) (List.mem_singleton.mp e)
  sep1_2 := fun e => by
    rcases List.mem_cons.mp e with e | e
    · exact Nat.ne_of_lt (by omega : m < m + 1) e
    · exact Nat.ne_of_gt (by omega : b < m) (List.mem_singleton.mp e)
  sep2_1 := fun e => Nat.ne_of_gt (by omega : m < m + 1) (List.mem_singleton.mp e)
def tListZip (K : PySem.W.Frag) (ta : TA) : TE := fun σ H Q => ta σ H fun vs H1 => ∃ (x : Str) (b : Addr) (ys : List V), vs = [.str x, .ref b] ∧ SqT K H1 b ys ∧ ys.length ≤ sizeLine ∧
  ∀ (L : Addr) (Ts : List Addr), Ts.length = (x.cps.toList.zip ys).length → Ts.Nodup → (∀ T ∈ Ts, H1 T = none) → L ∉ Ts → H1 L = none → Q (.ref L) (upd (addT H1 Ts (x.cps.toList.zip ys)) L (.lst (Ts.map .ref)))
theorem pe_listZip {e e2 : Expr} {ta : TA} {p0 p pos pos2 : Pos} (hc : X.calm = true) (hgl : Gl X "list") (hml : X.mg "list" = none) (hg : Gl X "zip") (hm : X.mg "zip" = none) (ha : PA X [e, e2] ta)
    (hs1 : starEach [.Call (.Name "zip" p) [e, e2] [] pos2] X.env = (false, eval (.Call (.Name "zip" p) [e, e2] [] pos2) X.env) :: starEach [] X.env := by rfl)
    (hp1 : (backTo pos (starEach [] X.env)).any (·.1) = false := by rfl) (hs : starEach [e, e2] X.env = (false, eval e X.env) :: starEach [e2] X.env := by rfl) (hpl : (backTo pos2 (starEach [e2] X.env)).any (·.1) = false := by rfl) :
    PE X (.Call (.Name "list" p0) [.Call (.Name "zip" p) [e, e2] [] pos2] [] pos) (tListZip X.K ta) := by
  refine ⟨fun pins s σ H Q I h => ?_⟩
  refine wpAny_Call_Name_kw (ld_blt I hgl hml boot_list ?_)
  refine PyProof.Rows.callWith_type1 ?_ hs1 hp1
  rw [hs1]
  show wpAny _ _ (spliced ((false, eval (.Call (.Name "zip" p) [e, e2] [] pos2) X.env) :: backTo pos (starEach [] X.env))) _ _ s
  refine Calls.spliced_cons ?_
  refine wpAny_Call_Name_kw (ld_blt I hg hm boot_zip ?_)
  refine PyProof.Rows.callWith_type1 (thn (ha.run pos2 pins s σ H _ I h) fun us s1 ⟨vs, H1, I1, r1, q1⟩ => ?_) hs hpl
  obtain ⟨x, b, ys, ex, hqy, hz, q1⟩ := q1
  subst ex
  cases r1 with
  | cons r rr =>
    cases rr with
    | cons r' rr =>
      cases rr
      obtain ⟨tk0, rfl⟩ := r
      cases r'
      obtain ⟨its, rv, p1, _⟩ := I1.tuple hqy
      have hb : b < s1.heap.objs.size := by
        obtain ⟨o, ho, _⟩ := p1
        exact Heap.lt_size ho
      refine zip_begins2 (begins_text x tk0) (begins_tuple b its.toArray) trivial p1 fun h' hZ hTI hTO h1 h2 hsz hk => ?_
      refine Calls.spliced_nil ?_
      have hlen : its.length = ys.length := rv.length.symm
      have hh : X.A.in1.in1.in1.handled = none := I1.ok.hd hc
      have S := sepN s1.heap.objs.size b hb
      have hxs : x.cps.toList.length = x.cps.size := Array.length_toList
      have hI : Heap.IsStrIter h' s1.heap.objs.size (strIterType x) x tk0 0 := ⟨_, h1, rfl, rfl⟩
      have hT2 : Heap.IsTupleIter h' (s1.heap.objs.size + 1) b 0 := ⟨_, h2, rfl, rfl⟩
      have p2 : Heap.IsTuple h' b its.toArray := let ⟨o, ho, r⟩ := p1; ⟨o, hk b o ho, r⟩
      have nb : (b : Addr) ≠ (s1.heap.objs.size + 1 : Nat) := Nat.ne_of_lt (Nat.lt_succ_of_lt hb)
      refine list_of_zip (s := { s1 with heap := h' }) (n := min x.cps.size its.toArray.size) S (.text hh _ x tk0) (.tuple hh _ b nb its.toArray) (Nat.min_le_left _ _) (Nat.min_le_right _ _) (by omega) ?_ ⟨.inl hZ, hTI, ⟨_, _, hTO⟩, hI, hT2, p2⟩ (fun c hcm => ?_) fun hF tk acc c Ts a1 a2 a3 a4 a5 a6 a7 => ?_
      · have : its.toArray.size = ys.length := by simp [hlen]
        omega
      · show c < h'.objs.size
        rw [hsz]
        exact lt5 s1.heap.objs.size b c hb (by simpa using hcm)
      · have kF : ∀ q o, s1.heap.get? q = some o → hF.get? q = some o := fun q o e => by
          obtain ⟨b1, b2, b3, b4⟩ := ne4 s1.heap.objs.size q (Heap.lt_size e)
          exact a7 q o b1 b2 b3 b4 (hk q o e)
        have hTs : ∀ T ∈ Ts, s1.heap.objs.size ≤ T := fun T hT => by
          have := a6 T hT
          have this : h'.objs.size < T := this
          rw [hsz] at this
          exact Nat.le_of_lt (Nat.lt_of_le_of_lt (Nat.le_add_right _ _) this)
        have fr : ∀ q : Addr, s1.heap.objs.size ≤ q → s1.heap.get? q = none := fun q hq => by
          cases e : s1.heap.get? q with
          | none => rfl
          | some o => exact absurd (Heap.lt_size e) (Nat.not_lt.mpr hq)
        have hzl : Ts.length = (x.cps.toList.zip ys).length := by
          rw [a3, List.length_zip, hxs]
          simp [hlen]
        have hLs : s1.heap.objs.size ≤ h'.objs.size := by
          rw [hsz]
          exact Nat.le_add_right _ _
        have hLT : h'.objs.size ∉ Ts := fun q => Nat.lt_irrefl _ (a6 _ q)
        obtain ⟨G', g1, g2, g3⟩ := addT_inv (X := X) (pins := pins) (σ := σ) (s := s1) (h' := hF) (Ts := Ts) (zs := x.cps.toList.zip ys) (H := H1) (G := s1.heap) I1 kF a5 hzl (fun T hT => ⟨fr T (hTs T hT), I1.hok.fresh (hTs T hT)⟩) fun j T z e1 e2 => by
          obtain ⟨u1, u2, ⟨c1, t1, f1, rfl⟩, f2, f3⟩ := a4 j T e1
          rw [List.getElem?_zip_eq_some] at e2
          obtain ⟨e3, e4⟩ := e2
          obtain ⟨u, hu, ru⟩ := rv.get e4
          have eu : u2 = u := by
            have f2 : its.toArray[j]? = some u2 := f2
            rw [List.getElem?_toArray, hu] at f2
            exact (Option.some.inj f2).symm
          have ec : c1 = z.1 := by
            have f1 : x.cps[j]? = some c1 := f1
            rw [← Array.getElem?_toList, e3] at f1
            exact (Option.some.inj f1).symm
          subst eu ec
          exact ⟨t1, u2, ru, f3⟩
        obtain ⟨d1, d2⟩ := g3 h'.objs.size hLT
        have I2 := Inv.laidN (s := { s1 with heap := G' }) (h' := hF) (t' := tk) (a := h'.objs.size) (o := .lst (Ts.map .ref)) g1 g2 (d1 (fr _ hLs)) (by rw [d2]; exact I1.hok.fresh hLs) ⟨?_, Ts.map Value.ref, c, ?_, ?_⟩
        · exact ⟨.ref h'.objs.size, _, I2, rfl, q1 h'.objs.size Ts hzl a5 (fun T hT => I1.hok.fresh (hTs T hT)) hLT (I1.hok.fresh hLs)⟩
        · rw [List.length_map, hzl, List.length_zip]
          exact Nat.le_trans (Nat.min_le_right _ _) hz
        · exact vals_refs Ts
        · rw [← a2]
          exact a1
end
end DL
namespace DL
open PySem L2
section
variable {K : Fr} {B : Bs} {G : En} {S : St} {F H : Hp} {P : Po} {ta : TA}
def pairD (p : Nat × PyData) : PyData := .tuple [zD [p.1], p.2]
theorem addT_ne : ∀ {Ts : List Addr} {zs : List (Nat × V)} {H : Hp} {b : Addr}, b ∉ Ts → addT H Ts zs b = H b
  | [], _, _, _, _ => by unfold addT; rfl
  | _ :: _, [], _, _, _ => by unfold addT; rfl
  | T :: Ts, (c, y) :: zs, H, b, h => by
    show addT (upd H T (.tup [.str ⟨#[c]⟩, y])) Ts zs b = H b
    rw [addT_ne fun q => h (List.mem_cons_of_mem _ q), upd_ne fun q => h (by simp [q])]
theorem Iv.addT : ∀ {Ts : List Addr} {cs : List Nat} {ys : List V} {ds : List PyData} {F H : Hp}, Iv K B G S F H → DqAll K F ys ds → Ts.Nodup → Ts.length = (cs.zip ys).length → (∀ T ∈ Ts, H T = none) →
    Iv K B G S (addT F Ts (cs.zip ys)) (addT H Ts (cs.zip ys)) ∧ Ex F (addT F Ts (cs.zip ys)) ∧ DqAll K (addT F Ts (cs.zip ys)) (Ts.map .ref) ((cs.zip ds).map pairD)
  | [], [], _, _, F, H, I, _, _, _, _ => by
    simp only [List.zip_nil_left, List.map_nil]
    exact ⟨I, Ex.refl F, .nil⟩
  | [], c :: cs, [], _, F, H, I, .nil, _, _, _ => by
    simp only [List.zip_nil_right, List.map_nil]
    exact ⟨I, Ex.refl F, .nil⟩
  | T :: Ts, c :: cs, _, _, F, H, I, .cons (v := y) (vs := ys) (d := d) (ds := ds) hy hys, hn, hl, hf => by
    have hn' := List.nodup_cons.mp hn
    have fT := hf T List.mem_cons_self
    have I1 := I.newF fT (.tup [.str ⟨#[c]⟩, y])
    have e1 : Ex F (upd F T (.tup [.str ⟨#[c]⟩, y])) := Ex.new (I.fnone fT)
    obtain ⟨a, b, e⟩ := Iv.addT (cs := cs) I1 (da_mono e1 hys) hn'.2 (by simpa using hl) fun T' h => by
      have hne : T' ≠ T := fun z => hn'.1 (z ▸ h)
      rw [upd_ne hne]
      exact hf T' (List.mem_cons_of_mem _ h)
    refine ⟨a, e1.trans b, .cons (.tup (b _ _ upd_same) (.cons (.str _) (.cons (dp_mono (e1.trans b) hy) .nil))) e⟩
  | [], _ :: _, _, _, _, _, _, .cons _ _, _, hl, _ => by simp at hl
  | _ :: _, [], _, _, _, _, _, _, _, hl, _ => by simp at hl
  | _ :: _, _ :: _, [], _, _, _, _, _, _, hl, _ => by simp at hl
theorem dw_listZip (h : DA K B G ta fun G1 ws => ∃ (z : List Nat) (ds : List PyData), ws = [.d (zD z), .d (.tuple ds)] ∧ ds.length ≤ sizeLine ∧ P G1 (.fr (.o none ((z.zip ds).map pairD)))) : DW K B G (tListZip K ta) P := fun S F H Q I k => by
  refine h S F H _ I fun vs F1 H1 G1 ws e1 I1 hv ⟨z, ds, hw, hl, q⟩ => ?_
  subst hw
  cases hv with
  | cons h1 r =>
    cases r with
    | cons h2 r =>
      cases r
      obtain rfl := dp_str h1
      obtain ⟨b, ys, rfl, hb, ha⟩ := dp_tup h2
      have ez : (mkS z).cps.toList = z := by simp [mkS]
      refine ⟨mkS z, b, ys, rfl, SqT.of (I1.ex _ _ hb), by rw [da_len ha]; exact hl, fun L Ts hTl hTn hTf hLT hL => ?_⟩
      rw [ez] at hTl ⊢
      obtain ⟨I2, e2, hd⟩ := I1.addT ha hTn hTl hTf
      refine k _ _ _ G1 (.fr (.o none ((z.zip ds).map pairD))) (e1.trans e2) (I2.newL (by rw [addT_ne hLT]; exact hL) hd) q
end
end DL
namespace DL
open PySem L2
section
variable {K : Fr} {B : Bs} {G : En} {P : Po} {td ty tx te tk tv : TE} {S : St} {F H : Hp}
/-- d.get(k), d an own dict -/
theorem dw_get1K (h : DW K B G td fun G1 r1 => PW r1 fun w1 => ∃ i, w1 = .sl i ∧ (∃ qq kvs, G1[i]? = some (.k qq kvs)) ∧ DW K B G1 ty fun G2 r2 => PW r2 fun w2 => ∃ qq ks kvs, w2 = .d (keyD ks) ∧ G2[i]? = some (.k qq kvs) ∧ P G2 (.p (.d ((lkG kvs ks).getD .none)))) : DW K B G (tDGet1 td ty) P := fun S F H Q I k => by
  show td S H fun x H1 => ∃ a, x = .ref a ∧ IsD H1 a ∧ ty S H1 fun y H2 => ∃ o, DGet H2 a y o ∧ Q (o.getD .non) H2
  refine dw_run (k' := fun G1 w1 => ∃ i, w1 = .sl i ∧ (∃ qq kvs, G1[i]? = some (.k qq kvs)) ∧ DW K B G1 ty fun G2 r2 => PW r2 fun w2 => ∃ qq ks kvs, w2 = .d (keyD ks) ∧ G2[i]? = some (.k qq kvs) ∧ P G2 (.p (.d ((lkG kvs ks).getD .none)))) h I fun v1 F1 H1 G1 w1 e1 I1 a1 ⟨i, x1, ⟨q0, kv0, hi0⟩, q1⟩ => ?_
  subst x1
  obtain ⟨p, kw0, hS0, hp0, _, _⟩ := I1.dctK hi0
  have a1 : S[i]? = some (some v1) := a1
  rw [hS0] at a1
  cases a1
  refine ⟨p, rfl, .inl ⟨_, .inl hp0⟩, ?_⟩
  refine dw_run (k' := fun G2 w2 => ∃ qq ks kvs, w2 = .d (keyD ks) ∧ G2[i]? = some (.k qq kvs) ∧ P G2 (.p (.d ((lkG kvs ks).getD .none)))) q1 I1 fun v2 F2 H2 G2 w2 e2 I2 a2 ⟨qq, ks, kvs, x2, hi, q2⟩ => ?_
  subst x2
  obtain rfl := keyK_at a2
  obtain ⟨p', kws, hS, hp, hk, hv⟩ := I2.dctK hi
  rw [hS0] at hS
  cases hS
  refine ⟨_, DGet.k hp, ?_⟩
  obtain ⟨s1, s2⟩ := lkG_val (k := ks) hk hv
  cases e : lkG kvs ks with
  | none =>
    rw [e] at s1 q2
    have : valV kws ks = none := by
      cases z : valV kws ks with
      | none => rfl
      | some _ =>
        rw [z] at s1
        cases s1
    rw [this]
    exact ct_d (k.mono (e1.trans e2)) I2 .non q2
  | some d =>
    obtain ⟨v, z1, z2⟩ := s2 d e
    rw [e] at q2
    rw [z1]
    exact ct_d (k.mono (e1.trans e2)) I2 z2 q2
/-- d.get(k), k a tuple -/
theorem dw_get1T (h : DW K B G td fun G1 r1 => PW r1 fun w1 => ∃ i, w1 = .sl i ∧ (∃ kvs, G1[i]? = some (.t kvs)) ∧ DW K B G1 ty fun G2 r2 => PW r2 fun w2 => ∃ ks kvs, w2 = .d (.tuple (ks.map keyD)) ∧ G2[i]? = some (.t kvs) ∧ P G2 (.p (.d ((lkD kvs ks).getD .none)))) : DW K B G (tDGet1 td ty) P := fun S F H Q I k => by
  show td S H fun x H1 => ∃ a, x = .ref a ∧ IsD H1 a ∧ ty S H1 fun y H2 => ∃ o, DGet H2 a y o ∧ Q (o.getD .non) H2
  refine dw_run (k' := fun G1 w1 => ∃ i, w1 = .sl i ∧ (∃ kvs, G1[i]? = some (.t kvs)) ∧ DW K B G1 ty fun G2 r2 => PW r2 fun w2 => ∃ ks kvs, w2 = .d (.tuple (ks.map keyD)) ∧ G2[i]? = some (.t kvs) ∧ P G2 (.p (.d ((lkD kvs ks).getD .none)))) h I fun v1 F1 H1 G1 w1 e1 I1 a1 ⟨i, x1, ⟨kv0, hi0⟩, q1⟩ => ?_
  subst x1
  obtain ⟨p, kw0, hS0, hp0, _, _⟩ := I1.dct hi0
  have a1 : S[i]? = some (some v1) := a1
  rw [hS0] at a1
  cases a1
  refine ⟨p, rfl, .inr ⟨_, .inl hp0⟩, ?_⟩
  refine dw_run (k' := fun G2 w2 => ∃ ks kvs, w2 = .d (.tuple (ks.map keyD)) ∧ G2[i]? = some (.t kvs) ∧ P G2 (.p (.d ((lkD kvs ks).getD .none)))) q1 I1 fun v2 F2 H2 G2 w2 e2 I2 a2 ⟨ks, kvs, x2, hi, q2⟩ => ?_
  subst x2
  obtain ⟨b, rfl, hb⟩ := key_at a2 I2.ex
  obtain ⟨p', kws, hS, hp, hk, hv⟩ := I2.dct hi
  rw [hS0] at hS
  cases hS
  refine ⟨_, DGet.t hp hb, ?_⟩
  obtain ⟨s1, s2⟩ := lk_val (k := ks) hk hv
  cases e : lkD kvs ks with
  | none =>
    rw [e] at s1 q2
    have : valV kws ks = none := by
      cases z : valV kws ks with
      | none => rfl
      | some _ =>
        rw [z] at s1
        cases s1
    rw [this]
    exact ct_d (k.mono (e1.trans e2)) I2 .non q2
  | some d =>
    obtain ⟨v, z1, z2⟩ := s2 d e
    rw [e] at q2
    rw [z1]
    exact ct_d (k.mono (e1.trans e2)) I2 z2 q2
/-- the pairs of a display -/
def DPp (K : Fr) (B : Bs) (G : En) (trs : List (TE × TE)) (P : En → List (Key × PyData) → Prop) : Prop := ∀ S F H (Q : List (V × V) → Hp → Prop), Iv K B G S F H →
  (∀ (kws : List (Key × V)) F' H' G' (kvs : List (Key × PyData)), Ex F F' → Iv K B G' S F' H' → kws.map (·.1) = kvs.map (·.1) → DqAll K F' (kws.map (·.2)) (kvs.map (·.2)) → P G' kvs → Q (kws.map fun kv => (kV kv.1, kv.2)) H') → tPairs trs S H Q
theorem dpp_nil {P : En → List (Key × PyData) → Prop} (q : P G []) : DPp K B G [] P := fun S F H Q I k => k [] F H G [] (Ex.refl F) I rfl .nil q
theorem dpp_cons {trs : List (TE × TE)} {P : En → List (Key × PyData) → Prop} (h : DW K B G tk fun G1 r1 => PW r1 fun w1 => DW K B G1 tv fun G2 r2 => PW r2 fun w2 => ∃ k d, w1 = .d (keyD k) ∧ w2 = .d d ∧ DPp K B G2 trs fun G3 kvs => P G3 ((k, d) :: kvs)) : DPp K B G ((tk, tv) :: trs) P := fun S F H Q I kk => by
  show tk S H fun x H1 => tv S H1 fun y H2 => tPairs trs S H2 fun ps H3 => Q ((x, y) :: ps) H3
  refine dw_run (k' := fun G1 w1 => DW K B G1 tv fun G2 r2 => PW r2 fun w2 => ∃ k d, w1 = .d (keyD k) ∧ w2 = .d d ∧ DPp K B G2 trs fun G3 kvs => P G3 ((k, d) :: kvs)) h I fun v1 F1 H1 G1 w1 e1 I1 a1 q1 => ?_
  refine dw_run (k' := fun G2 w2 => ∃ k d, w1 = .d (keyD k) ∧ w2 = .d d ∧ DPp K B G2 trs fun G3 kvs => P G3 ((k, d) :: kvs)) q1 I1 fun v2 F2 H2 G2 w2 e2 I2 a2 ⟨ks, d, x1, x2, q2⟩ => ?_
  subst x1 x2
  obtain rfl := keyK_at (dp_mono e2 a1)
  refine q2 S F2 H2 _ I2 fun kws F3 H3 G3 kvs e3 I3 hk hv q3 => ?_
  exact kk ((ks, v2) :: kws) F3 H3 G3 ((ks, d) :: kvs) ((e1.trans e2).trans e3) I3 (by simp [hk]) (.cons (dp_mono e3 a2) hv) q3
def mergeG (kvs more : List (Key × PyData)) : List (Key × PyData) := more.foldl (fun acc kv => putG acc kv.1 kv.2) kvs
theorem mergeG_keys {K : Fr} {F : Hp} : ∀ {mw : List (Key × V)} {md : List (Key × PyData)} {kws : List (Key × V)} {kvs : List (Key × PyData)}, mw.map (·.1) = md.map (·.1) → DqAll K F (mw.map (·.2)) (md.map (·.2)) → kws.map (·.1) = kvs.map (·.1) → DqAll K F (kws.map (·.2)) (kvs.map (·.2)) →
    (mergeK kws mw).map (·.1) = (mergeG kvs md).map (·.1) ∧ DqAll K F ((mergeK kws mw).map (·.2)) ((mergeG kvs md).map (·.2))
  | [], [], _, _, _, _, h3, h4 => ⟨h3, h4⟩
  | (k, v) :: mw, (k', d) :: md, _, _, h1, h2, h3, h4 => by
    have h5 := List.cons.inj h1
    have ek : k = k' := h5.1
    subst ek
    cases h2 with
    | cons u1 u2 =>
      obtain ⟨a, b⟩ := putG_keys (k := k) h3 h4 u1
      exact mergeG_keys (mw := mw) (md := md) h5.2 u2 a b
/-- {k: v, ..} -/
theorem dw_dispN {trs : List (TE × TE)} (h : ∀ B', DPp K B' G trs fun G1 kvs => kvs.length ≤ 15 ∧ P G1 (.fr (.k none (mergeG [] kvs)))) : DW K B G (tDisp trs) P := fun S F H Q I k => by
  intro p hp
  obtain ⟨A0, mu, a0, _, I0, back⟩ := (I.newK hp).asideG (fun z => nomatch z)
  refine h _ S F _ _ I0 fun kws F2 H2 G2 kvs e2 I2 hk hv ⟨hl, q2⟩ => ?_
  obtain ⟨hD, J⟩ := back _ _ _ _ I2
  have hi : (G2 ++ [Sl.k none []])[G2.length]? = some (.k none []) := by simp
  have hlS : S.length = G2.length := I2.len
  have hS : (S ++ [some (V.ref p)])[G2.length]? = some (some (.ref p)) := by
    rw [← hlS]
    simp
  obtain ⟨p', kw0, z1, z2, z3, z4⟩ := J.dctK hi
  rw [hS] at z1
  cases z1
  have ek : kw0 = [] := by simpa using z3
  subst ek
  obtain ⟨m1, m2⟩ := mergeG_keys (kws := []) (kvs := []) hk hv rfl .nil
  refine ⟨z2, kws, rfl, by rw [← List.length_map (f := (·.1)), hk, List.length_map]; exact hl, ?_⟩
  have J2 : Iv K B ((G2 ++ [Sl.k none []]).set G2.length (.k none (mergeG [] kvs))) (S ++ [some (.ref p)]) F2 (upd H2 p (.dK (mergeK [] kws))) := J.mutG hi hS (fun A z => by
    obtain ⟨p', _, e, _, _, _, hA, _⟩ := z
    cases e
    exact hA) (fun z => nomatch z) fun A hA z => ⟨p, mergeK [] kws, rfl, upd_same, m1, m2, hA, fun _ z => nomatch z⟩
  have eG : (G2 ++ [Sl.k none []]).set G2.length (.k none (mergeG [] kvs)) = G2 ++ [.k none (mergeG [] kvs)] := by simp
  rw [eG] at J2
  exact k (.ref p) F2 _ G2 (.fr (.k none (mergeG [] kvs))) e2 J2 q2
end
end DL
namespace DL
open PySem L2
section
variable {K : Fr} {B : Bs} {G : En} {P : Po} {td ty tx te tk tv : TE} {S : St} {F H : Hp} {w1 : W}
theorem lkG_getD {kws : List (Key × V)} {kvs : List (Key × PyData)} {ks : Key} {v3 : V} {d : PyData} (hk : kws.map (·.1) = kvs.map (·.1)) (hv : DqAll K F (kws.map (·.2)) (kvs.map (·.2))) (hd : Dq K F v3 d) : Dq K F ((valV kws ks).getD v3) ((lkG kvs ks).getD d) := by
  obtain ⟨s1, s2⟩ := lkG_val (k := ks) hk hv
  cases e : lkG kvs ks with
  | none =>
    rw [e] at s1
    have : valV kws ks = none := by
      cases z : valV kws ks with
      | none => rfl
      | some _ =>
        rw [z] at s1
        cases s1
    rw [this]
    exact hd
  | some d' =>
    obtain ⟨v, z1, z2⟩ := s2 d' e
    rw [z1]
    exact z2
/-- {..}.get(k, x) -/
theorem dw_get2F (h : DW K B G td fun G1 r1 => ∃ kvs, r1 = .fr (.k none kvs) ∧ ∀ B', DW K B' G1 ty fun G2 r2 => PW r2 fun w2 => DW K B' G2 tx fun G3 r3 => PW r3 fun w3 => ∃ ks d, w2 = .d (keyD ks) ∧ w3 = .d d ∧ P G3 (.p (.d ((lkG kvs ks).getD d)))) : DW K B G (tDGet2 td ty tx) P := fun S F H Q I k => by
  show td S H fun x H1 => ∃ a, x = .ref a ∧ IsD H1 a ∧ ty S H1 fun y H2 => tx S H2 fun z H3 => ∃ o, DGet H3 a y o ∧ Q (o.getD z) H3
  refine h S F H _ I fun v F1 H1 G1 r1 e1 hr ⟨kvs, hr1, q1⟩ => ?_
  subst hr1
  have J1 : Iv K B (G1 ++ [.k none kvs]) (S ++ [some v]) F1 H1 := hr
  have lS : S.length = G1.length := J1.drop.len
  have gl : ∀ {G : En}, (G ++ [Sl.k none kvs])[G.length]? = some (.k none kvs) := by simp
  have sl : ∀ {G : En}, S.length = G.length → (S ++ [some v])[G.length]? = some (some v) := fun e => by
    rw [← e]
    simp
  obtain ⟨p, kws, z1, z2, z3, z4⟩ := J1.dctK gl
  rw [sl lS] at z1
  cases z1
  refine ⟨p, rfl, .inl ⟨_, .inl z2⟩, ?_⟩
  obtain ⟨A0, mu, a0, _, I0, back⟩ := J1.asideG (fun z => nomatch z)
  refine dw_run (k' := fun G2 w2 => DW K _ G2 tx fun G3 r3 => PW r3 fun w3 => ∃ ks d, w2 = .d (keyD ks) ∧ w3 = .d d ∧ P G3 (.p (.d ((lkG kvs ks).getD d)))) (q1 _) I0 fun v2 F2 H2 G2 w2 e2 I2 a2 q2 => ?_
  refine dw_run (k' := fun G3 w3 => ∃ ks d, w2 = .d (keyD ks) ∧ w3 = .d d ∧ P G3 (.p (.d ((lkG kvs ks).getD d)))) q2 I2 fun v3 F3 H3 G3 w3 e3 I3 a3 ⟨ks, d, x1, x2, q3⟩ => ?_
  subst x1 x2
  obtain rfl := keyK_at (dp_mono e3 a2)
  obtain ⟨_, J3⟩ := back _ _ _ _ I3
  obtain ⟨p', kws', y1, y2, y3, y4⟩ := J3.dctK gl
  rw [sl I3.len] at y1
  cases y1
  exact ⟨_, DGet.k y2, k _ F3 H3 G3 (.p (.d ((lkG kvs ks).getD d))) ((e1.trans e2).trans e3) ⟨J3.drop, lkG_getD y3 y4 a3⟩ q3⟩
/-- sum of a list of ints -/
theorem rn_sum {ns : List Int} (e1 : wd G w1 = some (.list (ns.map .int))) (q : P G (.p (.d (.int ns.sum)))) : RWn K B G (rSum K) [w1] P := fun S F H Q vs I hv k => by
  obtain ⟨y, rfl, hy⟩ := vws1 hv
  obtain ⟨p, us, rfl, hp, ha⟩ := wd_list I hy e1
  obtain rfl := da_ints_eq ha
  exact ⟨p, ns, rfl, SqL.of hp, ct_d k I (.int _) q⟩
end
/-- repr of an int or None -/
def rRepr : List V → Hp → VK → Prop := fun xs H Q => (∃ i : Int, xs = [.int i] ∧ i.natAbs.log2 < 1920 ∧ Q (.str (toString i)) H) ∨ (xs = [.non] ∧ Q (.str "None") H)
theorem call_reprD {X : Cx} : CallR X (.builtin "repr") rRepr := by
  intro pins s σ H xs us Q I r h
  rcases h with ⟨i, rfl, hz, q⟩ | ⟨rfl, q⟩
  · exact SkE.call_repr_int pins s σ H _ us Q I r ⟨i, rfl, hz, q⟩
  · cases r with
    | cons r rr =>
      cases rr
      cases (show _ = Value.none from r)
      exact PySem.P.repr_of_none ⟨.str _, H, I.tok _, ⟨_, rfl⟩, q⟩
theorem kSUM {X : Cx} (K : Fr) (h : X.K = K) (hc : X.calm = true) : CallR X (.builtin "sum") (rSum K) := h ▸ cr_sum hc
theorem kLZ {X : Cx} (K : Fr) (h : X.K = K) {e e2 : Expr} {ta : TA} {p0 p pos pos2 : Pos} (hc : X.calm = true) (hgl : Gl X "list") (hml : X.mg "list" = none) (hg : Gl X "zip") (hm : X.mg "zip" = none) (ha : PA X [e, e2] ta)
    (hs1 : starEach [.Call (.Name "zip" p) [e, e2] [] pos2] X.env = (false, eval (.Call (.Name "zip" p) [e, e2] [] pos2) X.env) :: starEach [] X.env := by rfl)
    (hp1 : (backTo pos (starEach [] X.env)).any (·.1) = false := by rfl) (hs : starEach [e, e2] X.env = (false, eval e X.env) :: starEach [e2] X.env := by rfl) (hpl : (backTo pos2 (starEach [e2] X.env)).any (·.1) = false := by rfl) :
    PE X (.Call (.Name "list" p0) [.Call (.Name "zip" p) [e, e2] [] pos2] [] pos) (tListZip K ta) := h ▸ pe_listZip hc hgl hml hg hm ha hs1 hp1 hs hpl
section
variable {K : Fr} {B : Bs} {G : En} {P : Po}
theorem rn_reprI {i : Int} (hi : i.natAbs.log2 < 1920) (q : P G (.p (.d (.str (toString i))))) : RWn K B G rRepr [.d (.int i)] P := fun S F H Q vs I hv k => by
  obtain ⟨y, rfl, hy⟩ := vws1 hv
  obtain rfl := dp_int hy
  exact .inl ⟨i, rfl, hi, ct_d k I (.str _) q⟩
theorem rn_reprN (q : P G (.p (.d (.str "None")))) : RWn K B G rRepr [.d .none] P := fun S F H Q vs I hv k => by
  obtain ⟨y, rfl, hy⟩ := vws1 hv
  obtain rfl := dp_non hy
  exact .inr ⟨rfl, ct_d k I (.str _) q⟩
end
end DL
namespace DL
open PySem L2
/-- texts: x += y -/
def ipS : TIp := fun x y H Q => ∃ a b : Str, x = .str a ∧ y = .str b ∧ a.length + b.length ≤ sizeLine ∧ Q (.str (a ++ b)) H
theorem ip_addS {X : Cx} : PIp X .Add ipS := by
  intro pins s σ H x y v u Q I r1 r2 h
  obtain ⟨a, b, e1, e2, hz, q⟩ := h
  subst e1; subst e2
  obtain ⟨t, rfl⟩ := r1
  obtain ⟨t', rfl⟩ := r2
  exact SB.iadd (fun t k => ⟨.str _, H, I.tok _, ⟨_, rfl⟩, q⟩) hz
section
variable {K : Fr} {B : Bs} {G : En} {te : TE} {E : De}
theorem ds_augS {i : Nat} {a : List Nat} (hi : G[i]? = some (.d (.str (mkS a)))) (h : DW K B G te fun G1 r1 => PW r1 fun w => ∃ b : List Nat, w = .d (.str (mkS b)) ∧ a.length + b.length ≤ 1000000 ∧ E.nx (G1.set i (.d (.str (mkS (a ++ b)))))) : DS K B G (tAug i te ipS) E := fun S F H D I c => by
  obtain ⟨v, e, hv⟩ := I.dat hi
  obtain rfl := dp_str hv
  refine ⟨_, e, ?_⟩
  refine dw_run (k' := fun G1 w => ∃ b : List Nat, w = .d (.str (mkS b)) ∧ a.length + b.length ≤ 1000000 ∧ E.nx (G1.set i (.d (.str (mkS (a ++ b)))))) h I fun v F1 H1 G1 w e1 I1 hv q => ?_
  obtain ⟨b, rfl, hz, q⟩ := q
  refine ⟨mkS a, mkS b, rfl, dp_str hv, by rw [mkS_len, mkS_len]; exact szl hz, ?_⟩
  rw [mkS_cat]
  exact c.nx _ F1 H1 _ e1 (I1.set_d i (.str _)) q
end
end DL
/-! xs[::-1] of a list -/
namespace DL
open PySem L2
def tRevL (K : Fr) (te : TE) : TE := fun S H Q => te S H fun x H1 => ∃ a xs, x = .ref a ∧ SqL K H1 a xs ∧ ∀ p, H1 p = none → Q (.ref p) (upd H1 p (.lst xs.reverse))
section
open PySem.Spec PyProof.Rows
variable {X : Cx}
theorem pe_revLs {e : Expr} {te : TE} {k : Nat} {p1 p2 p3 pos : Pos} (he : PE X e te) : PE X (.Subscript e (.Slice none none (some (.UnaryOp .USub (.Constant (.int 1) k p1) p2)) p3) pos) (tRevL X.K te) := by
  refine ⟨fun pins s S H Q I h => ?_⟩
  refine PyProof.Rows.Subscript_ (thn (he.run pins s S H _ I h) fun v s1 ⟨x, H1, I1, r1, q1⟩ => ?_)
  obtain ⟨a, xs, ex, hx, q⟩ := q1
  subst ex
  cases r1
  have hst : PO X (some (.UnaryOp .USub (.Constant (.int 1) k p1) p2)) (tPart (tUn (rU fun i => .int (-i)) (tC (.int 1)))) := po_some (pe_un un_neg pe_int)
  refine wpAny_Slice (thn (po_none.run pins s1 S H1 (fun o H2 => o = none ∧ H2 = H1) I1 ⟨rfl, rfl⟩) fun vl s2 ⟨l, H2, I2, pl, el, e2⟩ => ?_)
  subst el e2
  refine thn (po_none.run pins s2 S H2 (fun o H3 => o = none ∧ H3 = H2) I2 ⟨rfl, rfl⟩) fun vu s3 ⟨u, H3, I3, pu, eu, e3⟩ => ?_
  subst eu e3
  refine thn (hst.run pins s3 S H3 (fun o H4 => o = some (-1) ∧ H4 = H3) I3 ⟨1, rfl, -1, rfl, rfl, rfl⟩) fun vs s4 ⟨o, H4, I4, ps, eo, e4⟩ => ?_
  subst eo e4
  cases pl
  cases pu
  cases ps with
  | int i t =>
  have I5 : Inv X pins S H4 { s4 with heap := s4.heap.push { cls := .type "slice", data := .fields #[.none, .none, .int (-1) t] } } := I4.kept (t' := s4.toks) fun b ob q => Heap.get?_push_of_some _ q
  obtain ⟨its, r, ht, hz⟩ := I5.list hx
  have hlen := r.length
  show wpAny (model X.prog X.w) X.A (subscriptTail e (.Slice none none (some (.UnaryOp .USub (.Constant (.int 1) k p1) p2)) p3) (.ref a) (.ref s4.heap.objs.size)) (EP X pins S Q) X.xe { s4 with heap := s4.heap.push { cls := .type "slice", data := .fields #[.none, .none, .int (-1) t] } }
  refine PyProof.Rows.tail_any (ops := [.ref a, .ref s4.heap.objs.size]) ht.isList.typeIs (slot_list_getitem.lookup) ?_ (by with_unfolding_all rfl)
  refine wpAny_getItem_list_slice ht.isList (Heap.IsSliceOf.new _ .none .none (.int (-1) t)) .none .none (.int _ _) (by simp) ?_ (by rw [List.size_toArray] <;> omega)
  rw [PySem.W.krv_pick]
  refine ⟨.ref _, _, I5.laid (t' := s4.toks) (o := .lst xs.reverse) (fun b ob q => Heap.get?_push_of_some _ q) (Nat.le_refl _) ?_, rfl, q _ (I5.hok.fresh (Nat.le_refl _))⟩
  exact ⟨by rw [List.length_reverse]; exact hz, _, 0, r.reverse, Heap.get?_push_size _ rfl⟩
end
theorem kREVL {X : Cx} (K : Fr) (h : X.K = K) {e : Expr} {te : TE} (he : PE X e (tRevL X.K te)) : PE X e (tRevL K te) := h ▸ he
section
variable {K : Fr} {B : Bs} {G : En} {P : Po} {te : TE}
theorem dw_revL (h : DW K B G te fun G1 r1 => PW r1 fun w => ∃ ds, wd G1 w = some (.list ds) ∧ P G1 (.fr (.o none ds.reverse))) : DW K B G (tRevL K te) P := fun S F H Q I k => by
  show te S H fun x H1 => ∃ a xs, x = .ref a ∧ SqL K H1 a xs ∧ ∀ p, H1 p = none → Q (.ref p) (upd H1 p (.lst xs.reverse))
  refine dw_run (k' := fun G1 w => ∃ ds, wd G1 w = some (.list ds) ∧ P G1 (.fr (.o none ds.reverse))) h I fun v F1 H1 G1 w e1 I1 hv ⟨ds, hw, q⟩ => ?_
  obtain ⟨p, us, rfl, hp, ha⟩ := wd_list I1 hv hw
  exact ⟨p, us, rfl, SqL.of hp, fun c hc => ct_L (k.mono e1) I1 hc (da_rev ha) q⟩
end
end DL
/-! enumerate of a tuple -/
namespace PySem
open Sem (wp)
open AutoSeq1 (wpAny_loadPart')
set_option maxHeartbeats 4000000 in
theorem meets_enumerate_newT (l : Addr) (items : Array Value) (n : Nat) (dct : Option Addr) (sl : Array (Option Value)) :
    Meets (Builtin.«enumerate.__new__» ⟨[.type "enumerate", .ref l], []⟩) (fun _ R s => s.heap.get? l = some { cls := .type "tuple", dict := dct, data := .seq items n, slots := sl } ∧
      R (.ok (.ret (.ref (s.heap.push { cls := .type "tuple_iterator", data := .fields #[.ref l, .int 0 0] }).objs.size)))
        { s with heap := (s.heap.push { cls := .type "tuple_iterator", data := .fields #[.ref l, .int 0 0] }).push { cls := .type "enumerate", data := .fields #[.none, .bool false, .ref s.heap.objs.size, rawInt 0, .none, .none] } }) :=
  .of_wp fun prog w A R s h => by
    obtain ⟨hp, g, d, tk, os⟩ := s; obtain ⟨hl, h⟩ := h
    have hsub := sub_enumerate
    have hL : Heap.IsTuple (Shared.heap ⟨hp, g, d, tk, os⟩) l items := ⟨_, hl, rfl, n, rfl⟩
    wp_walk using wpAny_loadPart' hl
    refine wpAny_stack_any fun st => wpAny_pure ?_
    split
    · rename_i c _ _ _ _ _
      cases (c == Value.type "enumerate")
      · wp_walk using wpAny_loadPart' hl, wpAny_pyIter_tuple hL
        exact ⟨_, rfl, h⟩
      · wp_walk using wpAny_loadPart' hl, wpAny_pyIter_tuple hL
        exact ⟨_, rfl, h⟩
    · wp_walk using wpAny_loadPart' hl, wpAny_pyIter_tuple hL
      exact ⟨_, rfl, h⟩
theorem call_enumerate_tup {prog : Program} {w : World} {A : Around} {E : Value → Shared → Prop} {s : Shared} {l : Addr} {items : Array Value} {Q : Value → Shared → Prop} (hL : s.heap.IsTuple l items)
    (h : ∀ h', IsEnum h' (s.heap.objs.size + 1) s.heap.objs.size 0 .none → h'.IsTupleIter s.heap.objs.size l 0 → h'.objs.size = s.heap.objs.size + 2 →
      (∀ b o, s.heap.get? b = some o → h'.get? b = some o) → Q (.ref (s.heap.objs.size + 1)) { s with heap := h' }) :
    wpAny (model prog w) A (call (.type "enumerate") [.ref l]) Q E s := by
  obtain ⟨⟨c, dct, dt, sl⟩, hl, hc, n, hd⟩ := hL
  replace hc : c = .type "tuple" := hc
  replace hd : dt = .seq items n := hd
  subst hc hd
  refine callType_new F.called_enumerate (by decide) (F.typeCall_enumerate_1 _) (F.newCall_enumerate_1 _) (fun obj => F.args_object_init_2 obj _) F.entry_enumerate_new
    (meets_enumerate_newT l items n dct sl) ⟨hl, ?_⟩
  have hz : (s.heap.push { cls := .type "tuple_iterator", data := .fields #[.ref l, .int 0 0] }).objs.size = s.heap.objs.size + 1 := Heap.size_push ..
  show _ ∧ _
  rw [hz]
  have he : IsEnum ((s.heap.push { cls := .type "tuple_iterator", data := .fields #[.ref l, .int 0 0] }).push
      { cls := .type "enumerate", data := .fields #[.none, .bool false, .ref s.heap.objs.size, rawInt 0, .none, .none] }) (s.heap.objs.size + 1) s.heap.objs.size 0 .none := by
    have := Heap.get?_push_size (s.heap.push { cls := .type "tuple_iterator", data := .fields #[.ref l, .int 0 0] })
      (o := { cls := .type "enumerate", data := .fields #[.none, .bool false, .ref s.heap.objs.size, rawInt 0, .none, .none] }) rfl
    rw [hz] at this; exact this
  refine ⟨⟨_, he, rfl⟩, h _ he ⟨_, Heap.get?_push_of_some _ (Heap.get?_push_size _ rfl), rfl, rfl⟩ (by rw [Heap.size_push, hz]) fun b o x => Heap.get?_push_of_some _ (Heap.get?_push_of_some _ x)⟩
end PySem
namespace DL
open PySem L2
def IteT (K : PySem.W.Frag) (a : Addr) : It :=
  ⟨fun i H => ∃ (xs : List V) (x : V), SqT K H a xs ∧ xs[i]? = some x, fun i H v H' => ∃ T x, v = .ref T ∧ H T = none ∧ H' = upd H T (.tup [.int (i : Nat), x]) ∧ ∀ xs, SqT K H a xs → xs[i]? = some x, fun i H => ∃ xs : List V, SqT K H a xs ∧ xs.length ≤ i⟩
theorem turn_enumT {P : Program} {w : World} {K : PySem.W.Frag} {elts : List Expr} {kk : Nat} {tpos : Pos} (a e it : Addr) :
    Turn P w K (.Tuple elts kk tpos) (IteT K a) [e, it] e (fun i h => (∃ old, IsEnum h e it ((i : Nat) : Int) old) ∧ h.IsTupleIter it a i ∧ e ≠ it) where
  mem := by simp
  obj := fun i h st b hb => by
    obtain ⟨⟨old, he⟩, ⟨o, ho, hc, hd⟩, _⟩ := st
    have e' : b = e ∨ b = it := by simpa using hb
    rcases e' with z | z
    · rw [z]; exact ⟨_, he, fun v q => nomatch q⟩
    · rw [z]; exact ⟨o, ho, fun v q => by rw [hd] at q; cases q⟩
  keep := fun i h h' st k => let ⟨⟨old, he⟩, hi, hne⟩ := st; ⟨⟨old, k e (by simp) _ he⟩, hi.at fun o q => k it (by simp) o q, hne⟩
  item := by
    intro X hP hw hK hc i pins s σ H E I hf st hg
    subst hP hw hK
    obtain ⟨⟨old, he⟩, hit, hne⟩ := st
    obtain ⟨xs, x, hq, hx⟩ := hg
    obtain ⟨its, rv, p, hz⟩ := I.tuple hq
    obtain ⟨u, hu, ru⟩ := rv.get hx
    have hel : e < s.heap.objs.size := Heap.lt_size he
    have hil : it < s.heap.objs.size := by obtain ⟨_, q, _⟩ := hit; exact Heap.lt_size q
    have pt : s.heap.IsTuple a its.toArray := p
    have ha1 : a ≠ it := fun z => by
      obtain ⟨o, ho, hc1, _⟩ := hit
      obtain ⟨o', ho', hc2, _⟩ := pt
      rw [z, ho] at ho'
      cases ho'
      rw [hc1] at hc2
      injection hc2 with hh
      exact absurd hh (by decide)
    have ha2 : e ≠ a := fun z => by
      obtain ⟨o', ho', hc2, _⟩ := pt
      rw [← z] at ho'
      have he' := he
      unfold IsEnum at he'
      rw [he'] at ho'
      cases ho'
      injection hc2 with hh
      exact absurd hh (by decide)
    have D := PySem.Draws.tuple (prog := X.prog) (w := X.w) (A := X.A.in1) (I.ok.hd hc) it a ha1 its.toArray
    have hlt : i < its.toArray.size := by
      have := (List.getElem?_eq_some_iff.mp hu).1
      simpa using this
    refine wpAny_pyNext_enum_itemC D he ⟨hit, pt⟩ hlt hne (by simp [hne, ha2]) fun v h' tk hv ho hit' hT hsz hk => ?_
    have ev : v = u := by
      have hv : its.toArray[i]? = some v := hv
      rw [show its.toArray[i]? = some u by simpa using hu] at hv
      exact (Option.some.inj hv).symm
    subst ev
    refine ⟨_, rfl, wpAny_letOwnedTupleGo_enum (s := { s with heap := h', toks := tk + 1 }) ho fun h'' he' sb => ?_⟩
    have hT2 : h''.get? s.heap.objs.size = some { cls := .type "tuple", data := .seq #[.int i tk, v] } := (sb.2 _ (Nat.ne_of_gt hel)).trans hT
    have new : ObjOk X.prog X.w (upd H s.heap.objs.size (.tup [.int (i : Nat), x])) h'' s.heap.objs.size (.tup [.int (i : Nat), x]) :=
      ⟨by show 2 ≤ sizeLine; decide, [.int i tk, v], .cons ⟨_, rfl⟩ (.cons ru .nil), ⟨_, hT2, rfl, _, rfl⟩⟩
    have I1 : Inv X pins σ (upd H s.heap.objs.size (.tup [.int (i : Nat), x])) { s with heap := h'', toks := tk + 1 } :=
      I.turnedNew (ch := [e, it]) (fun b ob hb q => (sb.2 b (fun z => hb (by simp [z]))).trans (hk b ob (fun z => hb (by simp [z])) (fun z => hb (by simp [z])) q)) hf (Nat.le_refl _) new
    refine ⟨.ref s.heap.objs.size, _, I1, rfl, ⟨_, x, rfl, I.hok.fresh (Nat.le_refl _), rfl, fun ys hy => by rw [I.tuple_inj hy hq]; exact hx⟩, ⟨⟨v, ?_⟩, hit'.1.at fun o q => (sb.2 it (Ne.symm hne)).trans q, hne⟩, fun b hb => ?_⟩
    · have e1 : ((i + 1 : Nat) : Int) = (i : Int) + 1 := by omega
      rw [e1]; exact he'
    · have hb' : b < s.heap.objs.size := by
        have e' : b = e ∨ b = it := by simpa using hb
        rcases e' with z | z
        · rw [z]; exact hel
        · rw [z]; exact hil
      rw [upd_ne (Nat.ne_of_lt hb')]
      exact (hf b hb).1
  done := by
    intro X hP hw hK hc i pins s σ H E I hf st hg
    subst hP hw hK
    obtain ⟨⟨old, he⟩, hit, hne⟩ := st
    obtain ⟨xs, hq, hx⟩ := hg
    obtain ⟨its, rv, p, hz⟩ := I.tuple hq
    obtain ⟨f0, f1, f2, f3, f4, f5⟩ := hf it (by simp)
    have hl := rv.length
    have pt : s.heap.IsTuple a its.toArray := p
    have ha1 : a ≠ it := fun z => by
      obtain ⟨o, ho, hc1, _⟩ := hit
      obtain ⟨o', ho', hc2, _⟩ := pt
      rw [z, ho] at ho'
      cases ho'
      rw [hc1] at hc2
      injection hc2 with hh
      exact absurd hh (by decide)
    have D : PySem.Draws X.prog X.w X.A.in1 it [it, a] i (fun _ _ => True) (fun j h => j = i ∧ h.IsTupleIter it a i ∧ h.IsTuple a its.toArray) := {
      live := fun _ _ st => let ⟨o, ho, _⟩ := st.2.1; ⟨o, ho⟩
      frame := fun _ _ _ st hk => ⟨st.1, st.2.1.at fun o e => hk it (by simp) o e, st.2.2.at fun o e => hk a (by simp) o e⟩
      item := fun j s Q E hj st _ => absurd st.1 (Nat.ne_of_lt hj)
      done := fun s Q E st hE => wpAny_nextOf_tuple_end (I.ok.hd hc) st.2.1 st.2.2 (by simp; omega) hE }
    exact wpAny_pyNext_enum_endD D he ⟨rfl, hit, pt⟩ fun h' eb => ⟨rfl, I.turned (t' := s.toks) (fun b o hb q => eb b o hb q) f0 f1 f3 f4 f5⟩
  self := fun A i s Q E st h => let ⟨⟨_, he⟩, _⟩ := st; wpAny_pyIter_enum he h
def iEnumT (K : PySem.W.Frag) (ta : TA) : TI := fun σ H R => ta σ H fun vs H1 => ∃ a xs, vs = [.ref a] ∧ SqT K H1 a xs ∧ R (IteT K a) H1
theorem pi_enumT {X : Cx} {e : Expr} {ta : TA} {p pos tpos : Pos} {elts : List Expr} {kk : Nat} (hg : Gl X "enumerate") (hm : X.mg "enumerate" = none) (ha : PA X [e] ta) (hs : starEach [e] X.env = [(false, eval e X.env)] := by rfl) :
    PI X (.Tuple elts kk tpos) (.Call (.Name "enumerate" p) [e] [] pos) (iEnumT X.K ta) := by
  refine ⟨fun pins s σ H R I h => ?_⟩
  refine PyProof.Rows.Call_ (ld_blt I hg hm PyProof.Rows.boot_enumerate (PyProof.Rows.callWith_type1 (thn (ha.run pos pins s σ H _ I h) fun us s1 ⟨vs, H1, I1, r1, q1⟩ => ?_) hs rfl))
  obtain ⟨a, xs, ex, hq, q⟩ := q1
  subst ex
  cases r1 with
  | cons r rr =>
    cases rr
    cases r
    obtain ⟨its, rv, p', hz⟩ := I1.tuple hq
    refine call_enumerate_tup (show s1.heap.IsTuple a its.toArray from p') fun h' he hit hsz hk => wpAny_pyIter_enum he ?_
    have I2 : Inv X pins σ H1 { s1 with heap := h' } := I1.kept (t' := s1.toks) hk
    refine ⟨s1.heap.objs.size + 1, [s1.heap.objs.size + 1, s1.heap.objs.size], _, _, H1, rfl, I2, turn_enumT a (s1.heap.objs.size + 1) s1.heap.objs.size, ⟨⟨.none, he⟩, hit, Nat.succ_ne_self _⟩, fun b hb => ?_, q⟩
    have e' : b = s1.heap.objs.size + 1 ∨ b = s1.heap.objs.size := by simpa using hb
    have hle : s1.heap.objs.size ≤ b := by
      rcases e' with z | z
      · rw [z]; exact Nat.le_add_right _ _
      · rw [z]; exact Nat.le_refl _
    exact I1.fpOk hle (I1.hok.fresh hle)
theorem kENT {X : Cx} (K : Fr) (h : X.K = K) {e : Expr} {ta : TA} {p pos tpos : Pos} {elts : List Expr} {kk : Nat} (hg : Gl X "enumerate") (hm : X.mg "enumerate" = none) (ha : PA X [e] ta) (hs : starEach [e] X.env = [(false, eval e X.env)] := by rfl) :
    PI X (.Tuple elts kk tpos) (.Call (.Name "enumerate" p) [e] [] pos) (iEnumT K ta) := h ▸ pi_enumT hg hm ha hs
section
variable {K : Fr} {B : Bs} {G : En} {ta : TA} {PI : En → List PyData → Prop}
theorem di_enumT (h : DA K B G ta fun G1 ws => ∃ ds, ws = [.d (.tuple ds)] ∧ PI G1 (enD ds)) : DI K B G (iEnumT K ta) PI := fun S F H R I k => by
  show ta S H fun vs H1 => ∃ a xs, vs = [.ref a] ∧ SqT K H1 a xs ∧ R (IteT K a) H1
  refine h S F H _ I fun vs F1 H1 G1 ws e1 I1 hv ⟨ds, hw, q⟩ => ?_
  subst hw
  obtain ⟨v, rfl, hv1⟩ := vws1 hv
  obtain ⟨a, xs, rfl, hp, ha⟩ := dp_tup hv1
  refine ⟨a, xs, rfl, SqT.of (I1.ex _ _ hp), k _ F1 H1 G1 _ e1 I1 (fun i H2 F2 eF eH => ⟨fun d hd => ?_, fun e => ?_⟩) q⟩
  · obtain ⟨x, hx, rfl⟩ := enD_get hd
    obtain ⟨u, hu, hd2⟩ := da_get ha hx
    have sq : SqT K H2 a xs := SqT.of (eH _ _ (eF _ _ hp))
    refine ⟨⟨xs, u, sq, hu⟩, fun v H' y => ?_⟩
    obtain ⟨T, x', rfl, hT, rfl, hx'⟩ := y
    have e3 := hx' xs sq
    rw [hu] at e3
    cases e3
    refine ⟨upd F2 T (.tup [.int (i : Nat), u]), Ex.new (eH.free hT), Ex.new hT, eH.both _ _, fun b o h1 h2 => ?_, .tup upd_same (.cons (.int _) (.cons (dp_mono (eF.trans (Ex.new (eH.free hT))) hd2) .nil))⟩
    by_cases hb : b = T
    · rw [hb]
      exact hT
    · rw [upd_ne hb] at h1
      rw [h1] at h2
      cases h2
  · rw [enD_len] at e
    exact ⟨xs, SqT.of (eH _ _ (eF _ _ hp)), by rw [da_len ha, e]; exact Nat.le_refl _⟩
end
end DL
namespace K62
open PySem PySem.Spec PyProof.Rows L2 DL
def topS (i : Nat) : Stmt := PySem.Challenge.pw_chipgate_k62_whole_least_changes.main.body.getD i (.Pass ⟨0, 0, 0, 0⟩)
structure Ad where
  (f1 f2 f3 f4 f5 f6 f7 f8 f10 f11 f12 f13 f14 f15 f16 f17 f18 f19 f20 f21 f22 f23 f24 f25 : Addr)
  (d1 d2 d3 d4 d5 d6 d7 d8 d10 d11 d12 d13 d14 d15 d16 d17 d18 d19 d20 d21 d22 d23 d24 d25 : FuncData)
abbrev s_is_price : Stmt := topS 1
theorem sc_is_price : FnScope ["value"] ["value"] (defScope s_is_price) := ⟨rfl, rfl, rfl, by decide +kernel, rfl, by decide +kernel, by decide +kernel⟩
abbrev s_steps_from : Stmt := topS 2
theorem sc_steps_from : FnScope ["machine", "signs", "row", "costs", "place", "line", "put", "leave", "turn", "found", "nexts", "sign", "other"] ["machine", "signs", "row", "costs", "place", "line"] (defScope s_steps_from) := ⟨rfl, rfl, rfl, by decide +kernel, rfl, by decide +kernel, by decide +kernel⟩
abbrev s_prices_of : Stmt := topS 3
theorem sc_prices_of : FnScope ["machine", "signs", "row", "costs", "prices", "place", "turned", "line", "_", "cost", "other", "behind", "told", "passing", "part"] ["machine", "signs", "row", "costs"] (defScope s_prices_of) := ⟨rfl, rfl, rfl, by decide +kernel, rfl, by decide +kernel, by decide +kernel⟩
abbrev s_least_change : Stmt := topS 4
theorem sc_least_change : FnScope ["machine", "signs", "row", "costs", "prices", "steps", "place", "line", "step", "cost", "other", "behind"] ["machine", "signs", "row", "costs"] (defScope s_least_change) := ⟨rfl, rfl, rfl, by decide +kernel, rfl, by decide +kernel, by decide +kernel⟩
abbrev s_changed : Stmt := topS 5
theorem sc_changed : FnScope ["row", "steps", "place", "found", "step"] ["row", "steps"] (defScope s_changed) := ⟨rfl, rfl, rfl, by decide +kernel, rfl, by decide +kernel, by decide +kernel⟩
abbrev s_is_step : Stmt := topS 6
theorem sc_is_step : FnScope ["signs", "step", "counts", "part", "sign"] ["signs", "step"] (defScope s_is_step) := ⟨rfl, rfl, rfl, by decide +kernel, rfl, by decide +kernel, by decide +kernel⟩
abbrev s_are_prices : Stmt := topS 7
theorem sc_are_prices : FnScope ["machine", "signs", "row", "costs", "prices", "part", "line", "passing", "_", "place", "cost", "other", "behind", "told", "price"] ["machine", "signs", "row", "costs", "prices"] (defScope s_are_prices) := ⟨rfl, rfl, rfl, by decide +kernel, rfl, by decide +kernel, by decide +kernel⟩
abbrev s_judge_change : Stmt := topS 8
theorem sc_judge_change : FnScope ["machine", "signs", "row", "costs", "told", "cost", "steps", "prices", "price_of", "made", "line", "sign", "step"] ["machine", "signs", "row", "costs", "told"] (defScope s_judge_change) := ⟨rfl, rfl, rfl, by decide +kernel, rfl, by decide +kernel, by decide +kernel⟩
abbrev s_law_next : Stmt := topS 10
theorem sc_law_next : FnScope ["state", "limit", "cell", "value"] ["state", "limit"] (defScope s_law_next) := ⟨rfl, rfl, rfl, by decide +kernel, rfl, by decide +kernel, by decide +kernel⟩
abbrev s_law_same : Stmt := topS 11
theorem sc_law_same : FnScope ["actual", "expected", "k"] ["actual", "expected"] (defScope s_law_same) := ⟨rfl, rfl, rfl, by decide +kernel, rfl, by decide +kernel, by decide +kernel⟩
abbrev s_law_signs : Stmt := topS 12
theorem sc_law_signs : FnScope ["state"] ["state"] (defScope s_law_signs) := ⟨rfl, rfl, rfl, by decide +kernel, rfl, by decide +kernel, by decide +kernel⟩
abbrev s_law_machine : Stmt := topS 13
theorem sc_law_machine : FnScope ["state", "signs", "many", "kind", "steps", "lines", "line", "nexts", "k", "pick", "sign"] ["state", "signs"] (defScope s_law_machine) := ⟨rfl, rfl, rfl, by decide +kernel, rfl, by decide +kernel, by decide +kernel⟩
abbrev s_law_line : Stmt := topS 14
theorem sc_law_line : FnScope ["machine", "signs", "line", "row", "sign"] ["machine", "signs", "line", "row"] (defScope s_law_line) := ⟨rfl, rfl, rfl, by decide +kernel, rfl, by decide +kernel, by decide +kernel⟩
abbrev s_law_passes : Stmt := topS 15
theorem sc_law_passes : FnScope ["machine", "signs", "line", "row"] ["machine", "signs", "line", "row"] (defScope s_law_passes) := ⟨rfl, rfl, rfl, by decide +kernel, rfl, by decide +kernel, by decide +kernel⟩
abbrev s_law_row : Stmt := topS 16
theorem sc_law_row : FnScope ["state", "signs", "most", "k"] ["state", "signs", "most"] (defScope s_law_row) := ⟨rfl, rfl, rfl, by decide +kernel, rfl, by decide +kernel, by decide +kernel⟩
abbrev s_law_edges : Stmt := topS 17
theorem sc_law_edges : FnScope ["machine", "signs", "row", "costs", "place", "line", "found", "nexts", "own", "k"] ["machine", "signs", "row", "costs", "place", "line"] (defScope s_law_edges) := ⟨rfl, rfl, rfl, by decide +kernel, rfl, by decide +kernel, by decide +kernel⟩
abbrev s_law_prices : Stmt := topS 18
theorem sc_law_prices : FnScope ["machine", "signs", "row", "costs", "known", "front", "ways", "place", "line", "step", "cost", "other", "behind", "one"] ["machine", "signs", "row", "costs"] (defScope s_law_prices) := ⟨rfl, rfl, rfl, by decide +kernel, rfl, by decide +kernel, by decide +kernel⟩
abbrev s_law_due : Stmt := topS 19
theorem sc_law_due : FnScope ["machine", "signs", "row", "costs", "prices", "steps", "place", "line", "step", "cost", "other", "behind", "best"] ["machine", "signs", "row", "costs"] (defScope s_law_due) := ⟨rfl, rfl, rfl, by decide +kernel, rfl, by decide +kernel, by decide +kernel⟩
abbrev s_law_changed : Stmt := topS 20
theorem sc_law_changed : FnScope ["row", "steps", "left", "made", "step"] ["row", "steps"] (defScope s_law_changed) := ⟨rfl, rfl, rfl, by decide +kernel, rfl, by decide +kernel, by decide +kernel⟩
abbrev s_law_is_step : Stmt := topS 21
theorem sc_law_is_step : FnScope ["signs", "step", "one", "sign"] ["signs", "step"] (defScope s_law_is_step) := ⟨rfl, rfl, rfl, by decide +kernel, rfl, by decide +kernel, by decide +kernel⟩
abbrev s_law_is_price : Stmt := topS 22
theorem sc_law_is_price : FnScope ["value"] ["value"] (defScope s_law_is_price) := ⟨rfl, rfl, rfl, by decide +kernel, rfl, by decide +kernel, by decide +kernel⟩
abbrev s_law_accepts : Stmt := topS 23
theorem sc_law_accepts : FnScope ["machine", "signs", "row", "costs", "told", "cost", "steps", "prices", "part", "place", "line", "step", "price", "other", "behind", "made", "one"] ["machine", "signs", "row", "costs", "told"] (defScope s_law_accepts) := ⟨rfl, rfl, rfl, by decide +kernel, rfl, by decide +kernel, by decide +kernel⟩
abbrev s_law_turned : Stmt := topS 24
theorem sc_law_turned : FnScope ["state", "signs", "value", "pick", "k"] ["state", "signs", "value"] (defScope s_law_turned) := ⟨rfl, rfl, rfl, by decide +kernel, rfl, by decide +kernel, by decide +kernel⟩
abbrev s_law : Stmt := topS 25
theorem sc_law : FnScope ["script", "state", "turn", "signs", "machine", "row", "costs", "due", "told", "asks", "k", "asked"] ["script"] (defScope s_law) := ⟨rfl, rfl, rfl, by decide +kernel, rfl, by decide +kernel, by decide +kernel⟩
structure Tx (K : PySem.W.Frag) (mg : Str → Option Value) (a : Ad) : Prop where
  z_bool : mg "bool" = none
  z_enumerate : mg "enumerate" = none
  z_int : mg "int" = none
  z_isinstance : mg "isinstance" = none
  z_len : mg "len" = none
  z_list : mg "list" = none
  z_max : mg "max" = none
  z_min : mg "min" = none
  z_range : mg "range" = none
  z_repr : mg "repr" = none
  z_reversed : mg "reversed" = none
  z_str : mg "str" = none
  z_sum : mg "sum" = none
  z_tuple : mg "tuple" = none
  z_zip : mg "zip" = none
  m_is_price : mg "is_price" = some (.ref a.f1)
  k_is_price : PySem.W.keepIn K (.ref a.f1) = true
  b_is_price : Binds K a.d1 ["value"] []
  F_is_price : Fun K "is_price" "is_price" s_is_price a.f1 a.d1
  m_steps_from : mg "steps_from" = some (.ref a.f2)
  k_steps_from : PySem.W.keepIn K (.ref a.f2) = true
  b_steps_from : Binds K a.d2 ["machine", "signs", "row", "costs", "place", "line"] []
  F_steps_from : Fun K "steps_from" "steps_from" s_steps_from a.f2 a.d2
  m_prices_of : mg "prices_of" = some (.ref a.f3)
  k_prices_of : PySem.W.keepIn K (.ref a.f3) = true
  b_prices_of : Binds K a.d3 ["machine", "signs", "row", "costs"] []
  F_prices_of : Fun K "prices_of" "prices_of" s_prices_of a.f3 a.d3
  m_least_change : mg "least_change" = some (.ref a.f4)
  k_least_change : PySem.W.keepIn K (.ref a.f4) = true
  b_least_change : Binds K a.d4 ["machine", "signs", "row", "costs"] []
  F_least_change : Fun K "least_change" "least_change" s_least_change a.f4 a.d4
  m_changed : mg "changed" = some (.ref a.f5)
  k_changed : PySem.W.keepIn K (.ref a.f5) = true
  b_changed : Binds K a.d5 ["row", "steps"] []
  F_changed : Fun K "changed" "changed" s_changed a.f5 a.d5
  m_is_step : mg "is_step" = some (.ref a.f6)
  k_is_step : PySem.W.keepIn K (.ref a.f6) = true
  b_is_step : Binds K a.d6 ["signs", "step"] []
  F_is_step : Fun K "is_step" "is_step" s_is_step a.f6 a.d6
  m_are_prices : mg "are_prices" = some (.ref a.f7)
  k_are_prices : PySem.W.keepIn K (.ref a.f7) = true
  b_are_prices : Binds K a.d7 ["machine", "signs", "row", "costs", "prices"] []
  F_are_prices : Fun K "are_prices" "are_prices" s_are_prices a.f7 a.d7
  m_judge_change : mg "judge_change" = some (.ref a.f8)
  k_judge_change : PySem.W.keepIn K (.ref a.f8) = true
  b_judge_change : Binds K a.d8 ["machine", "signs", "row", "costs", "told"] []
  F_judge_change : Fun K "judge_change" "judge_change" s_judge_change a.f8 a.d8
  m_law_next : mg "_law_next" = some (.ref a.f10)
  k_law_next : PySem.W.keepIn K (.ref a.f10) = true
  b_law_next : Binds K a.d10 ["state", "limit"] []
  F_law_next : Fun K "_law_next" "_law_next" s_law_next a.f10 a.d10
  m_law_same : mg "_law_same" = some (.ref a.f11)
  k_law_same : PySem.W.keepIn K (.ref a.f11) = true
  b_law_same : Binds K a.d11 ["actual", "expected"] []
  F_law_same : Fun K "_law_same" "_law_same" s_law_same a.f11 a.d11
  m_law_signs : mg "_law_signs" = some (.ref a.f12)
  k_law_signs : PySem.W.keepIn K (.ref a.f12) = true
  b_law_signs : Binds K a.d12 ["state"] []
  F_law_signs : Fun K "_law_signs" "_law_signs" s_law_signs a.f12 a.d12
  m_law_machine : mg "_law_machine" = some (.ref a.f13)
  k_law_machine : PySem.W.keepIn K (.ref a.f13) = true
  b_law_machine : Binds K a.d13 ["state", "signs"] []
  F_law_machine : Fun K "_law_machine" "_law_machine" s_law_machine a.f13 a.d13
  m_law_line : mg "_law_line" = some (.ref a.f14)
  k_law_line : PySem.W.keepIn K (.ref a.f14) = true
  b_law_line : Binds K a.d14 ["machine", "signs", "line", "row"] []
  F_law_line : Fun K "_law_line" "_law_line" s_law_line a.f14 a.d14
  m_law_passes : mg "_law_passes" = some (.ref a.f15)
  k_law_passes : PySem.W.keepIn K (.ref a.f15) = true
  b_law_passes : Binds K a.d15 ["machine", "signs", "line", "row"] []
  F_law_passes : Fun K "_law_passes" "_law_passes" s_law_passes a.f15 a.d15
  m_law_row : mg "_law_row" = some (.ref a.f16)
  k_law_row : PySem.W.keepIn K (.ref a.f16) = true
  b_law_row : Binds K a.d16 ["state", "signs", "most"] []
  F_law_row : Fun K "_law_row" "_law_row" s_law_row a.f16 a.d16
  m_law_edges : mg "_law_edges" = some (.ref a.f17)
  k_law_edges : PySem.W.keepIn K (.ref a.f17) = true
  b_law_edges : Binds K a.d17 ["machine", "signs", "row", "costs", "place", "line"] []
  F_law_edges : Fun K "_law_edges" "_law_edges" s_law_edges a.f17 a.d17
  m_law_prices : mg "_law_prices" = some (.ref a.f18)
  k_law_prices : PySem.W.keepIn K (.ref a.f18) = true
  b_law_prices : Binds K a.d18 ["machine", "signs", "row", "costs"] []
  F_law_prices : Fun K "_law_prices" "_law_prices" s_law_prices a.f18 a.d18
  m_law_due : mg "_law_due" = some (.ref a.f19)
  k_law_due : PySem.W.keepIn K (.ref a.f19) = true
  b_law_due : Binds K a.d19 ["machine", "signs", "row", "costs"] []
  F_law_due : Fun K "_law_due" "_law_due" s_law_due a.f19 a.d19
  m_law_changed : mg "_law_changed" = some (.ref a.f20)
  k_law_changed : PySem.W.keepIn K (.ref a.f20) = true
  b_law_changed : Binds K a.d20 ["row", "steps"] []
  F_law_changed : Fun K "_law_changed" "_law_changed" s_law_changed a.f20 a.d20
  m_law_is_step : mg "_law_is_step" = some (.ref a.f21)
  k_law_is_step : PySem.W.keepIn K (.ref a.f21) = true
  b_law_is_step : Binds K a.d21 ["signs", "step"] []
  F_law_is_step : Fun K "_law_is_step" "_law_is_step" s_law_is_step a.f21 a.d21
  m_law_is_price : mg "_law_is_price" = some (.ref a.f22)
  k_law_is_price : PySem.W.keepIn K (.ref a.f22) = true
  b_law_is_price : Binds K a.d22 ["value"] []
  F_law_is_price : Fun K "_law_is_price" "_law_is_price" s_law_is_price a.f22 a.d22
  m_law_accepts : mg "_law_accepts" = some (.ref a.f23)
  k_law_accepts : PySem.W.keepIn K (.ref a.f23) = true
  b_law_accepts : Binds K a.d23 ["machine", "signs", "row", "costs", "told"] []
  F_law_accepts : Fun K "_law_accepts" "_law_accepts" s_law_accepts a.f23 a.d23
  m_law_turned : mg "_law_turned" = some (.ref a.f24)
  k_law_turned : PySem.W.keepIn K (.ref a.f24) = true
  b_law_turned : Binds K a.d24 ["state", "signs", "value"] []
  F_law_turned : Fun K "_law_turned" "_law_turned" s_law_turned a.f24 a.d24
  m_law : mg "law" = some (.ref a.f25)
  k_law : PySem.W.keepIn K (.ref a.f25) = true
  b_law : Binds K a.d25 ["script"] []
  F_law : Fun K "law" "law" s_law a.f25 a.d25

end K62
namespace K62
open PySem PySem.Spec PyProof.Rows L2 DL
local macro_rules | `(tactic| walk_at "st") => `(tactic| with_reducible first
  | refine pw_p ?_ | refine pw_o ?_ | refine dw_op ?_ | refine dw_un ?_ | refine dw_int ?_ | refine dw_str ?_ | refine dw_bl ?_ | refine dw_non ?_ | refine dw_ty ?_ | refine da_nil' ?_ | refine da_cons' ?_ | refine dw_sortSetT ?_ | refine dw_CB ?_ | refine dw_BM ?_ | refine dw_BM0 ?_
  | refine dw_tup ?_ | refine dw_lst ?_ | refine dw_notV ?_ | refine dw_and ?_ | refine dw_or ?_ | refine dw_if ?_ | refine dw_chain ?_ | refine dw_sl3 ?_ | refine dw_revT ?_ | refine dw_tupRg1 ?_ | refine dw_lstRg1 ?_ | refine dw_callI ?_ | refine dw_callJ ?_
  | refine dt_test ?_ | refine dt_B ?_ | refine dt_and ?_ | refine dt_or ?_ | refine dt_not ?_ | refine dt_yes ?_ | refine dt_truth ?_
  | refine ds_ret ?_ | refine ds_retN ?_ | refine ds_next ?_ | refine ds_break ?_ | refine ds_cont ?_ | refine ds_drop ?_ | refine ds_if ?_ | refine ds_set ?_
  | refine nx_nxt ?_ | refine rt_nxt ?_ | refine bk_nxt ?_ | refine ct_nxt ?_ | refine nx_lp ?_ | refine rt_lp ?_ | refine bk_lp ?_ | refine ct_lp ?_ | refine asn_d ?_ | refine asn_fr ?_ | refine rt_E0 ?_ | refine rt_E0o ?_ | refine nx_E0 ?_
  | refine dw_newK ?_ | refine dw_dInK ?_ | refine dw_dNotInK ?_ | refine dw_dGetK ?_ | refine ds_dPutK ?_ | refine dw_callH ?_
  | refine tr_b ?_ | refine tr_i ?_ | refine tr_n ?_ | refine tr_T ?_ | refine tr_L ?_
  | refine do_none ?_ | refine do_some ?_ | refine ite_t ?_ | refine ite_f ?_
  | refine rw_addI ?_ | refine rw_sub ?_ | refine rw_cmp ?_ | refine rw_eqI ?_ | refine rw_neI ?_ | refine rw_eqZ ?_ | refine rw_neZ ?_ | refine rw_eqS ?_ | refine rw_neS ?_ | refine rw_eqB ?_ | refine rw_neB ?_ | refine isN_d ?_ | refine notN_d ?_ | refine rw_isB ?_ | refine rw_notB ?_
  | refine rn_intI ?_ | refine rn_intB ?_ | refine rn_max ?_ | refine rn_min ?_ | refine rn_lenT ?_ | refine rn_lenD ?_ | refine rm_sw ?_ | refine isi_int ?_ | refine isi_bool ?_ | refine isi_str ?_ | refine isi_tuple ?_ | refine isi_list ?_ | refine rn_tupT ?_ | refine rn_listT ?_
  | refine ⟨_, rfl, ?_⟩
  | fail)
local macro_rules | `(tactic| walk_at "va") => `(tactic| first
  | ((with_reducible apply dw_var); rfl) | ((with_reducible apply dw_sl); rfl) | ((with_reducible apply dw_slK); rfl)
  | ((with_reducible apply rw_ixL); rfl; rfl) | ((with_reducible apply rw_ixT); rfl)
  | ((with_reducible apply ite_T); rfl) | ((with_reducible apply ite_F); rfl) | ((with_reducible apply tr_o); rfl)
  | refine ⟨_, rfl, szl (Nat.le_of_ble_eq_true rfl), ?_⟩
  | (with_reducible refine rw_mod (by omega) ?_)
  | (with_reducible refine rw_fdiv (by unfold CDiv; omega) ?_)
  | (with_reducible refine rw_mul (by unfold CMul; omega) ?_)
  | refine ⟨szl (Nat.le_of_ble_eq_true rfl), ?_⟩
  | refine ⟨⟨rfl, _, _, rfl⟩, ?_⟩
  | refine ⟨rfl, ?_⟩
  | rfl
  | fail)
local macro_rules | `(tactic| walk_at "go") => `(tactic| repeat' (first | walk_at "st" | (with_reducible refine ds_seq' ?_) | walk_at "va" | fail))
local macro_rules | `(tactic| walk_at "gs") => `(tactic| repeat' (first | walk_at "st" | walk_at "va" | fail))
structure Stt where
  xs : List Int
  i : Nat
  c : Int
  s : Int
abbrev encS (st : Stt) : List PyData := [.list (st.xs.map .int), nD st.i, .int st.c, .int st.s]
def Stt.ok (st : Stt) : Prop := 0 ≤ st.c ∧ 0 ≤ st.s ∧ st.s < 2147483647 ∧ st.xs.length ≤ 63
section
variable {P : Program} {w : World} {K : PySem.W.Frag} {mg : Str → Option Value} {base : Heap} {a : Ad}
/-! _law_next -/
abbrev argN (x : Stt × Nat) : List PyData := [nD x.2]
def resN (x : Stt × Nat) (l : List PyData) (d : PyData) : Prop := ∃ (st : Stt) (k : Nat), st.ok ∧ l = encS st ∧ d = nD k ∧ k < x.2
abbrev spN (K : PySem.W.Frag) := spJ K (fun x : Stt × Nat => encS x.1) argN (fun x => x.1.ok ∧ 0 < x.2 ∧ x.2 < 1000000000) resN
theorem ok_law_next (T : Tx K mg a) : FnOk P w K mg base CX0 1 a.f10 a.d10 ["state", "limit"] (spN K) := by
  refine fnJ T.F_law_next sc_law_next (fun x => ⟨rfl, by decide⟩) fun cdv A outer s H E hr => ⟨_, (pss_cons (ps_if (PW.pt (pw_and (pt_cmpR (kEQ K rfl hr.units) (pe_ix (kIX K rfl) (pv 0) pe_int (fun _ _ => rfl)) pe_int (nomark _)) (pw_and1 (pt_cmpR op_lt (pe_ix (kIX K rfl) (pv 0) pe_int (fun _ _ => rfl)) (pe_callB (kLEN K rfl) (by rfl) T.z_len (by decide +kernel) (pa_cons (pe_ix (kIX K rfl) (pv 0) pe_int (fun _ _ => rfl)) pa_nil)) (nomark _))))) (pss_cons (ps_set (i := 2) sc_law_next.nd rfl (Or.inl rfl) (pe_ix (kIX K rfl) (pe_ix (kIX K rfl) (pv 0) pe_int (fun _ _ => rfl)) (pe_ix (kIX K rfl) (pv 0) pe_int (fun _ _ => rfl)) (fun _ _ => rfl))) (pss_cons (ps_augS (pv 0) pe_int (kGET K rfl) pe_int ip_add set_list) (pss_one (ps_if (pt_cmpR op_ge (pv 2) (pe_op op_pow pe_int pe_int) (nomark _)) (pss_one (ps_asg (pv 2) (pg_sub (pv 0) pe_int set_list))) (pss_one (ps_asg (pe_op op_mod (pe_callTy call_int1 (by rfl) T.z_int (by decide +kernel) (pa_cons (pe_op (kADD K rfl) (pe_op (kADD K rfl) (pe_op op_mul (pe_ix (kIX K rfl) (pv 0) pe_int (fun _ _ => rfl)) pe_int) (pe_op op_mod (pe_callTy call_int1 (by rfl) T.z_int (by decide +kernel) (pa_cons (pv 2) pa_nil)) pe_int)) pe_int) pa_nil)) pe_int) (pg_sub (pv 0) pe_int set_list))))))) pss_nil) (pss_cons (ps_if (pt_cmpR op_gt (pe_ix (kIX K rfl) (pv 0) pe_int (fun _ _ => rfl)) pe_int (nomark _)) (pss_cons (ps_set (i := 3) sc_law_next.nd rfl (Or.inl rfl) (pe_op op_mod (pe_callTy call_int1 (by rfl) T.z_int (by decide +kernel) (pa_cons (pe_ix (kIX K rfl) (pv 0) pe_int (fun _ _ => rfl)) pa_nil)) (pv 1))) (pss_cons (ps_asg (pe_op op_fdiv (pe_ix (kIX K rfl) (pv 0) pe_int (fun _ _ => rfl)) (pv 1)) (pg_sub (pv 0) pe_int set_list)) (pss_one (ps_ret (pv 3))))) pss_nil) (pss_cons (ps_asg (pe_op op_mod (pe_callTy call_int1 (by rfl) T.z_int (by decide +kernel) (pa_cons (pe_op (kADD K rfl) (pe_op op_mul (pe_ix (kIX K rfl) (pv 0) pe_int (fun _ _ => rfl)) pe_int) pe_int) pa_nil)) pe_int) (pg_sub (pv 0) pe_int set_list)) (pss_one (ps_ret (pe_op op_mod (pe_callTy call_int1 (by rfl) T.z_int (by decide +kernel) (pa_cons (pe_op op_fdiv (pe_ix (kIX K rfl) (pv 0) pe_int (fun _ _ => rfl)) pe_int) pa_nil)) (pv 1))))))), ?_⟩
  rintro ⟨st, n⟩ ⟨⟨h1, h2, h3, h4⟩, h5, h6⟩ p B
  dsimp only [argN] at *
  refine ds_mid' (fun G => ∃ st' c, Stt.ok st' ∧ G = [.o (some p) (encS st'), .d (nD n), c, .un]) ?_ ?_
  · walk_at "go"
    refine ite_k (fun c1 => ?_) (fun c1 => ?_)
    · walk_at "go"
      refine ite_k (fun c2 => ?_) (fun c2 => ?_)
      · have c2 := of_decide_eq_true c2
        obtain ⟨v, hv⟩ : ∃ v, st.xs[st.i]? = some v := by
          rw [List.length_map] at c2
          exact ⟨_, List.getElem?_eq_getElem (by omega)⟩
        walk_at "go"
        refine rw_ixL rfl (ati hv) ?_
        walk_at "go"
        walk_at "go"
        refine ds_augL (i := 0) (a := some p) (ds := encS st) (j := 1) (x := (st.i : Int)) ?_
        walk_at "go"
        refine rw_pow ⟨by decide, by decide, by decide⟩ ?_
        walk_at "go"
        refine ite_k (fun c3 => ?_) (fun c3 => ?_)
        · refine ds_setL (i := 0) (a := some p) (ds := encS { st with i := st.i + 1 }) (j := 2) (d := .int v) ?_
          walk_at "go"
          refine ⟨by simp, ?_⟩
          walk_at "go"
          refine ⟨{ st with i := st.i + 1, c := v }, _, ⟨?_, h2, h3, h4⟩, rfl⟩
          have c3 : (10 : Int) ^ 18 ≤ v := of_decide_eq_true c3
          exact Int.le_trans (by decide) c3
        · refine ds_setL (i := 0) (a := some p) (ds := encS { st with i := st.i + 1 }) (j := 3) (d := .int ((st.s * 48271 + v % 2147483647 + 7) % 2147483647)) ?_
          walk_at "go"
          refine ⟨by simp, ?_⟩
          walk_at "go"
          exact ⟨{ st with i := st.i + 1, s := (st.s * 48271 + v % 2147483647 + 7) % 2147483647 }, _, ⟨h1, Int.emod_nonneg _ (by decide), Int.emod_lt_of_pos _ (by decide), h4⟩, rfl⟩
      · walk_at "go"
        exact ⟨st, _, ⟨h1, h2, h3, h4⟩, rfl⟩
    · walk_at "go"
      exact ⟨st, _, ⟨h1, h2, h3, h4⟩, rfl⟩
  · rintro G1 ⟨st', c, ⟨g1, g2, g3, g4⟩, rfl⟩
    have nn : (0 : Int) < (n : Int) := by omega
    walk_at "go"
    refine ite_k (fun c1 => ?_) (fun c1 => ?_)
    · have c1 := of_decide_eq_true c1
      walk_at "go"
      refine ds_setL (i := 0) (a := some p) (ds := encS st') (j := 2) (d := .int (st'.c / n)) ?_
      walk_at "go"
      refine ⟨by simp, ?_⟩
      walk_at "go"
      refine rt_E1 (ls := encS { st' with c := st'.c / n }) rfl ?_
      refine ⟨{ st' with c := st'.c / n }, (st'.c % n).toNat, ⟨Int.ediv_nonneg g1 (by omega), g2, g3, g4⟩, rfl, ?_, ?_⟩
      · have := Int.emod_nonneg st'.c (b := n) (by omega)
        show PyData.int _ = PyData.int _
        congr 1
        omega
      · have := Int.emod_lt_of_pos st'.c nn
        have := Int.emod_nonneg st'.c (b := n) (by omega)
        show (st'.c % n).toNat < n
        omega
    · walk_at "go"
      refine ds_setL (i := 0) (a := some p) (ds := encS st') (j := 3) (d := .int ((st'.s * 69621 + 12345) % 2147483647)) ?_
      walk_at "go"
      refine ⟨by simp, ?_⟩
      walk_at "go"
      refine rt_E1 (ls := encS { st' with s := (st'.s * 69621 + 12345) % 2147483647 }) rfl ?_
      refine ⟨{ st' with s := (st'.s * 69621 + 12345) % 2147483647 }, ((st'.s * 69621 + 12345) % 2147483647 / 7 % n).toNat, ⟨g1, Int.emod_nonneg _ (by decide), Int.emod_lt_of_pos _ (by decide), g4⟩, rfl, ?_, ?_⟩
      · have := Int.emod_nonneg ((st'.s * 69621 + 12345) % 2147483647 / 7) (b := n) (by omega)
        show PyData.int _ = PyData.int _
        congr 1
        omega
      · have := Int.emod_lt_of_pos ((st'.s * 69621 + 12345) % 2147483647 / 7) nn
        have := Int.emod_nonneg ((st'.s * 69621 + 12345) % 2147483647 / 7) (b := n) (by omega)
        show ((st'.s * 69621 + 12345) % 2147483647 / 7 % n).toNat < n
        omega
/-! _law_same -/
def SD : Nat → PyData → Prop
  | 0, _ => False
  | n + 1, .tuple xs => xs.length ≤ 1000000 ∧ ∀ x ∈ xs, SD n x
  | n + 1, .list xs => xs.length ≤ 1000000 ∧ ∀ x ∈ xs, SD n x
  | _ + 1, .none => True
  | _ + 1, .bool _ => True
  | _ + 1, .int _ => True
  | _ + 1, .str _ => True
  | _ + 1, _ => False
abbrev spQ (K : PySem.W.Frag) (n : Nat) := spI K (fun d : PyData => [d, d]) (SD n) (fun _ r => r = .p (.d (.bool true)))
theorem ok_law_same (T : Tx K mg a) : ∀ n : Nat, FnOk P w K mg base CX0 (n + 1) a.f11 a.d11 ["actual", "expected"] (spQ K n)
  | 0 => fnEx fun x h => h.elim
  | n + 1 => by
    have G_law_same := ok_law_same T n
    refine fnI T.F_law_same sc_law_same (fun x => ⟨rfl, by decide⟩) fun cdv A outer s H E hr => ⟨_, (pss_cons (ps_if (pt_cmpR op_isN (pv 1) pe_non (nomark _)) (pss_one (ps_ret (pe_cmpR op_isN (pv 0) pe_non (nomark _)))) pss_nil) (pss_cons (ps_if (kTRUTH K rfl (pe_callB (kISI K rfl) (by rfl) T.z_isinstance (by decide +kernel) (pa_cons (pv 1) (pa_cons (pe_bltn (v := .ty "bool") (by rfl) T.z_bool (by decide +kernel) rfl) pa_nil))) (by intro _; rfl)) (pss_one (ps_ret (pe_and (pe_callB (kISI K rfl) (by rfl) T.z_isinstance (by decide +kernel) (pa_cons (pv 0) (pa_cons (pe_bltn (v := .ty "bool") (by rfl) T.z_bool (by decide +kernel) rfl) pa_nil))) (pe_one (pe_cmpR (kEQ K rfl hr.units) (pv 0) (pv 1) (nomark _)))))) pss_nil) (pss_cons (ps_if (kTRUTH K rfl (pe_callB (kISI K rfl) (by rfl) T.z_isinstance (by decide +kernel) (pa_cons (pv 1) (pa_cons (pe_bltn (v := .ty "int") (by rfl) T.z_int (by decide +kernel) rfl) pa_nil))) (by intro _; rfl)) (pss_one (ps_ret (pe_and (pe_callB (kISI K rfl) (by rfl) T.z_isinstance (by decide +kernel) (pa_cons (pv 0) (pa_cons (pe_bltn (v := .ty "int") (by rfl) T.z_int (by decide +kernel) rfl) pa_nil))) (pe_and (pe_not (pe_callB (kISI K rfl) (by rfl) T.z_isinstance (by decide +kernel) (pa_cons (pv 0) (pa_cons (pe_bltn (v := .ty "bool") (by rfl) T.z_bool (by decide +kernel) rfl) pa_nil)))) (pe_one (pe_cmpR (kEQ K rfl hr.units) (pv 0) (pv 1) (nomark _))))))) pss_nil) (pss_cons (ps_if (kTRUTH K rfl (pe_callB (kISI K rfl) (by rfl) T.z_isinstance (by decide +kernel) (pa_cons (pv 1) (pa_cons (pe_bltn (v := .ty "str") (by rfl) T.z_str (by decide +kernel) rfl) pa_nil))) (by intro _; rfl)) (pss_one (ps_ret (pe_and (pe_callB (kISI K rfl) (by rfl) T.z_isinstance (by decide +kernel) (pa_cons (pv 0) (pa_cons (pe_bltn (v := .ty "str") (by rfl) T.z_str (by decide +kernel) rfl) pa_nil))) (pe_one (pe_cmpR (kEQ K rfl hr.units) (pv 0) (pv 1) (nomark _)))))) pss_nil) (pss_cons (ps_if (PW.pt (pw_and (kTRUTH K rfl (pe_callB (kISI K rfl) (by rfl) T.z_isinstance (by decide +kernel) (pa_cons (pv 1) (pa_cons (pe_bltn (v := .ty "tuple") (by rfl) T.z_tuple (by decide +kernel) rfl) pa_nil))) (by intro _; rfl)) (pw_and1 (pt_not (kTRUTH K rfl (pe_callB (kISI K rfl) (by rfl) T.z_isinstance (by decide +kernel) (pa_cons (pv 0) (pa_cons (pe_bltn (v := .ty "tuple") (by rfl) T.z_tuple (by decide +kernel) rfl) pa_nil))) (by intro _; rfl)))))) (pss_one (ps_ret pe_bl)) pss_nil) (pss_cons (ps_if (PW.pt (pw_and (kTRUTH K rfl (pe_callB (kISI K rfl) (by rfl) T.z_isinstance (by decide +kernel) (pa_cons (pv 1) (pa_cons (pe_bltn (v := .ty "list") (by rfl) T.z_list (by decide +kernel) rfl) pa_nil))) (by intro _; rfl)) (pw_and1 (pt_not (kTRUTH K rfl (pe_callB (kISI K rfl) (by rfl) T.z_isinstance (by decide +kernel) (pa_cons (pv 0) (pa_cons (pe_bltn (v := .ty "list") (by rfl) T.z_list (by decide +kernel) rfl) pa_nil))) (by intro _; rfl)))))) (pss_one (ps_ret pe_bl)) pss_nil) (pss_cons (ps_if (pt_cmpR (kNE K rfl hr.units) (pe_callB (kLEN K rfl) (by rfl) T.z_len (by decide +kernel) (pa_cons (pv 0) pa_nil)) (pe_callB (kLEN K rfl) (by rfl) T.z_len (by decide +kernel) (pa_cons (pv 1) pa_nil)) (nomark _)) (pss_one (ps_ret pe_bl)) pss_nil) (pss_cons (ps_for PassesOwn.never rfl (pi_range1 (by rfl) T.z_range (pa_cons (pe_callB (kLEN K rfl) (by rfl) T.z_len (by decide +kernel) (pa_cons (pv 1) pa_nil)) pa_nil)) (pg_name (i := 2) sc_law_same.nd rfl (Or.inl rfl)) (pss_one (ps_if (pt_not (kTRUTH K rfl (pe_call G_law_same hr (by rfl) T.m_law_same T.k_law_same T.b_law_same .nil pass0 (pa_cons (pe_ix (kIX K rfl) (pv 0) (pv 2) (fun _ _ => rfl)) (pa_cons (pe_ix (kIX K rfl) (pv 1) (pv 2) (fun _ _ => rfl)) pa_nil))) (by intro _; rfl))) (pss_one (ps_ret pe_bl)) pss_nil))) (pss_one (ps_ret pe_bl)))))))))), ?_⟩
    intro d hd B
    walk_at "go"
    cases d with
    | none => walk_at "go"
    | bool b =>
      walk_at "go"
      simp
    | int i =>
      walk_at "go"
      simp
    | str s =>
      walk_at "go"
      simp
    | list xs =>
      obtain ⟨hz, hx⟩ := hd
      walk_at "go"
      refine ite_F (by simp) ?_
      walk_at "go"
      refine ds_forE' (ch := [2]) ?_
      refine di_rng1 ?_
      walk_at "go"
      refine ⟨by omega, by omega, fun i G => ∃ s, G = [.d (.list xs), .d (.list xs), s], ⟨_, rfl⟩, fun i G2 d hd ⟨s, hG⟩ => ?_, fun G2 ⟨s, hG⟩ => ?_⟩
      · subst hG
        obtain ⟨hi, rfl⟩ := rngD_get hd
        have hi : i < xs.length := by simpa using hi
        have hg : xs[i]? = some xs[i] := List.getElem?_eq_getElem hi
        have e0 : (0 : Int) + (i : Int) = (i : Int) := by omega
        rw [e0]
        refine dg_name ?_
        walk_at "go"
        refine rw_ixL rfl (atn hg) ?_
        walk_at "go"
        refine rw_ixL rfl (atn hg) ?_
        walk_at "go"
        refine ⟨xs[i], hx _ (List.getElem_mem hi), rfl, ?_⟩
        rintro _ rfl
        walk_at "go"
        exact ⟨_, rfl⟩
      · subst hG
        walk_at "go"
    | dict xs => exact hd.elim
    | tuple xs =>
      obtain ⟨hz, hx⟩ := hd
      walk_at "go"
      refine ite_F (by simp) ?_
      walk_at "go"
      refine ds_forE' (ch := [2]) ?_
      refine di_rng1 ?_
      walk_at "go"
      refine ⟨by omega, by omega, fun i G => ∃ s, G = [.d (.tuple xs), .d (.tuple xs), s], ⟨_, rfl⟩, fun i G2 d hd ⟨s, hG⟩ => ?_, fun G2 ⟨s, hG⟩ => ?_⟩
      · subst hG
        obtain ⟨hi, rfl⟩ := rngD_get hd
        have hi : i < xs.length := by simpa using hi
        have hg : xs[i]? = some xs[i] := List.getElem?_eq_getElem hi
        have e0 : (0 : Int) + (i : Int) = (i : Int) := by omega
        rw [e0]
        refine dg_name ?_
        walk_at "go"
        refine rw_ixT (atn hg) ?_
        walk_at "go"
        refine rw_ixT (atn hg) ?_
        walk_at "go"
        refine ⟨xs[i], hx _ (List.getElem_mem hi), rfl, ?_⟩
        rintro _ rfl
        walk_at "go"
        exact ⟨_, rfl⟩
      · subst hG
        walk_at "go"
/-! _law_signs -/
def sigs : List (List Nat) := [[97, 98], [97, 98, 99], [97, 99], [98, 100, 122], [97, 98], [97, 98, 99, 100]]
theorem sigs_ok {z : List Nat} (h : z ∈ sigs) : z.Nodup ∧ 2 ≤ z.length ∧ z.length ≤ 4 ∧ ∀ c ∈ z, c < 0x110000 := (by decide : ∀ z ∈ sigs, z.Nodup ∧ 2 ≤ z.length ∧ z.length ≤ 4 ∧ ∀ c ∈ z, c < 0x110000) z h
def resS (_ : Stt) (l : List PyData) (d : PyData) : Prop := ∃ (st : Stt) (z : List Nat), st.ok ∧ l = encS st ∧ d = zD z ∧ z ∈ sigs
abbrev spS (K : PySem.W.Frag) := spJ K (fun x : Stt => encS x) (fun _ => []) (fun x => x.ok) resS
theorem ok_law_signs (T : Tx K mg a) (G_law_next : FnOk P w K mg base CX0 1 a.f10 a.d10 ["state", "limit"] (spN K)) : FnOk P w K mg base CX0 2 a.f12 a.d12 ["state"] (spS K) := by
  refine fnJ T.F_law_signs sc_law_signs (fun x => ⟨rfl, by decide⟩) fun cdv A outer s H E hr => ⟨_, (pss_one (ps_ret (pe_ix (kIX K rfl) (pe_lst (pa_cons (pe_strM [97, 98] rfl) (pa_cons (pe_strM [97, 98, 99] rfl) (pa_cons (pe_strM [97, 99] rfl) (pa_cons (pe_strM [98, 100, 122] rfl) (pa_cons (pe_strM [97, 98] rfl) (pa_cons (pe_strM [97, 98, 99, 100] rfl) pa_nil))))))) (pe_call G_law_next hr (by rfl) T.m_law_next T.k_law_next T.b_law_next .nil pass0 (pa_cons (pv 0) (pa_cons pe_int pa_nil))) (fun _ _ => rfl)))), ?_⟩
  rintro st hst p B
  walk_at "go"
  refine ⟨(st, 6), 0, some p, _, ⟨hst, by simp, by simp⟩, rfl, rfl, rfl, ?_⟩
  rintro _ _ ⟨st', k, hst', rfl, rfl, hk⟩
  walk_at "go"
  obtain ⟨z, hz⟩ : ∃ z, sigs[k]? = some z := ⟨_, List.getElem?_eq_getElem hk⟩
  refine rw_ixL rfl (ati (f := zD) (xs := sigs) hz) ?_
  walk_at "go"
  exact rt_E1 rfl ⟨st', z, hst', rfl, rfl, List.mem_of_getElem? hz⟩
end
end K62
namespace K62
open PySem PySem.Spec PyProof.Rows L2 DL
local macro_rules | `(tactic| walk_at "st") => `(tactic| with_reducible first
  | refine pw_p ?_ | refine pw_o ?_ | refine dw_op ?_ | refine dw_un ?_ | refine dw_int ?_ | refine dw_str ?_ | refine dw_bl ?_ | refine dw_non ?_ | refine dw_ty ?_ | refine da_nil' ?_ | refine da_cons' ?_ | refine dw_sortSetT ?_ | refine dw_CB ?_ | refine dw_BM ?_ | refine dw_BM0 ?_
  | refine dw_tup ?_ | refine dw_lst ?_ | refine dw_notV ?_ | refine dw_and ?_ | refine dw_or ?_ | refine dw_if ?_ | refine dw_chain ?_ | refine dw_sl3 ?_ | refine dw_revT ?_ | refine dw_tupRg1 ?_ | refine dw_lstRg1 ?_ | refine dw_callI ?_ | refine dw_callJ ?_
  | refine dt_test ?_ | refine dt_B ?_ | refine dt_and ?_ | refine dt_or ?_ | refine dt_not ?_ | refine dt_yes ?_ | refine dt_truth ?_
  | refine ds_ret ?_ | refine ds_retN ?_ | refine ds_next ?_ | refine ds_break ?_ | refine ds_cont ?_ | refine ds_drop ?_ | refine ds_if ?_ | refine ds_set ?_
  | refine nx_nxt ?_ | refine rt_nxt ?_ | refine bk_nxt ?_ | refine ct_nxt ?_ | refine nx_lp ?_ | refine rt_lp ?_ | refine bk_lp ?_ | refine ct_lp ?_ | refine asn_d ?_ | refine asn_fr ?_ | refine rt_E0 ?_ | refine rt_E0o ?_ | refine nx_E0 ?_
  | refine dw_newK ?_ | refine dw_dInK ?_ | refine dw_dNotInK ?_ | refine dw_dGetK ?_ | refine ds_dPutK ?_ | refine dw_callH ?_
  | refine tr_b ?_ | refine tr_i ?_ | refine tr_n ?_ | refine tr_T ?_ | refine tr_L ?_
  | refine do_none ?_ | refine do_some ?_ | refine ite_t ?_ | refine ite_f ?_
  | refine rw_addI ?_ | refine rw_sub ?_ | refine rw_cmp ?_ | refine rw_eqI ?_ | refine rw_neI ?_ | refine rw_eqZ ?_ | refine rw_neZ ?_ | refine rw_eqS ?_ | refine rw_neS ?_ | refine rw_eqB ?_ | refine rw_neB ?_ | refine isN_d ?_ | refine notN_d ?_ | refine rw_isB ?_ | refine rw_notB ?_
  | refine rn_intI ?_ | refine rn_intB ?_ | refine rn_max ?_ | refine rn_min ?_ | refine rn_lenT ?_ | refine rn_lenD ?_ | refine rm_sw ?_ | refine isi_int ?_ | refine isi_bool ?_ | refine isi_str ?_ | refine isi_tuple ?_ | refine isi_list ?_ | refine rn_tupT ?_ | refine rn_listT ?_
  | refine ⟨_, rfl, ?_⟩
  | fail)
local macro_rules | `(tactic| walk_at "va") => `(tactic| first
  | ((with_reducible apply dw_var); rfl) | ((with_reducible apply dw_sl); rfl) | ((with_reducible apply dw_slK); rfl)
  | ((with_reducible apply rw_ixL); rfl; rfl) | ((with_reducible apply rw_ixT); rfl)
  | ((with_reducible apply ite_T); rfl) | ((with_reducible apply ite_F); rfl) | ((with_reducible apply tr_o); rfl)
  | refine ⟨_, rfl, szl (Nat.le_of_ble_eq_true rfl), ?_⟩
  | (with_reducible refine rw_mod (by omega) ?_)
  | (with_reducible refine rw_fdiv (by unfold CDiv; omega) ?_)
  | (with_reducible refine rw_mul (by unfold CMul; omega) ?_)
  | refine ⟨szl (Nat.le_of_ble_eq_true rfl), ?_⟩
  | refine ⟨⟨rfl, _, _, rfl⟩, ?_⟩
  | refine ⟨rfl, ?_⟩
  | rfl
  | fail)
local macro_rules | `(tactic| walk_at "go") => `(tactic| repeat' (first | walk_at "st" | (with_reducible refine ds_seq' ?_) | walk_at "va" | fail))
local macro_rules | `(tactic| walk_at "gs") => `(tactic| repeat' (first | walk_at "st" | walk_at "va" | fail))
abbrev Mach := List (Bool × List Nat)
abbrev encL (l : Bool × List Nat) : PyData := .tuple [.bool l.1, .tuple (l.2.map nD)]
abbrev encM (m : Mach) : PyData := .tuple (m.map encL)
def nxt (m : Mach) (l k : Nat) : Nat := ((m[l]?).bind fun p => p.2[k]?).getD 0
def Good (m : Mach) (n : Nat) : Prop := ∀ l ∈ m, l.2.length = n ∧ ∀ q ∈ l.2, q < m.length
theorem Good.at {m : Mach} {n l k : Nat} (g : Good m n) (hl : l < m.length) (hk : k < n) : ∃ x, m[l]? = some x ∧ x.2[k]? = some (nxt m l k) ∧ nxt m l k < m.length := by
  obtain ⟨h1, h2⟩ := g m[l] (List.getElem_mem hl)
  have e1 : m[l]? = some m[l] := List.getElem?_eq_getElem hl
  have hk' : k < m[l].2.length := by omega
  have e2 : m[l].2[k]? = some (nxt m l k) := by
    unfold nxt
    rw [e1]
    show m[l].2[k]? = some (m[l].2[k]?.getD 0)
    rw [List.getElem?_eq_getElem hk']
    rfl
  exact ⟨_, e1, e2, h2 _ (List.mem_of_getElem? e2)⟩
section
variable {P : Program} {w : World} {K : PySem.W.Frag} {mg : Str → Option Value} {base : Heap} {a : Ad}
/-! _law_line -/
def run (m : Mach) (z : List Nat) (l : Nat) (row : List Nat) : Nat := row.foldl (fun l c => nxt m l (z.idxOf c)) l
abbrev argR (x : Mach × List Nat × Nat × List Nat) : List PyData := [encM x.1, zD x.2.1, nD x.2.2.1, zD x.2.2.2]
def preR (x : Mach × List Nat × Nat × List Nat) : Prop := Good x.1 x.2.1.length ∧ x.2.2.1 < x.1.length ∧ ∀ c ∈ x.2.2.2, c ∈ x.2.1
abbrev spR (K : PySem.W.Frag) := spI K argR preR (fun x r => r = .p (.d (nD (run x.1 x.2.1 x.2.2.1 x.2.2.2))))
theorem run_lt {m : Mach} {z : List Nat} (g : Good m z.length) : ∀ {row : List Nat} {l : Nat}, l < m.length → (∀ c ∈ row, c ∈ z) → run m z l row < m.length
  | [], _, h, _ => h
  | c :: row, l, h, hr => by
    obtain ⟨x, _, _, e⟩ := g.at h (List.idxOf_lt_length_of_mem (hr c List.mem_cons_self))
    exact run_lt (row := row) g e fun c hc => hr c (List.mem_cons_of_mem _ hc)
theorem ok_law_line (T : Tx K mg a) : FnOk P w K mg base CX0 1 a.f14 a.d14 ["machine", "signs", "line", "row"] (spR K) := by
  refine fnI T.F_law_line sc_law_line (fun x => ⟨rfl, by decide⟩) fun cdv A outer s H E hr => ⟨_, (pss_cons (ps_for PassesOwn.never rfl (kANY K rfl (pv 3)) (pg_name (i := 4) sc_law_line.nd rfl (Or.inl rfl)) (pss_one (ps_set (i := 2) sc_law_line.nd rfl (Or.inl rfl) (pe_ix (kIX K rfl) (pe_ix (kIX K rfl) (pe_ix (kIX K rfl) (pv 0) (pv 2) (fun _ _ => rfl)) pe_int (fun _ _ => rfl)) (kBM K rfl (pe_bm PySem.F.plainAttrs_str PySem.F.slot_str_index PySem.F.type_str_index mt_sindex (pv 1) (pa_cons (pv 4) pa_nil))) (fun _ _ => rfl))))) (pss_one (ps_ret (pv 2)))), ?_⟩
  rintro ⟨m, z, l, row⟩ ⟨g, hl, hr⟩ B
  dsimp only [argR] at *
  walk_at "go"
  refine ds_forE' (ch := [4]) ?_
  refine di_anyS (di_str ?_)
  walk_at "go"
  refine ⟨fun i G => ∃ s, G = [.d (encM m), .d (zD z), .d (nD (run m z l (row.take i))), .d (zD row), s], ⟨_, rfl⟩, fun i G2 d hd ⟨s, hG⟩ => ?_, fun G2 ⟨s, hG⟩ => ?_⟩
  · subst hG
    rw [List.getElem?_map] at hd
    obtain ⟨c, hc, rfl⟩ := Option.map_eq_some_iff.mp hd
    have hcz : c ∈ z := hr c (List.mem_of_getElem? hc)
    have hlt : run m z l (row.take i) < m.length := run_lt g hl fun c hc => hr c (List.mem_of_mem_take hc)
    obtain ⟨x, e1, e2, _⟩ := g.at hlt (List.idxOf_lt_length_of_mem hcz)
    refine dg_name ?_
    walk_at "go"
    refine rw_ixT (ati e1) ?_
    walk_at "go"
    refine rm_sindex hcz ?_
    walk_at "go"
    refine rw_ixT (ati e2) ?_
    walk_at "go"
    refine ⟨.d (zD [c]), ?_⟩
    rw [List.take_succ, hc]
    show _ = [Sl.d (encM m), Sl.d (zD z), Sl.d (nD (run m z l (row.take i ++ [c]))), Sl.d (zD row), _]
    unfold run
    rw [List.foldl_append]
    rfl
  · subst hG
    rw [List.length_map, List.take_length]
    walk_at "go"
/-! _law_row -/
abbrev argW (x : Stt × List Nat × Nat) : List PyData := [zD x.2.1, nD x.2.2]
def resW (x : Stt × List Nat × Nat) (l : List PyData) (d : PyData) : Prop := ∃ (st : Stt) (row : List Nat), st.ok ∧ l = encS st ∧ d = zD row ∧ row.length ≤ x.2.2 ∧ ∀ c ∈ row, c ∈ x.2.1
abbrev spW (K : PySem.W.Frag) := spJ K (fun x : Stt × List Nat × Nat => encS x.1) argW (fun x => x.1.ok ∧ 0 < x.2.1.length ∧ x.2.1.length ≤ 1000 ∧ x.2.2 ≤ 1000) resW
theorem ok_law_row (T : Tx K mg a) (G_law_next : FnOk P w K mg base CX0 1 a.f10 a.d10 ["state", "limit"] (spN K)) : FnOk P w K mg base CX0 2 a.f16 a.d16 ["state", "signs", "most"] (spW K) := by
  refine fnJ T.F_law_row sc_law_row (fun x => ⟨rfl, by decide⟩) fun cdv A outer s H E hr => ⟨_, (pss_one (ps_ret (kBM K rfl (pe_bm PySem.F.plainAttrs_str PySem.F.slot_str_join PySem.F.type_str_join (kJOIN K rfl) (pe_strM [] rfl) (pa_cons (pe_lc (own := [("k", 3)]) (g := gName 3) (by rfl) sc_law_row.nd (pi_range1 (by rfl) T.z_range (pa_cons (pe_call G_law_next hr (by rfl) T.m_law_next T.k_law_next T.b_law_next .nil pass0 (pa_cons (pv 0) (pa_cons (pe_op (kADD K rfl) (pv 2) pe_int) pa_nil))) pa_nil)) (blkOk_by (own := [("k", 3)]) (N := ["state", "signs", "most", "k"]) (sc := defScope s_law_row) (by decide +kernel)) (fun _ _ _ _ _ => (pg_name (i := 3) sc_law_row.nd rfl (by first | exact Or.inl rfl | exact Or.inr rfl))) (fun _ _ _ _ _ => pts_nil) (fun _ _ _ _ _ => (pe_ix (kIX K rfl) (pv 1) (pe_call G_law_next hr (by rfl) T.m_law_next T.k_law_next T.b_law_next .nil pass0 (pa_cons (pv 0) (pa_cons (pe_callB (kLEN K rfl) (by rfl) T.z_len (by decide +kernel) (pa_cons (pv 1) pa_nil)) pa_nil))) (fun _ _ => rfl)))) pa_nil))))), ?_⟩
  rintro ⟨st, z, n⟩ ⟨hst, h1, h2, h3⟩ p B
  dsimp only [argW] at *
  walk_at "go"
  refine dw_lcE (ch := [3]) (fun k hk => hk) ?_
  refine di_rng1 ?_
  walk_at "go"
  refine ⟨(st, n + 1), 0, some p, _, ⟨hst, Nat.succ_pos n, by show n + 1 < 1000000000; omega⟩, rfl, rfl, rfl, ?_⟩
  rintro _ _ ⟨st1, k, hst1, rfl, rfl, hk⟩
  have hk : k < n + 1 := hk
  walk_at "go"
  refine ⟨by omega, by omega, fun i acc G => ∃ st' cs, Stt.ok st' ∧ acc = cs.map (fun c => zD [c]) ∧ cs.length = i ∧ (∀ c ∈ cs, c ∈ z) ∧ G = [.o (some p) (encS st'), .d (zD z), .d (nD n), .un], ⟨st1, [], hst1, rfl, rfl, (fun c h => nomatch h), rfl⟩, fun B' i acc G2 d hd ⟨st', cs, hst', ha, hl, hc, hG⟩ => ?_, fun acc G2 ⟨st', cs, hst', ha, hl, hc, hG⟩ => ?_⟩
  · subst hG ha
    have hi : i < k := by
      obtain ⟨h, _⟩ := rngD_get hd
      simpa using h
    refine dg_name ?_
    walk_at "go"
    refine rn_lenS (szl (by omega)) ?_
    walk_at "go"
    refine ⟨(st', z.length), 0, some p, _, ⟨hst', h1, by show z.length < 1000000000; omega⟩, rfl, rfl, rfl, ?_⟩
    rintro _ _ ⟨st2, j, hst2, rfl, rfl, hj⟩
    have hj : j < z.length := hj
    walk_at "go"
    obtain ⟨c, hcz⟩ : ∃ c, z[j]? = some c := ⟨_, List.getElem?_eq_getElem hj⟩
    refine rw_ixS (szl (by omega)) (atn hcz) ?_
    walk_at "go"
    refine ⟨szlt (by rw [List.length_map]; omega), st2, cs ++ [c], hst2, by rw [List.map_append]; rfl, by simp [hl], fun c' h' => ?_, rfl⟩
    rcases List.mem_append.mp h' with h' | h'
    · exact hc c' h'
    · rw [List.mem_singleton.mp h']
      exact List.mem_of_getElem? hcz
  · subst hG ha
    walk_at "go"
    have hn : cs.length ≤ n := by
      rw [rngD_len] at hl
      simp at hl
      omega
    refine rm_join0 rfl (by omega) ?_
    exact rt_E1 rfl ⟨st', cs, hst', rfl, rfl, hn, hc⟩
/-! _law_machine -/
abbrev argM (x : Stt × List Nat) : List PyData := [zD x.2]
def resM (x : Stt × List Nat) (l : List PyData) (d : PyData) : Prop := ∃ (st : Stt) (m : Mach), st.ok ∧ l = encS st ∧ d = encM m ∧ Good m x.2.length ∧ 1 ≤ m.length ∧ m.length ≤ 11
abbrev spM (K : PySem.W.Frag) := spJ K (fun x : Stt × List Nat => encS x.1) argM (fun x => x.1.ok ∧ 0 < x.2.length ∧ x.2.length ≤ 1000) resM
theorem nD_of {x : Int} (h : 0 ≤ x) : PyData.int x = nD x.toNat := by
  show PyData.int x = PyData.int (x.toNat : Int)
  rw [Int.toNat_of_nonneg h]
def manyL : List Nat := [6, 6, 6, 11]
theorem ok_law_machine (T : Tx K mg a) (G_law_next : FnOk P w K mg base CX0 1 a.f10 a.d10 ["state", "limit"] (spN K)) : FnOk P w K mg base CX0 2 a.f13 a.d13 ["state", "signs"] (spM K) := by
  refine fnJ T.F_law_machine sc_law_machine (fun x => ⟨rfl, by decide⟩) fun cdv A outer s H E hr => ⟨_, (pss_cons (ps_set (i := 2) sc_law_machine.nd rfl (Or.inr rfl) (pe_op (kADD K rfl) pe_int (pe_call G_law_next hr (by rfl) T.m_law_next T.k_law_next T.b_law_next .nil pass0 (pa_cons (pv 0) (pa_cons (pe_ix (kIX K rfl) (pe_lst (pa_cons pe_int (pa_cons pe_int (pa_cons pe_int (pa_cons pe_int pa_nil))))) (pe_call G_law_next hr (by rfl) T.m_law_next T.k_law_next T.b_law_next .nil pass0 (pa_cons (pv 0) (pa_cons pe_int pa_nil))) (fun _ _ => rfl)) pa_nil))))) (pss_cons (ps_set (i := 3) sc_law_machine.nd rfl (Or.inl rfl) (pe_call G_law_next hr (by rfl) T.m_law_next T.k_law_next T.b_law_next .nil pass0 (pa_cons (pv 0) (pa_cons pe_int pa_nil)))) (pss_cons (ps_setLc (i := 4) (own := [("sign", 10)]) (g := gName 10) (by rfl) sc_law_machine.nd rfl rfl (sw_true rfl rfl rfl (by decide +kernel)) (kANY K rfl (pv 1)) (blkOk_by (own := [("sign", 10)]) (N := ["state", "signs", "many", "kind", "steps", "lines", "line", "nexts", "k", "pick", "sign"]) (sc := defScope s_law_machine) (by decide +kernel)) (fun _ _ _ _ _ => (pg_name (i := 10) sc_law_machine.nd rfl (by first | exact Or.inl rfl | exact Or.inr rfl))) (fun _ _ _ _ _ => pts_nil) (fun _ _ _ _ _ => (pe_call G_law_next hr (by rfl) T.m_law_next T.k_law_next T.b_law_next .nil pass0 (pa_cons (pv 0) (pa_cons (pv 2) pa_nil))))) (pss_cons (ps_set (i := 5) sc_law_machine.nd rfl (Or.inl rfl) (pe_lst pa_nil)) (pss_cons (ps_for PassesOwn.never rfl (pi_range1 (by rfl) T.z_range (pa_cons (pv 2) pa_nil)) (pg_name (i := 6) sc_law_machine.nd rfl (Or.inl rfl)) (pss_cons (ps_set (i := 7) sc_law_machine.nd rfl (Or.inl rfl) (pe_lst pa_nil)) (pss_cons (ps_for PassesOwn.never rfl (pi_range1 (by rfl) T.z_range (pa_cons (pe_callB (kLEN K rfl) (by rfl) T.z_len (by decide +kernel) (pa_cons (pv 1) pa_nil)) pa_nil)) (pg_name (i := 8) sc_law_machine.nd rfl (Or.inl rfl)) (pss_cons (ps_set (i := 9) sc_law_machine.nd rfl (Or.inl rfl) (pe_call G_law_next hr (by rfl) T.m_law_next T.k_law_next T.b_law_next .nil pass0 (pa_cons (pv 0) (pa_cons (pv 2) pa_nil)))) (pss_cons (ps_if (pt_cmpR (kEQ K rfl hr.units) (pv 3) pe_int (nomark _)) (pss_one (ps_set (i := 9) sc_law_machine.nd rfl (Or.inl rfl) (pe_callB (call_max2 rfl) (by rfl) T.z_max (by decide +kernel) (pa_cons (pv 6) (pa_cons (pv 9) pa_nil))))) (pss_one (ps_if (pt_cmpR (kEQ K rfl hr.units) (pv 3) pe_int (nomark _)) (pss_one (ps_set (i := 9) sc_law_machine.nd rfl (Or.inl rfl) (pe_op op_mod (pe_callTy call_int1 (by rfl) T.z_int (by decide +kernel) (pa_cons (pe_op (kADD K rfl) (pv 6) (pe_ix (kIX K rfl) (pv 4) (pv 8) (fun _ _ => rfl))) pa_nil)) (pv 2)))) (pss_one (ps_if (pt_cmpR (kEQ K rfl hr.units) (pv 3) pe_int (nomark _)) (pss_one (ps_set (i := 9) sc_law_machine.nd rfl (Or.inl rfl) (pe_callB (call_min2 rfl) (by rfl) T.z_min (by decide +kernel) (pa_cons (pe_op op_sub (pv 2) pe_int) (pa_cons (pe_op (kADD K rfl) (pv 6) (pe_callTy call_int1 (by rfl) T.z_int (by decide +kernel) (pa_cons (pe_cmpR op_gt (pe_ix (kIX K rfl) (pv 4) (pv 8) (fun _ _ => rfl)) pe_int (nomark _)) pa_nil))) pa_nil))))) (pss_one (ps_if (pt_cmpR (kEQ K rfl hr.units) (pv 3) pe_int (nomark _)) (pss_one (ps_set (i := 9) sc_law_machine.nd rfl (Or.inl rfl) (pe_ix (kIX K rfl) (pe_lst (pa_cons (pv 6) (pa_cons (pe_callB (call_max2 rfl) (by rfl) T.z_max (by decide +kernel) (pa_cons (pv 6) (pa_cons (pv 9) pa_nil))) pa_nil))) (pe_call G_law_next hr (by rfl) T.m_law_next T.k_law_next T.b_law_next .nil pass0 (pa_cons (pv 0) (pa_cons pe_int pa_nil))) (fun _ _ => rfl)))) (pss_one (ps_if (pt_cmpR (kEQ K rfl hr.units) (pv 3) pe_int (nomark _)) (pss_one (ps_set (i := 9) sc_law_machine.nd rfl (Or.inl rfl) (pe_ix (kIX K rfl) (pv 4) (pv 8) (fun _ _ => rfl)))) pss_nil))))))))) (pss_one (ps_expr (kBM K rfl (pe_bm PySem.F.plainAttrs_list PySem.F.slot_list_append PySem.F.type_list_append mt_append (pv 7) (pa_cons (pv 9) pa_nil)))))))) (pss_one (ps_expr (kBM K rfl (pe_bm PySem.F.plainAttrs_list PySem.F.slot_list_append PySem.F.type_list_append mt_append (pv 5) (pa_cons (pe_tup (pa_cons (pe_cmpR (kEQ K rfl hr.units) (pe_call G_law_next hr (by rfl) T.m_law_next T.k_law_next T.b_law_next .nil pass0 (pa_cons (pv 0) (pa_cons pe_int pa_nil))) pe_int (nomark _)) (pa_cons (pe_callTy (kTUP K rfl) (by rfl) T.z_tuple (by decide +kernel) (pa_cons (pv 7) pa_nil)) pa_nil))) pa_nil)))))))) (pss_one (ps_ret (pe_callTy (kTUP K rfl) (by rfl) T.z_tuple (by decide +kernel) (pa_cons (pv 5) pa_nil))))))))), ?_⟩
  rintro ⟨st, z⟩ ⟨hst, h1, h2⟩ p B
  dsimp only [argM] at *
  walk_at "go"
  refine ⟨(st, 4), 0, some p, _, ⟨hst, by simp, by simp⟩, rfl, rfl, rfl, ?_⟩
  rintro _ _ ⟨st1, k1, hst1, rfl, rfl, hk1⟩
  have hk1 : k1 < 4 := hk1
  obtain ⟨lim, hlim⟩ : ∃ n, manyL[k1]? = some n := ⟨_, List.getElem?_eq_getElem hk1⟩
  have hl : 6 ≤ lim ∧ lim ≤ 11 := (by decide : ∀ n ∈ manyL, 6 ≤ n ∧ n ≤ 11) _ (List.mem_of_getElem? hlim)
  walk_at "go"
  refine rw_ixL rfl (ati (f := nD) (xs := manyL) hlim) ?_
  walk_at "go"
  refine ⟨(st1, lim), 0, some p, _, ⟨hst1, by show 0 < lim; omega, by show lim < 1000000000; omega⟩, rfl, rfl, rfl, ?_⟩
  rintro _ _ ⟨st2, k2, hst2, rfl, rfl, hk2⟩
  have hk2 : k2 < lim := hk2
  walk_at "go"
  refine ⟨(st2, 7), 0, some p, _, ⟨hst2, by simp, by simp⟩, rfl, rfl, rfl, ?_⟩
  rintro _ _ ⟨st3, kind, hst3, rfl, rfl, hkind⟩
  obtain ⟨many, hmany⟩ : ∃ many : Nat, many = 1 + k2 := ⟨_, rfl⟩
  have em : (1 : Int) + (k2 : Int) = (many : Int) := by omega
  rw [em]
  have hm1 : 1 ≤ many := by omega
  have hm2 : many ≤ 11 := by omega
  walk_at "go"
  refine dw_lcE (ch := [10]) (fun k hk => hk) ?_
  refine di_anyS (di_str ?_)
  walk_at "go"
  refine ⟨fun i acc G => ∃ st' ss, Stt.ok st' ∧ acc = ss.map nD ∧ ss.length = i ∧ (∀ q ∈ ss, q < many) ∧ G = [.o (some p) (encS st'), .d (zD z), .d (nD many), .d (nD kind), .un, .un, .un, .un, .un, .un, .un], ⟨st3, [], hst3, rfl, rfl, (fun c h => nomatch h), rfl⟩, fun B' i acc G2 d hd ⟨st', ss, hst', ha, hl, hc, hG⟩ => ?_, fun acc G2 ⟨st4, ss, hst4, ha, hls, hss, hG⟩ => ?_⟩
  · subst hG ha
    have hi : i < z.length := by
      have := (List.getElem?_eq_some_iff.mp hd).1
      simpa using this
    refine dg_name ?_
    walk_at "go"
    refine ⟨(st', many), 0, some p, _, ⟨hst', hm1, by show many < 1000000000; omega⟩, rfl, rfl, rfl, ?_⟩
    rintro _ _ ⟨st2, j, hst2, rfl, rfl, hj⟩
    walk_at "go"
    refine ⟨szlt (by rw [List.length_map]; omega), st2, ss ++ [j], hst2, by rw [List.map_append]; rfl, by simp [hl], fun c' h' => ?_, rfl⟩
    rcases List.mem_append.mp h' with h' | h'
    · exact hc c' h'
    · rw [List.mem_singleton.mp h']
      exact hj
  · subst hG ha
    rw [List.length_map] at hls
    walk_at "go"
    refine ds_forE' (ch := [6]) ?_
    refine di_rng1 ?_
    walk_at "go"
    refine ⟨by omega, by omega, fun i G => ∃ (st' : Stt) (ls : Mach) (s6 s7 s8 s9 s10 : Sl), st'.ok ∧ ls.length = i ∧ (∀ l ∈ ls, l.2.length = z.length ∧ ∀ q ∈ l.2, q < many) ∧ G = [.o (some p) (encS st'), .d (zD z), .d (nD many), .d (nD kind), .o none (ss.map nD), .o none (ls.map encL), s6, s7, s8, s9, s10], ⟨st4, [], _, _, _, _, _, hst4, rfl, (fun c h => nomatch h), rfl⟩, fun i G2 d hd ⟨st', ls, s6, s7, s8, s9, s10, hst', hl, hok, hG⟩ => ?_, fun G2 ⟨st', ls, s6, s7, s8, s9, s10, hst', hl, hok, hG⟩ => ?_⟩
    · subst hG
      obtain ⟨hi, rfl⟩ := rngD_get hd
      have hi : i < many := by simpa using hi
      have e0 : (0 : Int) + (i : Int) = (i : Int) := by omega
      rw [e0]
      refine dg_name ?_
      walk_at "go"
      refine ds_forE' (ch := [8]) ?_
      refine di_rng1 ?_
      walk_at "go"
      refine rn_lenS (szl (by omega)) ?_
      walk_at "go"
      refine ⟨by omega, by omega, fun j G => ∃ (st' : Stt) (ns : List Nat) (s8 s9 s10 : Sl), st'.ok ∧ ns.length = j ∧ (∀ q ∈ ns, q < many) ∧ G = [.o (some p) (encS st'), .d (zD z), .d (nD many), .d (nD kind), .o none (ss.map nD), .o none (ls.map encL), .d (nD i), .o none (ns.map nD), s8, s9, s10], ⟨st', [], _, _, _, hst', rfl, (fun c h => nomatch h), rfl⟩, fun j G2 d hd ⟨st', ns, s8, s9, s10, hst', hnl, hns, hG⟩ => ?_, fun G2 ⟨st', ns, s8, s9, s10, hst', hnl, hns, hG⟩ => ?_⟩
      · subst hG
        obtain ⟨hj, rfl⟩ := rngD_get hd
        have hj : j < z.length := by simpa using hj
        have e0 : (0 : Int) + (j : Int) = (j : Int) := by omega
        rw [e0]
        obtain ⟨sj, hsj⟩ : ∃ x, ss[j]? = some x := ⟨_, List.getElem?_eq_getElem (by omega)⟩
        have hsj2 : sj < many := hss _ (List.mem_of_getElem? hsj)
        refine dg_name ?_
        refine ds_seq' ?_
        walk_at "gs"
        refine ⟨(st', many), 0, some p, _, ⟨hst', hm1, by show many < 1000000000; omega⟩, rfl, rfl, rfl, ?_⟩
        rintro _ _ ⟨st5, pick, hst5, rfl, rfl, hpick⟩
        have hpick : pick < many := hpick
        walk_at "gs"
        refine ds_mid' (fun G => ∃ (st' : Stt) (pk : Int), st'.ok ∧ 0 ≤ pk ∧ pk < (many : Int) ∧ G = [.o (some p) (encS st'), .d (zD z), .d (nD many), .d (nD kind), .o none (ss.map nD), .o none (ls.map encL), .d (nD i), .o none (ns.map nD), .d (nD j), .d (.int pk), s10]) ?_ ?_
        · walk_at "gs"
          refine ite_k (fun c1 => ?_) (fun c1 => ?_)
          · walk_at "gs"
            refine ⟨st5, _, hst5, ?_, ?_, rfl⟩ <;> split <;> omega
          · walk_at "gs"
            refine ite_k (fun c1 => ?_) (fun c1 => ?_)
            · walk_at "gs"
              refine rw_ixL rfl (ati hsj) ?_
              walk_at "gs"
              exact ⟨st5, _, hst5, Int.emod_nonneg _ (by omega), Int.emod_lt_of_pos _ (by omega), rfl⟩
            · walk_at "gs"
              refine ite_k (fun c1 => ?_) (fun c1 => ?_)
              · walk_at "gs"
                refine rw_ixL rfl (ati hsj) ?_
                walk_at "gs"
                refine ⟨st5, _, hst5, ?_, ?_, rfl⟩ <;> (repeat' split) <;> omega
              · walk_at "gs"
                refine ite_k (fun c1 => ?_) (fun c1 => ?_)
                · walk_at "gs"
                  refine ⟨(st5, 2), 0, some p, _, ⟨hst5, by simp, by simp⟩, rfl, rfl, rfl, ?_⟩
                  rintro _ _ ⟨st6, b, hst6, rfl, rfl, hb⟩
                  have hb : b < 2 := hb
                  walk_at "gs"
                  have hb2 : b = 0 ∨ b = 1 := by omega
                  rcases hb2 with rfl | rfl
                  · refine rw_ixL rfl rfl ?_
                    walk_at "gs"
                    exact ⟨st6, _, hst6, by omega, by omega, rfl⟩
                  · refine rw_ixL rfl rfl ?_
                    walk_at "gs"
                    refine ⟨st6, _, hst6, ?_, ?_, rfl⟩ <;> split <;> omega
                · walk_at "gs"
                  refine ite_k (fun c1 => ?_) (fun c1 => ?_)
                  · walk_at "gs"
                    refine rw_ixL rfl (ati hsj) ?_
                    walk_at "gs"
                    exact ⟨st5, _, hst5, by omega, by omega, rfl⟩
                  · walk_at "gs"
                    exact ⟨st5, _, hst5, by omega, by omega, rfl⟩
        · rintro G2 ⟨st6, pk, hst6, hp0, hp1, rfl⟩
          rw [nD_of hp0]
          walk_at "gs"
          refine rm_app rfl (szlt (by rw [List.length_map]; omega)) ?_
          walk_at "gs"
          refine ⟨st6, ns ++ [pk.toNat], _, _, _, hst6, by simp [hnl], fun q hq => ?_, by rw [List.map_append]; rfl⟩
          rcases List.mem_append.mp hq with h' | h'
          · exact hns q h'
          · rw [List.mem_singleton.mp h']
            omega
      · subst hG
        have hnl : ns.length = z.length := by
          rw [hnl, rngD_len]
          simp
        walk_at "gs"
        refine ⟨(st', 2), 0, some p, _, ⟨hst', by simp, by simp⟩, rfl, rfl, rfl, ?_⟩
        rintro _ _ ⟨st6, b, hst6, rfl, rfl, hb⟩
        walk_at "gs"
        refine rn_tupL rfl ?_
        walk_at "gs"
        refine rm_app rfl (szlt (by rw [List.length_map]; omega)) ?_
        walk_at "gs"
        refine ⟨st6, ls ++ [(decide ((b : Int) = 1), ns)], _, _, _, _, _, hst6, by simp [hl], fun l hl => ?_, by rw [List.map_append]; rfl⟩
        rcases List.mem_append.mp hl with h' | h'
        · exact hok l h'
        · rw [List.mem_singleton.mp h']
          exact ⟨hnl, hns⟩
    · subst hG
      rw [rngD_len] at hl
      have hl : ls.length = many := by simpa using hl
      walk_at "gs"
      refine rn_tupL rfl ?_
      refine rt_E1 rfl ⟨st', ls, hst', rfl, rfl, fun l h => ?_, by omega, by omega⟩
      rw [hl]
      exact hok l h
end
end K62
namespace K62
open PySem PySem.Spec PyProof.Rows L2 DL
local macro_rules | `(tactic| walk_at "st") => `(tactic| with_reducible first
  | refine pw_p ?_ | refine pw_o ?_ | refine dw_op ?_ | refine dw_un ?_ | refine dw_int ?_ | refine dw_str ?_ | refine dw_bl ?_ | refine dw_non ?_ | refine dw_ty ?_ | refine da_nil' ?_ | refine da_cons' ?_ | refine dw_sortSetT ?_ | refine dw_CB ?_ | refine dw_BM ?_ | refine dw_BM0 ?_
  | refine dw_tup ?_ | refine dw_lst ?_ | refine dw_notV ?_ | refine dw_and ?_ | refine dw_or ?_ | refine dw_if ?_ | refine dw_chain ?_ | refine dw_sl3 ?_ | refine dw_revT ?_ | refine dw_tupRg1 ?_ | refine dw_lstRg1 ?_ | refine dw_callI ?_ | refine dw_callJ ?_
  | refine dt_test ?_ | refine dt_B ?_ | refine dt_and ?_ | refine dt_or ?_ | refine dt_not ?_ | refine dt_yes ?_ | refine dt_truth ?_
  | refine ds_ret ?_ | refine ds_retN ?_ | refine ds_next ?_ | refine ds_break ?_ | refine ds_cont ?_ | refine ds_drop ?_ | refine ds_if ?_ | refine ds_set ?_
  | refine nx_nxt ?_ | refine rt_nxt ?_ | refine bk_nxt ?_ | refine ct_nxt ?_ | refine nx_lp ?_ | refine rt_lp ?_ | refine bk_lp ?_ | refine ct_lp ?_ | refine asn_d ?_ | refine asn_fr ?_ | refine rt_E0 ?_ | refine rt_E0o ?_ | refine nx_E0 ?_
  | refine dw_newK ?_ | refine dw_dInK ?_ | refine dw_dNotInK ?_ | refine dw_dGetK ?_ | refine ds_dPutK ?_ | refine dw_callH ?_
  | refine tr_b ?_ | refine tr_i ?_ | refine tr_n ?_ | refine tr_T ?_ | refine tr_L ?_
  | refine do_none ?_ | refine do_some ?_ | refine ite_t ?_ | refine ite_f ?_
  | refine rw_addI ?_ | refine rw_sub ?_ | refine rw_cmp ?_ | refine rw_eqI ?_ | refine rw_neI ?_ | refine rw_eqZ ?_ | refine rw_neZ ?_ | refine rw_eqS ?_ | refine rw_neS ?_ | refine rw_eqB ?_ | refine rw_neB ?_ | refine isN_d ?_ | refine notN_d ?_ | refine rw_isB ?_ | refine rw_notB ?_
  | refine rn_intI ?_ | refine rn_intB ?_ | refine rn_max ?_ | refine rn_min ?_ | refine rn_lenT ?_ | refine rn_lenD ?_ | refine rm_sw ?_ | refine isi_int ?_ | refine isi_bool ?_ | refine isi_str ?_ | refine isi_tuple ?_ | refine isi_list ?_ | refine rn_tupT ?_ | refine rn_listT ?_
  | refine ⟨_, rfl, ?_⟩
  | fail)
local macro_rules | `(tactic| walk_at "va") => `(tactic| first
  | ((with_reducible apply dw_var); rfl) | ((with_reducible apply dw_sl); rfl) | ((with_reducible apply dw_slK); rfl)
  | ((with_reducible apply rw_ixL); rfl; rfl) | ((with_reducible apply rw_ixT); rfl)
  | ((with_reducible apply ite_T); rfl) | ((with_reducible apply ite_F); rfl) | ((with_reducible apply tr_o); rfl)
  | refine ⟨_, rfl, szl (Nat.le_of_ble_eq_true rfl), ?_⟩
  | (with_reducible refine rw_mod (by omega) ?_)
  | (with_reducible refine rw_fdiv (by unfold CDiv; omega) ?_)
  | (with_reducible refine rw_mul (by unfold CMul; omega) ?_)
  | refine ⟨szl (Nat.le_of_ble_eq_true rfl), ?_⟩
  | refine ⟨⟨rfl, _, _, rfl⟩, ?_⟩
  | refine ⟨rfl, ?_⟩
  | rfl
  | fail)
local macro_rules | `(tactic| walk_at "go") => `(tactic| repeat' (first | walk_at "st" | (with_reducible refine ds_seq' ?_) | walk_at "va" | fail))
local macro_rules | `(tactic| walk_at "gs") => `(tactic| repeat' (first | walk_at "st" | walk_at "va" | fail))
inductive Stp
  | keep (r : Nat)
  | turn (r s : Nat)
  | leave (r : Nat)
  | put (s : Nat)
def keepL : List Nat := [107, 101, 101, 112]
def turnL : List Nat := [116, 117, 114, 110]
def leaveL : List Nat := [108, 101, 97, 118, 101]
def putL : List Nat := [112, 117, 116]
def encT : Stp → PyData
  | .keep r => .tuple [zD keepL, zD [r]]
  | .turn r s => .tuple [zD turnL, zD [r], zD [s]]
  | .leave r => .tuple [zD leaveL, zD [r]]
  | .put s => .tuple [zD putL, zD [s]]
structure Ed where
  st : Stp
  c : Nat
  p : Nat
  l : Nat
abbrev encP (e : Ed) : PyData := .tuple [encT e.st, nD e.c, .tuple [nD e.p, nD e.l]]
abbrev encE (e : Ed) : PyData := .tuple [encT e.st, nD e.c, nD e.p, nD e.l]
structure Co where
  put : Nat
  leave : Nat
  turn : Nat
abbrev encC (c : Co) : PyData := .tuple [nD c.put, nD c.leave, nD c.turn]
def turnsE (m : Mach) (z : List Nat) (co : Co) (pl ln r n : Nat) : List Ed := ((List.range n).filter fun k => decide (k ≠ z.idxOf r)).map fun k => ⟨.turn r (z[k]?.getD 0), co.turn, pl + 1, nxt m ln k⟩
def putsE (m : Mach) (z : List Nat) (co : Co) (pl ln n : Nat) : List Ed := (List.range n).map fun k => ⟨.put (z[k]?.getD 0), co.put, pl, nxt m ln k⟩
def frontE (m : Mach) (z row : List Nat) (co : Co) (pl ln : Nat) : List Ed := match row[pl]? with
  | some r => [Ed.mk (.keep r) 0 (pl + 1) (nxt m ln (z.idxOf r))] ++ turnsE m z co pl ln r z.length ++ [⟨.leave r, co.leave, pl + 1, ln⟩]
  | none => []
def eds (m : Mach) (z row : List Nat) (co : Co) (pl ln : Nat) : List Ed := frontE m z row co pl ln ++ putsE m z co pl ln z.length
theorem turns_succ (m : Mach) (z : List Nat) (co : Co) (pl ln r n : Nat) : turnsE m z co pl ln r (n + 1) = turnsE m z co pl ln r n ++ if n ≠ z.idxOf r then [⟨.turn r (z[n]?.getD 0), co.turn, pl + 1, nxt m ln n⟩] else [] := by
  unfold turnsE
  rw [List.range_succ, List.filter_append, List.map_append]
  congr 1
  by_cases h : n = z.idxOf r <;> simp [h]
theorem puts_succ (m : Mach) (z : List Nat) (co : Co) (pl ln n : Nat) : putsE m z co pl ln (n + 1) = putsE m z co pl ln n ++ [⟨.put (z[n]?.getD 0), co.put, pl, nxt m ln n⟩] := by
  unfold putsE
  rw [List.range_succ, List.map_append]
  rfl
theorem turns_len (m : Mach) (z : List Nat) (co : Co) (pl ln r n : Nat) : (turnsE m z co pl ln r n).length ≤ n := by
  unfold turnsE
  rw [List.length_map]
  exact Nat.le_trans (List.length_filter_le _ _) (by rw [List.length_range]; exact Nat.le_refl _)
theorem front_len (m : Mach) (z row : List Nat) (co : Co) (pl ln : Nat) : (frontE m z row co pl ln).length ≤ z.length + 2 := by
  unfold frontE
  split
  · rename_i r _
    have := turns_len m z co pl ln r z.length
    simp
    omega
  · simp
structure Qx where
  m : Mach
  z : List Nat
  row : List Nat
  co : Co
  pl : Nat
  ln : Nat
abbrev argX (x : Qx) : List PyData := [encM x.m, zD x.z, zD x.row, encC x.co, nD x.pl, nD x.ln]
structure Ok5 (m : Mach) (z row : List Nat) : Prop where
  g : Good m z.length
  nd : z.Nodup
  zl : z.length ≤ 4
  z1 : 1 ≤ z.length
  m1 : 1 ≤ m.length
  m11 : m.length ≤ 11
  rz : ∀ c ∈ row, c ∈ z
  rl : row.length ≤ 20
def preXx (x : Qx) : Prop := Ok5 x.m x.z x.row ∧ x.ln < x.m.length
abbrev spE (K : PySem.W.Frag) (enc : Ed → PyData) := spI K argX preXx (fun x r => r = .fr (.o none ((eds x.m x.z x.row x.co x.pl x.ln).map enc)))
section
variable {P : Program} {w : World} {K : PySem.W.Frag} {mg : Str → Option Value} {base : Heap} {a : Ad}
theorem ok_law_edges (T : Tx K mg a) : FnOk P w K mg base CX0 1 a.f17 a.d17 ["machine", "signs", "row", "costs", "place", "line"] (spE K encE) := by
  refine fnI T.F_law_edges sc_law_edges (fun x => ⟨rfl, by decide⟩) fun cdv A outer s H E hr => ⟨_, (pss_cons (ps_set (i := 6) sc_law_edges.nd rfl (Or.inl rfl) (pe_lst pa_nil)) (pss_cons (ps_set (i := 7) sc_law_edges.nd rfl (Or.inl rfl) (pe_ix (kIX K rfl) (pe_ix (kIX K rfl) (pv 0) (pv 5) (fun _ _ => rfl)) pe_int (fun _ _ => rfl))) (pss_cons (ps_if (pt_cmpR op_lt (pv 4) (pe_callB (kLEN K rfl) (by rfl) T.z_len (by decide +kernel) (pa_cons (pv 2) pa_nil)) (nomark _)) (pss_cons (ps_set (i := 8) sc_law_edges.nd rfl (Or.inl rfl) (kBM K rfl (pe_bm PySem.F.plainAttrs_str PySem.F.slot_str_index PySem.F.type_str_index mt_sindex (pv 1) (pa_cons (pe_ix (kIX K rfl) (pv 2) (pv 4) (fun _ _ => rfl)) pa_nil)))) (pss_cons (ps_expr (kBM K rfl (pe_bm PySem.F.plainAttrs_list PySem.F.slot_list_append PySem.F.type_list_append mt_append (pv 6) (pa_cons (pe_tup (pa_cons (pe_tup (pa_cons (pe_strM [107, 101, 101, 112] rfl) (pa_cons (pe_ix (kIX K rfl) (pv 2) (pv 4) (fun _ _ => rfl)) pa_nil))) (pa_cons pe_int (pa_cons (pe_op (kADD K rfl) (pv 4) pe_int) (pa_cons (pe_ix (kIX K rfl) (pv 7) (pv 8) (fun _ _ => rfl)) pa_nil))))) pa_nil)))) (pss_cons (ps_for PassesOwn.never rfl (pi_range1 (by rfl) T.z_range (pa_cons (pe_callB (kLEN K rfl) (by rfl) T.z_len (by decide +kernel) (pa_cons (pv 1) pa_nil)) pa_nil)) (pg_name (i := 9) sc_law_edges.nd rfl (Or.inl rfl)) (pss_one (ps_if (pt_cmpR (kNE K rfl hr.units) (pv 9) (pv 8) (nomark _)) (pss_one (ps_expr (kBM K rfl (pe_bm PySem.F.plainAttrs_list PySem.F.slot_list_append PySem.F.type_list_append mt_append (pv 6) (pa_cons (pe_tup (pa_cons (pe_tup (pa_cons (pe_strM [116, 117, 114, 110] rfl) (pa_cons (pe_ix (kIX K rfl) (pv 2) (pv 4) (fun _ _ => rfl)) (pa_cons (pe_ix (kIX K rfl) (pv 1) (pv 9) (fun _ _ => rfl)) pa_nil)))) (pa_cons (pe_ix (kIX K rfl) (pv 3) pe_int (fun _ _ => rfl)) (pa_cons (pe_op (kADD K rfl) (pv 4) pe_int) (pa_cons (pe_ix (kIX K rfl) (pv 7) (pv 9) (fun _ _ => rfl)) pa_nil))))) pa_nil))))) pss_nil))) (pss_one (ps_expr (kBM K rfl (pe_bm PySem.F.plainAttrs_list PySem.F.slot_list_append PySem.F.type_list_append mt_append (pv 6) (pa_cons (pe_tup (pa_cons (pe_tup (pa_cons (pe_strM [108, 101, 97, 118, 101] rfl) (pa_cons (pe_ix (kIX K rfl) (pv 2) (pv 4) (fun _ _ => rfl)) pa_nil))) (pa_cons (pe_ix (kIX K rfl) (pv 3) pe_int (fun _ _ => rfl)) (pa_cons (pe_op (kADD K rfl) (pv 4) pe_int) (pa_cons (pv 5) pa_nil))))) pa_nil)))))))) pss_nil) (pss_cons (ps_for PassesOwn.never rfl (pi_range1 (by rfl) T.z_range (pa_cons (pe_callB (kLEN K rfl) (by rfl) T.z_len (by decide +kernel) (pa_cons (pv 1) pa_nil)) pa_nil)) (pg_name (i := 9) sc_law_edges.nd rfl (Or.inl rfl)) (pss_one (ps_expr (kBM K rfl (pe_bm PySem.F.plainAttrs_list PySem.F.slot_list_append PySem.F.type_list_append mt_append (pv 6) (pa_cons (pe_tup (pa_cons (pe_tup (pa_cons (pe_strM [112, 117, 116] rfl) (pa_cons (pe_ix (kIX K rfl) (pv 1) (pv 9) (fun _ _ => rfl)) pa_nil))) (pa_cons (pe_ix (kIX K rfl) (pv 3) pe_int (fun _ _ => rfl)) (pa_cons (pv 4) (pa_cons (pe_ix (kIX K rfl) (pv 7) (pv 9) (fun _ _ => rfl)) pa_nil))))) pa_nil)))))) (pss_one (ps_ret (pv 6))))))), ?_⟩
  rintro ⟨m, z, row, co, pl, ln⟩ ⟨O, hln⟩ B
  dsimp only [argX] at *
  have hln : ln < m.length := hln
  have hzl := O.zl
  have hrl := O.rl
  obtain ⟨x0, hx0, _, _⟩ := O.g.at hln (k := 0) (by have := O.z1; show 0 < z.length; omega)
  have hx : ∀ k, k < z.length → x0.2[k]? = some (nxt m ln k) := fun k hk => by
    obtain ⟨x, e1, e2, _⟩ := O.g.at hln hk
    rw [hx0] at e1
    cases e1
    exact e2
  refine ds_seq' ?_
  walk_at "gs"
  refine ds_seq' ?_
  walk_at "gs"
  refine rw_ixT (ati hx0) ?_
  walk_at "gs"
  refine ds_mid' (fun G => ∃ s8 s9, G = [.d (encM m), .d (zD z), .d (zD row), .d (encC co), .d (nD pl), .d (nD ln), .o none ((frontE m z row co pl ln).map encE), .d (.tuple (x0.2.map nD)), s8, s9]) ?_ ?_
  · walk_at "gs"
    refine rn_lenZ (by omega) ?_
    walk_at "gs"
    refine ite_k (fun c => ?_) (fun c => ?_)
    · have hpl : pl < row.length := by
        have := of_decide_eq_true c
        omega
      obtain ⟨r, hr'⟩ : ∃ r, row[pl]? = some r := ⟨_, List.getElem?_eq_getElem hpl⟩
      have hrz : r ∈ z := O.rz r (List.mem_of_getElem? hr')
      have hix := List.idxOf_lt_length_of_mem hrz
      refine ds_seq' ?_
      walk_at "gs"
      refine rw_ixS (szl (by omega)) (atn hr') ?_
      walk_at "gs"
      refine rm_sindex hrz ?_
      walk_at "gs"
      refine ds_seq' ?_
      walk_at "gs"
      refine rw_ixS (szl (by omega)) (atn hr') ?_
      walk_at "gs"
      refine rw_ixT (ati (hx _ hix)) ?_
      walk_at "gs"
      refine rm_app (i := 6) (ds := []) rfl (by decide) ?_
      walk_at "gs"
      refine ds_mid' (fun G => ∃ s9, G = [.d (encM m), .d (zD z), .d (zD row), .d (encC co), .d (nD pl), .d (nD ln), .o none (([Ed.mk (.keep r) 0 (pl + 1) (nxt m ln (z.idxOf r))] ++ turnsE m z co pl ln r z.length).map encE), .d (.tuple (x0.2.map nD)), .d (nD (z.idxOf r)), s9]) ?_ ?_
      · refine ds_forE' (ch := [9]) ?_
        refine di_rng1 ?_
        walk_at "gs"
        refine rn_lenZ (by omega) ?_
        walk_at "gs"
        rw [rng_nD]
        refine ⟨by omega, by omega, fun i G => ∃ s9, G = [.d (encM m), .d (zD z), .d (zD row), .d (encC co), .d (nD pl), .d (nD ln), .o none (([Ed.mk (.keep r) 0 (pl + 1) (nxt m ln (z.idxOf r))] ++ turnsE m z co pl ln r i).map encE), .d (.tuple (x0.2.map nD)), .d (nD (z.idxOf r)), s9], ⟨.un, rfl⟩, fun i G2 d hd ⟨s9, hG⟩ => ?_, fun G2 ⟨s9, hG⟩ => ?_⟩
        · subst hG
          rw [List.getElem?_map] at hd
          obtain ⟨k, hk, rfl⟩ := Option.map_eq_some_iff.mp hd
          obtain ⟨hik, hk⟩ := List.getElem?_eq_some_iff.mp hk
          rw [List.getElem_range] at hk
          subst hk
          rw [List.length_range] at hik
          have hzi : z[i]? = some z[i] := List.getElem?_eq_getElem hik
          have htl := turns_len m z co pl ln r i
          refine dg_name ?_
          walk_at "gs"
          refine ite_k (fun c2 => ?_) (fun c2 => ?_)
          · have c2 : i ≠ z.idxOf r := fun e => by
              rw [e] at c2
              simp at c2
            walk_at "gs"
            refine rw_ixS (szl (by omega)) (atn hr') ?_
            walk_at "gs"
            refine rw_ixS (szl (by omega)) (atn hzi) ?_
            walk_at "gs"
            refine rw_ixT (ati (hx i hik)) ?_
            walk_at "gs"
            refine rm_app rfl (szlt (by simp; omega)) ?_
            walk_at "gs"
            refine ⟨.d (nD i), ?_⟩
            rw [turns_succ, if_pos c2, ← List.append_assoc, List.map_append (l₁ := _ ++ _), hzi]
            rfl
          · have c2 : i = z.idxOf r := by
              have c2 : ((i : Nat) : Int) = ((z.idxOf r : Nat) : Int) := by simpa using c2
              omega
            walk_at "gs"
            refine ⟨.d (nD i), ?_⟩
            rw [turns_succ, if_neg (by simp [c2]), List.append_nil]
            rfl
        · subst hG
          rw [List.length_map, List.length_range]
          exact ⟨s9, rfl⟩
      · rintro G1 ⟨s9, rfl⟩
        have htl := turns_len m z co pl ln r z.length
        walk_at "gs"
        refine rw_ixS (szl (by omega)) (atn hr') ?_
        walk_at "gs"
        refine rm_app rfl (szlt (by simp; omega)) ?_
        walk_at "gs"
        refine ⟨.d (nD (z.idxOf r)), s9, ?_⟩
        unfold frontE
        rw [hr', List.map_append (l₁ := _ ++ _)]
        rfl
    · walk_at "gs"
      have e : row[pl]? = none := by
        rw [List.getElem?_eq_none]
        have := of_decide_eq_false c
        omega
      refine ⟨.un, .un, ?_⟩
      unfold frontE
      rw [e]
      rfl
  · rintro G1 ⟨s8, s9, rfl⟩
    refine ds_mid' (fun G => ∃ s9, G = [.d (encM m), .d (zD z), .d (zD row), .d (encC co), .d (nD pl), .d (nD ln), .o none ((frontE m z row co pl ln ++ putsE m z co pl ln z.length).map encE), .d (.tuple (x0.2.map nD)), s8, s9]) ?_ ?_
    · refine ds_forE' (ch := [9]) ?_
      refine di_rng1 ?_
      walk_at "gs"
      refine rn_lenZ (by omega) ?_
      walk_at "gs"
      rw [rng_nD]
      refine ⟨by omega, by omega, fun i G => ∃ s9, G = [.d (encM m), .d (zD z), .d (zD row), .d (encC co), .d (nD pl), .d (nD ln), .o none ((frontE m z row co pl ln ++ putsE m z co pl ln i).map encE), .d (.tuple (x0.2.map nD)), s8, s9], ⟨s9, by rw [show putsE m z co pl ln 0 = [] from rfl, List.append_nil]⟩, fun i G2 d hd ⟨s9, hG⟩ => ?_, fun G2 ⟨s9, hG⟩ => ?_⟩
      · subst hG
        rw [List.getElem?_map] at hd
        obtain ⟨k, hk, rfl⟩ := Option.map_eq_some_iff.mp hd
        obtain ⟨hik, hk⟩ := List.getElem?_eq_some_iff.mp hk
        rw [List.getElem_range] at hk
        subst hk
        rw [List.length_range] at hik
        have hzi : z[i]? = some z[i] := List.getElem?_eq_getElem hik
        have hfl := front_len m z row co pl ln
        have hpl : (putsE m z co pl ln i).length = i := by simp [putsE]
        refine dg_name ?_
        walk_at "gs"
        refine rw_ixS (szl (by omega)) (atn hzi) ?_
        walk_at "gs"
        refine rw_ixT (ati (hx i hik)) ?_
        walk_at "gs"
        refine rm_app rfl (szlt (by rw [List.length_map, List.length_append]; omega)) ?_
        walk_at "gs"
        refine ⟨.d (nD i), ?_⟩
        rw [puts_succ, ← List.append_assoc, List.map_append (l₁ := _ ++ _), hzi]
        rfl
      · subst hG
        rw [List.length_map, List.length_range]
        exact ⟨s9, rfl⟩
    · rintro G1 ⟨s9, rfl⟩
      walk_at "gs"
      exact rt_E0s rfl rfl
end
end K62
namespace K62
open PySem PySem.Spec PyProof.Rows L2 DL
local macro_rules | `(tactic| walk_at "st") => `(tactic| with_reducible first
  | refine pw_p ?_ | refine pw_o ?_ | refine dw_op ?_ | refine dw_un ?_ | refine dw_int ?_ | refine dw_str ?_ | refine dw_bl ?_ | refine dw_non ?_ | refine dw_ty ?_ | refine da_nil' ?_ | refine da_cons' ?_ | refine dw_sortSetT ?_ | refine dw_CB ?_ | refine dw_BM ?_ | refine dw_BM0 ?_
  | refine dw_tup ?_ | refine dw_lst ?_ | refine dw_notV ?_ | refine dw_and ?_ | refine dw_or ?_ | refine dw_if ?_ | refine dw_chain ?_ | refine dw_sl3 ?_ | refine dw_revT ?_ | refine dw_tupRg1 ?_ | refine dw_lstRg1 ?_ | refine dw_callI ?_ | refine dw_callJ ?_
  | refine dt_test ?_ | refine dt_B ?_ | refine dt_and ?_ | refine dt_or ?_ | refine dt_not ?_ | refine dt_yes ?_ | refine dt_truth ?_
  | refine ds_ret ?_ | refine ds_retN ?_ | refine ds_next ?_ | refine ds_break ?_ | refine ds_cont ?_ | refine ds_drop ?_ | refine ds_if ?_ | refine ds_set ?_
  | refine nx_nxt ?_ | refine rt_nxt ?_ | refine bk_nxt ?_ | refine ct_nxt ?_ | refine nx_lp ?_ | refine rt_lp ?_ | refine bk_lp ?_ | refine ct_lp ?_ | refine asn_d ?_ | refine asn_fr ?_ | refine rt_E0 ?_ | refine rt_E0o ?_ | refine nx_E0 ?_
  | refine dw_newK ?_ | refine dw_dInK ?_ | refine dw_dNotInK ?_ | refine dw_dGetK ?_ | refine ds_dPutK ?_ | refine dw_callH ?_
  | refine tr_b ?_ | refine tr_i ?_ | refine tr_n ?_ | refine tr_T ?_ | refine tr_L ?_
  | refine do_none ?_ | refine do_some ?_ | refine ite_t ?_ | refine ite_f ?_
  | refine rw_addI ?_ | refine rw_sub ?_ | refine rw_cmp ?_ | refine rw_eqI ?_ | refine rw_neI ?_ | refine rw_eqZ ?_ | refine rw_neZ ?_ | refine rw_eqS ?_ | refine rw_neS ?_ | refine rw_eqB ?_ | refine rw_neB ?_ | refine isN_d ?_ | refine notN_d ?_ | refine rw_isB ?_ | refine rw_notB ?_
  | refine rn_intI ?_ | refine rn_intB ?_ | refine rn_max ?_ | refine rn_min ?_ | refine rn_lenT ?_ | refine rn_lenD ?_ | refine rm_sw ?_ | refine isi_int ?_ | refine isi_bool ?_ | refine isi_str ?_ | refine isi_tuple ?_ | refine isi_list ?_ | refine rn_tupT ?_ | refine rn_listT ?_
  | refine ⟨_, rfl, ?_⟩
  | fail)
local macro_rules | `(tactic| walk_at "va") => `(tactic| first
  | ((with_reducible apply dw_var); rfl) | ((with_reducible apply dw_sl); rfl) | ((with_reducible apply dw_slK); rfl)
  | ((with_reducible apply rw_ixL); rfl; rfl) | ((with_reducible apply rw_ixT); rfl)
  | ((with_reducible apply ite_T); rfl) | ((with_reducible apply ite_F); rfl) | ((with_reducible apply tr_o); rfl)
  | refine ⟨_, rfl, szl (Nat.le_of_ble_eq_true rfl), ?_⟩
  | (with_reducible refine rw_mod (by omega) ?_)
  | (with_reducible refine rw_fdiv (by unfold CDiv; omega) ?_)
  | (with_reducible refine rw_mul (by unfold CMul; omega) ?_)
  | refine ⟨szl (Nat.le_of_ble_eq_true rfl), ?_⟩
  | refine ⟨⟨rfl, _, _, rfl⟩, ?_⟩
  | refine ⟨rfl, ?_⟩
  | rfl
  | fail)
local macro_rules | `(tactic| walk_at "go") => `(tactic| repeat' (first | walk_at "st" | (with_reducible refine ds_seq' ?_) | walk_at "va" | fail))
local macro_rules | `(tactic| walk_at "gs") => `(tactic| repeat' (first | walk_at "st" | walk_at "va" | fail))
def pairsN (m : Mach) (z : List Nat) (ln n : Nat) : List PyData := (List.range n).map fun i => .tuple [zD [z[i]?.getD 0], nD (nxt m ln i)]
theorem pairs_eq {m : Mach} {z : List Nat} {ln : Nat} {ns : List Nat} (hl : ns.length = z.length) (hx : ∀ k, k < z.length → ns[k]? = some (nxt m ln k)) : (z.zip (ns.map nD)).map DL.pairD = pairsN m z ln z.length := by
  apply List.ext_getElem?
  intro i
  unfold pairsN
  by_cases hi : i < z.length
  · have e1 : z[i]? = some z[i] := List.getElem?_eq_getElem hi
    have e2 := hx i hi
    have e3 : (z.zip (ns.map nD))[i]? = some (z[i], nD (nxt m ln i)) := by
      rw [List.getElem?_zip_eq_some]
      exact ⟨e1, by rw [List.getElem?_map, e2]; rfl⟩
    rw [List.getElem?_map, e3, List.getElem?_map, List.getElem?_range hi]
    show some (DL.pairD (z[i], nD (nxt m ln i))) = some (PyData.tuple [zD [z[i]?.getD 0], nD (nxt m ln i)])
    rw [e1]
    rfl
  · rw [List.getElem?_eq_none, List.getElem?_eq_none]
    · simp
      omega
    · simp
      omega
theorem pairs_get {m : Mach} {z : List Nat} {ln i : Nat} {d : PyData} (h : (pairsN m z ln z.length)[i]? = some d) : ∃ c, z[i]? = some c ∧ i < z.length ∧ d = .tuple [zD [c], nD (nxt m ln i)] := by
  unfold pairsN at h
  rw [List.getElem?_map] at h
  obtain ⟨k, hk, rfl⟩ := Option.map_eq_some_iff.mp h
  obtain ⟨hik, hk⟩ := List.getElem?_eq_some_iff.mp hk
  rw [List.getElem_range] at hk
  subst hk
  rw [List.length_range] at hik
  refine ⟨z[i], List.getElem?_eq_getElem hik, hik, ?_⟩
  rw [List.getElem?_eq_getElem hik]
  rfl
theorem pairs_len (m : Mach) (z : List Nat) (ln : Nat) : (pairsN m z ln z.length).length = z.length := by simp [pairsN]
theorem idx_get {z : List Nat} {c : Nat} (h : c ∈ z) : z[z.idxOf c]? = some c := by
  have hl := List.idxOf_lt_length_of_mem h
  rw [List.getElem?_eq_getElem hl, List.getElem_idxOf hl]
theorem idx_of_nd {z : List Nat} (hn : z.Nodup) {i c : Nat} (h : z[i]? = some c) : z.idxOf c = i := by
  obtain ⟨hi, e⟩ := List.getElem?_eq_some_iff.mp h
  rw [← e]
  exact hn.idxOf_getElem i hi
section
variable {P : Program} {w : World} {K : PySem.W.Frag} {mg : Str → Option Value} {base : Heap} {a : Ad}
theorem ok_steps_from (T : Tx K mg a) : FnOk P w K mg base CX0 1 a.f2 a.d2 ["machine", "signs", "row", "costs", "place", "line"] (spE K encP) := by
  refine fnI T.F_steps_from sc_steps_from (fun x => ⟨rfl, by decide⟩) fun cdv A outer s H E hr => ⟨_, (pss_cons (ps_asg (pv 3) (kTG K rfl rfl (pgs_cons (pg_name (i := 6) sc_steps_from.nd rfl (Or.inl rfl)) (pgs_cons (pg_name (i := 7) sc_steps_from.nd rfl (Or.inl rfl)) (pgs_cons (pg_name (i := 8) sc_steps_from.nd rfl (Or.inl rfl)) pgs_nil))))) (pss_cons (ps_set (i := 9) sc_steps_from.nd rfl (Or.inl rfl) (pe_lst pa_nil)) (pss_cons (ps_set (i := 10) sc_steps_from.nd rfl (Or.inl rfl) (kLZ K rfl (by rfl) (by rfl) T.z_list (by rfl) T.z_zip (pa_cons (pv 1) (pa_cons (pe_ix (kIX K rfl) (pe_ix (kIX K rfl) (pv 0) (pv 5) (fun _ _ => rfl)) pe_int (fun _ _ => rfl)) pa_nil)))) (pss_cons (ps_if (pt_cmpR op_lt (pv 4) (pe_callB (kLEN K rfl) (by rfl) T.z_len (by decide +kernel) (pa_cons (pv 2) pa_nil)) (nomark _)) (pss_cons (ps_for PassesOwn.never rfl (kANY K rfl (pv 10)) (kTG K rfl rfl (pgs_cons (pg_name (i := 11) sc_steps_from.nd rfl (Or.inl rfl)) (pgs_cons (pg_name (i := 12) sc_steps_from.nd rfl (Or.inl rfl)) pgs_nil))) (pss_one (ps_if (pt_cmpR (kEQ K rfl hr.units) (pv 11) (pe_ix (kIX K rfl) (pv 2) (pv 4) (fun _ _ => rfl)) (nomark _)) (pss_one (ps_expr (kBM K rfl (pe_bm PySem.F.plainAttrs_list PySem.F.slot_list_append PySem.F.type_list_append mt_append (pv 9) (pa_cons (pe_tup (pa_cons (pe_tup (pa_cons (pe_strM [107, 101, 101, 112] rfl) (pa_cons (pv 11) pa_nil))) (pa_cons pe_int (pa_cons (pe_tup (pa_cons (pe_op (kADD K rfl) (pv 4) pe_int) (pa_cons (pv 12) pa_nil))) pa_nil)))) pa_nil))))) pss_nil))) (pss_cons (ps_for PassesOwn.never rfl (kANY K rfl (pv 10)) (kTG K rfl rfl (pgs_cons (pg_name (i := 11) sc_steps_from.nd rfl (Or.inl rfl)) (pgs_cons (pg_name (i := 12) sc_steps_from.nd rfl (Or.inl rfl)) pgs_nil))) (pss_one (ps_if (pt_cmpR (kNE K rfl hr.units) (pv 11) (pe_ix (kIX K rfl) (pv 2) (pv 4) (fun _ _ => rfl)) (nomark _)) (pss_one (ps_expr (kBM K rfl (pe_bm PySem.F.plainAttrs_list PySem.F.slot_list_append PySem.F.type_list_append mt_append (pv 9) (pa_cons (pe_tup (pa_cons (pe_tup (pa_cons (pe_strM [116, 117, 114, 110] rfl) (pa_cons (pe_ix (kIX K rfl) (pv 2) (pv 4) (fun _ _ => rfl)) (pa_cons (pv 11) pa_nil)))) (pa_cons (pv 8) (pa_cons (pe_tup (pa_cons (pe_op (kADD K rfl) (pv 4) pe_int) (pa_cons (pv 12) pa_nil))) pa_nil)))) pa_nil))))) pss_nil))) (pss_one (ps_expr (kBM K rfl (pe_bm PySem.F.plainAttrs_list PySem.F.slot_list_append PySem.F.type_list_append mt_append (pv 9) (pa_cons (pe_tup (pa_cons (pe_tup (pa_cons (pe_strM [108, 101, 97, 118, 101] rfl) (pa_cons (pe_ix (kIX K rfl) (pv 2) (pv 4) (fun _ _ => rfl)) pa_nil))) (pa_cons (pv 7) (pa_cons (pe_tup (pa_cons (pe_op (kADD K rfl) (pv 4) pe_int) (pa_cons (pv 5) pa_nil))) pa_nil)))) pa_nil))))))) pss_nil) (pss_cons (ps_for PassesOwn.never rfl (kANY K rfl (pv 10)) (kTG K rfl rfl (pgs_cons (pg_name (i := 11) sc_steps_from.nd rfl (Or.inl rfl)) (pgs_cons (pg_name (i := 12) sc_steps_from.nd rfl (Or.inl rfl)) pgs_nil))) (pss_one (ps_expr (kBM K rfl (pe_bm PySem.F.plainAttrs_list PySem.F.slot_list_append PySem.F.type_list_append mt_append (pv 9) (pa_cons (pe_tup (pa_cons (pe_tup (pa_cons (pe_strM [112, 117, 116] rfl) (pa_cons (pv 11) pa_nil))) (pa_cons (pv 6) (pa_cons (pe_tup (pa_cons (pv 4) (pa_cons (pv 12) pa_nil))) pa_nil)))) pa_nil)))))) (pss_one (ps_ret (pv 9)))))))), ?_⟩
  rintro ⟨m, z, row, co, pl, ln⟩ ⟨O, hln⟩ B
  dsimp only [argX] at *
  have hln : ln < m.length := hln
  have hzl := O.zl
  have hrl := O.rl
  obtain ⟨x0, hx0, _, _⟩ := O.g.at hln (k := 0) (by have := O.z1; show 0 < z.length; omega)
  have hx : ∀ k, k < z.length → x0.2[k]? = some (nxt m ln k) := fun k hk => by
    obtain ⟨x, e1, e2, _⟩ := O.g.at hln hk
    rw [hx0] at e1
    cases e1
    exact e2
  have hxl : x0.2.length = z.length := (O.g x0 (List.mem_of_getElem? hx0)).1
  refine ds_seq' ?_
  refine ds_asg (cs := [6, 7, 8]) ?_
  walk_at "gs"
  refine dg_tup rfl (dgs_cons (dg_name (dgs_cons (dg_name (dgs_cons (dg_name (dgs_nil ?_)))))))
  refine ds_seq' ?_
  walk_at "gs"
  refine ds_seq' ?_
  walk_at "gs"
  refine dw_listZip ?_
  walk_at "gs"
  refine rw_ixT (ati hx0) ?_
  walk_at "gs"
  refine ⟨z, x0.2.map nD, rfl, szl (by rw [List.length_map]; omega), ?_⟩
  rw [pairs_eq hxl hx]
  refine asn_fr (nx_nxt ?_)
  refine ds_freeze 10 rfl ?_
  refine ds_mid' (fun G => ∃ s11 s12, G = [.d (encM m), .d (zD z), .d (zD row), .d (encC co), .d (nD pl), .d (nD ln), .d (nD co.put), .d (nD co.leave), .d (nD co.turn), .o none ((frontE m z row co pl ln).map encP), .d (.list (pairsN m z ln z.length)), s11, s12]) ?_ ?_
  · walk_at "gs"
    refine rn_lenZ (by omega) ?_
    walk_at "gs"
    refine ite_k (fun c => ?_) (fun c => ?_)
    · have hpl : pl < row.length := by
        have := of_decide_eq_true c
        omega
      obtain ⟨r, hr'⟩ : ∃ r, row[pl]? = some r := ⟨_, List.getElem?_eq_getElem hpl⟩
      have hrz : r ∈ z := O.rz r (List.mem_of_getElem? hr')
      have hix := List.idxOf_lt_length_of_mem hrz
      refine ds_mid' (fun G => ∃ s11 s12, G = [.d (encM m), .d (zD z), .d (zD row), .d (encC co), .d (nD pl), .d (nD ln), .d (nD co.put), .d (nD co.leave), .d (nD co.turn), .o none (([Ed.mk (.keep r) 0 (pl + 1) (nxt m ln (z.idxOf r))]).map encP), .d (.list (pairsN m z ln z.length)), s11, s12]) ?_ ?_
      · refine ds_forE' (ch := [11, 12]) ?_
        refine di_anyL (di_list ?_)
        walk_at "gs"
        refine ⟨fun i G => ∃ s11 s12, G = [.d (encM m), .d (zD z), .d (zD row), .d (encC co), .d (nD pl), .d (nD ln), .d (nD co.put), .d (nD co.leave), .d (nD co.turn), .o none (((if z.idxOf r < i then [Ed.mk (.keep r) 0 (pl + 1) (nxt m ln (z.idxOf r))] else []) : List Ed).map encP), .d (.list (pairsN m z ln z.length)), s11, s12], ⟨.un, .un, rfl⟩, fun i G2 d hd ⟨s11, s12, hG⟩ => ?_, fun G2 ⟨s11, s12, hG⟩ => ?_⟩
        · subst hG
          obtain ⟨c1, hc1, hi, rfl⟩ := pairs_get hd
          have hnd := O.nd
          refine dg_tup rfl (dgs_cons (dg_name (dgs_cons (dg_name (dgs_nil ?_)))))
          walk_at "gs"
          refine rw_ixS (szl (by omega)) (atn hr') ?_
          walk_at "gs"
          refine ite_k (fun c2 => ?_) (fun c2 => ?_)
          · have c2 : c1 = r := by simpa using c2
            subst c2
            have hi2 : z.idxOf c1 = i := idx_of_nd hnd hc1
            walk_at "gs"
            refine rm_app (i := 9) rfl (szlt (by split <;> simp)) ?_
            walk_at "gs"
            refine ⟨.d (zD [c1]), .d (nD (nxt m ln i)), ?_⟩
            rw [if_neg (by omega), if_pos (by omega), hi2]
            rfl
          · have c2 : c1 ≠ r := by simpa using c2
            have hi2 : z.idxOf r ≠ i := fun e => c2 (by
              have := idx_get hrz
              rw [e, hc1] at this
              exact Option.some.inj this)
            walk_at "gs"
            refine ⟨.d (zD [c1]), .d (nD (nxt m ln i)), ?_⟩
            by_cases q : z.idxOf r < i
            · rw [if_pos q, if_pos (by omega)]
              rfl
            · rw [if_neg q, if_neg (by omega)]
              rfl
        · subst hG
          rw [pairs_len, if_pos hix]
          exact ⟨s11, s12, rfl⟩
      · rintro G1 ⟨s11, s12, rfl⟩
        refine ds_mid' (fun G => ∃ s11 s12, G = [.d (encM m), .d (zD z), .d (zD row), .d (encC co), .d (nD pl), .d (nD ln), .d (nD co.put), .d (nD co.leave), .d (nD co.turn), .o none (([Ed.mk (.keep r) 0 (pl + 1) (nxt m ln (z.idxOf r))] ++ turnsE m z co pl ln r z.length).map encP), .d (.list (pairsN m z ln z.length)), s11, s12]) ?_ ?_
        · refine ds_forE' (ch := [11, 12]) ?_
          refine di_anyL (di_list ?_)
          walk_at "gs"
          refine ⟨fun i G => ∃ s11 s12, G = [.d (encM m), .d (zD z), .d (zD row), .d (encC co), .d (nD pl), .d (nD ln), .d (nD co.put), .d (nD co.leave), .d (nD co.turn), .o none (([Ed.mk (.keep r) 0 (pl + 1) (nxt m ln (z.idxOf r))] ++ turnsE m z co pl ln r i).map encP), .d (.list (pairsN m z ln z.length)), s11, s12], ⟨s11, s12, rfl⟩, fun i G2 d hd ⟨s11, s12, hG⟩ => ?_, fun G2 ⟨s11, s12, hG⟩ => ?_⟩
          · subst hG
            obtain ⟨c1, hc1, hi, rfl⟩ := pairs_get hd
            have hnd := O.nd
            have htl := turns_len m z co pl ln r i
            refine dg_tup rfl (dgs_cons (dg_name (dgs_cons (dg_name (dgs_nil ?_)))))
            walk_at "gs"
            refine rw_ixS (szl (by omega)) (atn hr') ?_
            walk_at "gs"
            refine ite_k (fun c2 => ?_) (fun c2 => ?_)
            · have c2 : c1 ≠ r := by simpa using c2
              have hi2 : i ≠ z.idxOf r := fun e => c2 (by
                have := idx_get hrz
                rw [← e, hc1] at this
                exact Option.some.inj this)
              walk_at "gs"
              refine rw_ixS (szl (by omega)) (atn hr') ?_
              walk_at "gs"
              refine rm_app (i := 9) rfl (szlt (by simp; omega)) ?_
              walk_at "gs"
              refine ⟨.d (zD [c1]), .d (nD (nxt m ln i)), ?_⟩
              rw [turns_succ, if_pos hi2, ← List.append_assoc, List.map_append (l₁ := _ ++ _), hc1]
              rfl
            · have c2 : c1 = r := by simpa using c2
              subst c2
              have hi2 : z.idxOf c1 = i := idx_of_nd hnd hc1
              walk_at "gs"
              refine ⟨.d (zD [c1]), .d (nD (nxt m ln i)), ?_⟩
              rw [turns_succ, if_neg (by simp [hi2]), List.append_nil]
              rfl
          · subst hG
            rw [pairs_len]
            exact ⟨s11, s12, rfl⟩
        · rintro G1 ⟨s11, s12, rfl⟩
          have htl := turns_len m z co pl ln r z.length
          walk_at "gs"
          refine rw_ixS (szl (by omega)) (atn hr') ?_
          walk_at "gs"
          refine rm_app (i := 9) rfl (szlt (by simp; omega)) ?_
          walk_at "gs"
          refine ⟨s11, s12, ?_⟩
          unfold frontE
          rw [hr', List.map_append (l₁ := _ ++ _)]
          rfl
    · walk_at "gs"
      have e : row[pl]? = none := by
        rw [List.getElem?_eq_none]
        have := of_decide_eq_false c
        omega
      refine ⟨.un, .un, ?_⟩
      unfold frontE
      rw [e]
      rfl
  · rintro G1 ⟨s11, s12, rfl⟩
    refine ds_mid' (fun G => ∃ s11 s12, G = [.d (encM m), .d (zD z), .d (zD row), .d (encC co), .d (nD pl), .d (nD ln), .d (nD co.put), .d (nD co.leave), .d (nD co.turn), .o none ((frontE m z row co pl ln ++ putsE m z co pl ln z.length).map encP), .d (.list (pairsN m z ln z.length)), s11, s12]) ?_ ?_
    · refine ds_forE' (ch := [11, 12]) ?_
      refine di_anyL (di_list ?_)
      walk_at "gs"
      refine ⟨fun i G => ∃ s11 s12, G = [.d (encM m), .d (zD z), .d (zD row), .d (encC co), .d (nD pl), .d (nD ln), .d (nD co.put), .d (nD co.leave), .d (nD co.turn), .o none ((frontE m z row co pl ln ++ putsE m z co pl ln i).map encP), .d (.list (pairsN m z ln z.length)), s11, s12], ⟨s11, s12, by rw [show putsE m z co pl ln 0 = [] from rfl, List.append_nil]⟩, fun i G2 d hd ⟨s11, s12, hG⟩ => ?_, fun G2 ⟨s11, s12, hG⟩ => ?_⟩
      · subst hG
        obtain ⟨c1, hc1, hi, rfl⟩ := pairs_get hd
        have hfl := front_len m z row co pl ln
        have hpl : (putsE m z co pl ln i).length = i := by simp [putsE]
        refine dg_tup rfl (dgs_cons (dg_name (dgs_cons (dg_name (dgs_nil ?_)))))
        walk_at "gs"
        refine rm_app (i := 9) rfl (szlt (by rw [List.length_map, List.length_append]; omega)) ?_
        walk_at "gs"
        refine ⟨.d (zD [c1]), .d (nD (nxt m ln i)), ?_⟩
        rw [puts_succ, ← List.append_assoc, List.map_append (l₁ := _ ++ _), hc1]
        rfl
      · subst hG
        rw [pairs_len]
        exact ⟨s11, s12, rfl⟩
    · rintro G1 ⟨s11, s12, rfl⟩
      walk_at "gs"
      exact rt_E0s rfl rfl
end
end K62
namespace K62
open PySem PySem.Spec PyProof.Rows L2 DL
/-! least prices -/
def pas (m : Mach) (ln : Nat) : Bool := (m[ln]?.map (·.1)).getD false
inductive Rch (m : Mach) (z row : List Nat) (co : Co) : Nat → Nat → Nat → Prop
  | fin {ln : Nat} : pas m ln = true → Rch m z row co row.length ln 0
  | step {pl ln c : Nat} {e : Ed} : e ∈ eds m z row co pl ln → Rch m z row co e.p e.l c → Rch m z row co pl ln (e.c + c)
theorem nat_min {p : Nat → Prop} {n : Nat} (h : p n) : ∃ m, p m ∧ ∀ k, p k → m ≤ k := by
  induction n using Nat.strongRecOn with
  | _ n ih =>
    by_cases q : ∃ k, k < n ∧ p k
    · obtain ⟨k, hk, pk⟩ := q
      exact ih k hk pk
    · refine ⟨n, h, fun k pk => ?_⟩
      rcases Nat.lt_or_ge k n with z | z
      · exact absurd ⟨k, z, pk⟩ q
      · exact z
open Classical in
noncomputable def best (m : Mach) (z row : List Nat) (co : Co) (pl ln : Nat) : Option Nat := if h : ∃ c, Rch m z row co pl ln c ∧ ∀ k, Rch m z row co pl ln k → c ≤ k then some h.choose else none
theorem best_none {m : Mach} {z row : List Nat} {co : Co} {pl ln : Nat} : best m z row co pl ln = none ↔ ∀ c, ¬ Rch m z row co pl ln c := by
  constructor
  · intro h c hc
    obtain ⟨c', h1, h2⟩ := nat_min (p := Rch m z row co pl ln) hc
    unfold best at h
    rw [dif_pos ⟨c', h1, h2⟩] at h
    cases h
  · intro h
    unfold best
    rw [dif_neg]
    rintro ⟨c, h1, _⟩
    exact h c h1
theorem best_some {m : Mach} {z row : List Nat} {co : Co} {pl ln c : Nat} : best m z row co pl ln = some c ↔ Rch m z row co pl ln c ∧ ∀ k, Rch m z row co pl ln k → c ≤ k := by
  constructor
  · intro h
    unfold best at h
    split at h
    · rename_i e
      cases h
      exact e.choose_spec
    · cases h
  · intro ⟨h1, h2⟩
    have e : ∃ c, Rch m z row co pl ln c ∧ ∀ k, Rch m z row co pl ln k → c ≤ k := ⟨c, h1, h2⟩
    unfold best
    rw [dif_pos e]
    congr 1
    exact Nat.le_antisymm (e.choose_spec.2 _ h1) (h2 _ e.choose_spec.1)
/-- the edges stay or go on by one -/
theorem eds_p {m : Mach} {z row : List Nat} {co : Co} {pl ln : Nat} {e : Ed} (h : e ∈ eds m z row co pl ln) : (e.p = pl ∧ e.c = co.put) ∨ (e.p = pl + 1 ∧ pl < row.length) := by
  unfold eds at h
  rcases List.mem_append.mp h with h | h
  · unfold frontE at h
    split at h
    · rename_i r hr
      have hl := (List.getElem?_eq_some_iff.mp hr).1
      refine .inr ⟨?_, hl⟩
      simp only [List.mem_append, List.mem_singleton] at h
      rcases h with (rfl | h) | rfl
      · rfl
      · unfold turnsE at h
        obtain ⟨k, _, rfl⟩ := List.mem_map.mp h
        rfl
      · rfl
    · cases h
  · unfold putsE at h
    obtain ⟨k, _, rfl⟩ := List.mem_map.mp h
    exact .inl ⟨rfl, rfl⟩
theorem eds_l {m : Mach} {z row : List Nat} {co : Co} (O : Ok5 m z row) {pl ln : Nat} (hln : ln < m.length) {e : Ed} (h : e ∈ eds m z row co pl ln) : e.l < m.length := by
  have nx : ∀ k, k < z.length → nxt m ln k < m.length := fun k hk => by
    obtain ⟨_, _, _, q⟩ := O.g.at hln hk
    exact q
  unfold eds at h
  rcases List.mem_append.mp h with h | h
  · unfold frontE at h
    split at h
    · rename_i r hr
      have hrz := O.rz r (List.mem_of_getElem? hr)
      simp only [List.mem_append, List.mem_singleton] at h
      rcases h with (rfl | h) | rfl
      · exact nx _ (List.idxOf_lt_length_of_mem hrz)
      · unfold turnsE at h
        obtain ⟨k, hk, rfl⟩ := List.mem_map.mp h
        exact nx k (List.mem_range.mp (List.mem_filter.mp hk).1)
      · exact hln
    · cases h
  · unfold putsE at h
    obtain ⟨k, hk, rfl⟩ := List.mem_map.mp h
    exact nx k (List.mem_range.mp hk)
theorem eds_c {m : Mach} {z row : List Nat} {co : Co} {pl ln : Nat} {e : Ed} (h : e ∈ eds m z row co pl ln) : e.c ≤ max co.put (max co.leave co.turn) := by
  unfold eds at h
  rcases List.mem_append.mp h with h | h
  · unfold frontE at h
    split at h
    · simp only [List.mem_append, List.mem_singleton] at h
      rcases h with (rfl | h) | rfl
      · exact Nat.zero_le _
      · unfold turnsE at h
        obtain ⟨k, hk, rfl⟩ := List.mem_map.mp h
        show co.turn ≤ _
        omega
      · show co.leave ≤ _
        omega
    · cases h
  · unfold putsE at h
    obtain ⟨k, hk, rfl⟩ := List.mem_map.mp h
    show co.put ≤ _
    omega
/-- what rows of numbers (from the place pl on) are right: sound, and nothing to better -/
structure Fixed (m : Mach) (z row : List Nat) (co : Co) (f : Nat → Nat → Option Nat) (lo : Nat) : Prop where
  sound : ∀ pl ln c, lo ≤ pl → pl ≤ row.length → ln < m.length → f pl ln = some c → Rch m z row co pl ln c
  fin : ∀ ln, ln < m.length → pas m ln = true → f row.length ln = some 0
  edge : ∀ pl ln e c, lo ≤ pl → pl ≤ row.length → ln < m.length → e ∈ eds m z row co pl ln → f e.p e.l = some c → ∃ c', f pl ln = some c' ∧ c' ≤ e.c + c
theorem Fixed.best {m : Mach} {z row : List Nat} {co : Co} {f : Nat → Nat → Option Nat} {lo : Nat} (O : Ok5 m z row) (F : Fixed m z row co f lo) {pl ln : Nat} (h1 : lo ≤ pl) (h2 : pl ≤ row.length) (h3 : ln < m.length) : f pl ln = best m z row co pl ln := by
  have key : ∀ {pl ln c : Nat}, Rch m z row co pl ln c → lo ≤ pl → pl ≤ row.length → ln < m.length → ∃ c', f pl ln = some c' ∧ c' ≤ c := by
    intro pl ln c h
    induction h with
    | fin hp =>
      intro _ _ h3
      exact ⟨0, F.fin _ h3 hp, Nat.le_refl _⟩
    | step he _ ih =>
      intro h1 h2 h3
      have hp := eds_p he
      obtain ⟨c', e1, e2⟩ := ih (by omega) (by omega) (eds_l O h3 he)
      obtain ⟨c2, e3, e4⟩ := F.edge _ _ _ _ h1 h2 h3 he e1
      exact ⟨c2, e3, by omega⟩
  cases e : f pl ln with
  | none =>
    symm
    rw [best_none]
    intro c hc
    obtain ⟨c', e', _⟩ := key hc h1 h2 h3
    rw [e] at e'
    cases e'
  | some c =>
    symm
    rw [best_some]
    refine ⟨F.sound _ _ _ h1 h2 h3 e, fun k hk => ?_⟩
    obtain ⟨c', e', h⟩ := key hk h1 h2 h3
    rw [e] at e'
    cases e'
    exact h
end K62
namespace K62
open PySem PySem.Spec PyProof.Rows L2 DL
/-! tables of prices that are changed in place -/
def optN : Option Nat → PyData
  | some c => nD c
  | none => .none
abbrev Mat := List (List (Option Nat))
abbrev encMat (M : Mat) : List (List PyData) := M.map fun r => r.map optN
def at2 (M : Mat) (pl ln : Nat) : Option Nat := ((M[pl]?).bind fun r => r[ln]?).join
def set2 (M : Mat) (pl ln : Nat) (v : Option Nat) : Mat := M.set pl ((M[pl]?.getD []).set ln v)
structure Dim (M : Mat) (n k : Nat) : Prop where
  len : M.length = n
  row : ∀ r ∈ M, r.length = k
theorem Dim.get {M : Mat} {n k pl ln : Nat} (D : Dim M n k) (h1 : pl < n) (h2 : ln < k) : ∃ r, M[pl]? = some r ∧ r.length = k ∧ r[ln]? = some (at2 M pl ln) := by
  have e : M[pl]? = some (M[pl]'(by rw [D.len]; exact h1)) := List.getElem?_eq_getElem _
  have hl := D.row _ (List.mem_of_getElem? e)
  refine ⟨_, e, hl, ?_⟩
  have e2 : (M[pl]'(by rw [D.len]; exact h1))[ln]? = some ((M[pl]'(by rw [D.len]; exact h1))[ln]'(by rw [hl]; exact h2)) := List.getElem?_eq_getElem _
  unfold at2
  rw [e]
  show _ = some ((M[pl]'(by rw [D.len]; exact h1))[ln]?.join)
  rw [e2]
  rfl
theorem Dim.set {M : Mat} {n k pl ln : Nat} {v : Option Nat} (D : Dim M n k) (h1 : pl < n) : Dim (set2 M pl ln v) n k := by
  unfold set2
  refine ⟨by rw [List.length_set]; exact D.len, fun r hr => ?_⟩
  rcases List.mem_or_eq_of_mem_set hr with h | rfl
  · exact D.row r h
  · have e : M[pl]? = some (M[pl]'(by rw [D.len]; exact h1)) := List.getElem?_eq_getElem _
    rw [e, List.length_set]
    exact D.row _ (List.mem_of_getElem? e)
theorem at2_set {M : Mat} {n k pl ln p l : Nat} {v : Option Nat} (D : Dim M n k) (h1 : pl < n) (h2 : ln < k) : at2 (set2 M pl ln v) p l = if p = pl ∧ l = ln then v else at2 M p l := by
  obtain ⟨r, e1, e2, e3⟩ := D.get h1 h2
  have hl : pl < M.length := by rw [D.len]; exact h1
  unfold at2 set2
  rw [e1]
  by_cases hp : p = pl
  · subst hp
    rw [List.getElem?_set_self hl, e1]
    show (((r.set ln v)[l]?).join) = _
    by_cases hq : l = ln
    · subst hq
      rw [List.getElem?_set_self (by omega), if_pos ⟨rfl, rfl⟩]
      rfl
    · rw [List.getElem?_set_ne (Ne.symm hq), if_neg (fun z => hq z.2)]
      rfl
  · rw [List.getElem?_set_ne (Ne.symm hp), if_neg (fun z => hp z.1)]
theorem enc_set {M : Mat} {n k pl ln : Nat} {v : Option Nat} (D : Dim M n k) (h1 : pl < n) (h2 : ln < k) : ∃ ds, (encMat M)[pl]? = some ds ∧ ds.length = k ∧ ds[ln]? = some (optN (at2 M pl ln)) ∧ encMat (set2 M pl ln v) = (encMat M).set pl (ds.set ln (optN v)) := by
  obtain ⟨r, e1, e2, e3⟩ := D.get h1 h2
  refine ⟨r.map optN, by rw [List.getElem?_map, e1]; rfl, by rw [List.length_map]; exact e2, by rw [List.getElem?_map, e3]; rfl, ?_⟩
  unfold set2
  rw [e1]
  show (M.set pl (r.set ln v)).map (fun r => r.map optN) = _
  rw [List.map_set]
  congr 1
  exact List.map_set
/-- sums over a table -/
def sumM (w : Option Nat → Nat) (M : Mat) : Nat := (M.map fun r => (r.map w).sum).sum
theorem sum_set {α : Type} (f : α → Nat) : ∀ {l : List α} {i : Nat} {x v : α}, l[i]? = some x → ((l.set i v).map f).sum + f x = (l.map f).sum + f v
  | [], _, _, _, h => by simp at h
  | a :: l, 0, x, v, h => by
    simp at h
    subst h
    simp
    omega
  | a :: l, i + 1, x, v, h => by
    have ih := sum_set f (l := l) (i := i) (x := x) (v := v) (by simpa using h)
    rw [List.set_cons_succ, List.map_cons, List.sum_cons, List.map_cons, List.sum_cons]
    omega
theorem sumM_set (w : Option Nat → Nat) {M : Mat} {n k pl ln : Nat} {v : Option Nat} (D : Dim M n k) (h1 : pl < n) (h2 : ln < k) : sumM w (set2 M pl ln v) + w (at2 M pl ln) = sumM w M + w v := by
  obtain ⟨r, e1, e2, e3⟩ := D.get h1 h2
  unfold sumM set2
  rw [e1]
  have a := sum_set (fun r : List (Option Nat) => (r.map w).sum) (v := r.set ln v) e1
  have b := sum_set w (v := v) e3
  have a : ((M.set pl (r.set ln v)).map fun r => (r.map w).sum).sum + (r.map w).sum = (M.map fun r => (r.map w).sum).sum + ((r.set ln v).map w).sum := a
  show ((M.set pl (r.set ln v)).map fun r => (r.map w).sum).sum + _ = _
  omega
theorem sum_le {α : Type} (f : α → Nat) (b : Nat) : ∀ {l : List α}, (∀ x ∈ l, f x ≤ b) → (l.map f).sum ≤ l.length * b
  | [], _ => by simp
  | a :: l, h => by
    have := sum_le f b (l := l) fun x hx => h x (List.mem_cons_of_mem _ hx)
    have := h a List.mem_cons_self
    rw [List.map_cons, List.sum_cons, List.length_cons, Nat.succ_mul]
    omega
theorem sumM_le (w : Option Nat → Nat) (b : Nat) (hw : ∀ x, w x ≤ b) {M : Mat} {n k : Nat} (D : Dim M n k) : sumM w M ≤ n * (k * b) := by
  unfold sumM
  rw [← D.len]
  exact sum_le _ _ fun r hr => by
    rw [← D.row r hr]
    exact sum_le _ _ fun x _ => hw x
def w1 : Option Nat → Nat
  | some _ => 1
  | none => 0
def w3 : Option Nat → Nat
  | some c => c
  | none => 3000
def cnt (M : Mat) : Nat := sumM w1 M
def mu (M : Mat) : Nat := sumM w3 M
/-- no price is greater than nine times the number of prices -/
def Bd (M : Mat) (n k : Nat) : Prop := ∀ pl ln c, pl < n → ln < k → at2 M pl ln = some c → c ≤ 9 * cnt M
theorem cnt_le {M : Mat} {n k : Nat} (D : Dim M n k) (hn : n ≤ 21) (hk : k ≤ 11) : cnt M ≤ 231 := by
  have h := sumM_le w1 1 (fun x => by cases x <;> simp [w1]) D
  have : n * (k * 1) ≤ 21 * 11 := by
    rw [Nat.mul_one]
    exact Nat.mul_le_mul hn hk
  unfold cnt
  omega
/-- a price that is better: the measure falls, the bound stands -/
theorem better {M : Mat} {n k pl ln p l co c : Nat} (D : Dim M n k) (hn : n ≤ 21) (hk : k ≤ 11) (h1 : pl < n) (h2 : ln < k) (h3 : p < n) (h4 : l < k) (b : Bd M n k) (hco : co ≤ 9) (hc : at2 M p l = some c)
    (hb : at2 M pl ln = none ∨ ∃ o, at2 M pl ln = some o ∧ co + c < o) : mu (set2 M pl ln (some (co + c))) < mu M ∧ Bd (set2 M pl ln (some (co + c))) n k := by
  have hcb := b p l c h3 h4 hc
  have h231 := cnt_le D hn hk
  have hs1 := sumM_set w1 (v := some (co + c)) D h1 h2
  have hs3 := sumM_set w3 (v := some (co + c)) D h1 h2
  have D' := D.set (ln := ln) (v := some (co + c)) h1
  have h231' := cnt_le D' hn hk
  have e1 : w1 (some (co + c)) = 1 := rfl
  have e3 : w3 (some (co + c)) = co + c := rfl
  rw [e1] at hs1
  rw [e3] at hs3
  have key : cnt M ≤ cnt (set2 M pl ln (some (co + c))) ∧ co + c ≤ 9 * cnt (set2 M pl ln (some (co + c))) ∧ mu (set2 M pl ln (some (co + c))) < mu M := by
    unfold cnt mu at *
    rcases hb with e | ⟨o, e, ho⟩
    · rw [e] at hs1 hs3
      have q1 : w1 none = 0 := rfl
      have q3 : w3 none = 3000 := rfl
      rw [q1] at hs1
      rw [q3] at hs3
      refine ⟨by omega, by omega, by omega⟩
    · have hob := b pl ln o h1 h2 e
      rw [e] at hs1 hs3
      have q1 : w1 (some o) = 1 := rfl
      have q3 : w3 (some o) = o := rfl
      rw [q1] at hs1
      rw [q3] at hs3
      unfold cnt at hob
      refine ⟨by omega, by omega, by omega⟩
  refine ⟨key.2.2, fun p' l' c' hp' hl' e => ?_⟩
  rw [at2_set D h1 h2] at e
  split at e
  · cases e
    exact key.2.1
  · have := b p' l' c' hp' hl' e
    omega
end K62
namespace K62
open PySem PySem.Spec PyProof.Rows L2 DL
/-- nothing to better at (pl, ln) by the edges of es -/
def EdOk (M : Mat) (pl ln : Nat) (es : List Ed) : Prop := ∀ e ∈ es, ∀ c, at2 M e.p e.l = some c → ∃ c', at2 M pl ln = some c' ∧ c' ≤ e.c + c
/-- rows behind pl are right, the row of pl is sound, the rows ahead of it are empty -/
structure Semi (m : Mach) (z row : List Nat) (co : Co) (M : Mat) (pl : Nat) : Prop where
  dim : Dim M (row.length + 1) m.length
  bd : Bd M (row.length + 1) m.length
  sound : ∀ p ln c, pl ≤ p → p ≤ row.length → ln < m.length → at2 M p ln = some c → Rch m z row co p ln c
  fin : ∀ ln, ln < m.length → pas m ln = true → at2 M row.length ln = some 0
  edge : ∀ p ln, pl + 1 ≤ p → p ≤ row.length → ln < m.length → EdOk M p ln (eds m z row co p ln)
  rest : ∀ p ln, p < pl → p < row.length → at2 M p ln = none
theorem Semi.fixed {m : Mach} {z row : List Nat} {co : Co} {M : Mat} {pl : Nat} (S : Semi m z row co M pl) (h : ∀ ln, ln < m.length → EdOk M pl ln (eds m z row co pl ln)) : Fixed m z row co (at2 M) pl := by
  refine ⟨S.sound, S.fin, fun p ln e c h1 h2 h3 he hc => ?_⟩
  rcases Nat.lt_or_eq_of_le h1 with q | rfl
  · exact S.edge p ln q h2 h3 e he c hc
  · exact h ln h3 e he c hc
/-- on to the row ahead -/
theorem Semi.next {m : Mach} {z row : List Nat} {co : Co} {M : Mat} {pl : Nat} (S : Semi m z row co M (pl + 1)) (hp : pl < row.length) (h : ∀ ln, ln < m.length → EdOk M (pl + 1) ln (eds m z row co (pl + 1) ln)) : Semi m z row co M pl := by
  refine ⟨S.dim, S.bd, fun p ln c h1 h2 h3 e => ?_, S.fin, fun p ln h1 h2 h3 => ?_, fun p ln h1 h2 => S.rest p ln (by omega) h2⟩
  · rcases Nat.lt_or_eq_of_le h1 with q | rfl
    · exact S.sound p ln c q h2 h3 e
    · rw [S.rest pl ln (by omega) hp] at e
      cases e
  · rcases Nat.lt_or_eq_of_le h1 with q | rfl
    · exact S.edge p ln q h2 h3
    · exact h ln h3
/-- a better price -/
theorem Semi.upd {m : Mach} {z row : List Nat} {co : Co} {M : Mat} {pl ln c : Nat} {e : Ed} (O : Ok5 m z row) (S : Semi m z row co M pl) (c1 : co.put ≤ 9) (c2 : co.leave ≤ 9) (c3 : co.turn ≤ 9) (hp : pl ≤ row.length) (hl : ln < m.length) (he : e ∈ eds m z row co pl ln) (hc : at2 M e.p e.l = some c)
    (hb : at2 M pl ln = none ∨ ∃ o, at2 M pl ln = some o ∧ e.c + c < o) : Semi m z row co (set2 M pl ln (some (e.c + c))) pl ∧ mu (set2 M pl ln (some (e.c + c))) < mu M := by
  have hep := eds_p he
  have hel := eds_l O hl he
  have hec := eds_c he
  have h1 : pl < row.length + 1 := by omega
  have h3 : e.p < row.length + 1 := by omega
  obtain ⟨b1, b2⟩ := better S.dim (by have := O.rl; omega) O.m11 h1 hl h3 hel S.bd (by omega : e.c ≤ 9) hc hb
  have g := fun p l => at2_set (v := some (e.c + c)) (p := p) (l := l) S.dim h1 hl
  refine ⟨⟨S.dim.set h1, b2, fun p l c' q1 q2 q3 q4 => ?_, fun l q1 q2 => ?_, fun p l q1 q2 q3 e' he' c' q4 => ?_, fun p l q1 q2 => ?_⟩, b1⟩
  · rw [g] at q4
    split at q4
    · rename_i q
      cases q4
      obtain ⟨rfl, rfl⟩ := q
      exact .step he (S.sound _ _ _ (by omega) (by omega) hel hc)
    · exact S.sound p l c' q1 q2 q3 q4
  · rw [g]
    have h0 := S.fin l q1 q2
    rw [if_neg]
    · exact h0
    · rintro ⟨rfl, rfl⟩
      rcases hb with k | ⟨o, k, ho⟩
      · rw [h0] at k
        cases k
      · rw [h0] at k
        cases k
        omega
  · have hp' := eds_p he'
    rw [g, if_neg (fun k => by omega)] at q4
    rw [g, if_neg (fun k => by omega)]
    exact S.edge p l q1 q2 q3 e' he' c' q4
  · rw [g, if_neg (fun k => by omega)]
    exact S.rest p l q1 q2
end K62
namespace K62
open PySem PySem.Spec PyProof.Rows L2 DL
local macro_rules | `(tactic| walk_at "st") => `(tactic| with_reducible first
  | refine pw_p ?_ | refine pw_o ?_ | refine dw_op ?_ | refine dw_un ?_ | refine dw_int ?_ | refine dw_str ?_ | refine dw_bl ?_ | refine dw_non ?_ | refine dw_ty ?_ | refine da_nil' ?_ | refine da_cons' ?_ | refine dw_sortSetT ?_ | refine dw_CB ?_ | refine dw_BM ?_ | refine dw_BM0 ?_
  | refine dw_tup ?_ | refine dw_lst ?_ | refine dw_notV ?_ | refine dw_and ?_ | refine dw_or ?_ | refine dw_if ?_ | refine dw_chain ?_ | refine dw_sl3 ?_ | refine dw_revT ?_ | refine dw_tupRg1 ?_ | refine dw_lstRg1 ?_ | refine dw_callI ?_ | refine dw_callJ ?_
  | refine dt_test ?_ | refine dt_B ?_ | refine dt_and ?_ | refine dt_or ?_ | refine dt_not ?_ | refine dt_yes ?_ | refine dt_truth ?_
  | refine ds_ret ?_ | refine ds_retN ?_ | refine ds_next ?_ | refine ds_break ?_ | refine ds_cont ?_ | refine ds_drop ?_ | refine ds_if ?_ | refine ds_set ?_
  | refine nx_nxt ?_ | refine rt_nxt ?_ | refine bk_nxt ?_ | refine ct_nxt ?_ | refine nx_lp ?_ | refine rt_lp ?_ | refine bk_lp ?_ | refine ct_lp ?_ | refine asn_d ?_ | refine asn_fr ?_ | refine rt_E0 ?_ | refine rt_E0o ?_ | refine nx_E0 ?_
  | refine dw_newK ?_ | refine dw_dInK ?_ | refine dw_dNotInK ?_ | refine dw_dGetK ?_ | refine ds_dPutK ?_ | refine dw_callH ?_
  | refine tr_b ?_ | refine tr_i ?_ | refine tr_n ?_ | refine tr_T ?_ | refine tr_L ?_
  | refine do_none ?_ | refine do_some ?_ | refine ite_t ?_ | refine ite_f ?_
  | refine rw_addI ?_ | refine rw_sub ?_ | refine rw_cmp ?_ | refine rw_eqI ?_ | refine rw_neI ?_ | refine rw_eqZ ?_ | refine rw_neZ ?_ | refine rw_eqS ?_ | refine rw_neS ?_ | refine rw_eqB ?_ | refine rw_neB ?_ | refine isN_d ?_ | refine notN_d ?_ | refine rw_isB ?_ | refine rw_notB ?_
  | refine rn_intI ?_ | refine rn_intB ?_ | refine rn_max ?_ | refine rn_min ?_ | refine rn_lenT ?_ | refine rn_lenD ?_ | refine rm_sw ?_ | refine isi_int ?_ | refine isi_bool ?_ | refine isi_str ?_ | refine isi_tuple ?_ | refine isi_list ?_ | refine rn_tupT ?_ | refine rn_listT ?_
  | refine ⟨_, rfl, ?_⟩
  | fail)
local macro_rules | `(tactic| walk_at "va") => `(tactic| first
  | ((with_reducible apply dw_var); rfl) | ((with_reducible apply dw_sl); rfl) | ((with_reducible apply dw_slK); rfl)
  | ((with_reducible apply rw_ixL); rfl; rfl) | ((with_reducible apply rw_ixT); rfl)
  | ((with_reducible apply ite_T); rfl) | ((with_reducible apply ite_F); rfl) | ((with_reducible apply tr_o); rfl)
  | refine ⟨_, rfl, szl (Nat.le_of_ble_eq_true rfl), ?_⟩
  | (with_reducible refine rw_mod (by omega) ?_)
  | (with_reducible refine rw_fdiv (by unfold CDiv; omega) ?_)
  | (with_reducible refine rw_mul (by unfold CMul; omega) ?_)
  | refine ⟨szl (Nat.le_of_ble_eq_true rfl), ?_⟩
  | refine ⟨⟨rfl, _, _, rfl⟩, ?_⟩
  | refine ⟨rfl, ?_⟩
  | rfl
  | fail)
local macro_rules | `(tactic| walk_at "go") => `(tactic| repeat' (first | walk_at "st" | (with_reducible refine ds_seq' ?_) | walk_at "va" | fail))
local macro_rules | `(tactic| walk_at "gs") => `(tactic| repeat' (first | walk_at "st" | walk_at "va" | fail))
def rowOf (m : Mach) (last : Bool) : List (Option Nat) := if last = true then m.map fun l => if l.1 = true then some 0 else none else m.map fun _ => none
def mat0 (m : Mach) (n : Nat) : Mat := (List.range (n + 1)).map fun i => rowOf m (decide (i = n))
theorem mats_succ (m : Mach) (n i : Nat) : encMat ((List.range (i + 1)).map fun j => rowOf m (decide (j = n))) = encMat ((List.range i).map fun j => rowOf m (decide (j = n))) ++ [(rowOf m (decide (i = n))).map optN] := by
  unfold encMat
  rw [List.range_succ, List.map_append, List.map_append]
  rfl
theorem mat0_get {m : Mach} {n p ln : Nat} (hp : p < n + 1) : at2 (mat0 m n) p ln = if p = n ∧ pas m ln = true then some 0 else none := by
  unfold at2 mat0
  rw [List.getElem?_map, List.getElem?_range hp]
  show ((rowOf m (decide (p = n)))[ln]?).join = _
  unfold rowOf
  by_cases h : p = n
  · rw [if_pos (decide_eq_true h), List.getElem?_map]
    unfold pas
    cases e : m[ln]? with
    | none => simp
    | some l =>
      cases q : l.1 <;> simp [h, q]
  · rw [if_neg (by simp [h]), List.getElem?_map, if_neg (fun z => h z.1)]
    cases m[ln]? <;> rfl
theorem semi0 {m : Mach} {z row : List Nat} {co : Co} : Semi m z row co (mat0 m row.length) row.length := by
  refine ⟨⟨by simp [mat0], fun r hr => ?_⟩, fun p l c h1 _ e => ?_, fun p l c h1 h2 h3 e => ?_, fun l h1 h2 => ?_, fun p l h1 h2 => by omega, fun p l h1 h2 => ?_⟩
  · unfold mat0 at hr
    obtain ⟨k, _, rfl⟩ := List.mem_map.mp hr
    unfold rowOf
    split <;> simp
  · rw [mat0_get h1] at e
    split at e
    · cases e
      exact Nat.zero_le _
    · cases e
  · rw [mat0_get (by omega)] at e
    split at e
    · rename_i q
      cases e
      rw [q.1]
      exact .fin q.2
    · cases e
  · rw [mat0_get (by omega), if_pos ⟨rfl, h2⟩]
  · rw [mat0_get (by omega), if_neg (fun k => by omega)]
structure Px where
  m : Mach
  z : List Nat
  row : List Nat
  co : Co
abbrev argP (x : Px) : List PyData := [encM x.m, zD x.z, zD x.row, encC x.co]
def preP (x : Px) : Prop := Ok5 x.m x.z x.row ∧ x.co.put ≤ 9 ∧ x.co.leave ≤ 9 ∧ x.co.turn ≤ 9
noncomputable def pricesD (x : Px) : PyData := .tuple ((List.range (x.row.length + 1)).map fun pl => .tuple ((List.range x.m.length).map fun ln => optN (best x.m x.z x.row x.co pl ln)))
abbrev spP (K : PySem.W.Frag) := spI K argP preP (fun x r => r = .p (.d (pricesD x)))
theorem mat_eq {M : Mat} {n k : Nat} (D : Dim M n k) : M = (List.range n).map fun pl => (List.range k).map fun ln => at2 M pl ln := by
  apply List.ext_getElem?
  intro i
  by_cases hi : i < n
  · rw [List.getElem?_map, List.getElem?_range hi]
    have e : M[i]? = some (M[i]'(by rw [D.len]; exact hi)) := List.getElem?_eq_getElem _
    have hl := D.row _ (List.mem_of_getElem? e)
    rw [e]
    show some _ = some _
    congr 1
    apply List.ext_getElem?
    intro l
    by_cases hl2 : l < k
    · obtain ⟨r, g1, g2, g3⟩ := D.get hi hl2
      rw [e] at g1
      cases g1
      rw [g3, List.getElem?_map, List.getElem?_range hl2]
      rfl
    · rw [List.getElem?_eq_none (by omega), List.getElem?_eq_none (by simp; omega)]
  · rw [List.getElem?_eq_none (by rw [D.len]; omega), List.getElem?_eq_none (by simp; omega)]
theorem prices_eq {m : Mach} {z row : List Nat} {co : Co} {M : Mat} (O : Ok5 m z row) (D : Dim M (row.length + 1) m.length) (F : Fixed m z row co (at2 M) 0) : PyData.tuple (M.map fun r => PyData.tuple (r.map optN)) = pricesD ⟨m, z, row, co⟩ := by
  unfold pricesD
  congr 1
  conv => lhs; rw [mat_eq D]
  rw [List.map_map]
  refine List.map_congr_left fun pl hp => ?_
  show PyData.tuple (((List.range m.length).map fun ln => at2 M pl ln).map optN) = _
  rw [List.map_map]
  congr 1
  refine List.map_congr_left fun ln hl => ?_
  show optN (at2 M pl ln) = _
  rw [F.best O (Nat.zero_le _) (by have := List.mem_range.mp hp; omega) (List.mem_range.mp hl)]
section
variable {P : Program} {w : World} {K : PySem.W.Frag} {mg : Str → Option Value} {base : Heap} {a : Ad}
theorem ok_prices_of (T : Tx K mg a) (G_steps_from : FnOk P w K mg base CX0 1 a.f2 a.d2 ["machine", "signs", "row", "costs", "place", "line"] (spE K encP)) : FnOk P w K mg base CX0 2 a.f3 a.d3 ["machine", "signs", "row", "costs"] (spP K) := by
  refine fnI T.F_prices_of sc_prices_of (fun x => ⟨rfl, by decide⟩) fun cdv A outer s H E hr => ⟨_, (pss_cons (ps_setLc (i := 4) (own := [("place", 5)]) (g := gName 5) (by rfl) sc_prices_of.nd rfl rfl (sw_true rfl rfl rfl (by decide +kernel)) (pi_range1 (by rfl) T.z_range (pa_cons (pe_op (kADD K rfl) (pe_callB (kLEN K rfl) (by rfl) T.z_len (by decide +kernel) (pa_cons (pv 2) pa_nil)) pe_int) pa_nil)) (blkOk_by (own := [("place", 5)]) (N := ["machine", "signs", "row", "costs", "prices", "place", "turned", "line", "_", "cost", "other", "behind", "told", "passing", "part"]) (sc := defScope s_prices_of) (by decide +kernel)) (fun _ _ _ _ _ => (pg_name (i := 5) sc_prices_of.nd rfl (by first | exact Or.inl rfl | exact Or.inr rfl))) (fun _ _ _ _ _ => pts_nil) (fun _ _ _ _ _ => (pe_ifExp (pt_cmpR (kEQ K rfl hr.units) (pv 5) (pe_callB (kLEN K rfl) (by rfl) T.z_len (by decide +kernel) (pa_cons (pv 2) pa_nil)) (nomark _)) (pe_lc (own := [("passing", 13), ("_", 8)]) (g := gTup K 2 (gCons (gName 13) (gCons (gName 8) (gNil)))) (by rfl) sc_prices_of.nd (kANY K rfl (pv 0)) (blkOk_by (own := [("passing", 13), ("_", 8)]) (N := ["machine", "signs", "row", "costs", "prices", "place", "turned", "line", "_", "cost", "other", "behind", "told", "passing", "part"]) (sc := relS _ (defScope s_prices_of)) (by decide +kernel)) (fun _ _ _ _ _ => (kTG K rfl rfl (pgs_cons (pg_name (i := 13) sc_prices_of.nd rfl (by first | exact Or.inl rfl | exact Or.inr rfl)) (pgs_cons (pg_name (i := 8) sc_prices_of.nd rfl (by first | exact Or.inl rfl | exact Or.inr rfl)) pgs_nil)))) (fun _ _ _ _ _ => pts_nil) (fun _ _ _ _ _ => (pe_ifExp (kTRUTH K rfl (pv 13) (by intro _; rfl)) pe_int pe_non))) (pe_lc (own := [("_", 8)]) (g := gName 8) (by rfl) sc_prices_of.nd (kANY K rfl (pv 0)) (blkOk_by (own := [("_", 8)]) (N := ["machine", "signs", "row", "costs", "prices", "place", "turned", "line", "_", "cost", "other", "behind", "told", "passing", "part"]) (sc := relS _ (defScope s_prices_of)) (by decide +kernel)) (fun _ _ _ _ _ => (pg_name (i := 8) sc_prices_of.nd rfl (by first | exact Or.inl rfl | exact Or.inr rfl))) (fun _ _ _ _ _ => pts_nil) (fun _ _ _ _ _ => pe_non))))) (pss_cons (ps_for PassesOwn.never rfl (pi_revR (by rfl) T.z_reversed (prg_1 (by rfl) T.z_range (pe_op (kADD K rfl) (pe_callB (kLEN K rfl) (by rfl) T.z_len (by decide +kernel) (pa_cons (pv 2) pa_nil)) pe_int))) (pg_name (i := 5) sc_prices_of.nd rfl (Or.inl rfl)) (pss_cons (ps_set (i := 6) sc_prices_of.nd rfl (Or.inl rfl) pe_bl) (pss_one (ps_while PassesOwn.never (kTRUTH K rfl (pv 6) (by intro _; rfl)) (pss_cons (ps_set (i := 6) sc_prices_of.nd rfl (Or.inl rfl) pe_bl) (pss_one (ps_for PassesOwn.never rfl (pi_range1 (by rfl) T.z_range (pa_cons (pe_callB (kLEN K rfl) (by rfl) T.z_len (by decide +kernel) (pa_cons (pv 0) pa_nil)) pa_nil)) (pg_name (i := 7) sc_prices_of.nd rfl (Or.inl rfl)) (pss_one (ps_for PassesOwn.never rfl (kANY K rfl (pe_call G_steps_from hr (by rfl) T.m_steps_from T.k_steps_from T.b_steps_from .nil pass0 (pa_cons (pv 0) (pa_cons (pv 1) (pa_cons (pv 2) (pa_cons (pv 3) (pa_cons (pv 5) (pa_cons (pv 7) pa_nil)))))))) (kTG K rfl rfl (pgs_cons (pg_name (i := 8) sc_prices_of.nd rfl (Or.inl rfl)) (pgs_cons (pg_name (i := 9) sc_prices_of.nd rfl (Or.inl rfl)) (pgs_cons (kTG K rfl rfl (pgs_cons (pg_name (i := 10) sc_prices_of.nd rfl (Or.inl rfl)) (pgs_cons (pg_name (i := 11) sc_prices_of.nd rfl (Or.inl rfl)) pgs_nil))) pgs_nil)))) (pss_cons (ps_set (i := 12) sc_prices_of.nd rfl (Or.inl rfl) (pe_ix (kIX K rfl) (pe_ix (kIX K rfl) (pv 4) (pv 10) (fun _ _ => rfl)) (pv 11) (fun _ _ => rfl))) (pss_one (ps_if (PW.pt (pw_and (pt_cmpR op_notN (pv 12) pe_non (nomark _)) (pw_and1 (PW.pt (pw_or (pt_cmpR op_isN (pe_ix (kIX K rfl) (pe_ix (kIX K rfl) (pv 4) (pv 5) (fun _ _ => rfl)) (pv 7) (fun _ _ => rfl)) pe_non (nomark _)) (pw_or1 (pt_cmpR op_lt (pe_op (kADD K rfl) (pv 9) (pv 12)) (pe_ix (kIX K rfl) (pe_ix (kIX K rfl) (pv 4) (pv 5) (fun _ _ => rfl)) (pv 7) (fun _ _ => rfl)) (nomark _)))))))) (pss_cons (ps_asg (pe_op (kADD K rfl) (pv 9) (pv 12)) (pg_sub (pe_ix (kIX K rfl) (pv 4) (pv 5) (fun _ _ => rfl)) (pv 7) set_list)) (pss_one (ps_set (i := 6) sc_prices_of.nd rfl (Or.inl rfl) pe_bl))) pss_nil)))))))))))) (pss_one (ps_ret (pe_callTy (kTUP K rfl) (by rfl) T.z_tuple (by decide +kernel) (pa_cons (pe_lc (own := [("part", 14)]) (g := gName 14) (by rfl) sc_prices_of.nd (kANY K rfl (pv 4)) (blkOk_by (own := [("part", 14)]) (N := ["machine", "signs", "row", "costs", "prices", "place", "turned", "line", "_", "cost", "other", "behind", "told", "passing", "part"]) (sc := defScope s_prices_of) (by decide +kernel)) (fun _ _ _ _ _ => (pg_name (i := 14) sc_prices_of.nd rfl (by first | exact Or.inl rfl | exact Or.inr rfl))) (fun _ _ _ _ _ => pts_nil) (fun _ _ _ _ _ => (pe_callTy (kTUP K rfl) (by rfl) T.z_tuple (by decide +kernel) (pa_cons (pv 14) pa_nil)))) pa_nil)))))), ?_⟩
  rintro ⟨m, z, row, co⟩ ⟨O, c1, c2, c3⟩ B
  dsimp only [argP] at *
  have hrl := O.rl
  have hm11 := O.m11
  refine ds_mid' (fun G => ∃ p qs, G = [.d (encM m), .d (zD z), .d (zD row), .d (encC co), .ow (LLr K p qs (encMat (mat0 m row.length))), .un, .un, .un, .un, .un, .un, .un, .un, .un, .un]) ?_ ?_
  · walk_at "gs"
    refine dw_lcLL (ch := [5]) (fun k hk => hk) ?_
    refine di_rng1 ?_
    walk_at "gs"
    refine rn_lenZ (by omega) ?_
    walk_at "gs"
    refine ⟨by omega, by omega, fun i acc G => acc = encMat ((List.range i).map fun j => rowOf m (decide (j = row.length))) ∧ G = [.d (encM m), .d (zD z), .d (zD row), .d (encC co), .un, .un, .un, .un, .un, .un, .un, .un, .un, .un, .un], ⟨rfl, rfl⟩, szl (by rw [rngD_len]; omega), fun B' i acc G2 d hd ⟨ha, hG⟩ => ?_, fun acc G2 ⟨ha, hG⟩ p qs => ?_⟩
    · subst hG ha
      obtain ⟨hi, rfl⟩ := rngD_get hd
      have hi : i < row.length + 1 := by omega
      have e0 : (0 : Int) + (i : Int) = (i : Int) := by omega
      rw [e0]
      refine dg_name ?_
      walk_at "gs"
      refine rn_lenZ (by omega) ?_
      walk_at "gs"
      refine ite_k (fun c => ?_) (fun c => ?_)
      · have c : i = row.length := by
          have := of_decide_eq_true c
          omega
        refine dw_lcE (ch := [13, 8]) (fun k hk => by simpa using hk) ?_
        refine di_anyT (di_tup ?_)
        walk_at "gs"
        refine ⟨fun j acc2 G => acc2 = (m.take j).map (fun l => optN (if l.1 = true then some 0 else none)) ∧ G = [.d (encM m), .d (zD z), .d (zD row), .d (encC co), .un, .d (nD i), .un, .un, .un, .un, .un, .un, .un, .un, .un], ⟨rfl, rfl⟩, fun B2 j acc2 G2 d2 hd2 ⟨ha2, hG2⟩ => ?_, fun acc2 G2 ⟨ha2, hG2⟩ => ?_⟩
        · subst hG2 ha2
          rw [List.getElem?_map] at hd2
          obtain ⟨l, hl, rfl⟩ := Option.map_eq_some_iff.mp hd2
          have hjl := (List.getElem?_eq_some_iff.mp hl).1
          refine dg_tup rfl (dgs_cons (dg_name (dgs_cons (dg_name (dgs_nil ?_)))))
          walk_at "gs"
          have hsz : ((m.take j).map fun l => optN (if l.1 = true then some 0 else none)).length < sizeLine := szlt (by rw [List.length_map, List.length_take]; omega)
          have ht : (m.take (j + 1)).map (fun l => optN (if l.1 = true then some 0 else none)) = (m.take j).map (fun l => optN (if l.1 = true then some 0 else none)) ++ [optN (if l.1 = true then some 0 else none)] := by
            rw [List.take_succ, hl, List.map_append]
            rfl
          refine ite_k (fun c3 => ?_) (fun c3 => ?_)
          · walk_at "gs"
            refine ⟨hsz, ?_, rfl⟩
            rw [ht, if_pos c3]
            rfl
          · walk_at "gs"
            refine ⟨hsz, ?_, rfl⟩
            rw [ht, if_neg (by rw [c3]; simp)]
            rfl
        · subst hG2 ha2
          refine ⟨_, rfl, szlt (by rw [List.length_map, List.length_map, List.length_range]; omega), ?_, rfl⟩
          rw [mats_succ, rowOf, if_pos (decide_eq_true c), List.length_map, List.take_length, List.map_map]
          rfl
      · have c : i ≠ row.length := fun e => (of_decide_eq_false c) (by rw [e])
        refine dw_lcM m encL (fun _ => PyData.none) ?_
        refine di_anyT (di_tup ?_)
        walk_at "gs"
        refine ⟨szl (by omega), fun B2 l hl => ?_, ?_⟩
        · walk_at "gs"
        · refine ⟨_, rfl, szlt (by rw [List.length_map, List.length_map, List.length_range]; omega), ?_, rfl⟩
          rw [mats_succ, rowOf, if_neg (by simp [c]), List.map_map]
          rfl
    · subst hG ha
      refine asn_fr (nx_nxt ⟨p, qs, ?_⟩)
      rw [rngD_len]
      rfl
  · rintro G1 ⟨p, qs, rfl⟩
    refine ds_mid' (fun G => ∃ (p : Addr) (qs : List Addr) (M : Mat) (s5 s6 s7 s8 s9 s10 s11 s12 : Sl), Dim M (row.length + 1) m.length ∧ Fixed m z row co (at2 M) 0 ∧ G = [.d (encM m), .d (zD z), .d (zD row), .d (encC co), .ow (LLr K p qs (encMat M)), s5, s6, s7, s8, s9, s10, s11, s12, .un, .un]) ?_ ?_
    · refine ds_forE' (ch := [5]) ?_
      refine di_revR1 ?_
      walk_at "gs"
      refine rn_lenZ (by omega) ?_
      walk_at "gs"
      refine ⟨(by omega : row.length + 1 ≤ 1000000), ?_⟩
      refine ⟨fun i G => ∃ (p : Addr) (qs : List Addr) (M : Mat) (s5 s6 s7 s8 s9 s10 s11 s12 : Sl), (i ≤ row.length → Semi m z row co M (row.length - i)) ∧ (row.length < i → Dim M (row.length + 1) m.length ∧ Fixed m z row co (at2 M) 0) ∧ G = [.d (encM m), .d (zD z), .d (zD row), .d (encC co), .ow (LLr K p qs (encMat M)), s5, s6, s7, s8, s9, s10, s11, s12, .un, .un], ⟨p, qs, mat0 m row.length, .un, .un, .un, .un, .un, .un, .un, .un, fun _ => semi0, fun h => absurd h (Nat.not_lt_zero _), rfl⟩, fun i G2 d hd ⟨p, qs, M, s5, s6, s7, s8, s9, s10, s11, s12, h1, h2, hG⟩ => ?_, fun G2 ⟨p, qs, M, s5, s6, s7, s8, s9, s10, s11, s12, h1, h2, hG⟩ => ?_⟩
      · subst hG
        have hd : (rngR (row.length + 1))[i]? = some d := hd
        obtain ⟨hi, rfl⟩ := rngR_get hd
        have S := h1 (by omega)
        have e0 : row.length + 1 - 1 - i = row.length - i := by omega
        rw [e0]
        refine dg_name ?_
        refine ds_seq' ?_
        walk_at "gs"
        generalize hpl : row.length - i = pl at *
        refine ds_while' (fun mm G => ∃ (p : Addr) (qs : List Addr) (M : Mat) (t : Bool) (s7 s8 s9 s10 s11 s12 : Sl), mm = mu M + (if t = true then 1 else 0) ∧ Semi m z row co M pl ∧ (t = false → ∀ ln, ln < m.length → EdOk M pl ln (eds m z row co pl ln)) ∧ G = [.d (encM m), .d (zD z), .d (zD row), .d (encC co), .ow (LLr K p qs (encMat M)), .d (nD pl), .d (.bool t), s7, s8, s9, s10, s11, s12, .un, .un]) (mu M + 1) ⟨p, qs, M, true, s7, s8, s9, s10, s11, s12, rfl, S, (fun h => by cases h), rfl⟩ ?_
        rintro mm G1 ⟨p, qs, M, t, s7, s8, s9, s10, s11, s12, rfl, S, hf, rfl⟩
        have hplr : pl ≤ row.length := by omega
        walk_at "gs"
        refine ite_k (fun ct => ?_) (fun ct => ?_)
        · subst ct
          refine ds_seq' ?_
          walk_at "gs"
          generalize hM0 : M = M0 at *
          refine ds_forE' (ch := [7]) ?_
          refine di_rng1 ?_
          walk_at "gs"
          rw [List.length_map, rng_nD]
          refine ⟨by omega, by omega, fun j G => ∃ (p : Addr) (qs : List Addr) (M : Mat) (t : Bool) (s7 s8 s9 s10 s11 s12 : Sl), Semi m z row co M pl ∧ (t = true → mu M < mu M0) ∧ (t = false → M = M0 ∧ ∀ ln, ln < j → EdOk M pl ln (eds m z row co pl ln)) ∧ G = [.d (encM m), .d (zD z), .d (zD row), .d (encC co), .ow (LLr K p qs (encMat M)), .d (nD pl), .d (.bool t), s7, s8, s9, s10, s11, s12, .un, .un], ⟨p, qs, M0, false, s7, s8, s9, s10, s11, s12, S, (fun h => by cases h), fun _ => ⟨rfl, fun ln h => absurd h (Nat.not_lt_zero _)⟩, rfl⟩, fun j G2 d2 hd2 ⟨p, qs, M, t, s7, s8, s9, s10, s11, s12, S, ht1, ht2, hG⟩ => ?_, fun G2 ⟨p, qs, M, t, s7, s8, s9, s10, s11, s12, S, ht1, ht2, hG⟩ => ?_⟩
          · subst hG
            rw [List.getElem?_map] at hd2
            obtain ⟨k, hk, rfl⟩ := Option.map_eq_some_iff.mp hd2
            obtain ⟨hjk, hk⟩ := List.getElem?_eq_some_iff.mp hk
            rw [List.getElem_range] at hk
            subst hk
            rw [List.length_range] at hjk
            refine dg_name ?_
            walk_at "gs"
            refine ds_forE' (ch := [8, 9, 10, 11]) ?_
            refine di_anyL (di_list ?_)
            walk_at "gs"
            refine ⟨⟨m, z, row, co, pl, j⟩, ⟨O, hjk⟩, rfl, ?_⟩
            rintro _ rfl
            dsimp only
            walk_at "gs"
            refine ⟨fun q G => ∃ (p : Addr) (qs : List Addr) (M : Mat) (t : Bool) (s8 s9 s10 s11 s12 : Sl), Semi m z row co M pl ∧ (t = true → mu M < mu M0) ∧ (t = false → M = M0 ∧ (∀ ln, ln < j → EdOk M pl ln (eds m z row co pl ln)) ∧ EdOk M pl j ((eds m z row co pl j).take q)) ∧ G = [.d (encM m), .d (zD z), .d (zD row), .d (encC co), .ow (LLr K p qs (encMat M)), .d (nD pl), .d (.bool t), .d (nD j), s8, s9, s10, s11, s12, .un, .un], ⟨p, qs, M, t, s8, s9, s10, s11, s12, S, ht1, fun h => ⟨(ht2 h).1, (ht2 h).2, fun e he => nomatch he⟩, rfl⟩, fun q G2 d3 hd3 ⟨p, qs, M, t, s8, s9, s10, s11, s12, S, ht1, ht2, hG⟩ => ?_, fun G2 ⟨p, qs, M, t, s8, s9, s10, s11, s12, S, ht1, ht2, hG⟩ => ?_⟩
            · subst hG
              rw [List.getElem?_map] at hd3
              obtain ⟨e, he, rfl⟩ := Option.map_eq_some_iff.mp hd3
              have hem := List.mem_of_getElem? he
              have hep := eds_p hem
              have hel := eds_l O hjk hem
              obtain ⟨dsr, g1, g2, g3, _⟩ := enc_set (v := none) S.dim (by omega : e.p < row.length + 1) hel
              obtain ⟨dsq, k1, k2, k3, _⟩ := enc_set (v := none) S.dim (by omega : pl < row.length + 1) hjk
              have htk : (eds m z row co pl j).take (q + 1) = (eds m z row co pl j).take q ++ [e] := by
                rw [List.take_succ, he]
                rfl
              refine dg_tup rfl (dgs_cons (dg_name (dgs_cons (dg_name (dgs_cons (dg_tup rfl (dgs_cons (dg_name (dgs_cons (dg_name (dgs_nil (dgs_nil ?_))))))))))))
              refine ds_seq' (ds_set (dw_ixx rfl ?_))
              walk_at "gs"
              refine ⟨e.p, dsr, rfl, rfl, g1, ?_⟩
              walk_at "gs"
              refine ⟨e.l, _, rfl, rfl, g3, ?_⟩
              walk_at "gs"
              have keep : (t = false → ∃ c', at2 M e.p e.l = none ∨ (∃ c, at2 M e.p e.l = some c ∧ at2 M pl j = some c' ∧ c' ≤ e.c + c)) → t = false → M = M0 ∧ (∀ ln, ln < j → EdOk M pl ln (eds m z row co pl ln)) ∧ EdOk M pl j ((eds m z row co pl j).take (q + 1)) := fun hk ht => by
                obtain ⟨a1, a2, a3⟩ := ht2 ht
                refine ⟨a1, a2, fun e' he' c hc => ?_⟩
                rw [htk] at he'
                rcases List.mem_append.mp he' with h | h
                · exact a3 e' h c hc
                · rw [List.mem_singleton.mp h] at hc ⊢
                  obtain ⟨c', h | ⟨c2, x1, x2, x3⟩⟩ := hk ht
                  · rw [hc] at h
                    cases h
                  · rw [hc] at x1
                    cases x1
                    exact ⟨c', x2, x3⟩
              cases hM : at2 M e.p e.l with
              | none =>
                refine ite_F rfl ?_
                walk_at "gs"
                exact ⟨p, qs, M, t, _, _, _, _, _, S, ht1, keep fun _ => ⟨0, .inl hM⟩, rfl⟩
              | some c =>
                dsimp only [optN]
                refine ite_T rfl ?_
                refine dt_or (dt_test (dw_op (dw_ixx rfl ?_)))
                walk_at "gs"
                refine ⟨pl, dsq, rfl, rfl, k1, ?_⟩
                walk_at "gs"
                refine ⟨j, _, rfl, rfl, k3, ?_⟩
                walk_at "gs"
                cases hN : at2 M pl j with
                | none =>
                  have hb : at2 M pl j = none ∨ ∃ o, at2 M pl j = some o ∧ e.c + c < o := .inl hN
                  refine ite_T rfl (ite_T rfl ?_)
                  refine ds_seq' (ds_setxx ?_)
                  walk_at "gs"
                  refine ⟨p, qs, encMat M, rfl, ?_⟩
                  walk_at "gs"
                  refine ⟨pl, dsq, rfl, rfl, k1, ?_⟩
                  walk_at "gs"
                  refine ⟨by rw [k2]; exact hjk, ?_⟩
                  walk_at "gs"
                  obtain ⟨S2, hmu⟩ := S.upd O c1 c2 c3 hplr hjk hem hM hb
                  obtain ⟨dsw, u1, _, _, u4⟩ := enc_set (v := some (e.c + c)) S.dim (by omega : pl < row.length + 1) hjk
                  rw [k1] at u1
                  cases u1
                  refine ⟨p, qs, set2 M pl j (some (e.c + c)), true, .d (encT e.st), .d (nD e.c), .d (nD e.p), .d (nD e.l), .d (nD c), S2, fun _ => ?_, fun h => (by cases h), ?_⟩
                  · cases t with
                    | true => exact Nat.lt_trans hmu (ht1 rfl)
                    | false => rw [(ht2 rfl).1] at hmu ⊢; exact hmu
                  · rw [u4]
                    rfl
                | some o =>
                  refine ite_F rfl ?_
                  refine dt_test (dw_op (dw_op (dw_var rfl (pw_p (dw_var rfl (pw_p (rw_addI (pw_p (dw_ixx rfl ?_)))))))))
                  walk_at "gs"
                  refine ⟨pl, dsq, rfl, rfl, k1, ?_⟩
                  walk_at "gs"
                  refine ⟨j, _, rfl, rfl, k3, ?_⟩
                  rw [hN]
                  dsimp only [optN]
                  walk_at "gs"
                  refine ite_k (fun c4 => ?_) (fun c4 => ?_)
                  · have hb : at2 M pl j = none ∨ ∃ o, at2 M pl j = some o ∧ e.c + c < o := .inr ⟨o, hN, by
                      have := of_decide_eq_true c4
                      omega⟩
                    refine ds_seq' (ds_setxx ?_)
                    walk_at "gs"
                    refine ⟨p, qs, encMat M, rfl, ?_⟩
                    walk_at "gs"
                    refine ⟨pl, dsq, rfl, rfl, k1, ?_⟩
                    walk_at "gs"
                    refine ⟨by rw [k2]; exact hjk, ?_⟩
                    walk_at "gs"
                    obtain ⟨S2, hmu⟩ := S.upd O c1 c2 c3 hplr hjk hem hM hb
                    obtain ⟨dsw, u1, _, _, u4⟩ := enc_set (v := some (e.c + c)) S.dim (by omega : pl < row.length + 1) hjk
                    rw [k1] at u1
                    cases u1
                    refine ⟨p, qs, set2 M pl j (some (e.c + c)), true, .d (encT e.st), .d (nD e.c), .d (nD e.p), .d (nD e.l), .d (nD c), S2, fun _ => ?_, fun h => (by cases h), ?_⟩
                    · cases t with
                      | true => exact Nat.lt_trans hmu (ht1 rfl)
                      | false => rw [(ht2 rfl).1] at hmu ⊢; exact hmu
                    · rw [u4]
                      rfl
                  · walk_at "gs"
                    exact ⟨p, qs, M, t, _, _, _, _, _, S, ht1, keep fun _ => ⟨o, .inr ⟨c, hM, hN, by
                      have := of_decide_eq_false c4
                      omega⟩⟩, rfl⟩
            · subst hG
              rw [List.length_map, List.take_length] at ht2
              exact ⟨p, qs, M, t, _, _, _, _, _, _, S, ht1, fun h => ⟨(ht2 h).1, fun ln hln => by
                rcases Nat.lt_succ_iff_lt_or_eq.mp hln with q | rfl
                · exact (ht2 h).2.1 ln q
                · exact (ht2 h).2.2⟩, rfl⟩
          · subst hG
            rw [List.length_map, List.length_range] at ht2
            refine ⟨mu M + (if t = true then 1 else 0), ?_, p, qs, M, t, s7, s8, s9, s10, s11, s12, rfl, S, fun h => (ht2 h).2, rfl⟩
            cases t with
            | true =>
              have := ht1 rfl
              show mu M + 1 < mu M0 + 1
              omega
            | false =>
              rw [(ht2 rfl).1]
              show mu M0 + 0 < mu M0 + 1
              omega
        · subst ct
          refine ⟨p, qs, M, .d (nD pl), .d (.bool false), s7, s8, s9, s10, s11, s12, fun h => ?_, fun h => ?_, rfl⟩
          · have e1 : pl = row.length - (i + 1) + 1 := by omega
            rw [e1] at S hf
            exact S.next (by omega) (hf rfl)
          · have e1 : pl = 0 := by omega
            rw [e1] at S hf
            exact ⟨S.dim, S.fixed (hf rfl)⟩
      · subst hG
        rw [rngR_len] at h2
        obtain ⟨D, F⟩ := h2 (Nat.lt_succ_self _)
        exact ⟨p, qs, M, _, _, _, _, _, _, _, _, D, F, rfl⟩
    · rintro G1 ⟨p, qs, M, s5, s6, s7, s8, s9, s10, s11, s12, D, F, rfl⟩
      have hMl : M.length ≤ 21 := by
        rw [D.len]
        omega
      refine ds_freezeLL 4 rfl ?_
      walk_at "gs"
      refine dw_lcM M (fun r => .list (r.map optN)) (fun r => .tuple (r.map optN)) ?_
      refine di_anyL (di_list ?_)
      walk_at "gs"
      refine ⟨by rw [List.map_map]; rfl, szl (by omega), fun B' r hr' => ?_, ?_⟩
      · walk_at "gs"
        refine rn_tupL rfl ?_
        walk_at "gs"
      · walk_at "gs"
        refine rn_tupL rfl ?_
        walk_at "gs"
        rw [prices_eq O D F]
end
end K62
namespace K62
open PySem PySem.Spec PyProof.Rows L2 DL
local macro_rules | `(tactic| walk_at "st") => `(tactic| with_reducible first
  | refine pw_p ?_ | refine pw_o ?_ | refine dw_op ?_ | refine dw_un ?_ | refine dw_int ?_ | refine dw_str ?_ | refine dw_bl ?_ | refine dw_non ?_ | refine dw_ty ?_ | refine da_nil' ?_ | refine da_cons' ?_ | refine dw_sortSetT ?_ | refine dw_CB ?_ | refine dw_BM ?_ | refine dw_BM0 ?_
  | refine dw_tup ?_ | refine dw_lst ?_ | refine dw_notV ?_ | refine dw_and ?_ | refine dw_or ?_ | refine dw_if ?_ | refine dw_chain ?_ | refine dw_sl3 ?_ | refine dw_revT ?_ | refine dw_tupRg1 ?_ | refine dw_lstRg1 ?_ | refine dw_callI ?_ | refine dw_callJ ?_
  | refine dt_test ?_ | refine dt_B ?_ | refine dt_and ?_ | refine dt_or ?_ | refine dt_not ?_ | refine dt_yes ?_ | refine dt_truth ?_
  | refine ds_ret ?_ | refine ds_retN ?_ | refine ds_next ?_ | refine ds_break ?_ | refine ds_cont ?_ | refine ds_drop ?_ | refine ds_if ?_ | refine ds_set ?_
  | refine nx_nxt ?_ | refine rt_nxt ?_ | refine bk_nxt ?_ | refine ct_nxt ?_ | refine nx_lp ?_ | refine rt_lp ?_ | refine bk_lp ?_ | refine ct_lp ?_ | refine asn_d ?_ | refine asn_fr ?_ | refine rt_E0 ?_ | refine rt_E0o ?_ | refine nx_E0 ?_
  | refine dw_newK ?_ | refine dw_dInK ?_ | refine dw_dNotInK ?_ | refine dw_dGetK ?_ | refine ds_dPutK ?_ | refine dw_callH ?_
  | refine tr_b ?_ | refine tr_i ?_ | refine tr_n ?_ | refine tr_T ?_ | refine tr_L ?_
  | refine do_none ?_ | refine do_some ?_ | refine ite_t ?_ | refine ite_f ?_
  | refine rw_addI ?_ | refine rw_sub ?_ | refine rw_cmp ?_ | refine rw_eqI ?_ | refine rw_neI ?_ | refine rw_eqZ ?_ | refine rw_neZ ?_ | refine rw_eqS ?_ | refine rw_neS ?_ | refine rw_eqB ?_ | refine rw_neB ?_ | refine isN_d ?_ | refine notN_d ?_ | refine rw_isB ?_ | refine rw_notB ?_
  | refine rn_intI ?_ | refine rn_intB ?_ | refine rn_max ?_ | refine rn_min ?_ | refine rn_lenT ?_ | refine rn_lenD ?_ | refine rm_sw ?_ | refine isi_int ?_ | refine isi_bool ?_ | refine isi_str ?_ | refine isi_tuple ?_ | refine isi_list ?_ | refine rn_tupT ?_ | refine rn_listT ?_
  | refine ⟨_, rfl, ?_⟩
  | fail)
local macro_rules | `(tactic| walk_at "va") => `(tactic| first
  | ((with_reducible apply dw_var); rfl) | ((with_reducible apply dw_sl); rfl) | ((with_reducible apply dw_slK); rfl)
  | ((with_reducible apply rw_ixL); rfl; rfl) | ((with_reducible apply rw_ixT); rfl)
  | ((with_reducible apply ite_T); rfl) | ((with_reducible apply ite_F); rfl) | ((with_reducible apply tr_o); rfl)
  | refine ⟨_, rfl, szl (Nat.le_of_ble_eq_true rfl), ?_⟩
  | (with_reducible refine rw_mod (by omega) ?_)
  | (with_reducible refine rw_fdiv (by unfold CDiv; omega) ?_)
  | (with_reducible refine rw_mul (by unfold CMul; omega) ?_)
  | refine ⟨szl (Nat.le_of_ble_eq_true rfl), ?_⟩
  | refine ⟨⟨rfl, _, _, rfl⟩, ?_⟩
  | refine ⟨rfl, ?_⟩
  | rfl
  | fail)
local macro_rules | `(tactic| walk_at "go") => `(tactic| repeat' (first | walk_at "st" | (with_reducible refine ds_seq' ?_) | walk_at "va" | fail))
local macro_rules | `(tactic| walk_at "gs") => `(tactic| repeat' (first | walk_at "st" | walk_at "va" | fail))
def isP : PyData → Bool
  | .none => true
  | .int i => decide (0 ≤ i)
  | _ => false
abbrev spIp (K : PySem.W.Frag) := spI K (fun d : PyData => [d]) (fun _ => True) (fun d r => r = .p (.d (.bool (isP d))))
theorem isP_not {d : PyData} (h0 : isNone d = false) (h : isiD d "int" = false) : isP d = false := by
  cases d with
  | none => cases h0
  | int i => exact absurd h (by simp [isiD, tyN])
  | _ => rfl
section
variable {P : Program} {w : World} {K : PySem.W.Frag} {mg : Str → Option Value} {base : Heap} {a : Ad}
theorem ok_is_price (T : Tx K mg a) : FnOk P w K mg base CX0 1 a.f1 a.d1 ["value"] (spIp K) := by
  refine fnI T.F_is_price sc_is_price (fun x => ⟨rfl, by decide⟩) fun cdv A outer s H E hr => ⟨_, (pss_one (ps_ret (pe_or (pe_cmpR op_isN (pv 0) pe_non (nomark _)) (pe_one (pe_and (pe_callB (kISI K rfl) (by rfl) T.z_isinstance (by decide +kernel) (pa_cons (pv 0) (pa_cons (pe_bltn (v := .ty "int") (by rfl) T.z_int (by decide +kernel) rfl) pa_nil))) (pe_and (pe_not (pe_callB (kISI K rfl) (by rfl) T.z_isinstance (by decide +kernel) (pa_cons (pv 0) (pa_cons (pe_bltn (v := .ty "bool") (by rfl) T.z_bool (by decide +kernel) rfl) pa_nil)))) (pe_one (pe_cmpR op_ge (pv 0) pe_int (nomark _))))))))), ?_⟩
  intro d _ B
  walk_at "go"
  refine ite_k (fun h0 => ?_) (fun h0 => ?_)
  · walk_at "go"
    cases d <;> first | rfl | exact absurd h0 (by simp [isNone])
  · walk_at "go"
    refine ite_k (fun h => ?_) (fun h => ?_)
    · walk_at "go"
      refine ite_k (fun h' => ?_) (fun h' => ?_)
      · obtain ⟨i, rfl⟩ := isi_i h (not_f h')
        walk_at "go"
      · obtain ⟨b, rfl⟩ := isi_b (not_t h')
        walk_at "go"
    · walk_at "go"
      rw [isP_not h0 h]
theorem ok_law_is_price (T : Tx K mg a) : FnOk P w K mg base CX0 1 a.f22 a.d22 ["value"] (spIp K) := by
  refine fnI T.F_law_is_price sc_law_is_price (fun x => ⟨rfl, by decide⟩) fun cdv A outer s H E hr => ⟨_, (pss_one (ps_ret (pe_or (pe_cmpR op_isN (pv 0) pe_non (nomark _)) (pe_one (pe_and (pe_callB (kISI K rfl) (by rfl) T.z_isinstance (by decide +kernel) (pa_cons (pv 0) (pa_cons (pe_bltn (v := .ty "int") (by rfl) T.z_int (by decide +kernel) rfl) pa_nil))) (pe_and (pe_not (pe_callB (kISI K rfl) (by rfl) T.z_isinstance (by decide +kernel) (pa_cons (pv 0) (pa_cons (pe_bltn (v := .ty "bool") (by rfl) T.z_bool (by decide +kernel) rfl) pa_nil)))) (pe_one (pe_cmpR op_ge (pv 0) pe_int (nomark _))))))))), ?_⟩
  intro d _ B
  walk_at "go"
  refine ite_k (fun h0 => ?_) (fun h0 => ?_)
  · walk_at "go"
    cases d <;> first | rfl | exact absurd h0 (by simp [isNone])
  · walk_at "go"
    refine ite_k (fun h => ?_) (fun h => ?_)
    · walk_at "go"
      refine ite_k (fun h' => ?_) (fun h' => ?_)
      · obtain ⟨i, rfl⟩ := isi_i h (not_f h')
        walk_at "go"
      · obtain ⟨b, rfl⟩ := isi_b (not_t h')
        walk_at "go"
    · walk_at "go"
      rw [isP_not h0 h]
/-! _law_passes -/
theorem ok_law_passes (T : Tx K mg a) (G_law_line : FnOk P w K mg base CX0 1 a.f14 a.d14 ["machine", "signs", "line", "row"] (spR K)) : FnOk P w K mg base CX0 2 a.f15 a.d15 ["machine", "signs", "line", "row"] (spI K argR preR (fun x r => r = .p (.d (.bool (pas x.1 (run x.1 x.2.1 x.2.2.1 x.2.2.2)))))) := by
  refine fnI T.F_law_passes sc_law_passes (fun x => ⟨rfl, by decide⟩) fun cdv A outer s H E hr => ⟨_, (pss_one (ps_ret (pe_ix (kIX K rfl) (pe_ix (kIX K rfl) (pv 0) (pe_call G_law_line hr (by rfl) T.m_law_line T.k_law_line T.b_law_line .nil pass0 (pa_cons (pv 0) (pa_cons (pv 1) (pa_cons (pv 2) (pa_cons (pv 3) pa_nil))))) (fun _ _ => rfl)) pe_int (fun _ _ => rfl)))), ?_⟩
  rintro ⟨m, z, l, row⟩ ⟨g, hl, hr⟩ B
  dsimp only [argR] at *
  walk_at "go"
  refine ⟨(m, z, l, row), ⟨g, hl, hr⟩, rfl, ?_⟩
  rintro _ rfl
  dsimp only
  walk_at "go"
  have hlt := run_lt g (row := row) hl hr
  obtain ⟨x, hx⟩ : ∃ x, m[run m z l row]? = some x := ⟨_, List.getElem?_eq_getElem hlt⟩
  refine rw_ixT (ati hx) ?_
  walk_at "go"
  unfold pas
  rw [hx]
  rfl
end
end K62
namespace K62
open PySem PySem.Spec PyProof.Rows L2 DL
local macro_rules | `(tactic| walk_at "st") => `(tactic| with_reducible first
  | refine pw_p ?_ | refine pw_o ?_ | refine dw_op ?_ | refine dw_un ?_ | refine dw_int ?_ | refine dw_str ?_ | refine dw_bl ?_ | refine dw_non ?_ | refine dw_ty ?_ | refine da_nil' ?_ | refine da_cons' ?_ | refine dw_sortSetT ?_ | refine dw_CB ?_ | refine dw_BM ?_ | refine dw_BM0 ?_
  | refine dw_tup ?_ | refine dw_lst ?_ | refine dw_notV ?_ | refine dw_and ?_ | refine dw_or ?_ | refine dw_if ?_ | refine dw_chain ?_ | refine dw_sl3 ?_ | refine dw_revT ?_ | refine dw_tupRg1 ?_ | refine dw_lstRg1 ?_ | refine dw_callI ?_ | refine dw_callJ ?_
  | refine dt_test ?_ | refine dt_B ?_ | refine dt_and ?_ | refine dt_or ?_ | refine dt_not ?_ | refine dt_yes ?_ | refine dt_truth ?_
  | refine ds_ret ?_ | refine ds_retN ?_ | refine ds_next ?_ | refine ds_break ?_ | refine ds_cont ?_ | refine ds_drop ?_ | refine ds_if ?_ | refine ds_set ?_
  | refine nx_nxt ?_ | refine rt_nxt ?_ | refine bk_nxt ?_ | refine ct_nxt ?_ | refine nx_lp ?_ | refine rt_lp ?_ | refine bk_lp ?_ | refine ct_lp ?_ | refine asn_d ?_ | refine asn_fr ?_ | refine rt_E0 ?_ | refine rt_E0o ?_ | refine nx_E0 ?_
  | refine dw_newK ?_ | refine dw_dInK ?_ | refine dw_dNotInK ?_ | refine dw_dGetK ?_ | refine ds_dPutK ?_ | refine dw_callH ?_
  | refine tr_b ?_ | refine tr_i ?_ | refine tr_n ?_ | refine tr_T ?_ | refine tr_L ?_
  | refine do_none ?_ | refine do_some ?_ | refine ite_t ?_ | refine ite_f ?_
  | refine rw_addI ?_ | refine rw_sub ?_ | refine rw_cmp ?_ | refine rw_eqI ?_ | refine rw_neI ?_ | refine rw_eqZ ?_ | refine rw_neZ ?_ | refine rw_eqS ?_ | refine rw_neS ?_ | refine rw_eqB ?_ | refine rw_neB ?_ | refine isN_d ?_ | refine notN_d ?_ | refine rw_isB ?_ | refine rw_notB ?_
  | refine rn_intI ?_ | refine rn_intB ?_ | refine rn_max ?_ | refine rn_min ?_ | refine rn_lenT ?_ | refine rn_lenD ?_ | refine rm_sw ?_ | refine isi_int ?_ | refine isi_bool ?_ | refine isi_str ?_ | refine isi_tuple ?_ | refine isi_list ?_ | refine rn_tupT ?_ | refine rn_listT ?_
  | refine ⟨_, rfl, ?_⟩
  | fail)
local macro_rules | `(tactic| walk_at "va") => `(tactic| first
  | ((with_reducible apply dw_var); rfl) | ((with_reducible apply dw_sl); rfl) | ((with_reducible apply dw_slK); rfl)
  | ((with_reducible apply rw_ixL); rfl; rfl) | ((with_reducible apply rw_ixT); rfl)
  | ((with_reducible apply ite_T); rfl) | ((with_reducible apply ite_F); rfl) | ((with_reducible apply tr_o); rfl)
  | refine ⟨_, rfl, szl (Nat.le_of_ble_eq_true rfl), ?_⟩
  | (with_reducible refine rw_mod (by omega) ?_)
  | (with_reducible refine rw_fdiv (by unfold CDiv; omega) ?_)
  | (with_reducible refine rw_mul (by unfold CMul; omega) ?_)
  | refine ⟨szl (Nat.le_of_ble_eq_true rfl), ?_⟩
  | refine ⟨⟨rfl, _, _, rfl⟩, ?_⟩
  | refine ⟨rfl, ?_⟩
  | rfl
  | fail)
local macro_rules | `(tactic| walk_at "go") => `(tactic| repeat' (first | walk_at "st" | (with_reducible refine ds_seq' ?_) | walk_at "va" | fail))
local macro_rules | `(tactic| walk_at "gs") => `(tactic| repeat' (first | walk_at "st" | walk_at "va" | fail))
theorem rw_neg {K : Fr} {B : Bs} {G : En} {P : Po} {i : Int} (q : P G (.p (.d (.int (-i))))) : RW1 K B G (rU fun i => .int (-i)) (.d (.int i)) P := fun S F H Q v1 I h1 k => ⟨i, dp_int h1, ct_d k I (.int _) q⟩
/-- one step: what is left of the row, what is made -/
def st1 (p : List Nat × List Nat) : Stp → Option (List Nat × List Nat)
  | .put s => some (p.1, p.2 ++ [s])
  | .keep r => if p.1.take 1 = [r] then some (p.1.drop 1, p.2 ++ [r]) else none
  | .turn r s => if p.1.take 1 = [r] then some (p.1.drop 1, p.2 ++ [s]) else none
  | .leave r => if p.1.take 1 = [r] then some (p.1.drop 1, p.2) else none
def stN (row : List Nat) (ss : List Stp) : Nat → Option (List Nat × List Nat)
  | 0 => some (row, [])
  | n + 1 => (stN row ss n).bind fun p => (ss[n]?).bind fun s => st1 p s
def chg (row : List Nat) (ss : List Stp) : Option (List Nat) := (stN row ss ss.length).bind fun p => if p.1 = [] then some p.2 else none
theorem stN_none {row : List Nat} {ss : List Stp} {i : Nat} (h : stN row ss i = none) : ∀ k, i ≤ k → stN row ss k = none
  | 0, hk => by
    have : i = 0 := by omega
    rw [← this]
    exact h
  | k + 1, hk => by
    rcases Nat.lt_or_eq_of_le hk with q | rfl
    · show (stN row ss k).bind _ = none
      rw [stN_none h k (by omega)]
      rfl
    · exact h
theorem chg_none {row : List Nat} {ss : List Stp} {i : Nat} (hi : i ≤ ss.length) (h : stN row ss i = none) : chg row ss = none := by
  unfold chg
  rw [stN_none h _ hi]
  rfl
theorem st1_len {p q : List Nat × List Nat} {s : Stp} (h : st1 p s = some q) : q.1.length ≤ p.1.length ∧ q.2.length ≤ p.2.length + 1 := by
  cases s <;> simp only [st1] at h
  · split at h
    · cases h
      simp
    · cases h
  · split at h
    · cases h
      simp
    · cases h
  · split at h
    · cases h
      simp
    · cases h
  · cases h
    simp
theorem stN_len {row : List Nat} {ss : List Stp} : ∀ {i : Nat} {p : List Nat × List Nat}, stN row ss i = some p → p.1.length ≤ row.length ∧ p.2.length ≤ i
  | 0, p, h => by
    cases h
    simp
  | i + 1, p, h => by
    obtain ⟨q, h1, h2⟩ := Option.bind_eq_some_iff.mp (show (stN row ss i).bind _ = some p from h)
    obtain ⟨s, h3, h4⟩ := Option.bind_eq_some_iff.mp h2
    have := stN_len h1
    have := st1_len h4
    omega
def optZ : Option (List Nat) → PyData
  | some r => zD r
  | none => .none
abbrev argCh (x : List Nat × List Stp) : List PyData := [zD x.1, .tuple (x.2.map encT)]
abbrev spCh (K : PySem.W.Frag) := spI K argCh (fun x => x.1.length ≤ 1000 ∧ x.2.length ≤ 30000) (fun x r => r = .p (.d (optZ (chg x.1 x.2))))
section
variable {P : Program} {w : World} {K : PySem.W.Frag} {mg : Str → Option Value} {base : Heap} {a : Ad}
theorem ok_law_changed (T : Tx K mg a) : FnOk P w K mg base CX0 1 a.f20 a.d20 ["row", "steps"] (spCh K) := by
  refine fnI T.F_law_changed sc_law_changed (fun x => ⟨rfl, by decide⟩) fun cdv A outer s H E hr => ⟨_, (pss_cons (ps_set (i := 2) sc_law_changed.nd rfl (Or.inl rfl) (pv 0)) (pss_cons (ps_set (i := 3) sc_law_changed.nd rfl (Or.inl rfl) (pe_strM [] rfl)) (pss_cons (ps_for PassesOwn.never rfl (kANY K rfl (pv 1)) (pg_name (i := 4) sc_law_changed.nd rfl (Or.inl rfl)) (pss_cons (ps_if (pt_cmpR (kNE K rfl hr.units) (pe_ix (kIX K rfl) (pv 4) pe_int (fun _ _ => rfl)) (pe_strM [112, 117, 116] rfl) (nomark _)) (pss_cons (ps_if (pt_cmpR (kNE K rfl hr.units) (pe_slice (kSLC K rfl) (pv 2) po_none (po_some pe_int)) (pe_ix (kIX K rfl) (pv 4) pe_int (fun _ _ => rfl)) (nomark _)) (pss_one (ps_ret pe_non)) pss_nil) (pss_one (ps_set (i := 2) sc_law_changed.nd rfl (Or.inl rfl) (pe_slice (kSLC K rfl) (pv 2) (po_some pe_int) po_none)))) pss_nil) (pss_one (ps_if (pt_cmpR (kNE K rfl hr.units) (pe_ix (kIX K rfl) (pv 4) pe_int (fun _ _ => rfl)) (pe_strM [108, 101, 97, 118, 101] rfl) (nomark _)) (pss_one (ps_set (i := 3) sc_law_changed.nd rfl (Or.inl rfl) (pe_op (kADD K rfl) (pv 3) (pe_ix (kIX K rfl) (pv 4) (pe_un un_neg pe_int) (fun _ _ => rfl))))) pss_nil)))) (pss_one (ps_ret (pe_ifExp (pt_cmpR (kEQ K rfl hr.units) (pv 2) (pe_strM [] rfl) (nomark _)) (pv 3) pe_non)))))), ?_⟩
  rintro ⟨row, ss⟩ ⟨h1, h2⟩ B
  dsimp only [argCh] at *
  have h1 : row.length ≤ 1000 := h1
  have h2 : ss.length ≤ 30000 := h2
  refine ds_seq' ?_
  walk_at "gs"
  refine ds_seq' ?_
  walk_at "gs"
  refine ds_mid' (fun G => ∃ (p : List Nat × List Nat) (s4 : Sl), stN row ss ss.length = some p ∧ G = [.d (zD row), .d (.tuple (ss.map encT)), .d (zD p.1), .d (zD p.2), s4]) ?_ ?_
  · refine ds_forE' (ch := [4]) ?_
    refine di_anyT (di_tup ?_)
    walk_at "gs"
    refine ⟨fun i G => ∃ (p : List Nat × List Nat) (s4 : Sl), stN row ss i = some p ∧ G = [.d (zD row), .d (.tuple (ss.map encT)), .d (zD p.1), .d (zD p.2), s4], ⟨(row, []), .un, rfl, rfl⟩, fun i G2 d hd ⟨p, s4, hp, hG⟩ => ?_, fun G2 ⟨p, s4, hp, hG⟩ => ?_⟩
    · subst hG
      rw [List.getElem?_map] at hd
      obtain ⟨e, he, rfl⟩ := Option.map_eq_some_iff.mp hd
      have hil := (List.getElem?_eq_some_iff.mp he).1
      have hpl := stN_len hp
      have hs : stN row ss (i + 1) = st1 p e := by
        show (stN row ss i).bind _ = _
        rw [hp]
        show (ss[i]?).bind _ = _
        rw [he]
        rfl
      refine dg_name ?_
      cases e with
      | put q =>
        dsimp only [encT]
        refine ds_seq' ?_
        walk_at "gs"
        refine rw_neg ?_
        walk_at "gs"
        refine rw_addZ (by simp; omega) ?_
        walk_at "gs"
        exact ⟨(p.1, p.2 ++ [q]), _, hs, rfl⟩
      | keep q =>
        dsimp only [encT]
        refine ds_seq' ?_
        walk_at "gs"
        refine ds_seq' ?_
        walk_at "gs"
        refine rs_to (n := 1) (by omega) ?_
        walk_at "gs"
        refine ite_k (fun c => ?_) (fun c => ?_)
        · have c : p.1.take 1 ≠ [q] := by simpa using c
          walk_at "gs"
          rw [chg_none (by omega : i + 1 ≤ ss.length) (by rw [hs]; simp only [st1]; rw [if_neg c])]
          rfl
        · have c : p.1.take 1 = [q] := by simpa using c
          walk_at "gs"
          refine rs_from (n := 1) (by omega) ?_
          walk_at "gs"
          refine rw_neg ?_
          walk_at "gs"
          refine rw_addZ (by simp; omega) ?_
          walk_at "gs"
          exact ⟨(p.1.drop 1, p.2 ++ [q]), _, by rw [hs]; simp only [st1]; rw [if_pos c], rfl⟩
      | turn q q2 =>
        dsimp only [encT]
        refine ds_seq' ?_
        walk_at "gs"
        refine ds_seq' ?_
        walk_at "gs"
        refine rs_to (n := 1) (by omega) ?_
        walk_at "gs"
        refine ite_k (fun c => ?_) (fun c => ?_)
        · have c : p.1.take 1 ≠ [q] := by simpa using c
          walk_at "gs"
          rw [chg_none (by omega : i + 1 ≤ ss.length) (by rw [hs]; simp only [st1]; rw [if_neg c])]
          rfl
        · have c : p.1.take 1 = [q] := by simpa using c
          walk_at "gs"
          refine rs_from (n := 1) (by omega) ?_
          walk_at "gs"
          refine rw_neg ?_
          walk_at "gs"
          refine rw_addZ (by simp; omega) ?_
          walk_at "gs"
          exact ⟨(p.1.drop 1, p.2 ++ [q2]), _, by rw [hs]; simp only [st1]; rw [if_pos c], rfl⟩
      | leave q =>
        dsimp only [encT]
        refine ds_seq' ?_
        walk_at "gs"
        refine ds_seq' ?_
        walk_at "gs"
        refine rs_to (n := 1) (by omega) ?_
        walk_at "gs"
        refine ite_k (fun c => ?_) (fun c => ?_)
        · have c : p.1.take 1 ≠ [q] := by simpa using c
          walk_at "gs"
          rw [chg_none (by omega : i + 1 ≤ ss.length) (by rw [hs]; simp only [st1]; rw [if_neg c])]
          rfl
        · have c : p.1.take 1 = [q] := by simpa using c
          walk_at "gs"
          refine rs_from (n := 1) (by omega) ?_
          walk_at "gs"
          exact ⟨(p.1.drop 1, p.2), _, by rw [hs]; simp only [st1]; rw [if_pos c], rfl⟩
    · subst hG
      rw [List.length_map] at hp
      exact ⟨p, s4, hp, rfl⟩
  · rintro G1 ⟨p, s4, hp, rfl⟩
    walk_at "gs"
    refine ite_k (fun c => ?_) (fun c => ?_)
    · walk_at "gs"
      unfold chg
      rw [hp]
      show _ = Rs.p (.d (optZ (if p.1 = [] then some p.2 else none)))
      rw [if_pos (by simpa using c)]
      rfl
    · walk_at "gs"
      unfold chg
      rw [hp]
      show _ = Rs.p (.d (optZ (if p.1 = [] then some p.2 else none)))
      rw [if_neg (by simpa using c)]
      rfl
end
end K62
namespace K62
open PySem PySem.Spec PyProof.Rows L2 DL
local macro_rules | `(tactic| walk_at "st") => `(tactic| with_reducible first
  | refine pw_p ?_ | refine pw_o ?_ | refine dw_op ?_ | refine dw_un ?_ | refine dw_int ?_ | refine dw_str ?_ | refine dw_bl ?_ | refine dw_non ?_ | refine dw_ty ?_ | refine da_nil' ?_ | refine da_cons' ?_ | refine dw_sortSetT ?_ | refine dw_CB ?_ | refine dw_BM ?_ | refine dw_BM0 ?_
  | refine dw_tup ?_ | refine dw_lst ?_ | refine dw_notV ?_ | refine dw_and ?_ | refine dw_or ?_ | refine dw_if ?_ | refine dw_chain ?_ | refine dw_sl3 ?_ | refine dw_revT ?_ | refine dw_tupRg1 ?_ | refine dw_lstRg1 ?_ | refine dw_callI ?_ | refine dw_callJ ?_
  | refine dt_test ?_ | refine dt_B ?_ | refine dt_and ?_ | refine dt_or ?_ | refine dt_not ?_ | refine dt_yes ?_ | refine dt_truth ?_
  | refine ds_ret ?_ | refine ds_retN ?_ | refine ds_next ?_ | refine ds_break ?_ | refine ds_cont ?_ | refine ds_drop ?_ | refine ds_if ?_ | refine ds_set ?_
  | refine nx_nxt ?_ | refine rt_nxt ?_ | refine bk_nxt ?_ | refine ct_nxt ?_ | refine nx_lp ?_ | refine rt_lp ?_ | refine bk_lp ?_ | refine ct_lp ?_ | refine asn_d ?_ | refine asn_fr ?_ | refine rt_E0 ?_ | refine rt_E0o ?_ | refine nx_E0 ?_
  | refine dw_newK ?_ | refine dw_dInK ?_ | refine dw_dNotInK ?_ | refine dw_dGetK ?_ | refine ds_dPutK ?_ | refine dw_callH ?_
  | refine tr_b ?_ | refine tr_i ?_ | refine tr_n ?_ | refine tr_T ?_ | refine tr_L ?_
  | refine do_none ?_ | refine do_some ?_ | refine ite_t ?_ | refine ite_f ?_
  | refine rw_addI ?_ | refine rw_sub ?_ | refine rw_cmp ?_ | refine rw_eqI ?_ | refine rw_neI ?_ | refine rw_eqZ ?_ | refine rw_neZ ?_ | refine rw_eqS ?_ | refine rw_neS ?_ | refine rw_eqB ?_ | refine rw_neB ?_ | refine isN_d ?_ | refine notN_d ?_ | refine rw_isB ?_ | refine rw_notB ?_
  | refine rn_intI ?_ | refine rn_intB ?_ | refine rn_max ?_ | refine rn_min ?_ | refine rn_lenT ?_ | refine rn_lenD ?_ | refine rm_sw ?_ | refine isi_int ?_ | refine isi_bool ?_ | refine isi_str ?_ | refine isi_tuple ?_ | refine isi_list ?_ | refine rn_tupT ?_ | refine rn_listT ?_
  | refine ⟨_, rfl, ?_⟩
  | fail)
local macro_rules | `(tactic| walk_at "va") => `(tactic| first
  | ((with_reducible apply dw_var); rfl) | ((with_reducible apply dw_sl); rfl) | ((with_reducible apply dw_slK); rfl)
  | ((with_reducible apply rw_ixL); rfl; rfl) | ((with_reducible apply rw_ixT); rfl)
  | ((with_reducible apply ite_T); rfl) | ((with_reducible apply ite_F); rfl) | ((with_reducible apply tr_o); rfl)
  | refine ⟨_, rfl, szl (Nat.le_of_ble_eq_true rfl), ?_⟩
  | (with_reducible refine rw_mod (by omega) ?_)
  | (with_reducible refine rw_fdiv (by unfold CDiv; omega) ?_)
  | (with_reducible refine rw_mul (by unfold CMul; omega) ?_)
  | refine ⟨szl (Nat.le_of_ble_eq_true rfl), ?_⟩
  | refine ⟨⟨rfl, _, _, rfl⟩, ?_⟩
  | refine ⟨rfl, ?_⟩
  | rfl
  | fail)
local macro_rules | `(tactic| walk_at "go") => `(tactic| repeat' (first | walk_at "st" | (with_reducible refine ds_seq' ?_) | walk_at "va" | fail))
local macro_rules | `(tactic| walk_at "gs") => `(tactic| repeat' (first | walk_at "st" | walk_at "va" | fail))
section
variable {P : Program} {w : World} {K : PySem.W.Frag} {mg : Str → Option Value} {base : Heap} {a : Ad}
theorem ok_changed (T : Tx K mg a) : FnOk P w K mg base CX0 1 a.f5 a.d5 ["row", "steps"] (spCh K) := by
  refine fnI T.F_changed sc_changed (fun x => ⟨rfl, by decide⟩) fun cdv A outer s H E hr => ⟨_, (pss_cons (ps_set (i := 2) sc_changed.nd rfl (Or.inl rfl) pe_int) (pss_cons (ps_set (i := 3) sc_changed.nd rfl (Or.inl rfl) (pe_strM [] rfl)) (pss_cons (ps_for PassesOwn.never rfl (kANY K rfl (pv 1)) (pg_name (i := 4) sc_changed.nd rfl (Or.inl rfl)) (pss_cons (ps_if (pt_cmpR (kNE K rfl hr.units) (pe_ix (kIX K rfl) (pv 4) pe_int (fun _ _ => rfl)) (pe_strM [112, 117, 116] rfl) (nomark _)) (pss_cons (ps_if (PW.pt (pw_or (pt_cmpR (kEQ K rfl hr.units) (pv 2) (pe_callB (kLEN K rfl) (by rfl) T.z_len (by decide +kernel) (pa_cons (pv 0) pa_nil)) (nomark _)) (pw_or1 (pt_cmpR (kNE K rfl hr.units) (pe_ix (kIX K rfl) (pv 4) pe_int (fun _ _ => rfl)) (pe_ix (kIX K rfl) (pv 0) (pv 2) (fun _ _ => rfl)) (nomark _))))) (pss_one (ps_ret pe_non)) pss_nil) (pss_one (ps_aug (i := 2) sc_changed.nd rfl (Or.inl rfl) pe_int ip_add))) pss_nil) (pss_one (ps_if (pt_cmpR (kNE K rfl hr.units) (pe_ix (kIX K rfl) (pv 4) pe_int (fun _ _ => rfl)) (pe_strM [108, 101, 97, 118, 101] rfl) (nomark _)) (pss_one (ps_aug (i := 3) sc_changed.nd rfl (Or.inl rfl) (pe_ix (kIX K rfl) (pv 4) (pe_un un_neg pe_int) (fun _ _ => rfl)) ip_addS)) pss_nil)))) (pss_one (ps_ret (pe_ifExp (pt_cmpR (kEQ K rfl hr.units) (pv 2) (pe_callB (kLEN K rfl) (by rfl) T.z_len (by decide +kernel) (pa_cons (pv 0) pa_nil)) (nomark _)) (pv 3) pe_non)))))), ?_⟩
  rintro ⟨row, ss⟩ ⟨h1, h2⟩ B
  dsimp only [argCh] at *
  have h1 : row.length ≤ 1000 := h1
  have h2 : ss.length ≤ 30000 := h2
  refine ds_seq' ?_
  walk_at "gs"
  refine ds_seq' ?_
  walk_at "gs"
  refine ds_mid' (fun G => ∃ (n : Nat) (md : List Nat) (s4 : Sl), n ≤ row.length ∧ stN row ss ss.length = some (row.drop n, md) ∧ G = [.d (zD row), .d (.tuple (ss.map encT)), .d (nD n), .d (zD md), s4]) ?_ ?_
  · refine ds_forE' (ch := [4]) ?_
    refine di_anyT (di_tup ?_)
    walk_at "gs"
    refine ⟨fun i G => ∃ (n : Nat) (md : List Nat) (s4 : Sl), n ≤ row.length ∧ stN row ss i = some (row.drop n, md) ∧ G = [.d (zD row), .d (.tuple (ss.map encT)), .d (nD n), .d (zD md), s4], ⟨0, [], .un, Nat.zero_le _, rfl, rfl⟩, fun i G2 d hd ⟨n, md, s4, hn, hp, hG⟩ => ?_, fun G2 ⟨n, md, s4, hn, hp, hG⟩ => ?_⟩
    · subst hG
      rw [List.getElem?_map] at hd
      obtain ⟨e, he, rfl⟩ := Option.map_eq_some_iff.mp hd
      have hil := (List.getElem?_eq_some_iff.mp he).1
      have hpl : md.length ≤ i := (stN_len hp).2
      have hs : stN row ss (i + 1) = st1 (row.drop n, md) e := by
        show (stN row ss i).bind _ = _
        rw [hp]
        show (ss[i]?).bind _ = _
        rw [he]
        rfl
      refine dg_name ?_
      cases e with
      | put q =>
        dsimp only [encT]
        refine ds_seq' ?_
        walk_at "gs"
        refine ds_augS rfl ?_
        walk_at "gs"
        refine rw_neg ?_
        walk_at "gs"
        refine ⟨by simp; omega, ?_⟩
        walk_at "gs"
        exact ⟨n, md ++ [q], .d (.tuple [zD putL, zD [q]]), hn, hs, rfl⟩
      | keep q =>
        dsimp only [encT]
        refine ds_seq' ?_
        walk_at "gs"
        refine ds_seq' ?_
        walk_at "gs"
        refine rn_lenZ (by omega) ?_
        walk_at "gs"
        refine ite_k (fun c => ?_) (fun c => ?_)
        · have c : n = row.length := by
            have := of_decide_eq_true c
            omega
          walk_at "gs"
          rw [chg_none (by omega : i + 1 ≤ ss.length) (by rw [hs]; simp only [st1]; rw [if_neg (by rw [c]; simp)])]
          rfl
        · have c : n < row.length := by
            have := of_decide_eq_false c
            omega
          have hr' : row[n]? = some row[n] := List.getElem?_eq_getElem c
          have htk : (row.drop n).take 1 = [row[n]] := by
            rw [List.drop_eq_getElem_cons c]
            rfl
          walk_at "gs"
          refine rw_ixS (szl (by omega)) (atn hr') ?_
          walk_at "gs"
          refine ite_k (fun c2 => ?_) (fun c2 => ?_)
          · have c2 : q ≠ row[n] := by simpa using c2
            walk_at "gs"
            rw [chg_none (by omega : i + 1 ≤ ss.length) (by rw [hs]; simp only [st1]; rw [htk, if_neg (by simp [Ne.symm c2])])]
            rfl
          · have c2 : q = row[n] := by simpa using c2
            walk_at "gs"
            refine ds_augI rfl ?_
            walk_at "gs"
            refine ds_augS rfl ?_
            walk_at "gs"
            refine rw_neg ?_
            walk_at "gs"
            refine ⟨by simp; omega, ?_⟩
            walk_at "gs"
            exact ⟨n + 1, md ++ [q], .d (.tuple [zD keepL, zD [q]]), by omega, (by rw [hs]; simp only [st1]; rw [htk, if_pos (by rw [c2]), List.drop_drop]), rfl⟩
      | turn q q2 =>
        dsimp only [encT]
        refine ds_seq' ?_
        walk_at "gs"
        refine ds_seq' ?_
        walk_at "gs"
        refine rn_lenZ (by omega) ?_
        walk_at "gs"
        refine ite_k (fun c => ?_) (fun c => ?_)
        · have c : n = row.length := by
            have := of_decide_eq_true c
            omega
          walk_at "gs"
          rw [chg_none (by omega : i + 1 ≤ ss.length) (by rw [hs]; simp only [st1]; rw [if_neg (by rw [c]; simp)])]
          rfl
        · have c : n < row.length := by
            have := of_decide_eq_false c
            omega
          have hr' : row[n]? = some row[n] := List.getElem?_eq_getElem c
          have htk : (row.drop n).take 1 = [row[n]] := by
            rw [List.drop_eq_getElem_cons c]
            rfl
          walk_at "gs"
          refine rw_ixS (szl (by omega)) (atn hr') ?_
          walk_at "gs"
          refine ite_k (fun c2 => ?_) (fun c2 => ?_)
          · have c2 : q ≠ row[n] := by simpa using c2
            walk_at "gs"
            rw [chg_none (by omega : i + 1 ≤ ss.length) (by rw [hs]; simp only [st1]; rw [htk, if_neg (by simp [Ne.symm c2])])]
            rfl
          · have c2 : q = row[n] := by simpa using c2
            walk_at "gs"
            refine ds_augI rfl ?_
            walk_at "gs"
            refine ds_augS rfl ?_
            walk_at "gs"
            refine rw_neg ?_
            walk_at "gs"
            refine ⟨by simp; omega, ?_⟩
            walk_at "gs"
            exact ⟨n + 1, md ++ [q2], .d (.tuple [zD turnL, zD [q], zD [q2]]), by omega, (by rw [hs]; simp only [st1]; rw [htk, if_pos (by rw [c2]), List.drop_drop]), rfl⟩
      | leave q =>
        dsimp only [encT]
        refine ds_seq' ?_
        walk_at "gs"
        refine ds_seq' ?_
        walk_at "gs"
        refine rn_lenZ (by omega) ?_
        walk_at "gs"
        refine ite_k (fun c => ?_) (fun c => ?_)
        · have c : n = row.length := by
            have := of_decide_eq_true c
            omega
          walk_at "gs"
          rw [chg_none (by omega : i + 1 ≤ ss.length) (by rw [hs]; simp only [st1]; rw [if_neg (by rw [c]; simp)])]
          rfl
        · have c : n < row.length := by
            have := of_decide_eq_false c
            omega
          have hr' : row[n]? = some row[n] := List.getElem?_eq_getElem c
          have htk : (row.drop n).take 1 = [row[n]] := by
            rw [List.drop_eq_getElem_cons c]
            rfl
          walk_at "gs"
          refine rw_ixS (szl (by omega)) (atn hr') ?_
          walk_at "gs"
          refine ite_k (fun c2 => ?_) (fun c2 => ?_)
          · have c2 : q ≠ row[n] := by simpa using c2
            walk_at "gs"
            rw [chg_none (by omega : i + 1 ≤ ss.length) (by rw [hs]; simp only [st1]; rw [htk, if_neg (by simp [Ne.symm c2])])]
            rfl
          · have c2 : q = row[n] := by simpa using c2
            walk_at "gs"
            refine ds_augI rfl ?_
            walk_at "gs"
            exact ⟨n + 1, md, .d (.tuple [zD leaveL, zD [q]]), by omega, (by rw [hs]; simp only [st1]; rw [htk, if_pos (by rw [c2]), List.drop_drop]), rfl⟩
    · subst hG
      rw [List.length_map] at hp
      exact ⟨n, md, s4, hn, hp, rfl⟩
  · rintro G1 ⟨n, md, s4, hn, hp, rfl⟩
    walk_at "gs"
    refine rn_lenZ (by omega) ?_
    walk_at "gs"
    refine ite_k (fun c => ?_) (fun c => ?_)
    · have c : n = row.length := by
        have := of_decide_eq_true c
        omega
      walk_at "gs"
      unfold chg
      rw [hp]
      show _ = Rs.p (.d (optZ (if row.drop n = [] then some md else none)))
      rw [if_pos (by rw [c, List.drop_length])]
      rfl
    · have c : n ≠ row.length := fun e => (of_decide_eq_false c) (by rw [e])
      walk_at "gs"
      unfold chg
      rw [hp]
      show _ = Rs.p (.d (optZ (if row.drop n = [] then some md else none)))
      rw [if_neg (fun e => by
        have := congrArg List.length e
        rw [List.length_drop] at this
        simp at this
        omega)]
      rfl
end
end K62
namespace K62
open PySem PySem.Spec PyProof.Rows L2 DL
/-! shortest ways first -/
abbrev Fw := Nat × Nat × Nat
abbrev encF (f : Fw) : PyData := .tuple [nD f.1, nD f.2.1, nD f.2.2]
abbrev Wy := Nat × Nat × Ed
abbrev encW (w : Wy) : PyData := .tuple [nD w.1, nD w.2.1, nD w.2.2.c, nD w.2.2.p, nD w.2.2.l]
def waysR (m : Mach) (z row : List Nat) (co : Co) (pl n : Nat) : List Wy := (List.range n).flatMap fun ln => (eds m z row co pl ln).map fun e => (pl, ln, e)
def waysN (m : Mach) (z row : List Nat) (co : Co) (n : Nat) : List Wy := (List.range n).flatMap fun pl => waysR m z row co pl m.length
theorem waysR_succ (m : Mach) (z row : List Nat) (co : Co) (pl n : Nat) : waysR m z row co pl (n + 1) = waysR m z row co pl n ++ (eds m z row co pl n).map fun e => (pl, n, e) := by
  unfold waysR
  rw [List.range_succ, List.flatMap_append]
  simp
theorem waysN_succ (m : Mach) (z row : List Nat) (co : Co) (n : Nat) : waysN m z row co (n + 1) = waysN m z row co n ++ waysR m z row co n m.length := by
  unfold waysN
  rw [List.range_succ, List.flatMap_append]
  simp
theorem ways_mem {m : Mach} {z row : List Nat} {co : Co} {n : Nat} {w : Wy} : w ∈ waysN m z row co n ↔ w.1 < n ∧ w.2.1 < m.length ∧ w.2.2 ∈ eds m z row co w.1 w.2.1 := by
  unfold waysN waysR
  simp only [List.mem_flatMap, List.mem_range, List.mem_map]
  constructor
  · rintro ⟨pl, h1, ln, h2, e, he, rfl⟩
    exact ⟨h1, h2, he⟩
  · rintro ⟨h1, h2, h3⟩
    exact ⟨w.1, h1, w.2.1, h2, w.2.2, h3, rfl⟩
theorem eds_len {m : Mach} {z row : List Nat} {co : Co} (O : Ok5 m z row) (pl ln : Nat) : (eds m z row co pl ln).length ≤ 10 := by
  unfold eds
  have h1 := front_len m z row co pl ln
  have h2 : (putsE m z co pl ln z.length).length = z.length := by simp [putsE]
  have := O.zl
  rw [List.length_append]
  omega
theorem waysR_len {m : Mach} {z row : List Nat} {co : Co} (O : Ok5 m z row) (pl n : Nat) : (waysR m z row co pl n).length ≤ n * 10 := by
  unfold waysR
  rw [List.length_flatMap]
  have := sum_le (fun ln => ((eds m z row co pl ln).map fun e => ((pl, ln, e) : Wy)).length) 10 (l := List.range n) fun ln _ => by
    rw [List.length_map]
    exact eds_len O pl ln
  rw [List.length_range] at this
  exact this
theorem waysN_len {m : Mach} {z row : List Nat} {co : Co} (O : Ok5 m z row) (n : Nat) : (waysN m z row co n).length ≤ n * 110 := by
  unfold waysN
  rw [List.length_flatMap]
  have := sum_le (fun pl => (waysR m z row co pl m.length).length) 110 (l := List.range n) fun pl _ => by
    have := waysR_len (co := co) O pl m.length
    have := O.m11
    omega
  rw [List.length_range] at this
  exact this
structure Dj (m : Mach) (z row : List Nat) (co : Co) (M : Mat) (fr : List Fw) : Prop where
  dim : Dim M (row.length + 1) m.length
  frR : ∀ f ∈ fr, f.2.1 ≤ row.length ∧ f.2.2 < m.length ∧ Rch m z row co f.2.1 f.2.2 f.1
  sound : ∀ p l c, p ≤ row.length → l < m.length → at2 M p l = some c → Rch m z row co p l c
  fin : ∀ l, l < m.length → pas m l = true → at2 M row.length l = some 0 ∨ (0, row.length, l) ∈ fr
  edge : ∀ p l e c, p ≤ row.length → l < m.length → e ∈ eds m z row co p l → at2 M e.p e.l = some c → (∃ c', at2 M p l = some c' ∧ c' ≤ e.c + c) ∨ (e.c + c, p, l) ∈ fr
  mono : ∀ p l c f, p ≤ row.length → l < m.length → at2 M p l = some c → f ∈ fr → c ≤ f.1
theorem Dj.done {m : Mach} {z row : List Nat} {co : Co} {M : Mat} (D : Dj m z row co M []) : Fixed m z row co (at2 M) 0 := by
  refine ⟨fun p l c _ h2 h3 h => D.sound p l c h2 h3 h, fun l h1 h2 => ?_, fun p l e c _ h2 h3 he h => ?_⟩
  · rcases D.fin l h1 h2 with h | h
    · exact h
    · cases h
  · rcases D.edge p l e c h2 h3 he h with h | h
    · exact h
    · cases h
def fr0 (m : Mach) (row : List Nat) : List Fw := ((List.range m.length).filter fun l => pas m l).map fun l => (0, row.length, l)
def nonM (m : Mach) (n : Nat) : Mat := (List.range n).map fun _ => (List.range m.length).map fun _ => none
theorem nonM_at (m : Mach) (n p l : Nat) : at2 (nonM m n) p l = none := by
  unfold at2 nonM
  rw [List.getElem?_map]
  cases (List.range n)[p]? with
  | none => rfl
  | some x =>
    show (((List.range m.length).map fun _ => (none : Option Nat))[l]?).join = none
    rw [List.getElem?_map]
    cases (List.range m.length)[l]? <;> rfl
theorem Dj.start (m : Mach) (z row : List Nat) (co : Co) : Dj m z row co (nonM m (row.length + 1)) (fr0 m row) := by
  refine ⟨⟨by simp [nonM], fun r hr => ?_⟩, fun f hf => ?_, fun p l c _ _ h => ?_, fun l h1 h2 => .inr ?_, fun p l e c _ _ _ h => ?_, fun p l c f _ _ h => ?_⟩
  · unfold nonM at hr
    obtain ⟨_, _, rfl⟩ := List.mem_map.mp hr
    simp
  · unfold fr0 at hf
    obtain ⟨l, hl, rfl⟩ := List.mem_map.mp hf
    obtain ⟨h1, h2⟩ := List.mem_filter.mp hl
    exact ⟨Nat.le_refl _, List.mem_range.mp h1, .fin h2⟩
  · rw [nonM_at] at h
    cases h
  · exact List.mem_map.mpr ⟨l, List.mem_filter.mpr ⟨List.mem_range.mpr h1, h2⟩, rfl⟩
  · rw [nonM_at] at h
    cases h
  · rw [nonM_at] at h
    cases h
theorem fil_mem {fr : List Fw} {f0 f : Fw} : f ∈ (fr.filter fun f => decide (f ≠ f0)) ↔ f ∈ fr ∧ f ≠ f0 := by
  rw [List.mem_filter]
  simp
/-- the least one's place and line are known -/
theorem Dj.old {m : Mach} {z row : List Nat} {co : Co} {M : Mat} {fr : List Fw} {f0 : Fw} {c0 : Nat} (D : Dj m z row co M fr) (h0 : f0 ∈ fr) (hk : at2 M f0.2.1 f0.2.2 = some c0) : Dj m z row co M (fr.filter fun f => decide (f ≠ f0)) := by
  obtain ⟨a1, a2, _⟩ := D.frR f0 h0
  have hc := D.mono _ _ _ _ a1 a2 hk h0
  refine ⟨D.dim, fun f hf => D.frR f (fil_mem.mp hf).1, D.sound, fun l h1 h2 => ?_, fun p l e c h1 h2 he h => ?_, fun p l c f h1 h2 h hf => D.mono p l c f h1 h2 h (fil_mem.mp hf).1⟩
  · rcases D.fin l h1 h2 with h | h
    · exact .inl h
    · by_cases e : ((0, row.length, l) : Fw) = f0
      · subst e
        have hc : c0 ≤ 0 := hc
        have : c0 = 0 := by omega
        subst this
        exact .inl hk
      · exact .inr (fil_mem.mpr ⟨h, e⟩)
  · rcases D.edge p l e c h1 h2 he h with h | h
    · exact .inl h
    · by_cases q : ((e.c + c, p, l) : Fw) = f0
      · subst q
        exact .inl ⟨c0, hk, hc⟩
      · exact .inr (fil_mem.mpr ⟨h, q⟩)
def moreF (m : Mach) (z row : List Nat) (co : Co) (M : Mat) (f0 : Fw) : List Fw := ((waysN m z row co (row.length + 1)).filter fun w => (decide (w.2.2.p = f0.2.1 ∧ w.2.2.l = f0.2.2) && (at2 M w.1 w.2.1).isNone)).map fun w => (f0.1 + w.2.2.c, w.1, w.2.1)
theorem moreF_mem {m : Mach} {z row : List Nat} {co : Co} {M : Mat} {f0 f : Fw} (h : f ∈ moreF m z row co M f0) : ∃ e, f.2.1 ≤ row.length ∧ f.2.2 < m.length ∧ e ∈ eds m z row co f.2.1 f.2.2 ∧ e.p = f0.2.1 ∧ e.l = f0.2.2 ∧ f.1 = f0.1 + e.c := by
  unfold moreF at h
  obtain ⟨w, hw, rfl⟩ := List.mem_map.mp h
  obtain ⟨h1, h2⟩ := List.mem_filter.mp hw
  obtain ⟨a1, a2, a3⟩ := ways_mem.mp h1
  rw [Bool.and_eq_true] at h2
  obtain ⟨b1, b2⟩ := of_decide_eq_true h2.1
  exact ⟨w.2.2, Nat.le_of_lt_succ a1, a2, a3, b1, b2, rfl⟩
/-- it is not: it is known now -/
theorem Dj.new {m : Mach} {z row : List Nat} {co : Co} {M : Mat} {fr : List Fw} {f0 : Fw} (O : Ok5 m z row) (D : Dj m z row co M fr) (h0 : f0 ∈ fr) (hm : ∀ f ∈ fr, f0.1 ≤ f.1) (hk : at2 M f0.2.1 f0.2.2 = none) :
    Dj m z row co (set2 M f0.2.1 f0.2.2 (some f0.1)) ((fr.filter fun f => decide (f ≠ f0)) ++ moreF m z row co (set2 M f0.2.1 f0.2.2 (some f0.1)) f0) := by
  obtain ⟨a1, a2, a3⟩ := D.frR f0 h0
  have a1' : f0.2.1 < row.length + 1 := Nat.lt_succ_of_le a1
  have hat : ∀ p l, at2 (set2 M f0.2.1 f0.2.2 (some f0.1)) p l = if p = f0.2.1 ∧ l = f0.2.2 then some f0.1 else at2 M p l := fun p l => at2_set D.dim a1' a2
  have old : ∀ {p l c}, at2 M p l = some c → at2 (set2 M f0.2.1 f0.2.2 (some f0.1)) p l = some c := fun {p l c} h => by
    rw [hat, if_neg]
    · exact h
    · rintro ⟨rfl, rfl⟩
      rw [hk] at h
      cases h
  refine ⟨D.dim.set a1', fun f hf => ?_, fun p l c h1 h2 h => ?_, fun l h1 h2 => ?_, fun p l e c h1 h2 he h => ?_, fun p l c f h1 h2 h hf => ?_⟩
  · rcases List.mem_append.mp hf with hf | hf
    · exact D.frR f (fil_mem.mp hf).1
    · obtain ⟨e, b1, b2, b3, b4, b5, b6⟩ := moreF_mem hf
      refine ⟨b1, b2, ?_⟩
      rw [b6, Nat.add_comm]
      exact .step b3 (by rw [b4, b5]; exact a3)
  · rw [hat] at h
    split at h
    · rename_i q
      cases h
      rw [q.1, q.2]
      exact a3
    · exact D.sound p l c h1 h2 h
  · rcases D.fin l h1 h2 with h | h
    · exact .inl (old h)
    · by_cases e : ((0, row.length, l) : Fw) = f0
      · subst e
        left
        rw [hat, if_pos ⟨rfl, rfl⟩]
      · exact .inr (List.mem_append_left _ (fil_mem.mpr ⟨h, e⟩))
  · have here : ∀ {c2}, f0.1 ≤ c2 → p = f0.2.1 ∧ l = f0.2.2 → ∃ c', at2 (set2 M f0.2.1 f0.2.2 (some f0.1)) p l = some c' ∧ c' ≤ c2 := fun {c2} hc q => ⟨f0.1, by rw [hat, if_pos q], hc⟩
    rw [hat] at h
    split at h
    · rename_i q
      cases h
      cases hn : at2 (set2 M f0.2.1 f0.2.2 (some f0.1)) p l with
      | none =>
        right
        refine List.mem_append_right _ (List.mem_map.mpr ⟨(p, l, e), List.mem_filter.mpr ⟨ways_mem.mpr ⟨Nat.lt_succ_of_le h1, h2, he⟩, ?_⟩, ?_⟩)
        · show (decide (e.p = f0.2.1 ∧ e.l = f0.2.2) && (at2 _ p l).isNone) = true
          rw [hn, decide_eq_true q]
          rfl
        · show (f0.1 + e.c, p, l) = (e.c + f0.1, p, l)
          rw [Nat.add_comm]
      | some c2 =>
        left
        refine ⟨c2, rfl, ?_⟩
        rw [hat] at hn
        split at hn
        · cases hn
          omega
        · have := D.mono p l c2 f0 h1 h2 hn h0
          omega
    · rcases D.edge p l e c h1 h2 he h with ⟨c', g1, g2⟩ | g
      · exact .inl ⟨c', old g1, g2⟩
      · by_cases q : ((e.c + c, p, l) : Fw) = f0
        · subst q
          exact .inl (here (Nat.le_refl _) ⟨rfl, rfl⟩)
        · exact .inr (List.mem_append_left _ (fil_mem.mpr ⟨g, q⟩))
  · have hf0 : f0.1 ≤ f.1 := by
      rcases List.mem_append.mp hf with hf | hf
      · exact hm f (fil_mem.mp hf).1
      · obtain ⟨e, _, _, _, _, _, b6⟩ := moreF_mem hf
        omega
    rw [hat] at h
    split at h
    · cases h
      exact hf0
    · exact Nat.le_trans (D.mono p l c f0 h1 h2 h h0) hf0
/-! measure -/
def wz : Option Nat → Nat
  | some _ => 0
  | none => 3000
theorem fil_lt {fr : List Fw} {f0 : Fw} (h : f0 ∈ fr) : (fr.filter fun f => decide (f ≠ f0)).length + 1 ≤ fr.length := by
  induction fr with
  | nil => cases h
  | cons a l ih =>
    rw [List.filter_cons]
    by_cases e : a = f0
    · subst e
      have := List.length_filter_le (fun f => decide (f ≠ a)) l
      rw [if_neg (by simp)]
      simp only [List.length_cons]
      omega
    · rcases List.mem_cons.mp h with h | h
      · exact absurd h.symm e
      · have := ih h
        rw [if_pos (by simp [e])]
        simp only [List.length_cons]
        omega
theorem more_len {m : Mach} {z row : List Nat} {co : Co} {M : Mat} {f0 : Fw} (O : Ok5 m z row) : (moreF m z row co M f0).length ≤ 2310 := by
  unfold moreF
  rw [List.length_map]
  have h1 := List.length_filter_le (fun w => (decide (w.2.2.p = f0.2.1 ∧ w.2.2.l = f0.2.2) && (at2 M w.1 w.2.1).isNone)) (waysN m z row co (row.length + 1))
  have h2 := waysN_len (co := co) O (row.length + 1)
  have := O.rl
  omega
theorem nonM_sum {m : Mach} {row z : List Nat} (O : Ok5 m z row) : sumM wz (nonM m (row.length + 1)) ≤ 693000 := by
  have h := sumM_le wz 3000 (fun x => by cases x <;> simp [wz]) (Dj.start m z row ⟨0, 0, 0⟩).dim
  have h1 := O.rl
  have h2 := O.m11
  have : (row.length + 1) * (m.length * 3000) ≤ 21 * 33000 := Nat.mul_le_mul (by omega) (by omega)
  omega
theorem nonM_cnt (m : Mach) (n : Nat) : cnt (nonM m n) = 0 := by
  unfold cnt sumM nonM
  rw [List.map_map]
  have : ∀ l : List Nat, (l.map ((fun r : List (Option Nat) => (r.map w1).sum) ∘ fun _ => (List.range m.length).map fun _ => none)).sum = 0 := by
    intro l
    induction l with
    | nil => rfl
    | cons a l ih =>
      rw [List.map_cons, List.sum_cons, ih]
      show (((List.range m.length).map fun _ => (none : Option Nat)).map w1).sum + 0 = 0
      rw [List.map_map]
      have : ∀ k : List Nat, (k.map (w1 ∘ fun _ => none)).sum = 0 := by
        intro k
        induction k with
        | nil => rfl
        | cons a k ih => rw [List.map_cons, List.sum_cons, ih]; rfl
      rw [this]
  exact this _
/-! the dict -/
abbrev kyF (p l : Nat) : List Key := [.inl (p : Int), .inl (l : Int)]
structure Kn (kvs : List (List Key × PyData)) (M : Mat) (n k : Nat) : Prop where
  at_ : ∀ p l, p < n → l < k → lkD kvs (kyF p l) = (at2 M p l).map nD
  len : kvs.length = cnt M
theorem kyF_inj {p l p' l' : Nat} : kyF p l = kyF p' l' ↔ p = p' ∧ l = l' := by
  constructor
  · intro h
    have h1 : (Sum.inl (p : Int) : Key) = .inl (p' : Int) := by injection h
    have h2 : (Sum.inl (l : Int) : Key) = .inl (l' : Int) := by
      injection h with _ h
      injection h
    have h1 : (p : Int) = p' := by injection h1
    have h2 : (l : Int) = l' := by injection h2
    omega
  · rintro ⟨rfl, rfl⟩
    rfl
theorem put_new {kvs : List (List Key × PyData)} {k : List Key} {d : PyData} (h : lkD kvs k = none) : putD kvs k d = kvs ++ [(k, d)] := by
  unfold putD
  rw [if_neg]
  intro q
  obtain ⟨x, hx, hk⟩ := List.any_eq_true.mp q
  unfold lkD at h
  rw [Option.map_eq_none_iff, List.find?_eq_none] at h
  exact h x hx hk
theorem lk_put {kvs : List (List Key × PyData)} {k k' : List Key} {d : PyData} (h : lkD kvs k = none) : lkD (kvs ++ [(k, d)]) k' = if k' = k then some d else lkD kvs k' := by
  unfold lkD at h ⊢
  rw [List.find?_append]
  by_cases e : k' = k
  · subst e
    rw [Option.map_eq_none_iff] at h
    rw [h, if_pos rfl]
    simp
  · rw [if_neg e]
    cases List.find? (fun kv => decide (kv.1 = k')) kvs with
    | none => simp [Ne.symm e]
    | some x => rfl
theorem Kn.put {kvs : List (List Key × PyData)} {M : Mat} {n k p l c : Nat} (Q : Kn kvs M n k) (D : Dim M n k) (hp : p < n) (hl : l < k) (h : at2 M p l = none) : Kn (putD kvs (kyF p l) (nD c)) (set2 M p l (some c)) n k := by
  have hn : lkD kvs (kyF p l) = none := by
    rw [Q.at_ p l hp hl, h]
    rfl
  rw [put_new hn]
  refine ⟨fun p' l' hp' hl' => ?_, ?_⟩
  · rw [lk_put hn, at2_set D hp hl]
    by_cases e : p' = p ∧ l' = l
    · rw [if_pos e, if_pos (kyF_inj.mpr e)]
      rfl
    · rw [if_neg e, if_neg (fun z => e (kyF_inj.mp z))]
      exact Q.at_ p' l' hp' hl'
  · rw [List.length_append, Q.len]
    have hs := sumM_set w1 (v := some c) D hp hl
    rw [h] at hs
    unfold cnt
    have e1 : w1 (some c) = 1 := rfl
    have e2 : w1 none = 0 := rfl
    rw [e1, e2] at hs
    simp only [List.length_cons, List.length_nil]
    omega
/-! what min finds -/
theorem dl_trans {a b c : PyData} (h1 : PySem.W.dataLt a b = true) (h2 : PySem.W.dataLt b c = true) : PySem.W.dataLt a c = true := (PyProof.Rows.listOrd PyProof.Rows.itemOrd).trans _ _ _ h1 h2
theorem dl_irrefl (a : PyData) : PySem.W.dataLt a a = false := (PyProof.Rows.listOrd PyProof.Rows.itemOrd).irrefl _
theorem minD_spec : ∀ (ds : List PyData) (d : PyData), PySem.W.minD d ds ∈ d :: ds ∧ ∀ x ∈ d :: ds, PySem.W.dataLt x (PySem.W.minD d ds) = false
  | [], d => ⟨List.mem_cons_self, fun x hx => by rw [List.mem_singleton.mp hx]; exact dl_irrefl d⟩
  | y :: ds, d => by
    have e : PySem.W.minD d (y :: ds) = PySem.W.minD (if PySem.W.dataLt y d then y else d) ds := rfl
    obtain ⟨h1, h2⟩ := minD_spec ds (if PySem.W.dataLt y d then y else d)
    rw [e]
    by_cases c : PySem.W.dataLt y d = true
    · rw [if_pos c] at h1 h2 ⊢
      refine ⟨List.mem_cons_of_mem _ h1, fun x hx => ?_⟩
      rcases List.mem_cons.mp hx with rfl | hx
      · have h3 := h2 y List.mem_cons_self
        cases q : PySem.W.dataLt x (PySem.W.minD y ds) with
        | false => rfl
        | true => rw [dl_trans c q] at h3; cases h3
      · exact h2 x hx
    · rw [if_neg c] at h1 h2 ⊢
      refine ⟨?_, fun x hx => ?_⟩
      · rcases List.mem_cons.mp h1 with h | h
        · rw [h]
          exact List.mem_cons_self
        · exact List.mem_cons_of_mem _ (List.mem_cons_of_mem _ h)
      · rcases List.mem_cons.mp hx with rfl | hx
        · exact h2 x List.mem_cons_self
        · rcases List.mem_cons.mp hx with rfl | hx
          · have h3 := h2 d List.mem_cons_self
            rcases List.mem_cons.mp h1 with h | h
            · rw [h]
              simpa using c
            · cases q : PySem.W.dataLt x (PySem.W.minD d ds) with
              | false => rfl
              | true =>
                have hm := h2 d List.mem_cons_self
                rcases (PyProof.Rows.listOrd PyProof.Rows.itemOrd).negTrans (PySem.W.keyToks x) (PySem.W.keyToks d) (PySem.W.keyToks (PySem.W.minD d ds)) q with z | z
                · exact absurd z c
                · rw [show PySem.W.dataLt d (PySem.W.minD d ds) = true from z] at hm
                  cases hm
          · exact h2 x (List.mem_cons_of_mem _ hx)
theorem lt_encF {f g : Fw} (h : PySem.W.dataLt (encF f) (encF g) = false) : g.1 ≤ f.1 := by
  have e : PySem.W.dataLt (encF f) (encF g) = decide ([f.1, f.2.1, f.2.2] < [g.1, g.2.1, g.2.2]) := lt_wD [f.1, f.2.1, f.2.2] [g.1, g.2.1, g.2.2]
  rw [e] at h
  have h := of_decide_eq_false h
  rw [List.cons_lt_cons_iff] at h
  omega
theorem alike_encF (f g : Fw) : PySem.W.alike (encF f) (encF g) = true := alike_wD [f.1, f.2.1, f.2.2] [g.1, g.2.1, g.2.2]
theorem shp_encF (f : Fw) : Shp 1 (encF f) := shp_wD [f.1, f.2.1, f.2.2]
theorem eqv_encF (f g : Fw) : PyData.eqv (encF f) (encF g) = decide (f = g) := by
  have e : PyData.eqv (encF f) (encF g) = (PyData.eqv (nD f.1) (nD g.1) && (PyData.eqv (nD f.2.1) (nD g.2.1) && (PyData.eqv (nD f.2.2) (nD g.2.2) && true))) := by
    simp only [PyData.eqv, PyData.eqvAll]
  rw [e, eqv_iD, eqv_iD, eqv_iD]
  by_cases h1 : f.1 = g.1
  · by_cases h2 : f.2.1 = g.2.1
    · by_cases h3 : f.2.2 = g.2.2
      · simp [h1, h2, h3, Prod.ext_iff]
      · simp [h1, h2, h3, Prod.ext_iff]
    · simp [h1, h2, Prod.ext_iff]
  · simp [h1, Prod.ext_iff]
theorem eqv_two (a b c d : Nat) : PyData.eqv (.tuple [nD a, nD b]) (.tuple [nD c, nD d]) = decide (a = c ∧ b = d) := by
  have e : PyData.eqv (.tuple [nD a, nD b]) (.tuple [nD c, nD d]) = (PyData.eqv (nD a) (nD c) && (PyData.eqv (nD b) (nD d) && true)) := by
    simp only [PyData.eqv, PyData.eqvAll]
  rw [e, eqv_iD, eqv_iD]
  by_cases h1 : a = c
  · by_cases h2 : b = d
    · simp [h1, h2]
    · simp [h1, h2]
  · simp [h1]
end K62
namespace K62
open PySem PySem.Spec PyProof.Rows L2 DL
local macro_rules | `(tactic| walk_at "st") => `(tactic| with_reducible first
  | refine pw_p ?_ | refine pw_o ?_ | refine dw_op ?_ | refine dw_un ?_ | refine dw_int ?_ | refine dw_str ?_ | refine dw_bl ?_ | refine dw_non ?_ | refine dw_ty ?_ | refine da_nil' ?_ | refine da_cons' ?_ | refine dw_sortSetT ?_ | refine dw_CB ?_ | refine dw_BM ?_ | refine dw_BM0 ?_
  | refine dw_tup ?_ | refine dw_lst ?_ | refine dw_notV ?_ | refine dw_and ?_ | refine dw_or ?_ | refine dw_if ?_ | refine dw_chain ?_ | refine dw_sl3 ?_ | refine dw_revT ?_ | refine dw_tupRg1 ?_ | refine dw_lstRg1 ?_ | refine dw_callI ?_ | refine dw_callJ ?_
  | refine dt_test ?_ | refine dt_B ?_ | refine dt_and ?_ | refine dt_or ?_ | refine dt_not ?_ | refine dt_yes ?_ | refine dt_truth ?_
  | refine ds_ret ?_ | refine ds_retN ?_ | refine ds_next ?_ | refine ds_break ?_ | refine ds_cont ?_ | refine ds_drop ?_ | refine ds_if ?_ | refine ds_set ?_
  | refine nx_nxt ?_ | refine rt_nxt ?_ | refine bk_nxt ?_ | refine ct_nxt ?_ | refine nx_lp ?_ | refine rt_lp ?_ | refine bk_lp ?_ | refine ct_lp ?_ | refine asn_d ?_ | refine asn_fr ?_ | refine rt_E0 ?_ | refine rt_E0o ?_ | refine nx_E0 ?_
  | refine dw_newT ?_ | refine dw_dIn ?_ | refine dw_dNotIn ?_ | refine dw_dGet ?_ | refine ds_dPut ?_ | refine dw_callH ?_
  | refine tr_b ?_ | refine tr_i ?_ | refine tr_n ?_ | refine tr_T ?_ | refine tr_L ?_
  | refine do_none ?_ | refine do_some ?_ | refine ite_t ?_ | refine ite_f ?_
  | refine rw_addI ?_ | refine rw_sub ?_ | refine rw_cmp ?_ | refine rw_eqI ?_ | refine rw_neI ?_ | refine rw_eqZ ?_ | refine rw_neZ ?_ | refine rw_eqS ?_ | refine rw_neS ?_ | refine rw_eqB ?_ | refine rw_neB ?_ | refine isN_d ?_ | refine notN_d ?_ | refine rw_isB ?_ | refine rw_notB ?_
  | refine rn_intI ?_ | refine rn_intB ?_ | refine rn_max ?_ | refine rn_min ?_ | refine rn_lenT ?_ | refine rn_lenD ?_ | refine rm_sw ?_ | refine isi_int ?_ | refine isi_bool ?_ | refine isi_str ?_ | refine isi_tuple ?_ | refine isi_list ?_ | refine rn_tupT ?_ | refine rn_listT ?_
  | refine ⟨_, rfl, ?_⟩
  | fail)
local macro_rules | `(tactic| walk_at "va") => `(tactic| first
  | ((with_reducible apply dw_var); rfl) | ((with_reducible apply dw_sl); rfl) | ((with_reducible apply dw_slT); rfl)
  | ((with_reducible apply rw_ixL); rfl; rfl) | ((with_reducible apply rw_ixT); rfl)
  | ((with_reducible apply ite_T); rfl) | ((with_reducible apply ite_F); rfl) | ((with_reducible apply tr_o); rfl)
  | refine ⟨_, rfl, szl (Nat.le_of_ble_eq_true rfl), ?_⟩
  | (with_reducible refine rw_mod (by omega) ?_)
  | (with_reducible refine rw_fdiv (by unfold CDiv; omega) ?_)
  | (with_reducible refine rw_mul (by unfold CMul; omega) ?_)
  | refine ⟨szl (Nat.le_of_ble_eq_true rfl), ?_⟩
  | refine ⟨⟨rfl, _, _, rfl⟩, ?_⟩
  | refine ⟨rfl, ?_⟩
  | rfl
  | fail)
local macro_rules | `(tactic| walk_at "go") => `(tactic| repeat' (first | walk_at "st" | (with_reducible refine ds_seq' ?_) | walk_at "va" | fail))
local macro_rules | `(tactic| walk_at "gs") => `(tactic| repeat' (first | walk_at "st" | walk_at "va" | fail))
section
variable {P : Program} {w : World} {K : PySem.W.Frag} {mg : Str → Option Value} {base : Heap} {a : Ad}
theorem ok_law_prices (T : Tx K mg a) (G_law_edges : FnOk P w K mg base CX0 1 a.f17 a.d17 ["machine", "signs", "row", "costs", "place", "line"] (spE K encE)) : FnOk P w K mg base CX0 2 a.f18 a.d18 ["machine", "signs", "row", "costs"] (spP K) := by
  refine fnI T.F_law_prices sc_law_prices (fun x => ⟨rfl, by decide⟩) fun cdv A outer s H E hr => ⟨_, (pss_cons (ps_set (i := 4) sc_law_prices.nd rfl (Or.inr rfl) pe_dnewT) (pss_cons (ps_setLc (i := 5) (own := [("line", 8)]) (g := gName 8) (by rfl) sc_law_prices.nd rfl rfl (sw_true rfl rfl rfl (by decide +kernel)) (pi_range1 (by rfl) T.z_range (pa_cons (pe_callB (kLEN K rfl) (by rfl) T.z_len (by decide +kernel) (pa_cons (pv 0) pa_nil)) pa_nil)) (blkOk_by (own := [("line", 8)]) (N := ["machine", "signs", "row", "costs", "known", "front", "ways", "place", "line", "step", "cost", "other", "behind", "one"]) (sc := defScope s_law_prices) (by decide +kernel)) (fun _ _ _ _ _ => (pg_name (i := 8) sc_law_prices.nd rfl (by first | exact Or.inl rfl | exact Or.inr rfl))) (fun _ _ _ _ _ => (pts_one (kTRUTH K rfl (pe_ix (kIX K rfl) (pe_ix (kIX K rfl) (pv 0) (pv 8) (fun _ _ => rfl)) pe_int (fun _ _ => rfl)) (by intro _; rfl)))) (fun _ _ _ _ _ => (pe_tup (pa_cons pe_int (pa_cons (pe_callB (kLEN K rfl) (by rfl) T.z_len (by decide +kernel) (pa_cons (pv 2) pa_nil)) (pa_cons (pv 8) pa_nil)))))) (pss_cons (ps_set (i := 6) sc_law_prices.nd rfl (Or.inl rfl) (pe_lst pa_nil)) (pss_cons (ps_for PassesOwn.never rfl (pi_range1 (by rfl) T.z_range (pa_cons (pe_op (kADD K rfl) (pe_callB (kLEN K rfl) (by rfl) T.z_len (by decide +kernel) (pa_cons (pv 2) pa_nil)) pe_int) pa_nil)) (pg_name (i := 7) sc_law_prices.nd rfl (Or.inr rfl)) (pss_one (ps_for PassesOwn.never rfl (pi_range1 (by rfl) T.z_range (pa_cons (pe_callB (kLEN K rfl) (by rfl) T.z_len (by decide +kernel) (pa_cons (pv 0) pa_nil)) pa_nil)) (pg_name (i := 8) sc_law_prices.nd rfl (Or.inr rfl)) (pss_one (ps_for PassesOwn.never rfl (kANY K rfl (pe_call G_law_edges hr (by rfl) T.m_law_edges T.k_law_edges T.b_law_edges .nil pass0 (pa_cons (pv 0) (pa_cons (pv 1) (pa_cons (pv 2) (pa_cons (pv 3) (pa_cons (pv 7) (pa_cons (pv 8) pa_nil)))))))) (kTG K rfl rfl (pgs_cons (pg_name (i := 9) sc_law_prices.nd rfl (Or.inl rfl)) (pgs_cons (pg_name (i := 10) sc_law_prices.nd rfl (Or.inr rfl)) (pgs_cons (pg_name (i := 11) sc_law_prices.nd rfl (Or.inl rfl)) (pgs_cons (pg_name (i := 12) sc_law_prices.nd rfl (Or.inl rfl)) pgs_nil))))) (pss_one (ps_expr (kBM K rfl (pe_bm PySem.F.plainAttrs_list PySem.F.slot_list_append PySem.F.type_list_append mt_append (pv 6) (pa_cons (pe_tup (pa_cons (pv 7) (pa_cons (pv 8) (pa_cons (pv 10) (pa_cons (pv 11) (pa_cons (pv 12) pa_nil)))))) pa_nil)))))))))) (pss_cons (ps_while PassesOwn.never (pt_cmpR (kNE K rfl hr.units) (pv 5) (pe_lst pa_nil) (nomark _)) (pss_cons (ps_asg (pe_callB (kMIND K rfl rfl (hu65 hr)) (by rfl) T.z_min (by decide +kernel) (pa_cons (pv 5) pa_nil)) (kTG K rfl rfl (pgs_cons (pg_name (i := 10) sc_law_prices.nd rfl (Or.inr rfl)) (pgs_cons (pg_name (i := 7) sc_law_prices.nd rfl (Or.inr rfl)) (pgs_cons (pg_name (i := 8) sc_law_prices.nd rfl (Or.inr rfl)) pgs_nil))))) (pss_cons (ps_setLc (i := 5) (own := [("one", 13)]) (g := gName 13) (by rfl) sc_law_prices.nd rfl rfl (sw_true rfl rfl rfl (by decide +kernel)) (kANY K rfl (pv 5)) (blkOk_by (own := [("one", 13)]) (N := ["machine", "signs", "row", "costs", "known", "front", "ways", "place", "line", "step", "cost", "other", "behind", "one"]) (sc := defScope s_law_prices) (by decide +kernel)) (fun _ _ _ _ _ => (pg_name (i := 13) sc_law_prices.nd rfl (by first | exact Or.inl rfl | exact Or.inr rfl))) (fun _ _ _ _ _ => (pts_one (pt_cmpR (kNE K rfl hr.units) (pv 13) (pe_tup (pa_cons (pv 10) (pa_cons (pv 7) (pa_cons (pv 8) pa_nil)))) (nomark _)))) (fun _ _ _ _ _ => (pv 13))) (pss_one (ps_if (pt_cmp (pc_dnotin (hu_of hr) (pe_tup (pa_cons (pv 7) (pa_cons (pv 8) pa_nil))) (pv 4)) rfl) (pss_cons (ps_dput (hu_of hr) (pv 4) (pe_tup (pa_cons (pv 7) (pa_cons (pv 8) pa_nil))) (pv 10) rfl) (pss_one (ps_set (i := 5) sc_law_prices.nd rfl (Or.inl rfl) (pe_op (kADD K rfl) (pv 5) (pe_lc (own := [("one", 13)]) (g := gName 13) (by rfl) sc_law_prices.nd (kANY K rfl (pv 6)) (blkOk_by (own := [("one", 13)]) (N := ["machine", "signs", "row", "costs", "known", "front", "ways", "place", "line", "step", "cost", "other", "behind", "one"]) (sc := defScope s_law_prices) (by decide +kernel)) (fun _ _ _ _ _ => (pg_name (i := 13) sc_law_prices.nd rfl (by first | exact Or.inl rfl | exact Or.inr rfl))) (fun _ _ _ _ _ => (pts_one (PW.pt (pw_and (pt_cmpR (kEQ K rfl hr.units) (pe_slice (kSLC K rfl) (pv 13) (po_some pe_int) po_none) (pe_tup (pa_cons (pv 7) (pa_cons (pv 8) pa_nil))) (nomark _)) (pw_and1 (pt_cmp (pc_dnotin (hu_of hr) (pe_slice (kSLC K rfl) (pv 13) po_none (po_some pe_int)) (pv 4)) rfl)))))) (fun _ _ _ _ _ => (pe_tup (pa_cons (pe_op (kADD K rfl) (pv 10) (pe_ix (kIX K rfl) (pv 13) pe_int (fun _ _ => rfl))) (pa_cons (pe_ix (kIX K rfl) (pv 13) pe_int (fun _ _ => rfl)) (pa_cons (pe_ix (kIX K rfl) (pv 13) pe_int (fun _ _ => rfl)) pa_nil)))))))))) pss_nil))))) (pss_one (ps_ret (pe_callTy (kTUP K rfl) (by rfl) T.z_tuple (by decide +kernel) (pa_cons (pe_lc (own := [("place", 7)]) (g := gName 7) (by rfl) sc_law_prices.nd (pi_range1 (by rfl) T.z_range (pa_cons (pe_op (kADD K rfl) (pe_callB (kLEN K rfl) (by rfl) T.z_len (by decide +kernel) (pa_cons (pv 2) pa_nil)) pe_int) pa_nil)) (blkOk_by (own := [("place", 7)]) (N := ["machine", "signs", "row", "costs", "known", "front", "ways", "place", "line", "step", "cost", "other", "behind", "one"]) (sc := defScope s_law_prices) (by decide +kernel)) (fun _ _ _ _ _ => (pg_name (i := 7) sc_law_prices.nd rfl (by first | exact Or.inl rfl | exact Or.inr rfl))) (fun _ _ _ _ _ => pts_nil) (fun _ _ _ _ _ => (pe_callTy (kTUP K rfl) (by rfl) T.z_tuple (by decide +kernel) (pa_cons (pe_lc (own := [("line", 8)]) (g := gName 8) (by rfl) sc_law_prices.nd (pi_range1 (by rfl) T.z_range (pa_cons (pe_callB (kLEN K rfl) (by rfl) T.z_len (by decide +kernel) (pa_cons (pv 0) pa_nil)) pa_nil)) (blkOk_by (own := [("line", 8)]) (N := ["machine", "signs", "row", "costs", "known", "front", "ways", "place", "line", "step", "cost", "other", "behind", "one"]) (sc := relS _ (defScope s_law_prices)) (by decide +kernel)) (fun _ _ _ _ _ => (pg_name (i := 8) sc_law_prices.nd rfl (by first | exact Or.inl rfl | exact Or.inr rfl))) (fun _ _ _ _ _ => pts_nil) (fun _ _ _ _ _ => (pe_dget1 (hu_of hr) (pv 4) (pe_tup (pa_cons (pv 7) (pa_cons (pv 8) pa_nil))) ⟨rfl, rfl, rfl, rfl⟩))) pa_nil)))) pa_nil))))))))), ?_⟩
  rintro ⟨m, z, row, co⟩ ⟨O, c1, c2, c3⟩ B
  dsimp only [argP] at *
  have hrl : row.length ≤ 20 := O.rl
  have hml : m.length ≤ 11 := O.m11
  refine ds_seq' ?_
  walk_at "gs"
  refine ds_mid' (fun G => G = [.d (encM m), .d (zD z), .d (zD row), .d (encC co), .t [], .o none ((fr0 m row).map encF), .un, .un, .un, .un, .un, .un, .un, .un]) ?_ ?_
  · walk_at "gs"
    refine dw_lcF (List.range m.length) nD (fun l => pas m l) (fun l => encF (0, row.length, l)) ?_
    refine di_rng1 ?_
    walk_at "gs"
    rw [List.length_map, rng_nD]
    refine ⟨by omega, by omega, rfl, szl (by rw [List.length_range]; omega), fun B' l hl => ?_, ?_⟩
    · have hl := List.mem_range.mp hl
      obtain ⟨x, hx⟩ : ∃ x, m[l]? = some x := ⟨_, List.getElem?_eq_getElem hl⟩
      walk_at "gs"
      refine rw_ixT (ati hx) ?_
      walk_at "gs"
      refine ⟨by unfold pas; rw [hx]; rfl, rfl, fun _ => ?_⟩
      walk_at "gs"
      refine rn_lenZ (by omega) ?_
      walk_at "gs"
    · refine asn_fr (nx_nxt ?_)
      unfold fr0
      rw [List.map_map]
      rfl
  · rintro G1 rfl
    refine ds_seq' ?_
    walk_at "gs"
    refine ds_mid' (fun G => ∃ s7 s8 s9 s10 s11 s12, G = [.d (encM m), .d (zD z), .d (zD row), .d (encC co), .t [], .o none ((fr0 m row).map encF), .o none ((waysN m z row co (row.length + 1)).map encW), s7, s8, s9, s10, s11, s12, .un]) ?_ ?_
    · refine ds_forE' (ch := [7]) ?_
      refine di_rng1 ?_
      walk_at "gs"
      refine rn_lenZ (by omega) ?_
      walk_at "gs"
      refine ⟨by omega, by omega, fun i G => ∃ s7 s8 s9 s10 s11 s12, G = [.d (encM m), .d (zD z), .d (zD row), .d (encC co), .t [], .o none ((fr0 m row).map encF), .o none ((waysN m z row co i).map encW), s7, s8, s9, s10, s11, s12, .un], ⟨.un, .un, .un, .un, .un, .un, rfl⟩, fun i G2 d hd ⟨s7, s8, s9, s10, s11, s12, hG⟩ => ?_, fun G2 ⟨s7, s8, s9, s10, s11, s12, hG⟩ => ?_⟩
      · subst hG
        obtain ⟨hi, rfl⟩ := rngD_get hd
        have hi : i < row.length + 1 := by omega
        have e0 : (0 : Int) + (i : Int) = (i : Int) := by omega
        rw [e0]
        refine dg_name ?_
        refine ds_forE' (ch := [8]) ?_
        refine di_rng1 ?_
        walk_at "gs"
        rw [List.length_map, rng_nD]
        refine ⟨by omega, by omega, fun j G => ∃ s8 s9 s10 s11 s12, G = [.d (encM m), .d (zD z), .d (zD row), .d (encC co), .t [], .o none ((fr0 m row).map encF), .o none ((waysN m z row co i ++ waysR m z row co i j).map encW), .d (nD i), s8, s9, s10, s11, s12, .un], ⟨s8, s9, s10, s11, s12, by rw [show waysR m z row co i 0 = [] from rfl, List.append_nil]; rfl⟩, fun j G2 d2 hd2 ⟨s8, s9, s10, s11, s12, hG⟩ => ?_, fun G2 ⟨s8, s9, s10, s11, s12, hG⟩ => ?_⟩
        · subst hG
          rw [List.getElem?_map] at hd2
          obtain ⟨k, hk, rfl⟩ := Option.map_eq_some_iff.mp hd2
          obtain ⟨hjk, hk⟩ := List.getElem?_eq_some_iff.mp hk
          rw [List.getElem_range] at hk
          subst hk
          rw [List.length_range] at hjk
          refine dg_name ?_
          refine ds_forE' (ch := [9, 10, 11, 12]) ?_
          refine di_anyL (di_list ?_)
          walk_at "gs"
          refine ⟨⟨m, z, row, co, i, j⟩, ⟨O, hjk⟩, rfl, ?_⟩
          rintro _ rfl
          dsimp only
          walk_at "gs"
          have l1 := waysN_len (co := co) O i
          have l2 := waysR_len (co := co) O i j
          have l3 := eds_len (co := co) O i j
          refine ⟨fun q G => ∃ s9 s10 s11 s12, G = [.d (encM m), .d (zD z), .d (zD row), .d (encC co), .t [], .o none ((fr0 m row).map encF), .o none ((waysN m z row co i ++ waysR m z row co i j ++ (((eds m z row co i j).take q).map fun e => ((i, j, e) : Wy))).map encW), .d (nD i), .d (nD j), s9, s10, s11, s12, .un], ⟨s9, s10, s11, s12, by rw [List.take_zero, List.map_nil, List.append_nil]; rfl⟩, fun q G2 d3 hd3 ⟨s9, s10, s11, s12, hG⟩ => ?_, fun G2 ⟨s9, s10, s11, s12, hG⟩ => ?_⟩
          · subst hG
            rw [List.getElem?_map] at hd3
            obtain ⟨e, he, rfl⟩ := Option.map_eq_some_iff.mp hd3
            have hq := (List.getElem?_eq_some_iff.mp he).1
            refine dg_tup rfl (dgs_cons (dg_name (dgs_cons (dg_name (dgs_cons (dg_name (dgs_cons (dg_name (dgs_nil ?_)))))))))
            walk_at "gs"
            refine rm_app (i := 6) rfl (szlt (by simp only [List.length_map, List.length_append, List.length_take]; omega)) ?_
            walk_at "gs"
            refine ⟨.d (encT e.st), .d (nD e.c), .d (nD e.p), .d (nD e.l), ?_⟩
            have e1 : ((waysN m z row co i ++ waysR m z row co i j ++ (((eds m z row co i j).take (q + 1)).map fun e => ((i, j, e) : Wy))).map encW) = ((waysN m z row co i ++ waysR m z row co i j ++ (((eds m z row co i j).take q).map fun e => ((i, j, e) : Wy))).map encW) ++ [encW (i, j, e)] := by
              rw [List.take_succ, he]
              simp only [List.map_append, List.append_assoc, Option.toList_some, List.map_cons, List.map_nil]
            rw [e1]
            rfl
          · subst hG
            rw [List.length_map, List.take_length]
            refine ⟨.d (nD j), s9, s10, s11, s12, ?_⟩
            rw [waysR_succ, ← List.append_assoc]
        · subst hG
          rw [List.length_map, List.length_range]
          refine ⟨.d (nD i), s8, s9, s10, s11, s12, ?_⟩
          rw [waysN_succ]
      · subst hG
        rw [rngD_len]
        exact ⟨s7, s8, s9, s10, s11, s12, rfl⟩
    · rintro G1 ⟨s7, s8, s9, s10, s11, s12, rfl⟩
      refine ds_freeze 6 rfl ?_
      have lw := waysN_len (co := co) O (row.length + 1)
      refine ds_mid' (fun G => ∃ (kvs : List (List Key × PyData)) (M : Mat) (s7 s8 s9 s10 s11 s12 : Sl), Kn kvs M (row.length + 1) m.length ∧ Fixed m z row co (at2 M) 0 ∧ Dim M (row.length + 1) m.length ∧ G = [.d (encM m), .d (zD z), .d (zD row), .d (encC co), .t kvs, .o none [], .d (.list ((waysN m z row co (row.length + 1)).map encW)), s7, s8, s9, s10, s11, s12, .un]) ?_ ?_
      · refine ds_while' (fun mm G => ∃ (kvs : List (List Key × PyData)) (M : Mat) (fr : List Fw) (s7 s8 s9 s10 s11 s12 : Sl), mm = sumM wz M + fr.length ∧ mm ≤ 700000 ∧ Kn kvs M (row.length + 1) m.length ∧ Dj m z row co M fr ∧ G = [.d (encM m), .d (zD z), .d (zD row), .d (encC co), .t kvs, .o none (fr.map encF), .d (.list ((waysN m z row co (row.length + 1)).map encW)), s7, s8, s9, s10, s11, s12, .un]) (sumM wz (nonM m (row.length + 1)) + (fr0 m row).length) ⟨[], nonM m (row.length + 1), fr0 m row, s7, s8, s9, s10, s11, s12, rfl, ?_, ?_, Dj.start m z row co, rfl⟩ ?_
        · have h1 := nonM_sum O
          have h2 : (fr0 m row).length ≤ m.length := by
            unfold fr0
            rw [List.length_map]
            refine Nat.le_trans (List.length_filter_le _ _) ?_
            rw [List.length_range]
            exact Nat.le_refl _
          omega
        · refine ⟨fun p l _ _ => ?_, (nonM_cnt _ _).symm⟩
          rw [nonM_at]
          rfl
        · rintro mm G1 ⟨kvs, M, fr, s7, s8, s9, s10, s11, s12, rfl, hmm, Q, D, rfl⟩
          walk_at "gs"
          refine rw_neNil rfl (fun x hx => ?_) ?_
          · obtain ⟨f, _, rfl⟩ := List.mem_map.mp hx
            exact shp_mono (shp_encF f) (by decide)
          walk_at "gs"
          refine ite_k (fun c => ?_) (fun c => ?_)
          · cases fr with
            | nil => cases c
            | cons f1 fr1 =>
              clear c
              refine ds_freeze 5 rfl ?_
              refine ds_seq' ?_
              refine ds_asg (cs := [10, 7, 8]) ?_
              walk_at "gs"
              refine rn_minD (d := encF f1) (ds := fr1.map encF) rfl ⟨fun x hx y hy => ?_, fun x hx => ?_⟩ ?_ ?_
              · obtain ⟨p, _, rfl⟩ := List.mem_map.mp (show x ∈ (f1 :: fr1).map encF from hx)
                obtain ⟨q, _, rfl⟩ := List.mem_map.mp (show y ∈ (f1 :: fr1).map encF from hy)
                exact alike_encF p q
              · obtain ⟨p, _, rfl⟩ := List.mem_map.mp (show x ∈ (f1 :: fr1).map encF from hx)
                exact fun z => nomatch z
              · have : PyData.depthAll ((f1 :: fr1).map encF) ≤ 1 := (shp_all (n := 1) fun x hx => by
                  obtain ⟨p, hp, rfl⟩ := List.mem_map.mp hx
                  exact shp_encF p).2
                have this : PyData.depthAll (encF f1 :: fr1.map encF) ≤ 1 := this
                omega
              obtain ⟨m1, m2⟩ := minD_spec (fr1.map encF) (encF f1)
              obtain ⟨f0, hf0, em⟩ := List.mem_map.mp (show _ ∈ (f1 :: fr1).map encF from m1)
              rw [← em] at m2 ⊢
              have hmin : ∀ f ∈ f1 :: fr1, f0.1 ≤ f.1 := fun f hf => lt_encF (m2 (encF f) (List.mem_map.mpr ⟨f, hf, rfl⟩))
              clear em m1 m2
              generalize hfr : f1 :: fr1 = fr at *
              obtain ⟨a1, a2, a3⟩ := D.frR f0 hf0
              have hfl := fil_lt hf0
              walk_at "gs"
              refine dg_tup rfl (dgs_cons (dg_name (dgs_cons (dg_name (dgs_cons (dg_name (dgs_nil ?_)))))))
              refine ds_seq' ?_
              walk_at "gs"
              refine dw_lcF fr encF (fun f => decide (f ≠ f0)) encF ?_
              refine di_anyL (di_list ?_)
              walk_at "gs"
              refine ⟨szl (by omega), fun B' f hf => ?_, ?_⟩
              · walk_at "gs"
                refine rw_neD (d := encF f) (e := encF f0) rfl rfl (shp_ok (shp_encF f) (by decide)) (shp_ok (shp_encF f0) (by decide)) ?_
                rw [eqv_encF]
                walk_at "gs"
                refine ⟨by simp, rfl, fun _ => ?_⟩
                walk_at "gs"
              · refine asn_fr (nx_nxt ?_)
                walk_at "gs"
                refine ⟨4, kyF f0.2.1 f0.2.2, kvs, rfl, rfl, rfl, ?_⟩
                rw [Q.at_ _ _ (Nat.lt_succ_of_le a1) a2]
                walk_at "gs"
                cases hk : at2 M f0.2.1 f0.2.2 with
                | some c0 =>
                  refine ite_F rfl ?_
                  walk_at "gs"
                  exact ⟨sumM wz M + (fr.filter fun f => decide (f ≠ f0)).length, by omega, kvs, M, _, _, _, _, _, _, _, rfl, by omega, Q, D.old hf0 hk, rfl⟩
                | none =>
                  refine ite_T rfl ?_
                  have hcl := cnt_le D.dim (by omega) hml
                  refine ds_seq' ?_
                  walk_at "gs"
                  refine ⟨4, kyF f0.2.1 f0.2.2, kvs, nD f0.1, rfl, rfl, rfl, rfl, szlt (by rw [Q.len]; omega), ?_⟩
                  have Q2 := Q.put (c := f0.1) D.dim (Nat.lt_succ_of_le a1) a2 hk
                  have D2 := D.new O hf0 hmin hk
                  have hml2 := more_len (co := co) (M := set2 M f0.2.1 f0.2.2 (some f0.1)) (f0 := f0) O
                  have hs := sumM_set wz (v := some f0.1) D.dim (Nat.lt_succ_of_le a1) a2
                  rw [hk] at hs
                  have hs : sumM wz (set2 M f0.2.1 f0.2.2 (some f0.1)) + 3000 = sumM wz M + 0 := hs
                  generalize hkv : putD kvs (kyF f0.2.1 f0.2.2) (nD f0.1) = kvs2 at *
                  generalize hM2 : set2 M f0.2.1 f0.2.2 (some f0.1) = M2 at *
                  walk_at "gs"
                  refine dw_lcF (waysN m z row co (row.length + 1)) encW (fun w => decide (w.2.2.p = f0.2.1 ∧ w.2.2.l = f0.2.2) && (at2 M2 w.1 w.2.1).isNone) (fun w => encF (f0.1 + w.2.2.c, w.1, w.2.1)) ?_
                  refine di_anyL (di_list ?_)
                  walk_at "gs"
                  refine ⟨szl (by omega), fun B' w hw => ?_, ?_⟩
                  · obtain ⟨b1, b2, b3⟩ := ways_mem.mp hw
                    walk_at "gs"
                    refine rs_Tfrom (n := 3) ?_
                    walk_at "gs"
                    refine rw_eqD (d := .tuple [nD w.2.2.p, nD w.2.2.l]) (e := .tuple [nD f0.2.1, nD f0.2.2]) rfl rfl (shp_ok (shp_wD [w.2.2.p, w.2.2.l]) (by decide)) (shp_ok (shp_wD [f0.2.1, f0.2.2]) (by decide)) ?_
                    rw [eqv_two]
                    walk_at "gs"
                    refine ite_k (fun cq => ?_) (fun cq => ?_)
                    · walk_at "gs"
                      refine rs_Tto (n := 2) ?_
                      walk_at "gs"
                      refine ⟨4, kyF w.1 w.2.1, kvs2, rfl, rfl, rfl, ?_⟩
                      rw [Q2.at_ _ _ b1 b2]
                      walk_at "gs"
                      refine ⟨?_, rfl, fun _ => ?_⟩
                      · rw [cq]
                        cases at2 M2 w.1 w.2.1 <;> rfl
                      · walk_at "gs"
                    · refine ⟨by rw [cq]; rfl, rfl, fun hh => ?_⟩
                      rw [cq] at hh
                      cases hh
                  · walk_at "gs"
                    refine rw_addL rfl rfl (szl (by
                      have := more_len (co := co) (M := M2) (f0 := f0) O
                      unfold moreF at this
                      simp only [List.length_map] at *
                      omega)) ?_
                    refine asn_fr ?_
                    walk_at "gs"
                    refine ⟨sumM wz M2 + ((fr.filter fun f => decide (f ≠ f0)) ++ moreF m z row co M2 f0).length, ?_, kvs2, M2, (fr.filter fun f => decide (f ≠ f0)) ++ moreF m z row co M2 f0, .d (nD f0.2.1), .d (nD f0.2.2), s9, .d (nD f0.1), s11, s12, rfl, ?_, Q2, D2, ?_⟩
                    · rw [List.length_append]
                      omega
                    · rw [List.length_append]
                      omega
                    · rw [List.map_append]
                      unfold moreF
                      rw [List.map_map]
                      rfl
          · cases fr with
            | cons _ _ => cases c
            | nil => exact ⟨kvs, M, s7, s8, s9, s10, s11, s12, Q, D.done, D.dim, rfl⟩
      · rintro G1 ⟨kvs, M, s7, s8, s9, s10, s11, s12, Q, F, D, rfl⟩
        refine ds_forget 8 ?_
        walk_at "gs"
        refine dw_lcM (List.range (row.length + 1)) nD (fun pl => .tuple ((List.range m.length).map fun ln => optN (best m z row co pl ln))) ?_
        refine di_rng1 ?_
        walk_at "gs"
        refine rn_lenZ (by omega) ?_
        walk_at "gs"
        refine ⟨by omega, by omega, rng_nD (row.length + 1), szl (by rw [List.length_range]; omega), fun B' pl hpl => ?_, ?_⟩
        · have hpl := List.mem_range.mp hpl
          walk_at "gs"
          refine dw_lcM (List.range m.length) nD (fun ln => optN (best m z row co pl ln)) ?_
          refine di_rng1 ?_
          walk_at "gs"
          rw [List.length_map, rng_nD]
          refine ⟨by omega, by omega, rfl, szl (by rw [List.length_range]; omega), fun B2 ln hln => ?_, ?_⟩
          · have hln := List.mem_range.mp hln
            refine dw_get1T ?_
            walk_at "gs"
            refine ⟨⟨kvs, rfl⟩, ?_⟩
            walk_at "gs"
            refine ⟨kyF pl ln, kvs, rfl, rfl, ?_⟩
            rw [Q.at_ _ _ hpl hln, ← F.best O (Nat.zero_le _) (Nat.le_of_lt_succ hpl) hln]
            walk_at "gs"
            refine ⟨?_, rfl⟩
            cases at2 M pl ln <;> rfl
          · walk_at "gs"
            refine rn_tupL rfl ?_
            walk_at "gs"
        · walk_at "gs"
          refine rn_tupL rfl ?_
          walk_at "gs"
end
end K62
namespace K62
open PySem PySem.Spec PyProof.Rows L2 DL
/-! no price is great -/
theorem min_mem : ∀ {fr : List Fw}, fr ≠ [] → ∃ f0 ∈ fr, ∀ f ∈ fr, f0.1 ≤ f.1
  | [], h => absurd rfl h
  | [a], _ => ⟨a, List.mem_cons_self, fun f hf => by rw [List.mem_singleton.mp hf]; exact Nat.le_refl _⟩
  | a :: b :: l, _ => by
    obtain ⟨g, hg, h⟩ := min_mem (fr := b :: l) (by simp)
    rcases Nat.lt_or_ge a.1 g.1 with q | q
    · exact ⟨a, List.mem_cons_self, fun f hf => by
        rcases List.mem_cons.mp hf with rfl | hf
        · exact Nat.le_refl _
        · have := h f hf
          omega⟩
    · exact ⟨g, List.mem_cons_of_mem _ hg, fun f hf => by
        rcases List.mem_cons.mp hf with rfl | hf
        · exact q
        · exact h f hf⟩
theorem ex_fixed {m : Mach} {z row : List Nat} {co : Co} (O : Ok5 m z row) (h1 : co.put ≤ 9) (h2 : co.leave ≤ 9) (h3 : co.turn ≤ 9) : ∀ (mm : Nat) (M : Mat) (fr : List Fw), sumM wz M + fr.length = mm → Dj m z row co M fr → (∀ f ∈ fr, f.1 ≤ 9 * cnt M) → Bd M (row.length + 1) m.length → ∃ M', Dim M' (row.length + 1) m.length ∧ Fixed m z row co (at2 M') 0 ∧ Bd M' (row.length + 1) m.length := by
  intro mm
  induction mm using Nat.strongRecOn with
  | _ mm ih =>
    intro M fr hm D hf hb
    by_cases e : fr = []
    · subst e
      exact ⟨M, D.dim, D.done, hb⟩
    · obtain ⟨f0, hf0, hmin⟩ := min_mem e
      obtain ⟨a1, a2, a3⟩ := D.frR f0 hf0
      have a1' := Nat.lt_succ_of_le a1
      have hl := fil_lt hf0
      cases hk : at2 M f0.2.1 f0.2.2 with
      | some c0 => exact ih _ (by omega) M _ rfl (D.old hf0 hk) (fun f h => hf f (fil_mem.mp h).1) hb
      | none =>
        have hs := sumM_set wz (v := some f0.1) D.dim a1' a2
        have hc := sumM_set w1 (v := some f0.1) D.dim a1' a2
        rw [hk] at hs hc
        have hs : sumM wz (set2 M f0.2.1 f0.2.2 (some f0.1)) + 3000 = sumM wz M + 0 := hs
        have hc : cnt (set2 M f0.2.1 f0.2.2 (some f0.1)) + 0 = cnt M + 1 := hc
        have hml := more_len (co := co) (M := set2 M f0.2.1 f0.2.2 (some f0.1)) (f0 := f0) O
        have h0 := hf f0 hf0
        refine ih _ ?_ _ _ rfl (D.new O hf0 hmin hk) (fun f h => ?_) (fun p l c hp hl' hat => ?_)
        · rw [List.length_append]
          omega
        · rcases List.mem_append.mp h with h | h
          · have := hf f (fil_mem.mp h).1
            omega
          · obtain ⟨e, _, _, he, _, _, b6⟩ := moreF_mem h
            have := eds_c he
            omega
        · rw [at2_set D.dim a1' a2] at hat
          split at hat
          · cases hat
            omega
          · have := hb p l c hp hl' hat
            omega
theorem best_le {m : Mach} {z row : List Nat} {co : Co} (O : Ok5 m z row) (h1 : co.put ≤ 9) (h2 : co.leave ≤ 9) (h3 : co.turn ≤ 9) {pl ln c : Nat} (hp : pl ≤ row.length) (hl : ln < m.length) (h : best m z row co pl ln = some c) : c ≤ 2079 := by
  obtain ⟨M, D, F, hb⟩ := ex_fixed (co := co) O h1 h2 h3 _ _ _ rfl (Dj.start m z row co) (fun f hf => by
    unfold fr0 at hf
    obtain ⟨l, _, rfl⟩ := List.mem_map.mp hf
    exact Nat.zero_le _) (fun p l c _ _ h => by
    rw [nonM_at] at h
    cases h)
  rw [← F.best O (Nat.zero_le _) hp hl] at h
  have h4 := hb pl ln c (Nat.lt_succ_of_le hp) hl h
  have h5 := cnt_le D (by have := O.rl; omega) O.m11
  omega
/-! the way that is told -/
def good1 (m : Mach) (z row : List Nat) (co : Co) (pl ln : Nat) (e : Ed) : Prop := ∃ c, best m z row co e.p e.l = some c ∧ best m z row co pl ln = some (e.c + c)
inductive Path (m : Mach) (z row : List Nat) (co : Co) : Nat → Nat → List Stp → Prop
  | fin {ln : Nat} : best m z row co row.length ln = some 0 → Path m z row co row.length ln []
  | step {pl ln i : Nat} {e : Ed} {ss : List Stp} : ¬ (pl = row.length ∧ best m z row co pl ln = some 0) → (eds m z row co pl ln)[i]? = some e → good1 m z row co pl ln e → (∀ j e', j < i → (eds m z row co pl ln)[j]? = some e' → ¬ good1 m z row co pl ln e') → Path m z row co e.p e.l ss → Path m z row co pl ln (e.st :: ss)
theorem Path.det {m : Mach} {z row : List Nat} {co : Co} {pl ln : Nat} {ss : List Stp} (h : Path m z row co pl ln ss) : ∀ {ss'}, Path m z row co pl ln ss' → ss = ss' := by
  induction h with
  | fin hb =>
    intro ss' h'
    cases h' with
    | fin _ => rfl
    | step hn _ _ _ _ => exact absurd ⟨rfl, hb⟩ hn
  | @step pl ln i e ss hn he hg hj _ ih =>
    intro ss' h'
    cases h' with
    | fin hb => exact absurd ⟨rfl, hb⟩ hn
    | @step _ _ i' e' ss2 hn' he' hg' hj' hp' =>
      have : i = i' := by
        rcases Nat.lt_trichotomy i i' with q | q | q
        · exact absurd hg (hj' i e q he)
        · exact q
        · exact absurd hg' (hj i' e' q he')
      subst this
      rw [he] at he'
      cases he'
      rw [ih hp']
/-- where the end isn't reached, some edge is on a cheapest way -/
theorem good_ex {m : Mach} {z row : List Nat} {co : Co} {pl ln c : Nat} (h : best m z row co pl ln = some c) (hn : ¬ (pl = row.length ∧ c = 0)) : ∃ e ∈ eds m z row co pl ln, good1 m z row co pl ln e := by
  obtain ⟨h1, h2⟩ := best_some.mp h
  cases h1 with
  | fin _ => exact absurd ⟨rfl, rfl⟩ hn
  | @step _ _ c1 e he hr =>
    refine ⟨e, he, c1, best_some.mpr ⟨hr, fun k hk => ?_⟩, h⟩
    have := h2 _ (.step he hk)
    omega
theorem first_ex {α : Type} {p : α → Prop} : ∀ {l : List α}, (∃ x ∈ l, p x) → ∃ (i : Nat) (x : α), l[i]? = some x ∧ p x ∧ ∀ (j : Nat) (y : α), j < i → l[j]? = some y → ¬ p y
  | [], h => by
    obtain ⟨x, hx, _⟩ := h
    cases hx
  | a :: l, h => by
    by_cases q : p a
    · exact ⟨0, a, rfl, q, fun j y hj => absurd hj (Nat.not_lt_zero _)⟩
    · obtain ⟨x, hx, px⟩ := h
      rcases List.mem_cons.mp hx with rfl | hx
      · exact absurd px q
      · obtain ⟨i, x, h1, h2, h3⟩ := first_ex (l := l) ⟨x, hx, px⟩
        refine ⟨i + 1, x, by simpa using h1, h2, fun j y hj hy => ?_⟩
        cases j with
        | zero =>
          simp at hy
          subst hy
          exact q
        | succ j => exact h3 j y (by omega) (by simpa using hy)
/-- measure: places left and cost -/
noncomputable def msr (m : Mach) (z row : List Nat) (co : Co) (pl ln : Nat) : Nat := (row.length - pl) + (best m z row co pl ln).getD 0
theorem good_lt {m : Mach} {z row : List Nat} {co : Co} {pl ln : Nat} {e : Ed} (hp : 1 ≤ co.put) (h1 : pl ≤ row.length) (he : e ∈ eds m z row co pl ln) (hg : good1 m z row co pl ln e) : msr m z row co e.p e.l < msr m z row co pl ln ∧ e.p ≤ row.length := by
  obtain ⟨c, g1, g2⟩ := hg
  unfold msr
  rw [g1, g2]
  show row.length - e.p + c < row.length - pl + (e.c + c) ∧ _
  rcases eds_p he with ⟨q1, q2⟩ | ⟨q1, q2⟩
  · omega
  · omega
def stC (co : Co) : Stp → Nat
  | .keep _ => 0
  | .turn _ _ => co.turn
  | .leave _ => co.leave
  | .put _ => co.put
def goodS (z : List Nat) : Stp → Prop
  | .keep r => r ∈ z
  | .turn r s => r ∈ z ∧ s ∈ z ∧ r ≠ s
  | .leave r => r ∈ z
  | .put s => s ∈ z
/-- what an edge does -/
theorem edge_is {m : Mach} {z row : List Nat} {co : Co} (O : Ok5 m z row) {pl ln : Nat} {e : Ed} (he : e ∈ eds m z row co pl ln) : e.c = stC co e.st ∧ goodS z e.st ∧ ∀ md : List Nat, ∃ w : List Nat, (∀ c ∈ w, c ∈ z) ∧ st1 (row.drop pl, md) e.st = some (row.drop e.p, md ++ w) ∧ run m z ln w = e.l := by
  have zk : ∀ k, k < z.length → ∃ c, z[k]? = some c ∧ c ∈ z ∧ z.idxOf c = k := fun k hk => ⟨_, List.getElem?_eq_getElem hk, List.getElem_mem hk, idx_of_nd O.nd (List.getElem?_eq_getElem hk)⟩
  unfold eds at he
  rcases List.mem_append.mp he with h | h
  · unfold frontE at h
    split at h
    · rename_i r hr
      have hrz := O.rz r (List.mem_of_getElem? hr)
      have hlt := (List.getElem?_eq_some_iff.mp hr).1
      have hd : row.drop pl = r :: row.drop (pl + 1) := by
        rw [List.drop_eq_getElem_cons hlt]
        congr 1
        have := List.getElem?_eq_getElem hlt
        rw [hr] at this
        exact (Option.some.inj this).symm
      have ht : (row.drop pl).take 1 = [r] := by rw [hd]; rfl
      have hd1 : (row.drop pl).drop 1 = row.drop (pl + 1) := by rw [hd]; rfl
      simp only [List.mem_append, List.mem_singleton] at h
      rcases h with (rfl | h) | rfl
      · refine ⟨rfl, hrz, fun md => ⟨[r], fun c hc => by rw [List.mem_singleton.mp hc]; exact hrz, ?_, rfl⟩⟩
        show (if (row.drop pl).take 1 = [r] then _ else _) = _
        rw [if_pos ht, hd1]
      · unfold turnsE at h
        obtain ⟨k, hk, rfl⟩ := List.mem_map.mp h
        obtain ⟨k1, k2⟩ := List.mem_filter.mp hk
        have k2 : k ≠ z.idxOf r := of_decide_eq_true k2
        obtain ⟨c, c1, c2, c3⟩ := zk k (List.mem_range.mp k1)
        rw [c1]
        refine ⟨rfl, ⟨hrz, c2, fun e => k2 (by
          have e : r = c := e
          rw [e, c3])⟩, fun md => ⟨[c], fun c' hc => by rw [List.mem_singleton.mp hc]; exact c2, ?_, ?_⟩⟩
        · show (if (row.drop pl).take 1 = [r] then _ else _) = _
          rw [if_pos ht, hd1]
          rfl
        · show nxt m ln (z.idxOf c) = nxt m ln k
          rw [c3]
      · refine ⟨rfl, hrz, fun md => ⟨[], (fun c hc => nomatch hc), ?_, rfl⟩⟩
        show (if (row.drop pl).take 1 = [r] then _ else _) = _
        rw [if_pos ht, hd1, List.append_nil]
    · cases h
  · unfold putsE at h
    obtain ⟨k, hk, rfl⟩ := List.mem_map.mp h
    obtain ⟨c, c1, c2, c3⟩ := zk k (List.mem_range.mp hk)
    rw [c1]
    refine ⟨rfl, c2, fun md => ⟨[c], fun c' hc => by rw [List.mem_singleton.mp hc]; exact c2, rfl, ?_⟩⟩
    show nxt m ln (z.idxOf c) = nxt m ln k
    rw [c3]
def runS (p : List Nat × List Nat) : List Stp → Option (List Nat × List Nat)
  | [] => some p
  | s :: ss => (st1 p s).bind fun q => runS q ss
theorem runS_snoc : ∀ (ss : List Stp) (s : Stp) (p : List Nat × List Nat), runS p (ss ++ [s]) = (runS p ss).bind fun q => st1 q s
  | [], s, p => by
    show (st1 p s).bind (fun q => some q) = st1 p s
    cases st1 p s <;> rfl
  | t :: ss, s, p => by
    show (st1 p t).bind (fun q => runS q (ss ++ [s])) = ((st1 p t).bind fun q => runS q ss).bind fun q => st1 q s
    cases st1 p t with
    | none => rfl
    | some q => exact runS_snoc ss s q
theorem stN_run (row : List Nat) (ss : List Stp) : ∀ n, n ≤ ss.length → stN row ss n = runS (row, []) (ss.take n)
  | 0, _ => rfl
  | n + 1, h => by
    have hn : ss[n]? = some ss[n] := List.getElem?_eq_getElem (by omega)
    rw [List.take_succ, hn]
    show (stN row ss n).bind (fun p => (ss[n]?).bind fun s => st1 p s) = runS (row, []) (ss.take n ++ [ss[n]])
    rw [runS_snoc, stN_run row ss n (by omega), hn]
    rfl
theorem chg_run (row : List Nat) (ss : List Stp) : chg row ss = (runS (row, []) ss).bind fun p => if p.1 = [] then some p.2 else none := by
  unfold chg
  rw [stN_run row ss _ (Nat.le_refl _), List.take_length]
theorem run_app (m : Mach) (z : List Nat) (l : Nat) (u v : List Nat) : run m z l (u ++ v) = run m z (run m z l u) v := List.foldl_append
theorem Path.ok {m : Mach} {z row : List Nat} {co : Co} (O : Ok5 m z row) (hp1 : 1 ≤ co.put) {pl ln : Nat} {ss : List Stp} (h : Path m z row co pl ln ss) : pl ≤ row.length → (∀ s ∈ ss, goodS z s) ∧ best m z row co pl ln = some ((ss.map (stC co)).sum) ∧ ss.length ≤ msr m z row co pl ln ∧
    ∀ md : List Nat, ∃ w : List Nat, (∀ c ∈ w, c ∈ z) ∧ w.length ≤ ss.length ∧ runS (row.drop pl, md) ss = some ([], md ++ w) ∧ pas m (run m z ln w) = true := by
  induction h with
  | fin hb =>
    intro _
    refine ⟨(fun s hs => nomatch hs), hb, Nat.zero_le _, fun md => ⟨[], (fun c hc => nomatch hc), Nat.le_refl _, ?_, ?_⟩⟩
    · show some (row.drop row.length, md) = some ([], md ++ [])
      rw [List.drop_length, List.append_nil]
    · have h1 := (best_some.mp hb).1
      generalize hq : (0 : Nat) = q at h1
      generalize hr : row.length = r at h1
      cases h1 with
      | fin h => exact h
      | step he hr' =>
        rename_i e _
        exfalso
        rcases eds_p he with ⟨q1, q2⟩ | ⟨q1, q2⟩
        · omega
        · omega
  | @step pl ln i e ss hn he hg _ _ ih =>
    intro hpl
    have hem := List.mem_of_getElem? he
    obtain ⟨k1, k2⟩ := good_lt hp1 hpl hem hg
    obtain ⟨i1, i2, i3, i4⟩ := ih k2
    obtain ⟨e1, e2, e3⟩ := edge_is O hem
    obtain ⟨c, g1, g2⟩ := hg
    refine ⟨fun s hs => ?_, ?_, ?_, fun md => ?_⟩
    · rcases List.mem_cons.mp hs with rfl | hs
      · exact e2
      · exact i1 s hs
    · rw [List.map_cons, List.sum_cons, ← e1, g2]
      rw [g1] at i2
      rw [Option.some.inj i2]
    · rw [List.length_cons]
      omega
    · obtain ⟨w1, a1, a2, a3⟩ := e3 md
      obtain ⟨w2, b1, b2, b3, b4⟩ := i4 (md ++ w1)
      have hw1 : w1.length ≤ 1 := by
        have this : (md ++ w1).length ≤ md.length + 1 := (st1_len a2).2
        rw [List.length_append] at this
        omega
      refine ⟨w1 ++ w2, fun c hc => ?_, ?_, ?_, ?_⟩
      · rcases List.mem_append.mp hc with h | h
        · exact a1 c h
        · exact b1 c h
      · rw [List.length_append, List.length_cons]
        omega
      · show (st1 (row.drop pl, md) e.st).bind (fun q => runS q ss) = _
        rw [a2]
        show runS (row.drop e.p, md ++ w1) ss = _
        rw [b3, List.append_assoc]
      · rw [run_app, a3]
        exact b4
end K62
namespace K62
open PySem PySem.Spec PyProof.Rows L2 DL
local macro_rules | `(tactic| walk_at "st") => `(tactic| with_reducible first
  | refine pw_p ?_ | refine pw_o ?_ | refine dw_op ?_ | refine dw_un ?_ | refine dw_int ?_ | refine dw_str ?_ | refine dw_bl ?_ | refine dw_non ?_ | refine dw_ty ?_ | refine da_nil' ?_ | refine da_cons' ?_ | refine dw_sortSetT ?_ | refine dw_CB ?_ | refine dw_BM ?_ | refine dw_BM0 ?_
  | refine dw_tup ?_ | refine dw_lst ?_ | refine dw_notV ?_ | refine dw_and ?_ | refine dw_or ?_ | refine dw_if ?_ | refine dw_chain ?_ | refine dw_sl3 ?_ | refine dw_revT ?_ | refine dw_tupRg1 ?_ | refine dw_lstRg1 ?_ | refine dw_callI ?_ | refine dw_callJ ?_
  | refine dt_test ?_ | refine dt_B ?_ | refine dt_and ?_ | refine dt_or ?_ | refine dt_not ?_ | refine dt_yes ?_ | refine dt_truth ?_
  | refine ds_ret ?_ | refine ds_retN ?_ | refine ds_next ?_ | refine ds_break ?_ | refine ds_cont ?_ | refine ds_drop ?_ | refine ds_if ?_ | refine ds_set ?_
  | refine nx_nxt ?_ | refine rt_nxt ?_ | refine bk_nxt ?_ | refine ct_nxt ?_ | refine nx_lp ?_ | refine rt_lp ?_ | refine bk_lp ?_ | refine ct_lp ?_ | refine asn_d ?_ | refine asn_fr ?_ | refine rt_E0 ?_ | refine rt_E0o ?_ | refine nx_E0 ?_
  | refine dw_newK ?_ | refine dw_dInK ?_ | refine dw_dNotInK ?_ | refine dw_dGetK ?_ | refine ds_dPutK ?_ | refine dw_callH ?_
  | refine tr_b ?_ | refine tr_i ?_ | refine tr_n ?_ | refine tr_T ?_ | refine tr_L ?_
  | refine do_none ?_ | refine do_some ?_ | refine ite_t ?_ | refine ite_f ?_
  | refine rw_addI ?_ | refine rw_sub ?_ | refine rw_cmp ?_ | refine rw_eqI ?_ | refine rw_neI ?_ | refine rw_eqZ ?_ | refine rw_neZ ?_ | refine rw_eqS ?_ | refine rw_neS ?_ | refine rw_eqB ?_ | refine rw_neB ?_ | refine isN_d ?_ | refine notN_d ?_ | refine rw_isB ?_ | refine rw_notB ?_
  | refine rn_intI ?_ | refine rn_intB ?_ | refine rn_max ?_ | refine rn_min ?_ | refine rn_lenT ?_ | refine rn_lenD ?_ | refine rm_sw ?_ | refine isi_int ?_ | refine isi_bool ?_ | refine isi_str ?_ | refine isi_tuple ?_ | refine isi_list ?_ | refine rn_tupT ?_ | refine rn_listT ?_
  | refine ⟨_, rfl, ?_⟩
  | fail)
local macro_rules | `(tactic| walk_at "va") => `(tactic| first
  | ((with_reducible apply dw_var); rfl) | ((with_reducible apply dw_sl); rfl) | ((with_reducible apply dw_slK); rfl)
  | ((with_reducible apply rw_ixL); rfl; rfl) | ((with_reducible apply rw_ixT); rfl)
  | ((with_reducible apply ite_T); rfl) | ((with_reducible apply ite_F); rfl) | ((with_reducible apply tr_o); rfl)
  | refine ⟨_, rfl, szl (Nat.le_of_ble_eq_true rfl), ?_⟩
  | (with_reducible refine rw_mod (by omega) ?_)
  | (with_reducible refine rw_fdiv (by unfold CDiv; omega) ?_)
  | (with_reducible refine rw_mul (by unfold CMul; omega) ?_)
  | refine ⟨szl (Nat.le_of_ble_eq_true rfl), ?_⟩
  | refine ⟨⟨rfl, _, _, rfl⟩, ?_⟩
  | refine ⟨rfl, ?_⟩
  | rfl
  | fail)
local macro_rules | `(tactic| walk_at "go") => `(tactic| repeat' (first | walk_at "st" | (with_reducible refine ds_seq' ?_) | walk_at "va" | fail))
local macro_rules | `(tactic| walk_at "gs") => `(tactic| repeat' (first | walk_at "st" | walk_at "va" | fail))
def preL (x : Px) : Prop := preP x ∧ 1 ≤ x.co.put ∧ 1 ≤ x.co.leave ∧ 1 ≤ x.co.turn
def dueR (x : Px) (d : PyData) : Prop := (best x.m x.z x.row x.co 0 0 = none ∧ d = .tuple [.none, .none, pricesD x]) ∨ ∃ c ss, best x.m x.z x.row x.co 0 0 = some c ∧ Path x.m x.z x.row x.co 0 0 ss ∧ d = .tuple [nD c, .tuple (ss.map encT), pricesD x]
abbrev spL (K : PySem.W.Frag) := spI K argP preL (fun x r => ∃ d, dueR x d ∧ r = .p (.d d))
noncomputable abbrev priceRow (x : Px) (pl : Nat) : PyData := .tuple ((List.range x.m.length).map fun ln => optN (best x.m x.z x.row x.co pl ln))
theorem pr_at {x : Px} {pl : Nat} (h : pl < x.row.length + 1) : atI ((List.range (x.row.length + 1)).map (priceRow x)) (pl : Int) = some (priceRow x pl) := ati (List.getElem?_range h)
theorem pr_at2 {x : Px} {pl ln : Nat} (h : ln < x.m.length) : atI ((List.range x.m.length).map fun ln => optN (best x.m x.z x.row x.co pl ln)) (ln : Int) = some (optN (best x.m x.z x.row x.co pl ln)) := ati (List.getElem?_range h)
section
variable {K : Fr} {B : Bs} {G : En} {P : Po}
theorem rw_pr {x : Px} {pl : Nat} (h : pl < x.row.length + 1) (q : P G (.p (.d (priceRow x pl)))) : RW2 K B G (rIx K) (.d (pricesD x)) (.d (.int (pl : Int))) P := rw_ixT (pr_at h) q
theorem rw_pr2 {x : Px} {pl ln : Nat} (h : ln < x.m.length) (q : P G (.p (.d (optN (best x.m x.z x.row x.co pl ln))))) : RW2 K B G (rIx K) (.d (priceRow x pl)) (.d (.int (ln : Int))) P := rw_ixT (pr_at2 h) q
end
theorem dt_mono {K : Fr} {B : Bs} {G : En} {tt : TT} {PT : En → Bool → Prop} (PT' : En → Bool → Prop) (h : DT K B G tt PT') (i : ∀ G1 b, PT' G1 b → PT G1 b) : DT K B G tt PT := fun S F H Q I k => h S F H Q I fun b F' H' G' e I' p => k b F' H' G' e I' (i _ _ p)
section
variable {P : Program} {w : World} {K : PySem.W.Frag} {mg : Str → Option Value} {base : Heap} {a : Ad}
theorem ok_least_change (T : Tx K mg a) (G_prices_of : FnOk P w K mg base CX0 2 a.f3 a.d3 ["machine", "signs", "row", "costs"] (spP K)) (G_steps_from0 : FnOk P w K mg base CX0 1 a.f2 a.d2 ["machine", "signs", "row", "costs", "place", "line"] (spE K encP)) : FnOk P w K mg base CX0 3 a.f4 a.d4 ["machine", "signs", "row", "costs"] (spL K) := by
  have G_steps_from := G_steps_from0.mono (show 1 ≤ 2 by decide)
  refine fnI T.F_least_change sc_least_change (fun x => ⟨rfl, by decide⟩) fun cdv A outer s H E hr => ⟨_, (pss_cons (ps_set (i := 4) sc_least_change.nd rfl (Or.inl rfl) (pe_call G_prices_of hr (by rfl) T.m_prices_of T.k_prices_of T.b_prices_of .nil pass0 (pa_cons (pv 0) (pa_cons (pv 1) (pa_cons (pv 2) (pa_cons (pv 3) pa_nil)))))) (pss_cons (ps_if (pt_cmpR op_isN (pe_ix (kIX K rfl) (pe_ix (kIX K rfl) (pv 4) pe_int (fun _ _ => rfl)) pe_int (fun _ _ => rfl)) pe_non (nomark _)) (pss_one (ps_ret (pe_tup (pa_cons pe_non (pa_cons pe_non (pa_cons (pv 4) pa_nil)))))) pss_nil) (pss_cons (ps_set (i := 5) sc_least_change.nd rfl (Or.inl rfl) (pe_lst pa_nil)) (pss_cons (ps_set (i := 6) sc_least_change.nd rfl (Or.inl rfl) pe_int) (pss_cons (ps_set (i := 7) sc_least_change.nd rfl (Or.inl rfl) pe_int) (pss_cons (ps_while PassesOwn.never (PW.pt (pw_or (pt_cmpR op_lt (pv 6) (pe_callB (kLEN K rfl) (by rfl) T.z_len (by decide +kernel) (pa_cons (pv 2) pa_nil)) (nomark _)) (pw_or1 (pt_cmpR op_gt (pe_ix (kIX K rfl) (pe_ix (kIX K rfl) (pv 4) (pv 6) (fun _ _ => rfl)) (pv 7) (fun _ _ => rfl)) pe_int (nomark _))))) (pss_cons (ps_for PassesOwn.never rfl (kANY K rfl (pe_call G_steps_from hr (by rfl) T.m_steps_from T.k_steps_from T.b_steps_from .nil pass0 (pa_cons (pv 0) (pa_cons (pv 1) (pa_cons (pv 2) (pa_cons (pv 3) (pa_cons (pv 6) (pa_cons (pv 7) pa_nil)))))))) (kTG K rfl rfl (pgs_cons (pg_name (i := 8) sc_least_change.nd rfl (Or.inl rfl)) (pgs_cons (pg_name (i := 9) sc_least_change.nd rfl (Or.inl rfl)) (pgs_cons (kTG K rfl rfl (pgs_cons (pg_name (i := 10) sc_least_change.nd rfl (Or.inl rfl)) (pgs_cons (pg_name (i := 11) sc_least_change.nd rfl (Or.inl rfl)) pgs_nil))) pgs_nil)))) (pss_one (ps_if (PW.pt (pw_and (pt_cmpR op_notN (pe_ix (kIX K rfl) (pe_ix (kIX K rfl) (pv 4) (pv 10) (fun _ _ => rfl)) (pv 11) (fun _ _ => rfl)) pe_non (nomark _)) (pw_and1 (pt_cmpR (kEQ K rfl hr.units) (pe_ix (kIX K rfl) (pe_ix (kIX K rfl) (pv 4) (pv 6) (fun _ _ => rfl)) (pv 7) (fun _ _ => rfl)) (pe_op (kADD K rfl) (pv 9) (pe_ix (kIX K rfl) (pe_ix (kIX K rfl) (pv 4) (pv 10) (fun _ _ => rfl)) (pv 11) (fun _ _ => rfl))) (nomark _))))) (pss_one ps_break) pss_nil))) (pss_cons (ps_expr (kBM K rfl (pe_bm PySem.F.plainAttrs_list PySem.F.slot_list_append PySem.F.type_list_append mt_append (pv 5) (pa_cons (pv 8) pa_nil)))) (pss_cons (ps_set (i := 6) sc_least_change.nd rfl (Or.inl rfl) (pv 10)) (pss_one (ps_set (i := 7) sc_least_change.nd rfl (Or.inl rfl) (pv 11))))))) (pss_one (ps_ret (pe_tup (pa_cons (pe_ix (kIX K rfl) (pe_ix (kIX K rfl) (pv 4) pe_int (fun _ _ => rfl)) pe_int (fun _ _ => rfl)) (pa_cons (pe_callTy (kTUP K rfl) (by rfl) T.z_tuple (by decide +kernel) (pa_cons (pv 5) pa_nil)) (pa_cons (pv 4) pa_nil)))))))))))), ?_⟩
  rintro ⟨m, z, row, co⟩ ⟨⟨O, c1, c2, c3⟩, d1, d2, d3⟩ B
  dsimp only [argP] at *
  have hrl : row.length ≤ 20 := O.rl
  have hml : m.length ≤ 11 := O.m11
  have hm1 : 1 ≤ m.length := O.m1
  have d1 : 1 ≤ co.put := d1
  have hb2 : ∀ {pl ln c}, pl ≤ row.length → ln < m.length → best m z row co pl ln = some c → c ≤ 2079 := fun h1 h2 h => best_le O c1 c2 c3 h1 h2 h
  refine ds_seq' ?_
  walk_at "gs"
  refine ⟨⟨m, z, row, co⟩, ⟨O, c1, c2, c3⟩, rfl, ?_⟩
  rintro _ rfl
  walk_at "gs"
  refine ds_mid' (fun G => ∃ c, best m z row co 0 0 = some c ∧ G = [.d (encM m), .d (zD z), .d (zD row), .d (encC co), .d (pricesD ⟨m, z, row, co⟩), .un, .un, .un, .un, .un, .un, .un]) ?_ ?_
  · walk_at "gs"
    refine rw_pr (x := ⟨m, z, row, co⟩) (pl := 0) (Nat.succ_pos _) ?_
    walk_at "gs"
    refine rw_pr2 (x := ⟨m, z, row, co⟩) (ln := 0) hm1 ?_
    walk_at "gs"
    cases hb : best m z row co 0 0 with
    | none =>
      refine ite_T rfl ?_
      walk_at "gs"
      exact ⟨_, .inl ⟨hb, rfl⟩, rfl⟩
    | some c00 =>
      refine ite_F rfl ?_
      walk_at "gs"
  · rintro G1 ⟨c00, hb, rfl⟩
    refine ds_seq' ?_
    walk_at "gs"
    refine ds_seq' ?_
    walk_at "gs"
    refine ds_seq' ?_
    walk_at "gs"
    refine ds_mid' (fun G => ∃ (ss : List Stp) (s6 s7 s8 s9 s10 s11 : Sl), Path m z row co 0 0 ss ∧ ss.length ≤ 3000 ∧ G = [.d (encM m), .d (zD z), .d (zD row), .d (encC co), .d (pricesD ⟨m, z, row, co⟩), .o none (ss.map encT), s6, s7, s8, s9, s10, s11]) ?_ ?_
    · refine ds_while' (fun mm G => ∃ (ss : List Stp) (pl ln c : Nat) (s8 s9 s10 s11 : Sl), mm = msr m z row co pl ln ∧ ss.length + mm ≤ 2999 ∧ pl ≤ row.length ∧ ln < m.length ∧ best m z row co pl ln = some c ∧ (∀ ss', Path m z row co pl ln ss' → Path m z row co 0 0 (ss ++ ss')) ∧ G = [.d (encM m), .d (zD z), .d (zD row), .d (encC co), .d (pricesD ⟨m, z, row, co⟩), .o none (ss.map encT), .d (nD pl), .d (nD ln), s8, s9, s10, s11]) (msr m z row co 0 0) ⟨[], 0, 0, c00, .un, .un, .un, .un, rfl, ?_, Nat.zero_le _, hm1, hb, fun ss' h => h, rfl⟩ ?_
      · have := hb2 (Nat.zero_le _) hm1 hb
        unfold msr
        rw [hb]
        show 0 + (row.length - 0 + c00) ≤ 2999
        omega
      · rintro mm G1 ⟨ss, pl, ln, c, s8, s9, s10, s11, rfl, hsm, hpl, hln, hbc, hpa, rfl⟩
        refine dt_mono (fun G b => G = [.d (encM m), .d (zD z), .d (zD row), .d (encC co), .d (pricesD ⟨m, z, row, co⟩), .o none (ss.map encT), .d (nD pl), .d (nD ln), s8, s9, s10, s11] ∧ b = !decide (pl = row.length ∧ c = 0)) ?_ ?_
        · walk_at "gs"
          refine rn_lenZ (by omega) ?_
          walk_at "gs"
          refine ite_k (fun q => ?_) (fun q => ?_)
          · have q := of_decide_eq_true q
            refine ⟨rfl, ?_⟩
            rw [decide_eq_false (by omega)]
            rfl
          · have q := of_decide_eq_false q
            walk_at "gs"
            refine rw_pr (x := ⟨m, z, row, co⟩) (pl := pl) (Nat.lt_succ_of_le hpl) ?_
            walk_at "gs"
            refine rw_pr2 (x := ⟨m, z, row, co⟩) (ln := ln) hln ?_
            rw [hbc]
            dsimp only [optN]
            walk_at "gs"
            by_cases e : c = 0
            · rw [decide_eq_true (p := pl = row.length ∧ c = 0) (by omega), e]
              rfl
            · rw [decide_eq_false (p := pl = row.length ∧ c = 0) (by omega), decide_eq_true (by omega)]
              rfl
        · rintro G1 b ⟨rfl, rfl⟩
          by_cases hn : pl = row.length ∧ c = 0
          · rw [decide_eq_true hn]
            refine ite_F rfl ?_
            obtain ⟨rfl, rfl⟩ := hn
            refine ⟨ss, _, _, s8, s9, s10, s11, ?_, by omega, rfl⟩
            have := hpa [] (.fin hbc)
            rwa [List.append_nil] at this
          · rw [decide_eq_false hn]
            refine ite_T rfl ?_
            refine ds_mid' (fun G => ∃ (i : Nat) (e : Ed) (s9 : Sl), (eds m z row co pl ln)[i]? = some e ∧ good1 m z row co pl ln e ∧ (∀ j e', j < i → (eds m z row co pl ln)[j]? = some e' → ¬ good1 m z row co pl ln e') ∧ G = [.d (encM m), .d (zD z), .d (zD row), .d (encC co), .d (pricesD ⟨m, z, row, co⟩), .o none (ss.map encT), .d (nD pl), .d (nD ln), .d (encT e.st), s9, .d (nD e.p), .d (nD e.l)]) ?_ ?_
            · refine ds_forE' (ch := [8, 9, 10, 11]) ?_
              refine di_anyL (di_list ?_)
              walk_at "gs"
              refine ⟨⟨m, z, row, co, pl, ln⟩, ⟨O, hln⟩, rfl, ?_⟩
              rintro _ rfl
              dsimp only
              walk_at "gs"
              refine ⟨fun q G => ∃ s8 s9 s10 s11, (∀ j e', j < q → (eds m z row co pl ln)[j]? = some e' → ¬ good1 m z row co pl ln e') ∧ G = [.d (encM m), .d (zD z), .d (zD row), .d (encC co), .d (pricesD ⟨m, z, row, co⟩), .o none (ss.map encT), .d (nD pl), .d (nD ln), s8, s9, s10, s11], ⟨s8, s9, s10, s11, fun j e' h => absurd h (Nat.not_lt_zero _), rfl⟩, fun q G2 d3 hd3 ⟨s8, s9, s10, s11, hj, hG⟩ => ?_, fun G2 ⟨s8, s9, s10, s11, hj, hG⟩ => ?_⟩
              · subst hG
                rw [List.getElem?_map] at hd3
                obtain ⟨e, he, rfl⟩ := Option.map_eq_some_iff.mp hd3
                have hem := List.mem_of_getElem? he
                have hep := eds_p hem
                have hel := eds_l O hln hem
                have hep2 : e.p < row.length + 1 := by omega
                have hno : ¬ good1 m z row co pl ln e → ∀ j e', j < q + 1 → (eds m z row co pl ln)[j]? = some e' → ¬ good1 m z row co pl ln e' := fun hg j e' hjq hje => by
                  rcases Nat.lt_succ_iff_lt_or_eq.mp hjq with k | rfl
                  · exact hj j e' k hje
                  · rw [he] at hje
                    cases hje
                    exact hg
                refine dg_tup rfl (dgs_cons (dg_name (dgs_cons (dg_name (dgs_cons (dg_tup rfl (dgs_cons (dg_name (dgs_cons (dg_name (dgs_nil (dgs_nil ?_))))))))))))
                walk_at "gs"
                refine rw_pr (x := ⟨m, z, row, co⟩) (pl := e.p) hep2 ?_
                walk_at "gs"
                refine rw_pr2 (x := ⟨m, z, row, co⟩) (ln := e.l) hel ?_
                dsimp only
                cases hbe : best m z row co e.p e.l with
                | none =>
                  dsimp only [optN]
                  walk_at "gs"
                  refine ⟨_, _, _, _, hno ?_, rfl⟩
                  rintro ⟨c1, g1, _⟩
                  rw [hbe] at g1
                  cases g1
                | some c1 =>
                  dsimp only [optN]
                  walk_at "gs"
                  refine rw_pr (x := ⟨m, z, row, co⟩) (pl := pl) (Nat.lt_succ_of_le hpl) ?_
                  walk_at "gs"
                  refine rw_pr2 (x := ⟨m, z, row, co⟩) (ln := ln) hln ?_
                  rw [hbc]
                  dsimp only [optN]
                  walk_at "gs"
                  refine rw_pr (x := ⟨m, z, row, co⟩) (pl := e.p) hep2 ?_
                  walk_at "gs"
                  refine rw_pr2 (x := ⟨m, z, row, co⟩) (ln := e.l) hel ?_
                  rw [hbe]
                  dsimp only [optN]
                  walk_at "gs"
                  refine ite_k (fun q2 => ?_) (fun q2 => ?_)
                  · have q2 := of_decide_eq_true q2
                    walk_at "gs"
                    exact ⟨q, e, _, he, ⟨c1, hbe, by rw [hbc]; congr 1; omega⟩, hj, rfl⟩
                  · have q2 := of_decide_eq_false q2
                    walk_at "gs"
                    refine ⟨_, _, _, _, hno ?_, rfl⟩
                    rintro ⟨c2, g1, g2⟩
                    rw [hbe] at g1
                    rw [hbc] at g2
                    cases g1
                    cases g2
                    exact q2 rfl
              · subst hG
                exfalso
                obtain ⟨e, he, hg⟩ := good_ex hbc hn
                obtain ⟨j, hjl, hje⟩ := List.mem_iff_getElem.mp he
                exact hj j e (by rw [List.length_map]; exact hjl) (by rw [← hje]; exact List.getElem?_eq_getElem hjl) hg
            · rintro G1 ⟨i, e, s9, he, hg, hj, rfl⟩
              have hem := List.mem_of_getElem? he
              obtain ⟨l1, l2⟩ := good_lt d1 hpl hem hg
              have hg2 := hg
              obtain ⟨c1, g1, g2⟩ := hg2
              refine ds_seq' ?_
              walk_at "gs"
              refine rm_app (i := 5) rfl (szlt (by rw [List.length_map]; omega)) ?_
              walk_at "gs"
              refine ds_seq' ?_
              walk_at "gs"
              refine ⟨msr m z row co e.p e.l, l1, ss ++ [e.st], e.p, e.l, c1, .d (encT e.st), s9, .d (nD e.p), .d (nD e.l), rfl, by rw [List.length_append]; show ss.length + 1 + _ ≤ _; omega, l2, eds_l O hln hem, g1, fun ss' h => ?_, by rw [List.map_append]; rfl⟩
              rw [List.append_assoc]
              refine hpa (e.st :: ss') (.step (fun k => hn ⟨k.1, ?_⟩) he hg hj h)
              have := k.2
              rw [hbc] at this
              exact Option.some.inj this
    · rintro G1 ⟨ss, s6, s7, s8, s9, s10, s11, hp, hss, rfl⟩
      walk_at "gs"
      refine rw_pr (x := ⟨m, z, row, co⟩) (pl := 0) (Nat.succ_pos _) ?_
      walk_at "gs"
      refine rw_pr2 (x := ⟨m, z, row, co⟩) (ln := 0) hm1 ?_
      walk_at "gs"
      refine rn_tupL rfl ?_
      walk_at "gs"
      refine ⟨_, .inr ⟨c00, ss, hb, hp, rfl⟩, ?_⟩
      rw [hb]
      rfl
end
end K62
namespace K62
open PySem PySem.Spec PyProof.Rows L2 DL
local macro_rules | `(tactic| walk_at "st") => `(tactic| with_reducible first
  | refine pw_p ?_ | refine pw_o ?_ | refine dw_op ?_ | refine dw_un ?_ | refine dw_int ?_ | refine dw_str ?_ | refine dw_bl ?_ | refine dw_non ?_ | refine dw_ty ?_ | refine da_nil' ?_ | refine da_cons' ?_ | refine dw_sortSetT ?_ | refine dw_CB ?_ | refine dw_BM ?_ | refine dw_BM0 ?_
  | refine dw_tup ?_ | refine dw_lst ?_ | refine dw_notV ?_ | refine dw_and ?_ | refine dw_or ?_ | refine dw_if ?_ | refine dw_chain ?_ | refine dw_sl3 ?_ | refine dw_revT ?_ | refine dw_tupRg1 ?_ | refine dw_lstRg1 ?_ | refine dw_callI ?_ | refine dw_callJ ?_
  | refine dt_test ?_ | refine dt_B ?_ | refine dt_and ?_ | refine dt_or ?_ | refine dt_not ?_ | refine dt_yes ?_ | refine dt_truth ?_
  | refine ds_ret ?_ | refine ds_retN ?_ | refine ds_next ?_ | refine ds_break ?_ | refine ds_cont ?_ | refine ds_drop ?_ | refine ds_if ?_ | refine ds_set ?_
  | refine nx_nxt ?_ | refine rt_nxt ?_ | refine bk_nxt ?_ | refine ct_nxt ?_ | refine nx_lp ?_ | refine rt_lp ?_ | refine bk_lp ?_ | refine ct_lp ?_ | refine asn_d ?_ | refine asn_fr ?_ | refine rt_E0 ?_ | refine rt_E0o ?_ | refine nx_E0 ?_
  | refine dw_newK ?_ | refine dw_dInK ?_ | refine dw_dNotInK ?_ | refine dw_dGetK ?_ | refine ds_dPutK ?_ | refine dw_callH ?_
  | refine tr_b ?_ | refine tr_i ?_ | refine tr_n ?_ | refine tr_T ?_ | refine tr_L ?_
  | refine do_none ?_ | refine do_some ?_ | refine ite_t ?_ | refine ite_f ?_
  | refine rw_addI ?_ | refine rw_sub ?_ | refine rw_cmp ?_ | refine rw_eqI ?_ | refine rw_neI ?_ | refine rw_eqZ ?_ | refine rw_neZ ?_ | refine rw_eqS ?_ | refine rw_neS ?_ | refine rw_eqB ?_ | refine rw_neB ?_ | refine isN_d ?_ | refine notN_d ?_ | refine rw_isB ?_ | refine rw_notB ?_
  | refine rn_intI ?_ | refine rn_intB ?_ | refine rn_max ?_ | refine rn_min ?_ | refine rn_lenT ?_ | refine rn_lenD ?_ | refine rm_sw ?_ | refine isi_int ?_ | refine isi_bool ?_ | refine isi_str ?_ | refine isi_tuple ?_ | refine isi_list ?_ | refine rn_tupT ?_ | refine rn_listT ?_
  | refine ⟨_, rfl, ?_⟩
  | fail)
local macro_rules | `(tactic| walk_at "va") => `(tactic| first
  | ((with_reducible apply dw_var); rfl) | ((with_reducible apply dw_sl); rfl) | ((with_reducible apply dw_slK); rfl)
  | ((with_reducible apply rw_ixL); rfl; rfl) | ((with_reducible apply rw_ixT); rfl)
  | ((with_reducible apply ite_T); rfl) | ((with_reducible apply ite_F); rfl) | ((with_reducible apply tr_o); rfl)
  | refine ⟨_, rfl, szl (Nat.le_of_ble_eq_true rfl), ?_⟩
  | (with_reducible refine rw_mod (by omega) ?_)
  | (with_reducible refine rw_fdiv (by unfold CDiv; omega) ?_)
  | (with_reducible refine rw_mul (by unfold CMul; omega) ?_)
  | refine ⟨szl (Nat.le_of_ble_eq_true rfl), ?_⟩
  | refine ⟨⟨rfl, _, _, rfl⟩, ?_⟩
  | refine ⟨rfl, ?_⟩
  | rfl
  | fail)
local macro_rules | `(tactic| walk_at "go") => `(tactic| repeat' (first | walk_at "st" | (with_reducible refine ds_seq' ?_) | walk_at "va" | fail))
local macro_rules | `(tactic| walk_at "gs") => `(tactic| repeat' (first | walk_at "st" | walk_at "va" | fail))
theorem rev_get {α : Type} {l : List α} {q : Nat} {x : α} (h : l.reverse[q]? = some x) : q < l.length ∧ l[l.length - 1 - q]? = some x := by
  have hq : q < l.length := by
    have := (List.getElem?_eq_some_iff.mp h).1
    simpa using this
  rw [List.getElem?_reverse hq] at h
  exact ⟨hq, h⟩
section
variable {P : Program} {w : World} {K : PySem.W.Frag} {mg : Str → Option Value} {base : Heap} {a : Ad}
theorem ok_law_due (T : Tx K mg a) (G_law_prices : FnOk P w K mg base CX0 2 a.f18 a.d18 ["machine", "signs", "row", "costs"] (spP K)) (G_law_edges0 : FnOk P w K mg base CX0 1 a.f17 a.d17 ["machine", "signs", "row", "costs", "place", "line"] (spE K encE)) : FnOk P w K mg base CX0 3 a.f19 a.d19 ["machine", "signs", "row", "costs"] (spL K) := by
  have G_law_edges := G_law_edges0.mono (show 1 ≤ 2 by decide)
  refine fnI T.F_law_due sc_law_due (fun x => ⟨rfl, by decide⟩) fun cdv A outer s H E hr => ⟨_, (pss_cons (ps_set (i := 4) sc_law_due.nd rfl (Or.inl rfl) (pe_call G_law_prices hr (by rfl) T.m_law_prices T.k_law_prices T.b_law_prices .nil pass0 (pa_cons (pv 0) (pa_cons (pv 1) (pa_cons (pv 2) (pa_cons (pv 3) pa_nil)))))) (pss_cons (ps_if (pt_cmpR op_isN (pe_ix (kIX K rfl) (pe_ix (kIX K rfl) (pv 4) pe_int (fun _ _ => rfl)) pe_int (fun _ _ => rfl)) pe_non (nomark _)) (pss_one (ps_ret (pe_tup (pa_cons pe_non (pa_cons pe_non (pa_cons (pv 4) pa_nil)))))) pss_nil) (pss_cons (ps_set (i := 5) sc_law_due.nd rfl (Or.inl rfl) (pe_lst pa_nil)) (pss_cons (ps_set (i := 6) sc_law_due.nd rfl (Or.inl rfl) pe_int) (pss_cons (ps_set (i := 7) sc_law_due.nd rfl (Or.inl rfl) pe_int) (pss_cons (ps_while PassesOwn.never (pt_cmpR (kNE K rfl hr.units) (pe_tup (pa_cons (pv 6) (pa_cons (pe_ix (kIX K rfl) (pe_ix (kIX K rfl) (pv 4) (pv 6) (fun _ _ => rfl)) (pv 7) (fun _ _ => rfl)) pa_nil))) (pe_tup (pa_cons (pe_callB (kLEN K rfl) (by rfl) T.z_len (by decide +kernel) (pa_cons (pv 2) pa_nil)) (pa_cons pe_int pa_nil))) (nomark _)) (pss_cons (ps_for PassesOwn.never rfl (kANY K rfl (kREVL K rfl (pe_revLs (pe_call G_law_edges hr (by rfl) T.m_law_edges T.k_law_edges T.b_law_edges .nil pass0 (pa_cons (pv 0) (pa_cons (pv 1) (pa_cons (pv 2) (pa_cons (pv 3) (pa_cons (pv 6) (pa_cons (pv 7) pa_nil)))))))))) (kTG K rfl rfl (pgs_cons (pg_name (i := 8) sc_law_due.nd rfl (Or.inl rfl)) (pgs_cons (pg_name (i := 9) sc_law_due.nd rfl (Or.inl rfl)) (pgs_cons (pg_name (i := 10) sc_law_due.nd rfl (Or.inl rfl)) (pgs_cons (pg_name (i := 11) sc_law_due.nd rfl (Or.inl rfl)) pgs_nil))))) (pss_one (ps_if (PW.pt (pw_and (pt_cmpR op_notN (pe_ix (kIX K rfl) (pe_ix (kIX K rfl) (pv 4) (pv 10) (fun _ _ => rfl)) (pv 11) (fun _ _ => rfl)) pe_non (nomark _)) (pw_and1 (pt_cmpR (kEQ K rfl hr.units) (pe_op (kADD K rfl) (pv 9) (pe_ix (kIX K rfl) (pe_ix (kIX K rfl) (pv 4) (pv 10) (fun _ _ => rfl)) (pv 11) (fun _ _ => rfl))) (pe_ix (kIX K rfl) (pe_ix (kIX K rfl) (pv 4) (pv 6) (fun _ _ => rfl)) (pv 7) (fun _ _ => rfl)) (nomark _))))) (pss_one (ps_set (i := 12) sc_law_due.nd rfl (Or.inl rfl) (pe_tup (pa_cons (pv 8) (pa_cons (pv 10) (pa_cons (pv 11) pa_nil)))))) pss_nil))) (pss_cons (ps_expr (kBM K rfl (pe_bm PySem.F.plainAttrs_list PySem.F.slot_list_append PySem.F.type_list_append mt_append (pv 5) (pa_cons (pe_ix (kIX K rfl) (pv 12) pe_int (fun _ _ => rfl)) pa_nil)))) (pss_cons (ps_set (i := 6) sc_law_due.nd rfl (Or.inl rfl) (pe_ix (kIX K rfl) (pv 12) pe_int (fun _ _ => rfl))) (pss_one (ps_set (i := 7) sc_law_due.nd rfl (Or.inl rfl) (pe_ix (kIX K rfl) (pv 12) pe_int (fun _ _ => rfl)))))))) (pss_one (ps_ret (pe_tup (pa_cons (pe_ix (kIX K rfl) (pe_ix (kIX K rfl) (pv 4) pe_int (fun _ _ => rfl)) pe_int (fun _ _ => rfl)) (pa_cons (pe_callTy (kTUP K rfl) (by rfl) T.z_tuple (by decide +kernel) (pa_cons (pv 5) pa_nil)) (pa_cons (pv 4) pa_nil)))))))))))), ?_⟩
  rintro ⟨m, z, row, co⟩ ⟨⟨O, c1, c2, c3⟩, d1, d2, d3⟩ B
  dsimp only [argP] at *
  have hrl : row.length ≤ 20 := O.rl
  have hml : m.length ≤ 11 := O.m11
  have hm1 : 1 ≤ m.length := O.m1
  have d1 : 1 ≤ co.put := d1
  have hb2 : ∀ {pl ln c}, pl ≤ row.length → ln < m.length → best m z row co pl ln = some c → c ≤ 2079 := fun h1 h2 h => best_le O c1 c2 c3 h1 h2 h
  refine ds_seq' ?_
  walk_at "gs"
  refine ⟨⟨m, z, row, co⟩, ⟨O, c1, c2, c3⟩, rfl, ?_⟩
  rintro _ rfl
  walk_at "gs"
  refine ds_mid' (fun G => ∃ c, best m z row co 0 0 = some c ∧ G = [.d (encM m), .d (zD z), .d (zD row), .d (encC co), .d (pricesD ⟨m, z, row, co⟩), .un, .un, .un, .un, .un, .un, .un, .un]) ?_ ?_
  · walk_at "gs"
    refine rw_pr (x := ⟨m, z, row, co⟩) (pl := 0) (Nat.succ_pos _) ?_
    walk_at "gs"
    refine rw_pr2 (x := ⟨m, z, row, co⟩) (ln := 0) hm1 ?_
    walk_at "gs"
    cases hb : best m z row co 0 0 with
    | none =>
      refine ite_T rfl ?_
      walk_at "gs"
      exact ⟨_, .inl ⟨hb, rfl⟩, rfl⟩
    | some c00 =>
      refine ite_F rfl ?_
      walk_at "gs"
  · rintro G1 ⟨c00, hb, rfl⟩
    refine ds_seq' ?_
    walk_at "gs"
    refine ds_seq' ?_
    walk_at "gs"
    refine ds_seq' ?_
    walk_at "gs"
    refine ds_mid' (fun G => ∃ (ss : List Stp) (s6 s7 s8 s9 s10 s11 s12 : Sl), Path m z row co 0 0 ss ∧ ss.length ≤ 3000 ∧ G = [.d (encM m), .d (zD z), .d (zD row), .d (encC co), .d (pricesD ⟨m, z, row, co⟩), .o none (ss.map encT), s6, s7, s8, s9, s10, s11, s12]) ?_ ?_
    · refine ds_while' (fun mm G => ∃ (ss : List Stp) (pl ln c : Nat) (s8 s9 s10 s11 s12 : Sl), mm = msr m z row co pl ln ∧ ss.length + mm ≤ 2999 ∧ pl ≤ row.length ∧ ln < m.length ∧ best m z row co pl ln = some c ∧ (∀ ss', Path m z row co pl ln ss' → Path m z row co 0 0 (ss ++ ss')) ∧ G = [.d (encM m), .d (zD z), .d (zD row), .d (encC co), .d (pricesD ⟨m, z, row, co⟩), .o none (ss.map encT), .d (nD pl), .d (nD ln), s8, s9, s10, s11, s12]) (msr m z row co 0 0) ⟨[], 0, 0, c00, .un, .un, .un, .un, .un, rfl, ?_, Nat.zero_le _, hm1, hb, fun ss' h => h, rfl⟩ ?_
      · have := hb2 (Nat.zero_le _) hm1 hb
        unfold msr
        rw [hb]
        show 0 + (row.length - 0 + c00) ≤ 2999
        omega
      · rintro mm G1 ⟨ss, pl, ln, c, s8, s9, s10, s11, s12, rfl, hsm, hpl, hln, hbc, hpa, rfl⟩
        refine dt_mono (fun G b => G = [.d (encM m), .d (zD z), .d (zD row), .d (encC co), .d (pricesD ⟨m, z, row, co⟩), .o none (ss.map encT), .d (nD pl), .d (nD ln), s8, s9, s10, s11, s12] ∧ b = !decide (pl = row.length ∧ c = 0)) ?_ ?_
        · walk_at "gs"
          refine rw_pr (x := ⟨m, z, row, co⟩) (pl := pl) (Nat.lt_succ_of_le hpl) ?_
          walk_at "gs"
          refine rw_pr2 (x := ⟨m, z, row, co⟩) (ln := ln) hln ?_
          rw [hbc]
          dsimp only [optN]
          walk_at "gs"
          refine rn_lenZ (by omega) ?_
          walk_at "gs"
          refine rw_neD (d := .tuple [nD pl, nD c]) (e := .tuple [nD row.length, nD 0]) rfl rfl (shp_ok (shp_wD [pl, c]) (by decide)) (shp_ok (shp_wD [row.length, 0]) (by decide)) ?_
          rw [eqv_two]
          walk_at "gs"
        · rintro G1 b ⟨rfl, rfl⟩
          by_cases hn : pl = row.length ∧ c = 0
          · rw [decide_eq_true hn]
            refine ite_F rfl ?_
            obtain ⟨rfl, rfl⟩ := hn
            refine ⟨ss, _, _, s8, s9, s10, s11, s12, ?_, by omega, rfl⟩
            have := hpa [] (.fin hbc)
            rwa [List.append_nil] at this
          · rw [decide_eq_false hn]
            refine ite_T rfl ?_
            refine ds_mid' (fun G => ∃ (i : Nat) (e : Ed) (s8 s9 s10 s11 : Sl), (eds m z row co pl ln)[i]? = some e ∧ good1 m z row co pl ln e ∧ (∀ j e', j < i → (eds m z row co pl ln)[j]? = some e' → ¬ good1 m z row co pl ln e') ∧ G = [.d (encM m), .d (zD z), .d (zD row), .d (encC co), .d (pricesD ⟨m, z, row, co⟩), .o none (ss.map encT), .d (nD pl), .d (nD ln), s8, s9, s10, s11, .d (.tuple [encT e.st, nD e.p, nD e.l])]) ?_ ?_
            · refine ds_forE' (ch := [8, 9, 10, 11]) ?_
              refine di_anyL (di_list ?_)
              refine dw_revL ?_
              walk_at "gs"
              refine ⟨⟨m, z, row, co, pl, ln⟩, ⟨O, hln⟩, rfl, ?_⟩
              rintro _ rfl
              dsimp only
              walk_at "gs"
              refine ⟨fun q G => ∃ s8 s9 s10 s11 s12, (((∀ j e', (eds m z row co pl ln).length - q ≤ j → (eds m z row co pl ln)[j]? = some e' → ¬ good1 m z row co pl ln e') ∨ ∃ i e, (eds m z row co pl ln)[i]? = some e ∧ good1 m z row co pl ln e ∧ (∀ j e', (eds m z row co pl ln).length - q ≤ j → j < i → (eds m z row co pl ln)[j]? = some e' → ¬ good1 m z row co pl ln e') ∧ s12 = .d (.tuple [encT e.st, nD e.p, nD e.l]))) ∧ G = [.d (encM m), .d (zD z), .d (zD row), .d (encC co), .d (pricesD ⟨m, z, row, co⟩), .o none (ss.map encT), .d (nD pl), .d (nD ln), s8, s9, s10, s11, s12], ⟨s8, s9, s10, s11, s12, .inl fun j e' hj he => ?_, rfl⟩, fun q G2 d3 hd3 ⟨s8, s9, s10, s11, s12, hj, hG⟩ => ?_, fun G2 ⟨s8, s9, s10, s11, s12, hj, hG⟩ => ?_⟩
              · have := (List.getElem?_eq_some_iff.mp he).1
                omega
              · subst hG
                rw [← List.map_reverse, List.getElem?_map] at hd3
                obtain ⟨e, he0, rfl⟩ := Option.map_eq_some_iff.mp hd3
                obtain ⟨hql, he⟩ := rev_get he0
                have hem := List.mem_of_getElem? he
                have hep := eds_p hem
                have hel := eds_l O hln hem
                have hep2 : e.p < row.length + 1 := by omega
                have hno : ¬ good1 m z row co pl ln e → ((∀ j e', (eds m z row co pl ln).length - (q + 1) ≤ j → (eds m z row co pl ln)[j]? = some e' → ¬ good1 m z row co pl ln e') ∨ ∃ i e, (eds m z row co pl ln)[i]? = some e ∧ good1 m z row co pl ln e ∧ (∀ j e', (eds m z row co pl ln).length - (q + 1) ≤ j → j < i → (eds m z row co pl ln)[j]? = some e' → ¬ good1 m z row co pl ln e') ∧ s12 = .d (.tuple [encT e.st, nD e.p, nD e.l])) := fun hg => by
                  rcases hj with hj | ⟨i, e1, x1, x2, x3, x4⟩
                  · left
                    intro j e' hjq hje
                    by_cases k : j = (eds m z row co pl ln).length - 1 - q
                    · subst k
                      rw [he] at hje
                      cases hje
                      exact hg
                    · exact hj j e' (by omega) hje
                  · right
                    refine ⟨i, e1, x1, x2, fun j e' hjq hji hje => ?_, x4⟩
                    by_cases k : j = (eds m z row co pl ln).length - 1 - q
                    · subst k
                      rw [he] at hje
                      cases hje
                      exact hg
                    · exact x3 j e' (by omega) hji hje
                refine dg_tup rfl (dgs_cons (dg_name (dgs_cons (dg_name (dgs_cons (dg_name (dgs_cons (dg_name (dgs_nil ?_)))))))))
                walk_at "gs"
                refine rw_pr (x := ⟨m, z, row, co⟩) (pl := e.p) hep2 ?_
                walk_at "gs"
                refine rw_pr2 (x := ⟨m, z, row, co⟩) (ln := e.l) hel ?_
                dsimp only
                cases hbe : best m z row co e.p e.l with
                | none =>
                  dsimp only [optN]
                  walk_at "gs"
                  refine ⟨_, _, _, _, s12, hno ?_, rfl⟩
                  rintro ⟨c1, g1, _⟩
                  rw [hbe] at g1
                  cases g1
                | some c1 =>
                  dsimp only [optN]
                  walk_at "gs"
                  refine rw_pr (x := ⟨m, z, row, co⟩) (pl := e.p) hep2 ?_
                  walk_at "gs"
                  refine rw_pr2 (x := ⟨m, z, row, co⟩) (ln := e.l) hel ?_
                  rw [hbe]
                  dsimp only [optN]
                  walk_at "gs"
                  refine rw_pr (x := ⟨m, z, row, co⟩) (pl := pl) (Nat.lt_succ_of_le hpl) ?_
                  walk_at "gs"
                  refine rw_pr2 (x := ⟨m, z, row, co⟩) (ln := ln) hln ?_
                  rw [hbc]
                  dsimp only [optN]
                  walk_at "gs"
                  refine ite_k (fun q2 => ?_) (fun q2 => ?_)
                  · have q2 := of_decide_eq_true q2
                    walk_at "gs"
                    refine ⟨.d (encT e.st), .d (nD e.c), .d (nD e.p), .d (nD e.l), _, .inr ⟨(eds m z row co pl ln).length - 1 - q, e, he, ⟨c1, hbe, by rw [hbc]; congr 1; omega⟩, fun j e' k1 k2 => by omega, rfl⟩, rfl⟩
                  · have q2 := of_decide_eq_false q2
                    walk_at "gs"
                    refine ⟨_, _, _, _, s12, hno ?_, rfl⟩
                    rintro ⟨c2, g1, g2⟩
                    rw [hbe] at g1
                    rw [hbc] at g2
                    cases g1
                    cases g2
                    exact q2 rfl
              · subst hG
                rw [List.length_reverse, List.length_map, Nat.sub_self] at hj
                rcases hj with hj | ⟨i, e, x1, x2, x3, rfl⟩
                · exfalso
                  obtain ⟨e, he, hg⟩ := good_ex hbc hn
                  obtain ⟨j, hjl, hje⟩ := List.mem_iff_getElem.mp he
                  exact hj j e (Nat.zero_le _) (by rw [← hje]; exact List.getElem?_eq_getElem hjl) hg
                · exact ⟨i, e, s8, s9, s10, s11, x1, x2, fun j e' h1 h2 => x3 j e' (Nat.zero_le _) h1 h2, rfl⟩
            · rintro G1 ⟨i, e, s8, s9, s10, s11, he, hg, hj, rfl⟩
              have hem := List.mem_of_getElem? he
              obtain ⟨l1, l2⟩ := good_lt d1 hpl hem hg
              have hg2 := hg
              obtain ⟨c1, g1, g2⟩ := hg2
              refine ds_seq' ?_
              walk_at "gs"
              refine rm_app (i := 5) rfl (szlt (by rw [List.length_map]; omega)) ?_
              walk_at "gs"
              refine ds_seq' ?_
              walk_at "gs"
              refine ⟨msr m z row co e.p e.l, l1, ss ++ [e.st], e.p, e.l, c1, s8, s9, s10, s11, .d (.tuple [encT e.st, nD e.p, nD e.l]), rfl, by rw [List.length_append]; show ss.length + 1 + _ ≤ _; omega, l2, eds_l O hln hem, g1, fun ss' h => ?_, by rw [List.map_append]; rfl⟩
              rw [List.append_assoc]
              refine hpa (e.st :: ss') (.step (fun k => hn ⟨k.1, ?_⟩) he hg hj h)
              have := k.2
              rw [hbc] at this
              exact Option.some.inj this
    · rintro G1 ⟨ss, s6, s7, s8, s9, s10, s11, s12, hp, hss, rfl⟩
      walk_at "gs"
      refine rw_pr (x := ⟨m, z, row, co⟩) (pl := 0) (Nat.succ_pos _) ?_
      walk_at "gs"
      refine rw_pr2 (x := ⟨m, z, row, co⟩) (ln := 0) hm1 ?_
      walk_at "gs"
      refine rn_tupL rfl ?_
      walk_at "gs"
      refine ⟨_, .inr ⟨c00, ss, hb, hp, rfl⟩, ?_⟩
      rw [hb]
      rfl
end
end K62
namespace K62
open PySem PySem.Spec PyProof.Rows L2 DL
local macro_rules | `(tactic| walk_at "st") => `(tactic| with_reducible first
  | refine pw_p ?_ | refine pw_o ?_ | refine dw_op ?_ | refine dw_un ?_ | refine dw_int ?_ | refine dw_str ?_ | refine dw_bl ?_ | refine dw_non ?_ | refine dw_ty ?_ | refine da_nil' ?_ | refine da_cons' ?_ | refine dw_sortSetT ?_ | refine dw_CB ?_ | refine dw_BM ?_ | refine dw_BM0 ?_
  | refine dw_tup ?_ | refine dw_lst ?_ | refine dw_notV ?_ | refine dw_and ?_ | refine dw_or ?_ | refine dw_if ?_ | refine dw_chain ?_ | refine dw_sl3 ?_ | refine dw_revT ?_ | refine dw_tupRg1 ?_ | refine dw_lstRg1 ?_ | refine dw_callI ?_ | refine dw_callJ ?_
  | refine dt_test ?_ | refine dt_B ?_ | refine dt_and ?_ | refine dt_or ?_ | refine dt_not ?_ | refine dt_yes ?_ | refine dt_truth ?_
  | refine ds_ret ?_ | refine ds_retN ?_ | refine ds_next ?_ | refine ds_break ?_ | refine ds_cont ?_ | refine ds_drop ?_ | refine ds_if ?_ | refine ds_set ?_
  | refine nx_nxt ?_ | refine rt_nxt ?_ | refine bk_nxt ?_ | refine ct_nxt ?_ | refine nx_lp ?_ | refine rt_lp ?_ | refine bk_lp ?_ | refine ct_lp ?_ | refine asn_d ?_ | refine asn_fr ?_ | refine rt_E0 ?_ | refine rt_E0o ?_ | refine nx_E0 ?_
  | refine dw_newK ?_ | refine dw_dInK ?_ | refine dw_dNotInK ?_ | refine dw_dGetK ?_ | refine ds_dPutK ?_ | refine dw_callH ?_
  | refine tr_b ?_ | refine tr_i ?_ | refine tr_n ?_ | refine tr_T ?_ | refine tr_L ?_
  | refine do_none ?_ | refine do_some ?_ | refine ite_t ?_ | refine ite_f ?_
  | refine rw_addI ?_ | refine rw_sub ?_ | refine rw_cmp ?_ | refine rw_eqI ?_ | refine rw_neI ?_ | refine rw_eqZ ?_ | refine rw_neZ ?_ | refine rw_eqS ?_ | refine rw_neS ?_ | refine rw_eqB ?_ | refine rw_neB ?_ | refine isN_d ?_ | refine notN_d ?_ | refine rw_isB ?_ | refine rw_notB ?_
  | refine rn_intI ?_ | refine rn_intB ?_ | refine rn_max ?_ | refine rn_min ?_ | refine rn_lenT ?_ | refine rn_lenD ?_ | refine rm_sw ?_ | refine isi_int ?_ | refine isi_bool ?_ | refine isi_str ?_ | refine isi_tuple ?_ | refine isi_list ?_ | refine rn_tupT ?_ | refine rn_listT ?_
  | refine ⟨_, rfl, ?_⟩
  | fail)
local macro_rules | `(tactic| walk_at "va") => `(tactic| first
  | ((with_reducible apply dw_var); rfl) | ((with_reducible apply dw_sl); rfl) | ((with_reducible apply dw_slK); rfl)
  | ((with_reducible apply rw_ixL); rfl; rfl) | ((with_reducible apply rw_ixT); rfl)
  | ((with_reducible apply ite_T); rfl) | ((with_reducible apply ite_F); rfl) | ((with_reducible apply tr_o); rfl)
  | refine ⟨_, rfl, szl (Nat.le_of_ble_eq_true rfl), ?_⟩
  | (with_reducible refine rw_mod (by omega) ?_)
  | (with_reducible refine rw_fdiv (by unfold CDiv; omega) ?_)
  | (with_reducible refine rw_mul (by unfold CMul; omega) ?_)
  | refine ⟨szl (Nat.le_of_ble_eq_true rfl), ?_⟩
  | refine ⟨⟨rfl, _, _, rfl⟩, ?_⟩
  | refine ⟨rfl, ?_⟩
  | rfl
  | fail)
local macro_rules | `(tactic| walk_at "go") => `(tactic| repeat' (first | walk_at "st" | (with_reducible refine ds_seq' ?_) | walk_at "va" | fail))
local macro_rules | `(tactic| walk_at "gs") => `(tactic| repeat' (first | walk_at "st" | walk_at "va" | fail))
/-! what is handed to the judges: small data -/
def SB (b : Nat) : Nat → PyData → Prop
  | 0, _ => False
  | n + 1, .tuple xs => xs.length ≤ b ∧ ∀ x ∈ xs, SB b n x
  | n + 1, .list xs => xs.length ≤ b ∧ ∀ x ∈ xs, SB b n x
  | _ + 1, .none => True
  | _ + 1, .bool _ => True
  | _ + 1, .int i => i.natAbs ≤ b
  | _ + 1, .str s => ∃ z : List Nat, s = mkS z ∧ z.length ≤ 1000 ∧ ∀ c ∈ z, c < 0x110000
  | _ + 1, .dict _ => False
theorem SB.shp {b : Nat} : ∀ {n : Nat} {d : PyData}, SB b n d → Shp n d
  | 0, _, h => h.elim
  | n + 1, .tuple xs, h => shp_tup fun x hx => (h.2 x hx).shp
  | n + 1, .list xs, h => shp_list fun x hx => (h.2 x hx).shp
  | n + 1, .none, _ => shp_none _
  | n + 1, .bool _, _ => shp_bool _ _
  | n + 1, .int _, _ => shp_int _ _
  | n + 1, .str s, h => by
    obtain ⟨z, rfl, _, hc⟩ := h
    exact shp_str _ hc
  | n + 1, .dict _, h => h.elim
open Classical in
noncomputable def bD (p : Prop) : Bool := decide p
theorem bD_t {p : Prop} (h : p) : bD p = true := by unfold bD; simp [h]
theorem bD_f {p : Prop} (h : ¬ p) : bD p = false := by unfold bD; simp [h]
theorem bD_iff {p : Prop} {b : Bool} (h : b = true ↔ p) : bD p = b := by
  cases b with
  | true => exact bD_t (h.mp rfl)
  | false => exact bD_f fun q => by have := h.mpr q; cases this
/-! steps -/
def okS (z : List Nat) (d : PyData) : Prop := ∃ s, d = encT s ∧ goodS z s
def sg (z : List Nat) : List Nat → Bool
  | [c] => decide (c ∈ z)
  | _ => false
def cN (k : List Nat) : Nat := if k = keepL then 2 else if k = turnL then 3 else if k = leaveL then 2 else if k = putL then 2 else 0
def stB (z : List Nat) : List (List Nat) → Bool
  | k :: rest => decide (cN k = rest.length + 1) && !(decide (k = turnL) && decide (rest[0]? = rest[1]?)) && rest.all (sg z)
  | [] => false
theorem sg_iff {z a : List Nat} : sg z a = true ↔ ∃ c ∈ z, a = [c] := by
  constructor
  · intro h
    match a, h with
    | [c], h => exact ⟨c, of_decide_eq_true h, rfl⟩
  · rintro ⟨c, hc, rfl⟩
    exact decide_eq_true hc
theorem okS_str {z : List Nat} {d : PyData} (h : okS z d) : ∃ ws : List (List Nat), d = .tuple (ws.map zD) ∧ 2 ≤ ws.length := by
  obtain ⟨s, rfl, _⟩ := h
  cases s with
  | keep r => exact ⟨[keepL, [r]], rfl, by simp⟩
  | turn r s => exact ⟨[turnL, [r], [s]], rfl, by simp⟩
  | leave r => exact ⟨[leaveL, [r]], rfl, by simp⟩
  | put r => exact ⟨[putL, [r]], rfl, by simp⟩
theorem zD_inj {a b : List Nat} (h : zD a = zD b) : a = b := by
  injection h with h
  exact mkS_inj.mp h
theorem zDs_inj : ∀ {a b : List (List Nat)}, a.map zD = b.map zD → a = b
  | [], [], _ => rfl
  | [], _ :: _, h => by cases h
  | _ :: _, [], h => by cases h
  | x :: a, y :: b, h => by
    injection h with h1 h2
    rw [zD_inj h1, zDs_inj h2]
theorem okS_iff {z : List Nat} {ws : List (List Nat)} : stB z ws = true ↔ okS z (.tuple (ws.map zD)) := by
  constructor
  · intro h
    cases ws with
    | nil => cases h
    | cons k rest =>
      unfold stB at h
      rw [Bool.and_eq_true, Bool.and_eq_true] at h
      obtain ⟨⟨h1, h2⟩, h3⟩ := h
      have h1 := of_decide_eq_true h1
      have h3 := List.all_eq_true.mp h3
      have one : rest.length = 1 → ∃ c ∈ z, rest = [[c]] := fun hl => by
        match rest, hl, h3 with
        | [a], _, h3 =>
          obtain ⟨c, hc, rfl⟩ := sg_iff.mp (h3 a List.mem_cons_self)
          exact ⟨c, hc, rfl⟩
      unfold cN at h1
      split at h1
      · rename_i e
        subst e
        obtain ⟨c, hc, rfl⟩ := one (by omega)
        exact ⟨.keep c, rfl, hc⟩
      · split at h1
        · rename_i e
          subst e
          match rest, h1, h2, h3 with
          | [a, b], _, h2, h3 =>
            obtain ⟨c, hc, rfl⟩ := sg_iff.mp (h3 a List.mem_cons_self)
            obtain ⟨c2, hc2, rfl⟩ := sg_iff.mp (h3 b (by simp))
            refine ⟨.turn c c2, rfl, hc, hc2, fun e => ?_⟩
            subst e
            simp at h2
        · split at h1
          · rename_i e
            subst e
            obtain ⟨c, hc, rfl⟩ := one (by omega)
            exact ⟨.leave c, rfl, hc⟩
          · split at h1
            · rename_i e
              subst e
              obtain ⟨c, hc, rfl⟩ := one (by omega)
              exact ⟨.put c, rfl, hc⟩
            · omega
  · rintro ⟨s, e, hg⟩
    cases s with
    | keep r =>
      injection e with e
      have : ws = [keepL, [r]] := zDs_inj e
      subst this
      have hg : r ∈ z := hg
      simp [stB, sg, cN, hg]
    | turn r s =>
      injection e with e
      have : ws = [turnL, [r], [s]] := zDs_inj e
      subst this
      obtain ⟨h1, h2, h3⟩ : r ∈ z ∧ s ∈ z ∧ r ≠ s := hg
      have e1 : cN turnL = 3 := by decide
      simp [stB, sg, e1, h1, h2, h3]
    | leave r =>
      injection e with e
      have : ws = [leaveL, [r]] := zDs_inj e
      subst this
      have hg : r ∈ z := hg
      have e1 : cN leaveL = 2 := by decide
      have e2 : ¬ leaveL = turnL := by decide
      simp [stB, sg, e1, e2, hg]
    | put r =>
      injection e with e
      have : ws = [putL, [r]] := zDs_inj e
      subst this
      have hg : r ∈ z := hg
      have e1 : cN putL = 2 := by decide
      have e2 : ¬ putL = turnL := by decide
      simp [stB, sg, e1, e2, hg]
theorem n21 : ¬ turnL = keepL := by decide
theorem n31 : ¬ leaveL = keepL := by decide
theorem n32 : ¬ leaveL = turnL := by decide
theorem n41 : ¬ putL = keepL := by decide
theorem n42 : ¬ putL = turnL := by decide
theorem n43 : ¬ putL = leaveL := by decide
def ctab : List (Key × PyData) := [(.inr (mkS keepL), .int 2), (.inr (mkS turnL), .int 3), (.inr (mkS leaveL), .int 2), (.inr (mkS putL), .int 2)]
theorem ctab_merge : mergeG [] ctab = ctab := by rfl
theorem lkG_ctab (k : List Nat) : lkG ctab (.inr (mkS k) : Key) = if k = keepL then some (.int 2) else if k = turnL then some (.int 3) else if k = leaveL then some (.int 2) else if k = putL then some (.int 2) else none := by
  have q : ∀ a : List Nat, decide ((Sum.inr (mkS a) : Key) = .inr (mkS k)) = decide (k = a) := fun a => decide_eq_decide.mpr ⟨fun h => by
    injection h with h
    exact (mkS_inj.mp h).symm, fun h => by rw [h]⟩
  unfold lkG ctab
  simp only [List.find?_cons, q]
  by_cases h1 : k = keepL
  · simp [n21, n31, n32, n41, n42, n43, h1]
  · by_cases h2 : k = turnL
    · simp [n21, n31, n32, n41, n42, n43, h1, h2]
    · by_cases h3 : k = leaveL
      · simp [n21, n31, n32, n41, n42, n43, h1, h2, h3]
      · by_cases h4 : k = putL
        · simp [n21, n31, n32, n41, n42, n43, h1, h2, h3, h4]
        · simp [n21, n31, n32, n41, n42, n43, h1, h2, h3, h4]
theorem eqv_ctab (k : List Nat) (n : Nat) : PyData.eqv ((lkG ctab (.inr (mkS k) : Key)).getD .none) (.int (n : Int)) = (decide (cN k = n) && decide (cN k ≠ 0)) := by
  rw [lkG_ctab]
  unfold cN
  have two : PyData.eqv (.int 2) (.int (n : Int)) = decide (2 = n) := eqv_iD 2 n
  have three : PyData.eqv (.int 3) (.int (n : Int)) = decide (3 = n) := eqv_iD 3 n
  by_cases h1 : k = keepL
  · simp [n21, n31, n32, n41, n42, n43, h1, two]
  · by_cases h2 : k = turnL
    · simp [n21, n31, n32, n41, n42, n43, h1, h2, three]
    · by_cases h3 : k = leaveL
      · simp [n21, n31, n32, n41, n42, n43, h1, h2, h3, two]
      · by_cases h4 : k = putL
        · simp [n21, n31, n32, n41, n42, n43, h1, h2, h3, h4, two]
        · simp [n21, n31, n32, n41, n42, n43, h1, h2, h3, h4, PyData.eqv]
theorem eqv_ctab0 (k : List Nat) (n : Nat) : PyData.eqv (.int (n : Int)) ((lkG ctab (.inr (mkS k) : Key)).getD (.int 0)) = decide (n = cN k) := by
  rw [lkG_ctab]
  unfold cN
  have two : PyData.eqv (.int (n : Int)) (.int 2) = decide (n = 2) := eqv_iD n 2
  have three : PyData.eqv (.int (n : Int)) (.int 3) = decide (n = 3) := eqv_iD n 3
  have zero : PyData.eqv (.int (n : Int)) (.int 0) = decide (n = 0) := eqv_iD n 0
  by_cases h1 : k = keepL
  · simp [n21, n31, n32, n41, n42, n43, h1, two]
  · by_cases h2 : k = turnL
    · simp [n21, n31, n32, n41, n42, n43, h1, h2, three]
    · by_cases h3 : k = leaveL
      · simp [n21, n31, n32, n41, n42, n43, h1, h2, h3, two]
      · by_cases h4 : k = putL
        · simp [n21, n31, n32, n41, n42, n43, h1, h2, h3, h4, two]
        · simp [n21, n31, n32, n41, n42, n43, h1, h2, h3, h4, zero]
/-- all are texts -/
theorem all_str : ∀ {xs : List PyData}, (∀ x ∈ xs, isiD x "str" = true) → ∃ ws : List (List Nat), xs = ws.map zD
  | [], _ => ⟨[], rfl⟩
  | x :: xs, h => by
    obtain ⟨w, rfl⟩ := isi_s (h x List.mem_cons_self)
    obtain ⟨ws, rfl⟩ := all_str (xs := xs) fun y hy => h y (List.mem_cons_of_mem _ hy)
    exact ⟨w :: ws, rfl⟩
theorem SB.strs {b n : Nat} {ws : List (List Nat)} (h : SB b (n + 1) (.tuple (ws.map zD))) : ws.length ≤ b ∧ ∀ w ∈ ws, w.length ≤ 1000 := by
  obtain ⟨h1, h2⟩ := h
  rw [List.length_map] at h1
  refine ⟨h1, fun w hw => ?_⟩
  have := h2 (zD w) (List.mem_map.mpr ⟨w, hw, rfl⟩)
  cases n with
  | zero => exact this.elim
  | succ n =>
    obtain ⟨z, e, hl, _⟩ := this
    rw [mkS_inj.mp e]
    exact hl
abbrev argIs (x : List Nat × PyData) : List PyData := [zD x.1, x.2]
def preIs (x : List Nat × PyData) : Prop := x.1.length ≤ 4 ∧ ∃ n, n ≤ 20 ∧ SB 20000 n x.2
abbrev spIs (K : PySem.W.Frag) := spI K argIs preIs (fun x r => r = .p (.d (.bool (bD (okS x.1 x.2)))))
section
variable {P : Program} {w : World} {K : PySem.W.Frag} {mg : Str → Option Value} {base : Heap} {a : Ad}
theorem ok_is_step (T : Tx K mg a) : FnOk P w K mg base CX0 1 a.f6 a.d6 ["signs", "step"] (spIs K) := by
  refine fnI T.F_is_step sc_is_step (fun x => ⟨rfl, by decide⟩) fun cdv A outer s H E hr => ⟨_, (pss_cons (ps_if (PW.pt (pw_or (pt_not (kTRUTH K rfl (pe_callB (kISI K rfl) (by rfl) T.z_isinstance (by decide +kernel) (pa_cons (pv 1) (pa_cons (pe_bltn (v := .ty "tuple") (by rfl) T.z_tuple (by decide +kernel) rfl) pa_nil))) (by intro _; rfl))) (pw_or (pt_cmpR op_lt (pe_callB (kLEN K rfl) (by rfl) T.z_len (by decide +kernel) (pa_cons (pv 1) pa_nil)) pe_int (nomark _)) (pw_or1 (pt_cmpR (kIN K rfl (hu65 hr)) pe_bl (pe_lc (own := [("part", 3)]) (g := gName 3) (by rfl) sc_is_step.nd (kANY K rfl (pv 1)) (blkOk_by (own := [("part", 3)]) (N := ["signs", "step", "counts", "part", "sign"]) (sc := defScope s_is_step) (by decide +kernel)) (fun _ _ _ _ _ => (pg_name (i := 3) sc_is_step.nd rfl (by first | exact Or.inl rfl | exact Or.inr rfl))) (fun _ _ _ _ _ => pts_nil) (fun _ _ _ _ _ => (pe_callB (kISI K rfl) (by rfl) T.z_isinstance (by decide +kernel) (pa_cons (pv 3) (pa_cons (pe_bltn (v := .ty "str") (by rfl) T.z_str (by decide +kernel) rfl) pa_nil))))) (by rfl)))))) (pss_one (ps_ret pe_bl)) pss_nil) (pss_cons (ps_set (i := 2) sc_is_step.nd rfl (Or.inl rfl) (pe_disp (pps_cons (pe_strM [107, 101, 101, 112] rfl) pe_int (pps_cons (pe_strM [116, 117, 114, 110] rfl) pe_int (pps_cons (pe_strM [108, 101, 97, 118, 101] rfl) pe_int (pps_cons (pe_strM [112, 117, 116] rfl) pe_int pps_nil)))) (by rfl) (by rfl) (by simp) (by decide))) (pss_cons (ps_if (PW.pt (pw_or (pt_cmpR (kNE K rfl hr.units) (pe_dget1 (hu_of hr) (pv 2) (pe_ix (kIX K rfl) (pv 1) pe_int (fun _ _ => rfl)) ⟨rfl, rfl, rfl, rfl⟩) (pe_callB (kLEN K rfl) (by rfl) T.z_len (by decide +kernel) (pa_cons (pv 1) pa_nil)) (nomark _)) (pw_or1 (PW.pt (pw_and (pt_cmpR (kEQ K rfl hr.units) (pe_ix (kIX K rfl) (pv 1) pe_int (fun _ _ => rfl)) (pe_strM [116, 117, 114, 110] rfl) (nomark _)) (pw_and1 (pt_cmpR (kEQ K rfl hr.units) (pe_ix (kIX K rfl) (pv 1) pe_int (fun _ _ => rfl)) (pe_ix (kIX K rfl) (pv 1) pe_int (fun _ _ => rfl)) (nomark _)))))))) (pss_one (ps_ret pe_bl)) pss_nil) (pss_one (ps_ret (pe_cmpR (kNI K rfl (hu65 hr)) pe_bl (pe_lc (own := [("sign", 4)]) (g := gName 4) (by rfl) sc_is_step.nd (kANY K rfl (pe_slice (kSLC K rfl) (pv 1) (po_some pe_int) po_none)) (blkOk_by (own := [("sign", 4)]) (N := ["signs", "step", "counts", "part", "sign"]) (sc := defScope s_is_step) (by decide +kernel)) (fun _ _ _ _ _ => (pg_name (i := 4) sc_is_step.nd rfl (by first | exact Or.inl rfl | exact Or.inr rfl))) (fun _ _ _ _ _ => pts_nil) (fun _ _ _ _ _ => (pe_and (pe_cmpR (kEQ K rfl hr.units) (pe_callB (kLEN K rfl) (by rfl) T.z_len (by decide +kernel) (pa_cons (pv 4) pa_nil)) pe_int (nomark _)) (pe_one (pe_cmpR (kIN K rfl (hu65 hr)) (pv 4) (pv 0) (by rfl)))))) (by rfl))))))), ?_⟩
  rintro ⟨z, d⟩ ⟨hz, n, hn, hd⟩ B
  dsimp only [argIs] at *
  refine ds_mid' (fun G => ∃ (k : List Nat) (rest : List (List Nat)), d = .tuple ((k :: rest).map zD) ∧ 1 ≤ rest.length ∧ G = [.d (zD z), .d d, .un, .un, .un]) ?_ ?_
  · walk_at "gs"
    refine ite_k (fun c => ?_) (fun c => ?_)
    · walk_at "gs"
      rw [bD_f]
      intro h
      obtain ⟨ws, rfl, _⟩ := okS_str h
      cases c
    · obtain ⟨xs, rfl⟩ := isi_t (not_t c)
      cases n with
      | zero => exact hd.elim
      | succ n =>
      have hxl : xs.length ≤ 20000 := hd.1
      walk_at "gs"
      refine ite_k (fun c2 => ?_) (fun c2 => ?_)
      · have c2 := of_decide_eq_true c2
        walk_at "gs"
        rw [bD_f]
        intro h
        obtain ⟨ws, e, h2⟩ := okS_str h
        injection e with e
        rw [e, List.length_map] at c2
        omega
      · have c2 := of_decide_eq_false c2
        walk_at "gs"
        refine dw_lcM xs id (fun x => .bool (isiD x "str")) ?_
        refine di_anyT (di_tup ?_)
        walk_at "gs"
        refine ⟨(List.map_id xs).symm, szl (by omega), fun B' x hx => ?_, ?_⟩
        · walk_at "gs"
        · walk_at "gs"
          refine rw_inL rfl rfl (shp_ok (shp_bool 0 _) (by decide)) (shp_ok (shp_list fun x hx => by
            obtain ⟨k, _, rfl⟩ := List.mem_map.mp hx
            exact shp_bool 0 _) (by decide)) ?_
          rw [any_false]
          walk_at "gs"
          refine ite_k (fun c3 => ?_) (fun c3 => ?_)
          · walk_at "gs"
            rw [bD_f]
            intro h
            obtain ⟨ws, e, h2⟩ := okS_str h
            injection e with e
            obtain ⟨x, hx, hx2⟩ := List.any_eq_true.mp c3
            rw [e] at hx
            obtain ⟨w, _, rfl⟩ := List.mem_map.mp hx
            cases hx2
          · obtain ⟨ws, rfl⟩ := all_str (xs := xs) fun x hx => by
              cases q : isiD x "str" with
              | true => rfl
              | false =>
                have : (xs.any fun x => !isiD x "str") = true := List.any_eq_true.mpr ⟨x, hx, by rw [q]; rfl⟩
                rw [this] at c3
                cases c3
            walk_at "gs"
            rw [List.length_map] at c2
            cases ws with
            | nil => exact absurd (by decide : ((([] : List (List Nat)).length : Nat) : Int) < 2) c2
            | cons k rest => exact ⟨k, rest, rfl, by rw [List.length_cons] at c2; omega, rfl⟩
  · rintro G1 ⟨k, rest, rfl, hr1, rfl⟩
    cases n with
    | zero => exact hd.elim
    | succ n =>
    obtain ⟨hwl, hws⟩ := hd.strs
    rw [bD_iff okS_iff]
    refine ds_mid' (fun G => G = [.d (zD z), .d (.tuple ((k :: rest).map zD)), .k none ctab, .un, .un]) ?_ ?_
    · walk_at "gs"
      refine dw_dispN fun B' => dpp_cons ?_
      walk_at "gs"
      refine ⟨.inr (mkS keepL), _, rfl, rfl, dpp_cons ?_⟩
      walk_at "gs"
      refine ⟨.inr (mkS turnL), _, rfl, rfl, dpp_cons ?_⟩
      walk_at "gs"
      refine ⟨.inr (mkS leaveL), _, rfl, rfl, dpp_cons ?_⟩
      walk_at "gs"
      refine ⟨.inr (mkS putL), _, rfl, rfl, dpp_nil ⟨by decide, ?_⟩⟩
      refine asn_fr (nx_nxt ?_)
      show _ = [Sl.d (zD z), Sl.d (.tuple ((k :: rest).map zD)), Sl.k none ctab, Sl.un, Sl.un]
      rw [← ctab_merge]
      rfl
    · rintro G1 rfl
      refine ds_mid' (fun G => cN k = rest.length + 1 ∧ (decide (k = turnL) && decide (rest[0]? = rest[1]?)) = false ∧ G = [.d (zD z), .d (.tuple ((k :: rest).map zD)), .k none ctab, .un, .un]) ?_ ?_
      · refine ds_if ?_
        refine dt_or (dt_test (dw_op (dw_get1K ?_)))
        walk_at "gs"
        refine ⟨⟨_, ctab, rfl⟩, ?_⟩
        walk_at "gs"
        refine rw_ixT (ati (i := 0) (xs := k :: rest) (f := zD) rfl) ?_
        walk_at "gs"
        refine ⟨none, .inr (mkS k), ctab, rfl, rfl, ?_⟩
        walk_at "gs"
        refine rw_neD rfl rfl (shp_ok (n := 1) (by
          rw [lkG_ctab]
          (repeat' split) <;> first | exact shp_int _ _ | exact shp_none _) (by decide)) (shp_ok (shp_int 0 _) (by decide)) ?_
        rw [show ((((k :: rest).map zD).length : Nat) : Int) = ((rest.length + 1 : Nat) : Int) by rw [List.length_map, List.length_cons], eqv_ctab]
        walk_at "gs"
        refine ite_k (fun c => ?_) (fun c => ?_)
        · walk_at "gs"
          have : stB z (k :: rest) = false := by
            show (decide (cN k = rest.length + 1) && !(decide (k = turnL) && decide (rest[0]? = rest[1]?)) && rest.all (sg z)) = _
            have c := not_t (b := !(decide (cN k = rest.length + 1) && decide (cN k ≠ 0))) (by rw [c]; rfl)
            have : decide (cN k = rest.length + 1) = false := by
              cases q : decide (cN k = rest.length + 1) with
              | false => rfl
              | true =>
                rw [q] at c
                have q := of_decide_eq_true q
                rw [decide_eq_true (show cN k ≠ 0 by omega)] at c
                cases c
            rw [this]
            rfl
          rw [this]
        · have c := not_t c
          rw [Bool.and_eq_true] at c
          have hk := of_decide_eq_true c.1
          walk_at "gs"
          refine rw_ixT (ati (i := 0) (xs := k :: rest) (f := zD) rfl) ?_
          walk_at "gs"
          refine ite_k (fun c2 => ?_) (fun c2 => ?_)
          · have c2 : k = turnL := of_decide_eq_true c2
            subst c2
            have e3 : cN turnL = 3 := by decide
            obtain ⟨x, y, rfl⟩ : ∃ x y, rest = [x, y] := by
              match rest, hk with
              | [x, y], _ => exact ⟨x, y, rfl⟩
              | [], hk => rw [e3] at hk; simp at hk
              | [_], hk => rw [e3] at hk; simp at hk
              | _ :: _ :: _ :: _, hk => rw [e3] at hk; simp at hk
            walk_at "gs"
            refine ite_k (fun c3 => ?_) (fun c3 => ?_)
            · have c3 : x = y := of_decide_eq_true c3
              subst c3
              walk_at "gs"
              have : stB z [turnL, x, x] = false := by simp [stB]
              rw [this]
            · have c3 := of_decide_eq_false c3
              walk_at "gs"
              exact ⟨by simp [c3], rfl⟩
          · have c2 : ¬ k = turnL := of_decide_eq_false c2
            walk_at "gs"
            exact ⟨hk, by rw [decide_eq_false c2]; rfl, rfl⟩
      · rintro G1 ⟨h1, h2, rfl⟩
        walk_at "gs"
        refine dw_lcM rest zD (fun w => .bool (sg z w)) ?_
        refine di_anyT (di_tup ?_)
        walk_at "gs"
        refine rs_Tfrom (n := 1) ?_
        walk_at "gs"
        refine ⟨szl (by rw [List.length_cons] at hwl; omega), fun B' w hw => ?_, ?_⟩
        · have hwl := hws w (List.mem_cons_of_mem _ hw)
          walk_at "gs"
          refine rn_lenZ (by omega) ?_
          walk_at "gs"
          refine ite_k (fun c => ?_) (fun c => ?_)
          · have c := of_decide_eq_true c
            match w, c with
            | [q], _ =>
              walk_at "gs"
              refine rw_inS ?_
              walk_at "gs"
          · have c := of_decide_eq_false c
            have : sg z w = false := by
              match w, c with
              | [], _ => rfl
              | [q], c => exact absurd rfl c
              | _ :: _ :: _, _ => rfl
            walk_at "gs"
            rw [this]
            exact ⟨rfl, rfl⟩
        · walk_at "gs"
          refine rw_niL rfl rfl (shp_ok (shp_bool 0 _) (by decide)) (shp_ok (shp_list fun x hx => by
            obtain ⟨k, _, rfl⟩ := List.mem_map.mp hx
            exact shp_bool 0 _) (by decide)) ?_
          rw [any_false]
          walk_at "gs"
          have : stB z (k :: rest) = !(rest.any fun x => !sg z x) := by
            show (decide (cN k = rest.length + 1) && !(decide (k = turnL) && decide (rest[0]? = rest[1]?)) && rest.all (sg z)) = _
            rw [decide_eq_true h1, h2, ← List.not_all_eq_any_not, Bool.not_not]
            rfl
          rw [this]
theorem ok_law_is_step (T : Tx K mg a) : FnOk P w K mg base CX0 1 a.f21 a.d21 ["signs", "step"] (spI K argIs (fun x => preIs x ∧ x.2 ≠ .tuple []) (fun x r => r = .p (.d (.bool (bD (okS x.1 x.2)))))) := by
  refine fnI T.F_law_is_step sc_law_is_step (fun x => ⟨rfl, by decide⟩) fun cdv A outer s H E hr => ⟨_, (pss_cons (ps_if (PW.pt (pw_or (pt_not (kTRUTH K rfl (pe_callB (kISI K rfl) (by rfl) T.z_isinstance (by decide +kernel) (pa_cons (pv 1) (pa_cons (pe_bltn (v := .ty "tuple") (by rfl) T.z_tuple (by decide +kernel) rfl) pa_nil))) (by intro _; rfl))) (pw_or1 (pt_cmpR (kNE K rfl hr.units) (pe_lc (own := [("one", 2)]) (g := gName 2) (by rfl) sc_law_is_step.nd (kANY K rfl (pv 1)) (blkOk_by (own := [("one", 2)]) (N := ["signs", "step", "one", "sign"]) (sc := defScope s_law_is_step) (by decide +kernel)) (fun _ _ _ _ _ => (pg_name (i := 2) sc_law_is_step.nd rfl (by first | exact Or.inl rfl | exact Or.inr rfl))) (fun _ _ _ _ _ => (pts_one (pt_not (kTRUTH K rfl (pe_callB (kISI K rfl) (by rfl) T.z_isinstance (by decide +kernel) (pa_cons (pv 2) (pa_cons (pe_bltn (v := .ty "str") (by rfl) T.z_str (by decide +kernel) rfl) pa_nil))) (by intro _; rfl))))) (fun _ _ _ _ _ => (pv 2))) (pe_lst pa_nil) (nomark _))))) (pss_one (ps_ret pe_bl)) pss_nil) (pss_cons (ps_if (pt_cmpR (kNE K rfl hr.units) (pe_callB (kLEN K rfl) (by rfl) T.z_len (by decide +kernel) (pa_cons (pv 1) pa_nil)) (pe_dget2 (hu_of hr) (pe_disp (pps_cons (pe_strM [107, 101, 101, 112] rfl) pe_int (pps_cons (pe_strM [116, 117, 114, 110] rfl) pe_int (pps_cons (pe_strM [108, 101, 97, 118, 101] rfl) pe_int (pps_cons (pe_strM [112, 117, 116] rfl) pe_int pps_nil)))) (by rfl) (by rfl) (by simp) (by decide)) (pe_ix (kIX K rfl) (pe_op (kADD K rfl) (pv 1) (pe_tup (pa_cons (pe_strM [] rfl) pa_nil))) pe_int (fun _ _ => rfl)) pe_int ⟨rfl, rfl, rfl, rfl⟩) (nomark _)) (pss_one (ps_ret pe_bl)) pss_nil) (pss_cons (ps_if (pt_cmpR (kNE K rfl hr.units) (pe_lc (own := [("sign", 3)]) (g := gName 3) (by rfl) sc_law_is_step.nd (kANY K rfl (pe_slice (kSLC K rfl) (pv 1) (po_some pe_int) po_none)) (blkOk_by (own := [("sign", 3)]) (N := ["signs", "step", "one", "sign"]) (sc := defScope s_law_is_step) (by decide +kernel)) (fun _ _ _ _ _ => (pg_name (i := 3) sc_law_is_step.nd rfl (by first | exact Or.inl rfl | exact Or.inr rfl))) (fun _ _ _ _ _ => (pts_one (PW.pt (pw_or (pt_cmpR (kNE K rfl hr.units) (pe_callB (kLEN K rfl) (by rfl) T.z_len (by decide +kernel) (pa_cons (pv 3) pa_nil)) pe_int (nomark _)) (pw_or1 (pt_cmpR (kNI K rfl (hu65 hr)) (pv 3) (pv 0) (by rfl))))))) (fun _ _ _ _ _ => (pv 3))) (pe_lst pa_nil) (nomark _)) (pss_one (ps_ret pe_bl)) pss_nil) (pss_one (ps_ret (pe_or (pe_cmpR (kNE K rfl hr.units) (pe_ix (kIX K rfl) (pv 1) pe_int (fun _ _ => rfl)) (pe_strM [116, 117, 114, 110] rfl) (nomark _)) (pe_one (pe_cmpR (kNE K rfl hr.units) (pe_ix (kIX K rfl) (pv 1) pe_int (fun _ _ => rfl)) (pe_ix (kIX K rfl) (pv 1) pe_int (fun _ _ => rfl)) (nomark _))))))))), ?_⟩
  rintro ⟨z, d⟩ ⟨⟨hz, n, hn, hd⟩, hne⟩ B
  dsimp only [argIs] at *
  refine ds_mid' (fun G => ∃ (k : List Nat) (rest : List (List Nat)), d = .tuple ((k :: rest).map zD) ∧ G = [.d (zD z), .d d, .un, .un]) ?_ ?_
  · walk_at "gs"
    refine ite_k (fun c => ?_) (fun c => ?_)
    · walk_at "gs"
      rw [bD_f]
      intro h
      obtain ⟨ws, rfl, _⟩ := okS_str h
      cases c
    · obtain ⟨xs, rfl⟩ := isi_t (not_t c)
      cases n with
      | zero => exact hd.elim
      | succ n =>
      have hxl : xs.length ≤ 20000 := hd.1
      walk_at "gs"
      refine dw_lcF xs id (fun x => !isiD x "str") id ?_
      refine di_anyT (di_tup ?_)
      walk_at "gs"
      refine ⟨(List.map_id xs).symm, szl (by omega), fun B' x hx => ?_, ?_⟩
      · walk_at "gs"
        refine fun _ => ?_
        walk_at "gs"
      · walk_at "gs"
        refine rw_neF (fun x hx => shp_mono (hd.2 x hx).shp (by omega)) ?_
        walk_at "gs"
        refine ite_k (fun c3 => ?_) (fun c3 => ?_)
        · walk_at "gs"
          rw [bD_f]
          intro h
          obtain ⟨ws, e, h2⟩ := okS_str h
          injection e with e
          obtain ⟨x, hx, hx2⟩ := List.any_eq_true.mp c3
          rw [e] at hx
          obtain ⟨w, _, rfl⟩ := List.mem_map.mp hx
          cases hx2
        · obtain ⟨ws, rfl⟩ := all_str (xs := xs) fun x hx => by
            cases q : isiD x "str" with
            | true => rfl
            | false =>
              have : (xs.any fun x => !isiD x "str") = true := List.any_eq_true.mpr ⟨x, hx, by rw [q]; rfl⟩
              rw [this] at c3
              cases c3
          walk_at "gs"
          cases ws with
          | nil => exact absurd rfl hne
          | cons k rest => exact ⟨k, rest, rfl, rfl⟩
  · rintro G1 ⟨k, rest, rfl, rfl⟩
    cases n with
    | zero => exact hd.elim
    | succ n =>
    obtain ⟨hwl, hws⟩ := hd.strs
    rw [bD_iff okS_iff]
    refine ds_mid' (fun G => cN k = rest.length + 1 ∧ G = [.d (zD z), .d (.tuple ((k :: rest).map zD)), .un, .un]) ?_ ?_
    · refine ds_if (dt_test ?_)
      walk_at "gs"
      refine dw_get2F ?_
      refine dw_dispN fun B' => dpp_cons ?_
      walk_at "gs"
      refine ⟨.inr (mkS keepL), _, rfl, rfl, dpp_cons ?_⟩
      walk_at "gs"
      refine ⟨.inr (mkS turnL), _, rfl, rfl, dpp_cons ?_⟩
      walk_at "gs"
      refine ⟨.inr (mkS leaveL), _, rfl, rfl, dpp_cons ?_⟩
      walk_at "gs"
      refine ⟨.inr (mkS putL), _, rfl, rfl, dpp_nil ⟨by decide, ⟨ctab, congrArg (fun k => Rs.fr (.k none k)) ctab_merge, fun B' => ?_⟩⟩⟩
      walk_at "gs"
      refine rw_addT (szl (by rw [List.length_map]; show (k :: rest).length + 1 ≤ _; omega)) ?_
      walk_at "gs"
      refine rw_ixT (d := zD k) (show atI (((k :: rest).map zD) ++ [zD []]) ((0 : Nat) : Int) = some (zD k) from atn rfl) ?_
      walk_at "gs"
      refine ⟨.inr (mkS k), _, rfl, rfl, ?_⟩
      walk_at "gs"
      refine rw_neD rfl rfl (shp_ok (shp_int 0 _) (by decide)) (shp_ok (n := 1) (by
        rw [lkG_ctab]
        (repeat' split) <;> exact shp_int _ _) (by decide)) ?_
      rw [show ((((k :: rest).map zD).length : Nat) : Int) = ((rest.length + 1 : Nat) : Int) by rw [List.length_map, List.length_cons], eqv_ctab0]
      walk_at "gs"
      refine ite_k (fun c => ?_) (fun c => ?_)
      · walk_at "gs"
        have : stB z (k :: rest) = false := by
          show (decide (cN k = rest.length + 1) && !(decide (k = turnL) && decide (rest[0]? = rest[1]?)) && rest.all (sg z)) = _
          have c := of_decide_eq_false (not_f c)
          rw [decide_eq_false (fun e => c e.symm)]
          rfl
        rw [this]
      · walk_at "gs"
        have c := of_decide_eq_true (not_t c)
        exact ⟨c.symm, rfl⟩
    · rintro G1 ⟨h1, rfl⟩
      refine ds_mid' (fun G => (rest.all (sg z)) = true ∧ G = [.d (zD z), .d (.tuple ((k :: rest).map zD)), .un, .un]) ?_ ?_
      · walk_at "gs"
        refine dw_lcF rest zD (fun w => !sg z w) zD ?_
        refine di_anyT (di_tup ?_)
        walk_at "gs"
        refine rs_Tfrom (n := 1) ?_
        walk_at "gs"
        refine ⟨szl (by rw [List.length_cons] at hwl; omega), fun B' w hw => ?_, ?_⟩
        · have hwl := hws w (List.mem_cons_of_mem _ hw)
          walk_at "gs"
          refine rn_lenZ (by omega) ?_
          walk_at "gs"
          refine ite_k (fun c => ?_) (fun c => ?_)
          · have c := of_decide_eq_false (not_f c)
            have : sg z w = false := by
              match w, c with
              | [], _ => rfl
              | [q], c => exact absurd rfl c
              | _ :: _ :: _, _ => rfl
            refine ⟨by rw [this]; rfl, rfl, fun _ => ?_⟩
            walk_at "gs"
          · have c := of_decide_eq_true (not_t c)
            match w, c with
            | [q], _ =>
              walk_at "gs"
              refine rw_niS ?_
              walk_at "gs"
              refine fun _ => ?_
              walk_at "gs"
        · walk_at "gs"
          refine rw_neF (fun x hx => ?_) ?_
          · have := hd.2 (zD x) (List.mem_map.mpr ⟨x, List.mem_cons_of_mem _ hx, rfl⟩)
            exact shp_mono this.shp (by omega)
          walk_at "gs"
          rw [← List.not_all_eq_any_not]
          refine ite_k (fun c => ?_) (fun c => ?_)
          · walk_at "gs"
            have c := not_f c
            have : stB z (k :: rest) = false := by
              show (decide (cN k = rest.length + 1) && !(decide (k = turnL) && decide (rest[0]? = rest[1]?)) && rest.all (sg z)) = _
              rw [c, Bool.and_false]
            rw [this]
          · walk_at "gs"
            exact ⟨not_t c, rfl⟩
      · rintro G1 ⟨h2, rfl⟩
        have e : stB z (k :: rest) = !(decide (k = turnL) && decide (rest[0]? = rest[1]?)) := by
          show (decide (cN k = rest.length + 1) && !(decide (k = turnL) && decide (rest[0]? = rest[1]?)) && rest.all (sg z)) = _
          rw [decide_eq_true h1, h2, Bool.and_true, Bool.true_and]
        rw [e]
        walk_at "gs"
        refine rw_ixT (ati (i := 0) (xs := k :: rest) (f := zD) rfl) ?_
        walk_at "gs"
        refine ite_k (fun c => ?_) (fun c => ?_)
        · have c : ¬ k = turnL := of_decide_eq_false (not_f c)
          walk_at "gs"
          rw [decide_eq_false c]
          rfl
        · have c : k = turnL := of_decide_eq_true (not_t c)
          subst c
          have e3 : cN turnL = 3 := by decide
          obtain ⟨x, y, rfl⟩ : ∃ x y, rest = [x, y] := by
            match rest, h1 with
            | [x, y], _ => exact ⟨x, y, rfl⟩
            | [], hk => rw [e3] at hk; simp at hk
            | [_], hk => rw [e3] at hk; simp at hk
            | _ :: _ :: _ :: _, hk => rw [e3] at hk; simp at hk
          walk_at "gs"
          rw [decide_eq_true rfl]
          simp
end
end K62
namespace K62
open PySem PySem.Spec PyProof.Rows L2 DL
local macro_rules | `(tactic| walk_at "st") => `(tactic| with_reducible first
  | refine pw_p ?_ | refine pw_o ?_ | refine dw_op ?_ | refine dw_un ?_ | refine dw_int ?_ | refine dw_str ?_ | refine dw_bl ?_ | refine dw_non ?_ | refine dw_ty ?_ | refine da_nil' ?_ | refine da_cons' ?_ | refine dw_sortSetT ?_ | refine dw_CB ?_ | refine dw_BM ?_ | refine dw_BM0 ?_
  | refine dw_tup ?_ | refine dw_lst ?_ | refine dw_notV ?_ | refine dw_and ?_ | refine dw_or ?_ | refine dw_if ?_ | refine dw_chain ?_ | refine dw_sl3 ?_ | refine dw_revT ?_ | refine dw_tupRg1 ?_ | refine dw_lstRg1 ?_ | refine dw_callI ?_ | refine dw_callJ ?_
  | refine dt_test ?_ | refine dt_B ?_ | refine dt_and ?_ | refine dt_or ?_ | refine dt_not ?_ | refine dt_yes ?_ | refine dt_truth ?_
  | refine ds_ret ?_ | refine ds_retN ?_ | refine ds_next ?_ | refine ds_break ?_ | refine ds_cont ?_ | refine ds_drop ?_ | refine ds_if ?_ | refine ds_set ?_
  | refine nx_nxt ?_ | refine rt_nxt ?_ | refine bk_nxt ?_ | refine ct_nxt ?_ | refine nx_lp ?_ | refine rt_lp ?_ | refine bk_lp ?_ | refine ct_lp ?_ | refine asn_d ?_ | refine asn_fr ?_ | refine rt_E0 ?_ | refine rt_E0o ?_ | refine nx_E0 ?_
  | refine dw_newK ?_ | refine dw_dInK ?_ | refine dw_dNotInK ?_ | refine dw_dGetK ?_ | refine ds_dPutK ?_ | refine dw_callH ?_
  | refine tr_b ?_ | refine tr_i ?_ | refine tr_n ?_ | refine tr_T ?_ | refine tr_L ?_
  | refine do_none ?_ | refine do_some ?_ | refine ite_t ?_ | refine ite_f ?_
  | refine rw_addI ?_ | refine rw_sub ?_ | refine rw_cmp ?_ | refine rw_eqI ?_ | refine rw_neI ?_ | refine rw_eqZ ?_ | refine rw_neZ ?_ | refine rw_eqS ?_ | refine rw_neS ?_ | refine rw_eqB ?_ | refine rw_neB ?_ | refine isN_d ?_ | refine notN_d ?_ | refine rw_isB ?_ | refine rw_notB ?_
  | refine rn_intI ?_ | refine rn_intB ?_ | refine rn_max ?_ | refine rn_min ?_ | refine rn_lenT ?_ | refine rn_lenD ?_ | refine rm_sw ?_ | refine isi_int ?_ | refine isi_bool ?_ | refine isi_str ?_ | refine isi_tuple ?_ | refine isi_list ?_ | refine rn_tupT ?_ | refine rn_listT ?_
  | refine ⟨_, rfl, ?_⟩
  | fail)
local macro_rules | `(tactic| walk_at "va") => `(tactic| first
  | ((with_reducible apply dw_var); rfl) | ((with_reducible apply dw_sl); rfl) | ((with_reducible apply dw_slK); rfl)
  | ((with_reducible apply rw_ixL); rfl; rfl) | ((with_reducible apply rw_ixT); rfl)
  | ((with_reducible apply ite_T); rfl) | ((with_reducible apply ite_F); rfl) | ((with_reducible apply tr_o); rfl)
  | refine ⟨_, rfl, szl (Nat.le_of_ble_eq_true rfl), ?_⟩
  | (with_reducible refine rw_mod (by omega) ?_)
  | (with_reducible refine rw_fdiv (by unfold CDiv; omega) ?_)
  | (with_reducible refine rw_mul (by unfold CMul; omega) ?_)
  | refine ⟨szl (Nat.le_of_ble_eq_true rfl), ?_⟩
  | refine ⟨⟨rfl, _, _, rfl⟩, ?_⟩
  | refine ⟨rfl, ?_⟩
  | rfl
  | fail)
local macro_rules | `(tactic| walk_at "go") => `(tactic| repeat' (first | walk_at "st" | (with_reducible refine ds_seq' ?_) | walk_at "va" | fail))
local macro_rules | `(tactic| walk_at "gs") => `(tactic| repeat' (first | walk_at "st" | walk_at "va" | fail))
/-! prices that are told -/
abbrev encR (r : List (Option Nat)) : PyData := .tuple (r.map optN)
def okM (m : Mach) (z row : List Nat) (co : Co) (M : Mat) : Prop := Dim M (row.length + 1) m.length ∧ (∀ l, l < m.length → pas m l = true → at2 M row.length l = some 0) ∧ ∀ p l, p ≤ row.length → l < m.length → EdOk M p l (eds m z row co p l)
def okP (m : Mach) (z row : List Nat) (co : Co) (d : PyData) : Prop := ∃ M : Mat, d = .tuple (M.map encR) ∧ okM m z row co M
theorem isP_opt {d : PyData} (h : isP d = true) : ∃ o, d = optN o := by
  cases d with
  | none => exact ⟨none, rfl⟩
  | int i =>
    have h : 0 ≤ i := of_decide_eq_true h
    exact ⟨some i.toNat, nD_of h⟩
  | bool _ => cases h
  | str _ => cases h
  | list _ => cases h
  | tuple _ => cases h
  | dict _ => cases h
theorem isP_optN (o : Option Nat) : isP (optN o) = true := by
  cases o with
  | none => rfl
  | some c => exact decide_eq_true (Int.natCast_nonneg c)
theorem optN_inj {a b : Option Nat} (h : optN a = optN b) : a = b := by
  cases a <;> cases b
  · rfl
  · cases h
  · cases h
  · injection h with h
    rw [Int.ofNat.inj h]
theorem map_inj {α β : Type} {f : α → β} (hf : ∀ a b, f a = f b → a = b) : ∀ {l k : List α}, l.map f = k.map f → l = k
  | [], [], _ => rfl
  | [], _ :: _, h => by cases h
  | _ :: _, [], h => by cases h
  | a :: l, b :: k, h => by
    injection h with h1 h2
    rw [hf _ _ h1, map_inj hf h2]
theorem encR_inj {a b : List (Option Nat)} (h : encR a = encR b) : a = b := by
  injection h with h
  exact map_inj (fun _ _ => optN_inj) h
theorem all_opt : ∀ {xs : List PyData}, (∀ x ∈ xs, isP x = true) → ∃ r : List (Option Nat), xs = r.map optN
  | [], _ => ⟨[], rfl⟩
  | x :: xs, h => by
    obtain ⟨o, rfl⟩ := isP_opt (h x List.mem_cons_self)
    obtain ⟨r, rfl⟩ := all_opt (xs := xs) fun y hy => h y (List.mem_cons_of_mem _ hy)
    exact ⟨o :: r, rfl⟩
def partOk (n : Nat) : PyData → Bool
  | .tuple xs => decide (xs.length = n) && xs.all isP
  | _ => false
theorem partOk_not {n : Nat} {d : PyData} (h : isiD d "tuple" = false) : partOk n d = false := by
  cases d <;> first | rfl | exact absurd h (by simp [isiD, tyN])
theorem parts_mat {n : Nat} : ∀ {ps : List PyData}, (∀ q ∈ ps, partOk n q = true) → ∃ M : Mat, ps = M.map encR ∧ ∀ r ∈ M, r.length = n
  | [], _ => ⟨[], rfl, fun r hr => nomatch hr⟩
  | q :: ps, h => by
    obtain ⟨M, rfl, h2⟩ := parts_mat (ps := ps) fun y hy => h y (List.mem_cons_of_mem _ hy)
    have hq := h q List.mem_cons_self
    unfold partOk at hq
    split at hq
    · rename_i xs
      rw [Bool.and_eq_true] at hq
      have h3 := of_decide_eq_true hq.1
      obtain ⟨r, rfl⟩ := all_opt (List.all_eq_true.mp hq.2)
      rw [List.length_map] at h3
      refine ⟨r :: M, rfl, fun s hs => ?_⟩
      rcases List.mem_cons.mp hs with rfl | hs
      · exact h3
      · exact h2 s hs
    · cases hq
theorem okP_part {m : Mach} {z row : List Nat} {co : Co} {ps : List PyData} (h : okP m z row co (.tuple ps)) : ps.length = row.length + 1 ∧ ∀ q ∈ ps, partOk m.length q = true := by
  obtain ⟨M, e, D, _⟩ := h
  injection e with e
  subst e
  refine ⟨by rw [List.length_map]; exact D.len, fun q hq => ?_⟩
  obtain ⟨r, hr, rfl⟩ := List.mem_map.mp hq
  show (decide ((r.map optN).length = m.length) && (r.map optN).all isP) = true
  rw [List.length_map, decide_eq_true (D.row r hr), Bool.true_and, List.all_eq_true]
  intro x hx
  obtain ⟨o, _, rfl⟩ := List.mem_map.mp hx
  exact isP_optN o
theorem okP_mat {m : Mach} {z row : List Nat} {co : Co} {M : Mat} : okP m z row co (.tuple (M.map encR)) ↔ okM m z row co M := by
  constructor
  · rintro ⟨M', e, h⟩
    injection e with e
    rw [map_inj (fun _ _ => encR_inj) e]
    exact h
  · intro h
    exact ⟨M, rfl, h⟩
theorem eqv_optN (o : Option Nat) (n : Nat) : PyData.eqv (optN o) (nD n) = decide (o = some n) := by
  cases o with
  | none =>
    have : PyData.eqv .none (nD n) = false := by simp only [PyData.eqv]
    show PyData.eqv .none (nD n) = _
    rw [this]
    rfl
  | some c =>
    show PyData.eqv (nD c) (nD n) = _
    rw [eqv_iD]
    exact decide_eq_decide.mpr ⟨fun h => by rw [h], fun h => Option.some.inj h⟩
section
variable {K : Fr} {B : Bs} {G : En} {P : Po}
theorem rw_m1 {M : Mat} {p : Nat} {r : List (Option Nat)} (h : M[p]? = some r) (q : P G (.p (.d (encR r)))) : RW2 K B G (rIx K) (.d (.tuple (M.map encR))) (.d (.int (p : Int))) P := rw_ixT (ati h) q
theorem rw_m2 {r : List (Option Nat)} {l : Nat} {o : Option Nat} (h : r[l]? = some o) (q : P G (.p (.d (optN o)))) : RW2 K B G (rIx K) (.d (encR r)) (.d (.int (l : Int))) P := rw_ixT (ati h) q
end
theorem SB.pos {b n : Nat} {d : PyData} (h : SB b n d) : ∃ k, n = k + 1 := by
  cases n with
  | zero => exact h.elim
  | succ k => exact ⟨k, rfl⟩
abbrev argA (x : Px × PyData) : List PyData := [encM x.1.m, zD x.1.z, zD x.1.row, encC x.1.co, x.2]
def preA (x : Px × PyData) : Prop := preP x.1 ∧ ∃ n, n ≤ 20 ∧ SB 20000 n x.2
abbrev spA (K : PySem.W.Frag) := spI K argA preA (fun x r => r = .p (.d (.bool (bD (okP x.1.m x.1.z x.1.row x.1.co x.2)))))
section
variable {P : Program} {w : World} {K : PySem.W.Frag} {mg : Str → Option Value} {base : Heap} {a : Ad}
theorem ok_are_prices (T : Tx K mg a) (G_is_price : FnOk P w K mg base CX0 1 a.f1 a.d1 ["value"] (spIp K)) (G_steps_from : FnOk P w K mg base CX0 1 a.f2 a.d2 ["machine", "signs", "row", "costs", "place", "line"] (spE K encP)) : FnOk P w K mg base CX0 2 a.f7 a.d7 ["machine", "signs", "row", "costs", "prices"] (spA K) := by
  refine fnI T.F_are_prices sc_are_prices (fun x => ⟨rfl, by decide⟩) fun cdv A outer s H E hr => ⟨_, (pss_cons (ps_if (PW.pt (pw_or (pt_not (kTRUTH K rfl (pe_callB (kISI K rfl) (by rfl) T.z_isinstance (by decide +kernel) (pa_cons (pv 4) (pa_cons (pe_bltn (v := .ty "tuple") (by rfl) T.z_tuple (by decide +kernel) rfl) pa_nil))) (by intro _; rfl))) (pw_or1 (pt_cmpR (kNE K rfl hr.units) (pe_callB (kLEN K rfl) (by rfl) T.z_len (by decide +kernel) (pa_cons (pv 4) pa_nil)) (pe_op (kADD K rfl) (pe_callB (kLEN K rfl) (by rfl) T.z_len (by decide +kernel) (pa_cons (pv 2) pa_nil)) pe_int) (nomark _))))) (pss_one (ps_ret pe_bl)) pss_nil) (pss_cons (ps_for PassesOwn.never rfl (kANY K rfl (pv 4)) (pg_name (i := 5) sc_are_prices.nd rfl (Or.inl rfl)) (pss_one (ps_if (PW.pt (pw_or (pt_not (kTRUTH K rfl (pe_callB (kISI K rfl) (by rfl) T.z_isinstance (by decide +kernel) (pa_cons (pv 5) (pa_cons (pe_bltn (v := .ty "tuple") (by rfl) T.z_tuple (by decide +kernel) rfl) pa_nil))) (by intro _; rfl))) (pw_or (pt_cmpR (kNE K rfl hr.units) (pe_callB (kLEN K rfl) (by rfl) T.z_len (by decide +kernel) (pa_cons (pv 5) pa_nil)) (pe_callB (kLEN K rfl) (by rfl) T.z_len (by decide +kernel) (pa_cons (pv 0) pa_nil)) (nomark _)) (pw_or1 (pt_cmpR (kIN K rfl (hu65 hr)) pe_bl (pe_lc (own := [("price", 14)]) (g := gName 14) (by rfl) sc_are_prices.nd (kANY K rfl (pv 5)) (blkOk_by (own := [("price", 14)]) (N := ["machine", "signs", "row", "costs", "prices", "part", "line", "passing", "_", "place", "cost", "other", "behind", "told", "price"]) (sc := defScope s_are_prices) (by decide +kernel)) (fun _ _ _ _ _ => (pg_name (i := 14) sc_are_prices.nd rfl (by first | exact Or.inl rfl | exact Or.inr rfl))) (fun _ _ _ _ _ => pts_nil) (fun _ _ _ _ _ => (pe_call G_is_price hr (by rfl) T.m_is_price T.k_is_price T.b_is_price .nil pass0 (pa_cons (pv 14) pa_nil)))) (by rfl)))))) (pss_one (ps_ret pe_bl)) pss_nil))) (pss_cons (ps_for PassesOwn.never rfl (kENT K rfl (by rfl) T.z_enumerate (pa_cons (pv 0) pa_nil)) (kTG K rfl rfl (pgs_cons (pg_name (i := 6) sc_are_prices.nd rfl (Or.inl rfl)) (pgs_cons (kTG K rfl rfl (pgs_cons (pg_name (i := 7) sc_are_prices.nd rfl (Or.inl rfl)) (pgs_cons (pg_name (i := 8) sc_are_prices.nd rfl (Or.inl rfl)) pgs_nil))) pgs_nil))) (pss_one (ps_if (PW.pt (pw_and (kTRUTH K rfl (pv 7) (by intro _; rfl)) (pw_and1 (pt_cmpR (kNE K rfl hr.units) (pe_ix (kIX K rfl) (pe_ix (kIX K rfl) (pv 4) (pe_callB (kLEN K rfl) (by rfl) T.z_len (by decide +kernel) (pa_cons (pv 2) pa_nil)) (fun _ _ => rfl)) (pv 6) (fun _ _ => rfl)) pe_int (nomark _))))) (pss_one (ps_ret pe_bl)) pss_nil))) (pss_cons (ps_for PassesOwn.never rfl (pi_range1 (by rfl) T.z_range (pa_cons (pe_op (kADD K rfl) (pe_callB (kLEN K rfl) (by rfl) T.z_len (by decide +kernel) (pa_cons (pv 2) pa_nil)) pe_int) pa_nil)) (pg_name (i := 9) sc_are_prices.nd rfl (Or.inl rfl)) (pss_one (ps_for PassesOwn.never rfl (pi_range1 (by rfl) T.z_range (pa_cons (pe_callB (kLEN K rfl) (by rfl) T.z_len (by decide +kernel) (pa_cons (pv 0) pa_nil)) pa_nil)) (pg_name (i := 6) sc_are_prices.nd rfl (Or.inl rfl)) (pss_one (ps_for PassesOwn.never rfl (kANY K rfl (pe_call G_steps_from hr (by rfl) T.m_steps_from T.k_steps_from T.b_steps_from .nil pass0 (pa_cons (pv 0) (pa_cons (pv 1) (pa_cons (pv 2) (pa_cons (pv 3) (pa_cons (pv 9) (pa_cons (pv 6) pa_nil)))))))) (kTG K rfl rfl (pgs_cons (pg_name (i := 8) sc_are_prices.nd rfl (Or.inl rfl)) (pgs_cons (pg_name (i := 10) sc_are_prices.nd rfl (Or.inl rfl)) (pgs_cons (kTG K rfl rfl (pgs_cons (pg_name (i := 11) sc_are_prices.nd rfl (Or.inl rfl)) (pgs_cons (pg_name (i := 12) sc_are_prices.nd rfl (Or.inl rfl)) pgs_nil))) pgs_nil)))) (pss_cons (ps_set (i := 13) sc_are_prices.nd rfl (Or.inl rfl) (pe_ix (kIX K rfl) (pe_ix (kIX K rfl) (pv 4) (pv 11) (fun _ _ => rfl)) (pv 12) (fun _ _ => rfl))) (pss_one (ps_if (PW.pt (pw_and (pt_cmpR op_notN (pv 13) pe_non (nomark _)) (pw_and1 (PW.pt (pw_or (pt_cmpR op_isN (pe_ix (kIX K rfl) (pe_ix (kIX K rfl) (pv 4) (pv 9) (fun _ _ => rfl)) (pv 6) (fun _ _ => rfl)) pe_non (nomark _)) (pw_or1 (pt_cmpR op_gt (pe_ix (kIX K rfl) (pe_ix (kIX K rfl) (pv 4) (pv 9) (fun _ _ => rfl)) (pv 6) (fun _ _ => rfl)) (pe_op (kADD K rfl) (pv 10) (pv 13)) (nomark _)))))))) (pss_one (ps_ret pe_bl)) pss_nil)))))))) (pss_one (ps_ret pe_bl)))))), ?_⟩
  rintro ⟨⟨m, z, row, co⟩, d⟩ ⟨⟨O, c1, c2, c3⟩, n, hn, hd⟩ B
  dsimp only [argA] at *
  have hrl : row.length ≤ 20 := O.rl
  have hml : m.length ≤ 11 := O.m11
  refine ds_mid' (fun G => ∃ ps, d = .tuple ps ∧ ps.length = row.length + 1 ∧ G = [.d (encM m), .d (zD z), .d (zD row), .d (encC co), .d d, .un, .un, .un, .un, .un, .un, .un, .un, .un, .un]) ?_ ?_
  · walk_at "gs"
    refine ite_k (fun c => ?_) (fun c => ?_)
    · walk_at "gs"
      rw [bD_f]
      rintro ⟨M, rfl, _⟩
      cases c
    · obtain ⟨xs, rfl⟩ := isi_t (not_t c)
      walk_at "gs"
      refine rn_lenZ (by omega) ?_
      walk_at "gs"
      refine ite_k (fun c2 => ?_) (fun c2 => ?_)
      · have c2 := of_decide_eq_false (not_f c2)
        walk_at "gs"
        rw [bD_f]
        intro h
        have := (okP_part h).1
        omega
      · have c2 := of_decide_eq_true (not_t c2)
        walk_at "gs"
        exact ⟨by omega, rfl⟩
  · rintro G1 ⟨ps, rfl, hpl, rfl⟩
    obtain ⟨n, rfl⟩ := hd.pos
    have hps := hd.2
    refine ds_mid' (fun G => ∃ (M : Mat) (s5 : Sl), ps = M.map encR ∧ Dim M (row.length + 1) m.length ∧ G = [.d (encM m), .d (zD z), .d (zD row), .d (encC co), .d (.tuple ps), s5, .un, .un, .un, .un, .un, .un, .un, .un, .un]) ?_ ?_
    · refine ds_forE' (ch := [5]) ?_
      refine di_anyT (di_tup ?_)
      walk_at "gs"
      refine ⟨fun i G => ∃ s5, (∀ q ∈ ps.take i, partOk m.length q = true) ∧ G = [.d (encM m), .d (zD z), .d (zD row), .d (encC co), .d (.tuple ps), s5, .un, .un, .un, .un, .un, .un, .un, .un, .un], ⟨.un, (fun q hq => nomatch hq), rfl⟩, fun i G2 q hq ⟨s5, hj, hG⟩ => ?_, fun G2 ⟨s5, hj, hG⟩ => ?_⟩
      · subst hG
        have hqm := List.mem_of_getElem? hq
        have bad : partOk m.length q = false → bD (okP m z row co (.tuple ps)) = false := fun hb => bD_f fun h => by
          rw [(okP_part h).2 q hqm] at hb
          cases hb
        refine dg_name ?_
        walk_at "gs"
        refine ite_k (fun c => ?_) (fun c => ?_)
        · walk_at "gs"
          rw [bad (partOk_not (not_f c))]
        · obtain ⟨xs, rfl⟩ := isi_t (not_t c)
          have hxs := hps _ hqm
          obtain ⟨n, rfl⟩ := hxs.pos
          have hxl : xs.length ≤ 20000 := hxs.1
          walk_at "gs"
          rw [List.length_map]
          refine ite_k (fun c2 => ?_) (fun c2 => ?_)
          · have c2 := of_decide_eq_false (not_f c2)
            walk_at "gs"
            rw [bad (by
              show (decide (xs.length = m.length) && xs.all isP) = false
              rw [decide_eq_false (by omega)]
              rfl)]
          · have c2 := of_decide_eq_true (not_t c2)
            walk_at "gs"
            refine dw_lcM xs id (fun x => .bool (isP x)) ?_
            refine di_anyT (di_tup ?_)
            walk_at "gs"
            refine ⟨(List.map_id xs).symm, szl (by omega), fun B' x hx => ?_, ?_⟩
            · walk_at "gs"
              refine ⟨x, trivial, rfl, ?_⟩
              rintro _ rfl
              walk_at "gs"
            · walk_at "gs"
              refine rw_inL rfl rfl (shp_ok (shp_bool 0 _) (by decide)) (shp_ok (shp_list fun x hx => by
                obtain ⟨k, _, rfl⟩ := List.mem_map.mp hx
                exact shp_bool 0 _) (by decide)) ?_
              rw [any_false, ← List.not_all_eq_any_not]
              walk_at "gs"
              refine ite_k (fun c3 => ?_) (fun c3 => ?_)
              · walk_at "gs"
                rw [bad (by
                  show (decide (xs.length = m.length) && xs.all isP) = false
                  rw [not_f c3, Bool.and_false])]
              · walk_at "gs"
                refine ⟨.d (.tuple xs), fun q hq' => ?_, rfl⟩
                rw [List.take_succ, hq] at hq'
                rcases List.mem_append.mp hq' with h | h
                · exact hj q h
                · rw [List.mem_singleton.mp h]
                  show (decide (xs.length = m.length) && xs.all isP) = true
                  rw [not_t c3, decide_eq_true (by omega)]
                  rfl
      · subst hG
        rw [List.take_length] at hj
        obtain ⟨M, rfl, hM⟩ := parts_mat hj
        rw [List.length_map] at hpl
        exact ⟨M, s5, rfl, ⟨hpl, hM⟩, rfl⟩
    · rintro G1 ⟨M, s5, rfl, D, rfl⟩
      rw [show bD (okP m z row co (.tuple (M.map encR))) = bD (okM m z row co M) by rw [propext okP_mat]]
      refine ds_mid' (fun G => ∃ (s6 s7 s8 : Sl), (∀ l, l < m.length → pas m l = true → at2 M row.length l = some 0) ∧ G = [.d (encM m), .d (zD z), .d (zD row), .d (encC co), .d (.tuple (M.map encR)), s5, s6, s7, s8, .un, .un, .un, .un, .un, .un]) ?_ ?_
      · refine ds_forE' (ch := [6, 7, 8]) ?_
        refine di_enumT ?_
        walk_at "gs"
        refine ⟨fun i G => ∃ s6 s7 s8, (∀ l, l < i → pas m l = true → at2 M row.length l = some 0) ∧ G = [.d (encM m), .d (zD z), .d (zD row), .d (encC co), .d (.tuple (M.map encR)), s5, s6, s7, s8, .un, .un, .un, .un, .un, .un], ⟨.un, .un, .un, fun l h => absurd h (Nat.not_lt_zero _), rfl⟩, fun i G2 q hq ⟨s6, s7, s8, hj, hG⟩ => ?_, fun G2 ⟨s6, s7, s8, hj, hG⟩ => ?_⟩
        · subst hG
          obtain ⟨x, hx, rfl⟩ := enD_get hq
          rw [List.getElem?_map] at hx
          obtain ⟨l, hl, rfl⟩ := Option.map_eq_some_iff.mp hx
          have hil := (List.getElem?_eq_some_iff.mp hl).1
          have hpas : pas m i = l.1 := by
            unfold pas
            rw [hl]
            rfl
          have step : (pas m i = true → at2 M row.length i = some 0) → ∀ l, l < i + 1 → pas m l = true → at2 M row.length l = some 0 := fun h l' hl' => by
            rcases Nat.lt_succ_iff_lt_or_eq.mp hl' with k | rfl
            · exact hj l' k
            · exact h
          refine dg_tup rfl (dgs_cons (dg_name (dgs_cons (dg_tup rfl (dgs_cons (dg_name (dgs_cons (dg_name (dgs_nil (dgs_nil ?_))))))))))
          walk_at "gs"
          refine ite_k (fun c => ?_) (fun c => ?_)
          · obtain ⟨r, g1, g2, g3⟩ := D.get (Nat.lt_succ_self row.length) hil
            walk_at "gs"
            refine rn_lenZ (by omega) ?_
            walk_at "gs"
            refine rw_m1 g1 ?_
            walk_at "gs"
            refine rw_m2 g3 ?_
            walk_at "gs"
            refine rw_neD (d := optN (at2 M row.length i)) (e := nD 0) rfl rfl (shp_ok (n := 0) (by cases at2 M row.length i <;> first | exact shp_none _ | exact shp_int _ _) (by decide)) (shp_ok (shp_int 0 _) (by decide)) ?_
            rw [eqv_optN]
            walk_at "gs"
            refine ite_k (fun c2 => ?_) (fun c2 => ?_)
            · have c2 := of_decide_eq_false (not_f c2)
              walk_at "gs"
              rw [bD_f]
              rintro ⟨_, h2, _⟩
              exact c2 (h2 i hil (by rw [hpas]; exact c))
            · have c2 := of_decide_eq_true (not_t c2)
              walk_at "gs"
              exact ⟨_, _, _, step fun _ => c2, rfl⟩
          · walk_at "gs"
            exact ⟨_, _, _, step (fun h => by rw [hpas, c] at h; cases h), rfl⟩
        · subst hG
          rw [enD_len, List.length_map] at hj
          exact ⟨s6, s7, s8, hj, rfl⟩
      · rintro G1 ⟨s6, s7, s8, hfin, rfl⟩
        refine ds_mid' (fun G => (∀ p l, p ≤ row.length → l < m.length → EdOk M p l (eds m z row co p l)) ∧ True) ?_ ?_
        · refine ds_forE' (ch := [9]) ?_
          refine di_rng1 ?_
          walk_at "gs"
          refine rn_lenZ (by omega) ?_
          walk_at "gs"
          refine ⟨by omega, by omega, fun i G => ∃ s6 s8 s9 s10 s11 s12 s13, (∀ p l, p < i → l < m.length → EdOk M p l (eds m z row co p l)) ∧ G = [.d (encM m), .d (zD z), .d (zD row), .d (encC co), .d (.tuple (M.map encR)), s5, s6, s7, s8, s9, s10, s11, s12, s13, .un], ⟨s6, s8, .un, .un, .un, .un, .un, fun p l h => absurd h (Nat.not_lt_zero _), rfl⟩, fun i G2 d hd ⟨s6, s8, s9, s10, s11, s12, s13, hj, hG⟩ => ?_, fun G2 ⟨s6, s8, s9, s10, s11, s12, s13, hj, hG⟩ => ?_⟩
          · subst hG
            obtain ⟨hi, rfl⟩ := rngD_get hd
            have hi : i < row.length + 1 := by omega
            have e0 : (0 : Int) + (i : Int) = (i : Int) := by omega
            rw [e0]
            refine dg_name ?_
            refine ds_forE' (ch := [6]) ?_
            refine di_rng1 ?_
            walk_at "gs"
            rw [List.length_map, rng_nD]
            refine ⟨by omega, by omega, fun j G => ∃ s6 s8 s10 s11 s12 s13, (∀ l, l < j → EdOk M i l (eds m z row co i l)) ∧ G = [.d (encM m), .d (zD z), .d (zD row), .d (encC co), .d (.tuple (M.map encR)), s5, s6, s7, s8, .d (nD i), s10, s11, s12, s13, .un], ⟨s6, s8, s10, s11, s12, s13, fun l h => absurd h (Nat.not_lt_zero _), rfl⟩, fun j G2 d2 hd2 ⟨s6, s8, s10, s11, s12, s13, hj2, hG⟩ => ?_, fun G2 ⟨s6, s8, s10, s11, s12, s13, hj2, hG⟩ => ?_⟩
            · subst hG
              rw [List.getElem?_map] at hd2
              obtain ⟨k, hk, rfl⟩ := Option.map_eq_some_iff.mp hd2
              obtain ⟨hjk, hk⟩ := List.getElem?_eq_some_iff.mp hk
              rw [List.getElem_range] at hk
              subst hk
              rw [List.length_range] at hjk
              refine dg_name ?_
              walk_at "gs"
              refine ds_forE' (ch := [8, 10, 11, 12]) ?_
              refine di_anyL (di_list ?_)
              walk_at "gs"
              refine ⟨⟨m, z, row, co, i, j⟩, ⟨O, hjk⟩, rfl, ?_⟩
              rintro _ rfl
              dsimp only
              walk_at "gs"
              refine ⟨fun q G => ∃ s8 s10 s11 s12 s13, EdOk M i j ((eds m z row co i j).take q) ∧ G = [.d (encM m), .d (zD z), .d (zD row), .d (encC co), .d (.tuple (M.map encR)), s5, .d (nD j), s7, s8, .d (nD i), s10, s11, s12, s13, .un], ⟨s8, s10, s11, s12, s13, (fun e he => nomatch he), rfl⟩, fun q G2 d3 hd3 ⟨s8, s10, s11, s12, s13, hj3, hG⟩ => ?_, fun G2 ⟨s8, s10, s11, s12, s13, hj3, hG⟩ => ?_⟩
              · subst hG
                rw [List.getElem?_map] at hd3
                obtain ⟨e, he, rfl⟩ := Option.map_eq_some_iff.mp hd3
                have hem := List.mem_of_getElem? he
                have hep := eds_p hem
                have hel := eds_l O hjk hem
                obtain ⟨r, g1, g2, g3⟩ := D.get (by omega : e.p < row.length + 1) hel
                obtain ⟨r', k1, k2, k3⟩ := D.get hi hjk
                have keep : (∀ c, at2 M e.p e.l = some c → ∃ c', at2 M i j = some c' ∧ c' ≤ e.c + c) → EdOk M i j ((eds m z row co i j).take (q + 1)) := fun h e' he' => by
                  rw [List.take_succ, he] at he'
                  rcases List.mem_append.mp he' with k | k
                  · exact hj3 e' k
                  · rw [List.mem_singleton.mp k]
                    exact h
                have bad : ∀ c, at2 M e.p e.l = some c → (¬ ∃ c', at2 M i j = some c' ∧ c' ≤ e.c + c) → bD (okM m z row co M) = false := fun c hc hb => bD_f fun h => hb (h.2.2 i j (Nat.le_of_lt_succ hi) hjk e hem c hc)
                refine dg_tup rfl (dgs_cons (dg_name (dgs_cons (dg_name (dgs_cons (dg_tup rfl (dgs_cons (dg_name (dgs_cons (dg_name (dgs_nil (dgs_nil ?_))))))))))))
                refine ds_seq' ?_
                walk_at "gs"
                refine rw_m1 g1 ?_
                walk_at "gs"
                refine rw_m2 g3 ?_
                walk_at "gs"
                cases hM : at2 M e.p e.l with
                | none =>
                  refine ite_F rfl ?_
                  walk_at "gs"
                  exact ⟨_, _, _, _, _, keep (fun c hc => by rw [hM] at hc; cases hc), rfl⟩
                | some c =>
                  dsimp only [optN]
                  refine ite_T rfl ?_
                  walk_at "gs"
                  refine rw_m1 k1 ?_
                  walk_at "gs"
                  refine rw_m2 k3 ?_
                  walk_at "gs"
                  cases hN : at2 M i j with
                  | none =>
                    refine ite_T rfl ?_
                    walk_at "gs"
                    rw [bad c hM (fun ⟨c', h, _⟩ => by rw [hN] at h; cases h)]
                  | some o =>
                    refine ite_F rfl ?_
                    walk_at "gs"
                    refine rw_m1 k1 ?_
                    walk_at "gs"
                    refine rw_m2 k3 ?_
                    rw [hN]
                    dsimp only [optN]
                    walk_at "gs"
                    refine ite_k (fun c4 => ?_) (fun c4 => ?_)
                    · have c4 := of_decide_eq_true c4
                      walk_at "gs"
                      rw [bad c hM (fun ⟨c', h, h2⟩ => by rw [hN] at h; cases h; omega)]
                    · have c4 := of_decide_eq_false c4
                      walk_at "gs"
                      exact ⟨_, _, _, _, _, keep (fun c' hc => by rw [hM] at hc; cases hc; exact ⟨o, hN, by omega⟩), rfl⟩
              · subst hG
                rw [List.length_map, List.take_length] at hj3
                exact ⟨_, _, _, _, _, _, fun l hl => by
                  rcases Nat.lt_succ_iff_lt_or_eq.mp hl with k | rfl
                  · exact hj2 l k
                  · exact hj3, rfl⟩
            · subst hG
              rw [List.length_map, List.length_range] at hj2
              exact ⟨_, _, _, _, _, _, _, fun p l hp hl => by
                rcases Nat.lt_succ_iff_lt_or_eq.mp hp with k | rfl
                · exact hj p l k hl
                · exact hj2 l hl, rfl⟩
          · subst hG
            rw [rngD_len] at hj
            exact ⟨fun p l hp hl => hj p l (by omega) hl, trivial⟩
        · rintro G1 ⟨h, _⟩
          walk_at "gs"
          rw [bD_t ⟨D, hfin, h⟩]
end
end K62
namespace K62
open PySem PySem.Spec PyProof.Rows L2 DL
local macro_rules | `(tactic| walk_at "st") => `(tactic| with_reducible first
  | refine pw_p ?_ | refine pw_o ?_ | refine dw_op ?_ | refine dw_un ?_ | refine dw_int ?_ | refine dw_str ?_ | refine dw_bl ?_ | refine dw_non ?_ | refine dw_ty ?_ | refine da_nil' ?_ | refine da_cons' ?_ | refine dw_sortSetT ?_ | refine dw_CB ?_ | refine dw_BM ?_ | refine dw_BM0 ?_
  | refine dw_tup ?_ | refine dw_lst ?_ | refine dw_notV ?_ | refine dw_and ?_ | refine dw_or ?_ | refine dw_if ?_ | refine dw_chain ?_ | refine dw_sl3 ?_ | refine dw_revT ?_ | refine dw_tupRg1 ?_ | refine dw_lstRg1 ?_ | refine dw_callI ?_ | refine dw_callJ ?_
  | refine dt_test ?_ | refine dt_B ?_ | refine dt_and ?_ | refine dt_or ?_ | refine dt_not ?_ | refine dt_yes ?_ | refine dt_truth ?_
  | refine ds_ret ?_ | refine ds_retN ?_ | refine ds_next ?_ | refine ds_break ?_ | refine ds_cont ?_ | refine ds_drop ?_ | refine ds_if ?_ | refine ds_set ?_
  | refine nx_nxt ?_ | refine rt_nxt ?_ | refine bk_nxt ?_ | refine ct_nxt ?_ | refine nx_lp ?_ | refine rt_lp ?_ | refine bk_lp ?_ | refine ct_lp ?_ | refine asn_d ?_ | refine asn_fr ?_ | refine rt_E0 ?_ | refine rt_E0o ?_ | refine nx_E0 ?_
  | refine dw_newK ?_ | refine dw_dInK ?_ | refine dw_dNotInK ?_ | refine dw_dGetK ?_ | refine ds_dPutK ?_ | refine dw_callH ?_
  | refine tr_b ?_ | refine tr_i ?_ | refine tr_n ?_ | refine tr_T ?_ | refine tr_L ?_
  | refine do_none ?_ | refine do_some ?_ | refine ite_t ?_ | refine ite_f ?_
  | refine rw_addI ?_ | refine rw_sub ?_ | refine rw_cmp ?_ | refine rw_eqI ?_ | refine rw_neI ?_ | refine rw_eqZ ?_ | refine rw_neZ ?_ | refine rw_eqS ?_ | refine rw_neS ?_ | refine rw_eqB ?_ | refine rw_neB ?_ | refine isN_d ?_ | refine notN_d ?_ | refine rw_isB ?_ | refine rw_notB ?_
  | refine rn_intI ?_ | refine rn_intB ?_ | refine rn_max ?_ | refine rn_min ?_ | refine rn_lenT ?_ | refine rn_lenD ?_ | refine rm_sw ?_ | refine isi_int ?_ | refine isi_bool ?_ | refine isi_str ?_ | refine isi_tuple ?_ | refine isi_list ?_ | refine rn_tupT ?_ | refine rn_listT ?_
  | refine ⟨_, rfl, ?_⟩
  | fail)
local macro_rules | `(tactic| walk_at "va") => `(tactic| first
  | ((with_reducible apply dw_var); rfl) | ((with_reducible apply dw_sl); rfl) | ((with_reducible apply dw_slK); rfl)
  | ((with_reducible apply rw_ixL); rfl; rfl) | ((with_reducible apply rw_ixT); rfl)
  | ((with_reducible apply ite_T); rfl) | ((with_reducible apply ite_F); rfl) | ((with_reducible apply tr_o); rfl)
  | refine ⟨_, rfl, szl (Nat.le_of_ble_eq_true rfl), ?_⟩
  | (with_reducible refine rw_mod (by omega) ?_)
  | (with_reducible refine rw_fdiv (by unfold CDiv; omega) ?_)
  | (with_reducible refine rw_mul (by unfold CMul; omega) ?_)
  | refine ⟨szl (Nat.le_of_ble_eq_true rfl), ?_⟩
  | refine ⟨⟨rfl, _, _, rfl⟩, ?_⟩
  | refine ⟨rfl, ?_⟩
  | rfl
  | fail)
local macro_rules | `(tactic| walk_at "go") => `(tactic| repeat' (first | walk_at "st" | (with_reducible refine ds_seq' ?_) | walk_at "va" | fail))
local macro_rules | `(tactic| walk_at "gs") => `(tactic| repeat' (first | walk_at "st" | walk_at "va" | fail))
/-! what the judges accept -/
def accS (m : Mach) (z row : List Nat) (co : Co) (o : Option Nat) (y : PyData) : Prop := (o = none ∧ y = .none) ∨ ∃ (ss : List Stp) (c : Nat) (md : List Nat), o = some c ∧ y = .tuple (ss.map encT) ∧ (∀ s ∈ ss, goodS z s) ∧ chg row ss = some md ∧ (ss.map (stC co)).sum = c ∧ pas m (run m z 0 md) = true
def accP (m : Mach) (z row : List Nat) (co : Co) (told : PyData) : Prop := ∃ (M : Mat) (y : PyData), told = .tuple [optN (at2 M 0 0), y, .tuple (M.map encR)] ∧ okM m z row co M ∧ accS m z row co (at2 M 0 0) y
theorem encT_inj {a b : Stp} (h : encT a = encT b) : a = b := by
  have k1 : ¬ keepL = leaveL := by decide
  have k2 : ¬ keepL = putL := by decide
  have k3 : ¬ leaveL = putL := by decide
  cases a <;> cases b <;> injection h with h <;> (try (injection h with h1 h2)) <;> first
    | (exfalso; exact k1 (zD_inj h1))
    | (exfalso; exact k2 (zD_inj h1))
    | (exfalso; exact k3 (zD_inj h1))
    | (exfalso; exact k1 (zD_inj h1).symm)
    | (exfalso; exact k2 (zD_inj h1).symm)
    | (exfalso; exact k3 (zD_inj h1).symm)
    | (injection h2 with h2 h3; have h2 := zD_inj h2; cases h2; rfl)
    | (injection h2 with h2 h3; injection h3 with h3 h4; have h2 := zD_inj h2; have h3 := zD_inj h3; cases h2; cases h3; rfl)
    | (injection h2 with h2 h3; cases h3)
theorem accP_M {m : Mach} {z row : List Nat} {co : Co} {M : Mat} {x y : PyData} : accP m z row co (.tuple [x, y, .tuple (M.map encR)]) ↔ x = optN (at2 M 0 0) ∧ okM m z row co M ∧ accS m z row co (at2 M 0 0) y := by
  constructor
  · rintro ⟨M', y', e, h1, h2⟩
    injection e with e
    injection e with e1 e
    injection e with e2 e
    injection e with e3 e
    injection e3 with e3
    rw [map_inj (fun _ _ => encR_inj) e3, e1, e2]
    exact ⟨rfl, h1, h2⟩
  · rintro ⟨rfl, h1, h2⟩
    exact ⟨M, y, rfl, h1, h2⟩
theorem accS_ss {m : Mach} {z row : List Nat} {co : Co} {c : Nat} {ss : List Stp} (hg : ∀ s ∈ ss, goodS z s) : accS m z row co (some c) (.tuple (ss.map encT)) ↔ ∃ md, chg row ss = some md ∧ (ss.map (stC co)).sum = c ∧ pas m (run m z 0 md) = true := by
  constructor
  · rintro (⟨h, _⟩ | ⟨ss', c', md, h1, h2, h3, h4, h5, h6⟩)
    · cases h
    · cases h1
      injection h2 with h2
      rw [map_inj (fun _ _ => encT_inj) h2]
      exact ⟨md, h4, h5, h6⟩
  · rintro ⟨md, h4, h5, h6⟩
    exact .inr ⟨ss, c, md, rfl, rfl, hg, h4, h5, h6⟩
theorem accS_none {m : Mach} {z row : List Nat} {co : Co} {y : PyData} : accS m z row co none y ↔ y = .none := by
  constructor
  · rintro (⟨_, h⟩ | ⟨_, _, _, h, _⟩)
    · exact h
    · cases h
  · exact fun h => .inl ⟨rfl, h⟩
theorem accP_okP {m : Mach} {z row : List Nat} {co : Co} {x y p : PyData} (h : accP m z row co (.tuple [x, y, p])) : okP m z row co p := by
  obtain ⟨M, y', e, h1, _⟩ := h
  injection e with e
  injection e with e1 e
  injection e with e2 e
  injection e with e3 e
  exact ⟨M, e3, h1⟩
theorem all_steps {z : List Nat} : ∀ {ys : List PyData}, (∀ y ∈ ys, okS z y) → ∃ ss : List Stp, ys = ss.map encT ∧ ∀ s ∈ ss, goodS z s
  | [], _ => ⟨[], rfl, fun s hs => nomatch hs⟩
  | y :: ys, h => by
    obtain ⟨s, rfl, hs⟩ := h y List.mem_cons_self
    obtain ⟨ss, rfl, hss⟩ := all_steps (ys := ys) fun q hq => h q (List.mem_cons_of_mem _ hq)
    refine ⟨s :: ss, rfl, fun t ht => ?_⟩
    rcases List.mem_cons.mp ht with rfl | ht
    · exact hs
    · exact hss t ht
theorem bD_true {p : Prop} (h : bD p = true) : p := Classical.byContradiction fun q => by
  rw [bD_f q] at h
  cases h
theorem bD_false {p : Prop} (h : bD p = false) : ¬ p := fun q => by
  rw [bD_t q] at h
  cases h
theorem runS_in {z : List Nat} : ∀ {ss : List Stp} {p q : List Nat × List Nat}, (∀ s ∈ ss, goodS z s) → (∀ c ∈ p.2, c ∈ z) → runS p ss = some q → ∀ c ∈ q.2, c ∈ z
  | [], p, q, _, hp, h => by
    have h : some p = some q := h
    cases h
    exact hp
  | s :: ss, p, q, hg, hp, h => by
    have h : (st1 p s).bind (fun q => runS q ss) = some q := h
    obtain ⟨p', h1, h2⟩ := Option.bind_eq_some_iff.mp h
    refine runS_in (fun t ht => hg t (List.mem_cons_of_mem _ ht)) ?_ h2
    have hs := hg s List.mem_cons_self
    have two : ∀ {c q : Nat}, q ∈ z → c ∈ p.2 ++ [q] → c ∈ z := fun {c q} hq hc => by
      rcases List.mem_append.mp hc with k | k
      · exact hp c k
      · rw [List.mem_singleton.mp k]
        exact hq
    cases s with
    | keep r =>
      simp only [st1] at h1
      split at h1
      · cases h1
        exact fun c hc => two hs hc
      · cases h1
    | turn r t =>
      simp only [st1] at h1
      split at h1
      · cases h1
        exact fun c hc => two hs.2.1 hc
      · cases h1
    | leave r =>
      simp only [st1] at h1
      split at h1
      · cases h1
        exact hp
      · cases h1
    | put t =>
      simp only [st1] at h1
      cases h1
      exact fun c hc => two hs hc
theorem chg_in {z row : List Nat} {ss : List Stp} {md : List Nat} (hg : ∀ s ∈ ss, goodS z s) (h : chg row ss = some md) : ∀ c ∈ md, c ∈ z := by
  rw [chg_run] at h
  obtain ⟨p, h1, h2⟩ := Option.bind_eq_some_iff.mp h
  split at h2
  · cases h2
    exact runS_in hg (fun c (hc : c ∈ []) => nomatch hc) h1
  · cases h2
theorem chg_len {row : List Nat} {ss : List Stp} {md : List Nat} (h : chg row ss = some md) : md.length ≤ ss.length := by
  unfold chg at h
  obtain ⟨p, h1, h2⟩ := Option.bind_eq_some_iff.mp h
  split at h2
  · cases h2
    exact (stN_len h1).2
  · cases h2
def ptab (co : Co) : List (Key × PyData) := [(.inr (mkS keepL), .int 0), (.inr (mkS putL), nD co.put), (.inr (mkS leaveL), nD co.leave), (.inr (mkS turnL), nD co.turn)]
theorem ptab_merge (co : Co) : mergeG [] (ptab co) = ptab co := by rfl
def keyT : Stp → List Nat
  | .keep _ => keepL
  | .turn _ _ => turnL
  | .leave _ => leaveL
  | .put _ => putL
theorem lkG_ptab (co : Co) (s : Stp) : lkG (ptab co) (.inr (mkS (keyT s)) : Key) = some (.int ((stC co s : Nat) : Int)) := by
  cases s <;> rfl
theorem sum_cast {co : Co} : ∀ ss : List Stp, (ss.map fun s => ((stC co s : Nat) : Int)).sum = (((ss.map (stC co)).sum : Nat) : Int)
  | [] => rfl
  | s :: ss => by
    rw [List.map_cons, List.sum_cons, sum_cast ss, List.map_cons, List.sum_cons]
    rfl
theorem encT_key (s : Stp) : ∃ r, encT s = .tuple (zD (keyT s) :: r) := by
  cases s <;> exact ⟨_, rfl⟩
def reprO : Option Nat → Str
  | none => "None"
  | some c => toString ((c : Nat) : Int)
theorem ofS_inj {a b : String} (h : Str.ofString a = Str.ofString b) : a = b := by
  rw [Str.ofString_eq_toList, Str.ofString_eq_toList] at h
  injection h with h
  have h := congrArg Array.toList h
  have h : a.toList.map Char.toNat = b.toList.map Char.toNat := h
  refine String.toList_inj.mp (map_inj (fun x y e => ?_) h)
  exact Char.ext (UInt32.toNat_inj.mp e)
theorem reprO_inj {a b : Option Nat} (h : reprO a = reprO b) : a = b := by
  have no : ∀ c : Nat, ¬ ("None" : String) = Int.repr (c : Int) := fun c e => by
    have h : ("None" : String).toList = (Nat.repr c).toList := congrArg String.toList e
    have h2 : (Nat.repr c).toList = Nat.toDigits 10 c := by simp [Nat.repr]
    rw [h2] at h
    have h3 : 'N' ∈ Nat.toDigits 10 c := by rw [← h]; decide
    have := Nat.isDigit_of_mem_toDigits (by decide) (by decide) h3
    revert this
    decide
  cases a with
  | none =>
    cases b with
    | none => rfl
    | some c => exact absurd (ofS_inj h) (no c)
  | some c =>
    cases b with
    | none => exact absurd (ofS_inj h).symm (no c)
    | some d =>
      have := Int.repr_injective (ofS_inj (a := Int.repr c) (b := Int.repr d) h)
      rw [Int.ofNat.inj this]
theorem log_small {c : Nat} (h : c ≤ 20000) : ((c : Nat) : Int).natAbs.log2 < 1920 := by
  show c.log2 < 1920
  by_cases e : c = 0
  · subst e
    decide
  · rw [Nat.log2_lt e]
    exact Nat.lt_of_lt_of_le (Nat.lt_of_le_of_lt h (by decide : 20000 < 2 ^ 15)) (Nat.pow_le_pow_right (by decide) (by decide))
section
variable {K : Fr} {B : Bs} {G : En} {P : Po}
theorem rn_reprO {o : Option Nat} (h : ∀ c, o = some c → c ≤ 20000) (q : P G (.p (.d (.str (reprO o))))) : RWn K B G rRepr [.d (optN o)] P := by
  cases o with
  | none => exact rn_reprN q
  | some c => exact rn_reprI (log_small (h c rfl)) q
end
theorem SB.opt {b n : Nat} {o : Option Nat} (h : SB b n (optN o)) : ∀ c, o = some c → c ≤ b := by
  rintro c rfl
  obtain ⟨k, rfl⟩ := h.pos
  exact h
theorem SB.mat {b n : Nat} {M : Mat} {k l p q : Nat} (h : SB b n (.tuple (M.map encR))) (D : Dim M k l) (hp : p < k) (hq : q < l) : ∀ c, at2 M p q = some c → c ≤ b := by
  obtain ⟨r, g1, _, g3⟩ := D.get hp hq
  obtain ⟨n, rfl⟩ := h.pos
  have h1 := h.2 _ (List.mem_map.mpr ⟨r, List.mem_of_getElem? g1, rfl⟩)
  obtain ⟨n, rfl⟩ := h1.pos
  exact (h1.2 _ (List.mem_map.mpr ⟨_, List.mem_of_getElem? g3, rfl⟩)).opt
abbrev spJd (K : PySem.W.Frag) (pre : Px × PyData → Prop) := spI K argA pre (fun x r => r = .p (.d (.bool (bD (accP x.1.m x.1.z x.1.row x.1.co x.2)))))
section
variable {P : Program} {w : World} {K : PySem.W.Frag} {mg : Str → Option Value} {base : Heap} {a : Ad}
theorem ok_judge_change (T : Tx K mg a) (G_is_price0 : FnOk P w K mg base CX0 1 a.f1 a.d1 ["value"] (spIp K)) (G_are_prices : FnOk P w K mg base CX0 2 a.f7 a.d7 ["machine", "signs", "row", "costs", "prices"] (spA K)) (G_is_step0 : FnOk P w K mg base CX0 1 a.f6 a.d6 ["signs", "step"] (spIs K))
    (G_changed0 : FnOk P w K mg base CX0 1 a.f5 a.d5 ["row", "steps"] (spCh K)) : FnOk P w K mg base CX0 3 a.f8 a.d8 ["machine", "signs", "row", "costs", "told"] (spJd K preA) := by
  have G_is_price := G_is_price0.mono (show 1 ≤ 2 by decide)
  have G_is_step := G_is_step0.mono (show 1 ≤ 2 by decide)
  have G_changed := G_changed0.mono (show 1 ≤ 2 by decide)
  refine fnI T.F_judge_change sc_judge_change (fun x => ⟨rfl, by decide⟩) fun cdv A outer s H E hr => ⟨_, (pss_cons (ps_if (PW.pt (pw_or (pt_not (kTRUTH K rfl (pe_callB (kISI K rfl) (by rfl) T.z_isinstance (by decide +kernel) (pa_cons (pv 4) (pa_cons (pe_bltn (v := .ty "tuple") (by rfl) T.z_tuple (by decide +kernel) rfl) pa_nil))) (by intro _; rfl))) (pw_or (pt_cmpR (kNE K rfl hr.units) (pe_callB (kLEN K rfl) (by rfl) T.z_len (by decide +kernel) (pa_cons (pv 4) pa_nil)) pe_int (nomark _)) (pw_or1 (pt_not (kTRUTH K rfl (pe_call G_are_prices hr (by rfl) T.m_are_prices T.k_are_prices T.b_are_prices .nil pass0 (pa_cons (pv 0) (pa_cons (pv 1) (pa_cons (pv 2) (pa_cons (pv 3) (pa_cons (pe_ix (kIX K rfl) (pv 4) pe_int (fun _ _ => rfl)) pa_nil)))))) (by intro _; rfl))))))) (pss_one (ps_ret pe_bl)) pss_nil) (pss_cons (ps_asg (pv 4) (kTG K rfl rfl (pgs_cons (pg_name (i := 5) sc_judge_change.nd rfl (Or.inl rfl)) (pgs_cons (pg_name (i := 6) sc_judge_change.nd rfl (Or.inl rfl)) (pgs_cons (pg_name (i := 7) sc_judge_change.nd rfl (Or.inl rfl)) pgs_nil))))) (pss_cons (ps_if (PW.pt (pw_or (pt_not (kTRUTH K rfl (pe_call G_is_price hr (by rfl) T.m_is_price T.k_is_price T.b_is_price .nil pass0 (pa_cons (pv 5) pa_nil)) (by intro _; rfl))) (pw_or1 (pt_cmpR (kNE K rfl hr.units) (pe_callB call_reprD (by rfl) T.z_repr (by decide +kernel) (pa_cons (pv 5) pa_nil)) (pe_callB call_reprD (by rfl) T.z_repr (by decide +kernel) (pa_cons (pe_ix (kIX K rfl) (pe_ix (kIX K rfl) (pv 7) pe_int (fun _ _ => rfl)) pe_int (fun _ _ => rfl)) pa_nil)) (nomark _))))) (pss_one (ps_ret pe_bl)) pss_nil) (pss_cons (ps_if (PW.pt (pw_or (pt_cmpR op_isN (pv 5) pe_non (nomark _)) (pw_or1 (pt_cmpR op_isN (pv 6) pe_non (nomark _))))) (pss_one (ps_ret (pe_and (pe_cmpR op_isN (pv 5) pe_non (nomark _)) (pe_one (pe_cmpR op_isN (pv 6) pe_non (nomark _)))))) pss_nil) (pss_cons (ps_if (PW.pt (pw_or (pt_not (kTRUTH K rfl (pe_callB (kISI K rfl) (by rfl) T.z_isinstance (by decide +kernel) (pa_cons (pv 6) (pa_cons (pe_bltn (v := .ty "tuple") (by rfl) T.z_tuple (by decide +kernel) rfl) pa_nil))) (by intro _; rfl))) (pw_or1 (pt_cmpR (kIN K rfl (hu65 hr)) pe_bl (pe_lc (own := [("step", 12)]) (g := gName 12) (by rfl) sc_judge_change.nd (kANY K rfl (pv 6)) (blkOk_by (own := [("step", 12)]) (N := ["machine", "signs", "row", "costs", "told", "cost", "steps", "prices", "price_of", "made", "line", "sign", "step"]) (sc := defScope s_judge_change) (by decide +kernel)) (fun _ _ _ _ _ => (pg_name (i := 12) sc_judge_change.nd rfl (by first | exact Or.inl rfl | exact Or.inr rfl))) (fun _ _ _ _ _ => pts_nil) (fun _ _ _ _ _ => (pe_call G_is_step hr (by rfl) T.m_is_step T.k_is_step T.b_is_step .nil pass0 (pa_cons (pv 1) (pa_cons (pv 12) pa_nil))))) (by rfl))))) (pss_one (ps_ret pe_bl)) pss_nil) (pss_cons (ps_set (i := 8) sc_judge_change.nd rfl (Or.inr rfl) (pe_disp (pps_cons (pe_strM [107, 101, 101, 112] rfl) pe_int (pps_cons (pe_strM [112, 117, 116] rfl) (pe_ix (kIX K rfl) (pv 3) pe_int (fun _ _ => rfl)) (pps_cons (pe_strM [108, 101, 97, 118, 101] rfl) (pe_ix (kIX K rfl) (pv 3) pe_int (fun _ _ => rfl)) (pps_cons (pe_strM [116, 117, 114, 110] rfl) (pe_ix (kIX K rfl) (pv 3) pe_int (fun _ _ => rfl)) pps_nil)))) (by rfl) (by rfl) (by simp) (by decide))) (pss_cons (ps_set (i := 9) sc_judge_change.nd rfl (Or.inl rfl) (pe_call G_changed hr (by rfl) T.m_changed T.k_changed T.b_changed .nil pass0 (pa_cons (pv 2) (pa_cons (pv 6) pa_nil)))) (pss_cons (ps_if (PW.pt (pw_or (pt_cmpR op_isN (pv 9) pe_non (nomark _)) (pw_or1 (pt_cmpR (kNE K rfl hr.units) (pe_callB (kSUM K rfl (by rfl)) (by rfl) T.z_sum (by decide +kernel) (pa_cons (pe_lc (own := [("step", 12)]) (g := gName 12) (by rfl) sc_judge_change.nd (kANY K rfl (pv 6)) (blkOk_by (own := [("step", 12)]) (N := ["machine", "signs", "row", "costs", "told", "cost", "steps", "prices", "price_of", "made", "line", "sign", "step"]) (sc := defScope s_judge_change) (by decide +kernel)) (fun _ _ _ _ _ => (pg_name (i := 12) sc_judge_change.nd rfl (by first | exact Or.inl rfl | exact Or.inr rfl))) (fun _ _ _ _ _ => pts_nil) (fun _ _ _ _ _ => (pe_dget (hu_of hr) (pv 8) (pe_ix (kIX K rfl) (pv 12) pe_int (fun _ _ => rfl)) (fun _ _ => rfl)))) pa_nil)) (pv 5) (nomark _))))) (pss_one (ps_ret pe_bl)) pss_nil) (pss_cons (ps_set (i := 10) sc_judge_change.nd rfl (Or.inl rfl) pe_int) (pss_cons (ps_for PassesOwn.never rfl (kANY K rfl (pv 9)) (pg_name (i := 11) sc_judge_change.nd rfl (Or.inl rfl)) (pss_one (ps_set (i := 10) sc_judge_change.nd rfl (Or.inl rfl) (pe_ix (kIX K rfl) (pe_ix (kIX K rfl) (pe_ix (kIX K rfl) (pv 0) (pv 10) (fun _ _ => rfl)) pe_int (fun _ _ => rfl)) (kBM K rfl (pe_bm PySem.F.plainAttrs_str PySem.F.slot_str_index PySem.F.type_str_index mt_sindex (pv 1) (pa_cons (pv 11) pa_nil))) (fun _ _ => rfl))))) (pss_one (ps_ret (pe_ix (kIX K rfl) (pe_ix (kIX K rfl) (pv 0) (pv 10) (fun _ _ => rfl)) pe_int (fun _ _ => rfl)))))))))))))), ?_⟩
  rintro ⟨⟨m, z, row, co⟩, d⟩ ⟨⟨O, hc1, hc2, hc3⟩, n, hn, hd⟩ B
  dsimp only [argA] at *
  have hrl : row.length ≤ 20 := O.rl
  have hml : m.length ≤ 11 := O.m11
  have hm1 : 1 ≤ m.length := O.m1
  refine ds_mid' (fun G => ∃ x y M, d = .tuple [x, y, .tuple (M.map encR)] ∧ okM m z row co M ∧ G = [.d (encM m), .d (zD z), .d (zD row), .d (encC co), .d d, .un, .un, .un, .un, .un, .un, .un, .un]) ?_ ?_
  · walk_at "gs"
    refine ite_k (fun c => ?_) (fun c => ?_)
    · walk_at "gs"
      rw [bD_f]
      rintro ⟨M, y, rfl, _⟩
      cases c
    · obtain ⟨xs, rfl⟩ := isi_t (not_t c)
      walk_at "gs"
      refine ite_k (fun c2 => ?_) (fun c2 => ?_)
      · have c2 := of_decide_eq_false (not_f c2)
        walk_at "gs"
        rw [bD_f]
        rintro ⟨M, y, e, _⟩
        injection e with e
        rw [e] at c2
        exact c2 rfl
      · have c2 : ((xs.length : Nat) : Int) = 3 := of_decide_eq_true (not_t c2)
        obtain ⟨x, y, p, rfl⟩ : ∃ x y p, xs = [x, y, p] := by
          match xs, c2 with
          | [x, y, p], _ => exact ⟨x, y, p, rfl⟩
          | [], c2 => cases c2
          | [_], c2 => cases c2
          | [_, _], c2 => cases c2
          | _ :: _ :: _ :: _ :: _, c2 => simp only [List.length_cons] at c2; omega
        obtain ⟨n, rfl⟩ := hd.pos
        walk_at "gs"
        refine ⟨(⟨m, z, row, co⟩, p), ⟨⟨O, hc1, hc2, hc3⟩, n, by omega, hd.2 p (by simp)⟩, rfl, ?_⟩
        rintro _ rfl
        dsimp only
        walk_at "gs"
        refine ite_k (fun c3 => ?_) (fun c3 => ?_)
        · walk_at "gs"
          rw [bD_f fun h => bD_false (not_f c3) (accP_okP h)]
        · obtain ⟨M, rfl, hM⟩ := bD_true (not_t c3)
          walk_at "gs"
          exact ⟨x, y, M, rfl, hM, rfl⟩
  · rintro G1 ⟨x, y, M, rfl, hM, rfl⟩
    obtain ⟨n, rfl⟩ := hd.pos
    have hx := hd.2 x (by simp)
    have hy := hd.2 y (by simp)
    have hp := hd.2 (.tuple (M.map encR)) (by simp)
    have hM0 := hM
    obtain ⟨D, hfin, hedge⟩ := hM0
    obtain ⟨r0, g1, g2, g3⟩ := D.get (Nat.succ_pos row.length) (Nat.lt_of_lt_of_le Nat.zero_lt_one hm1)
    rw [show bD (accP m z row co (.tuple [x, y, .tuple (M.map encR)])) = bD (x = optN (at2 M 0 0) ∧ okM m z row co M ∧ accS m z row co (at2 M 0 0) y) by rw [propext accP_M]]
    refine ds_seq' ?_
    refine ds_asg (cs := [5, 6, 7]) ?_
    walk_at "gs"
    refine dg_tup rfl (dgs_cons (dg_name (dgs_cons (dg_name (dgs_cons (dg_name (dgs_nil ?_)))))))
    refine ds_mid' (fun G => x = optN (at2 M 0 0) ∧ G = [.d (encM m), .d (zD z), .d (zD row), .d (encC co), .d (.tuple [x, y, .tuple (M.map encR)]), .d x, .d y, .d (.tuple (M.map encR)), .un, .un, .un, .un, .un]) ?_ ?_
    · walk_at "gs"
      refine ⟨x, trivial, rfl, ?_⟩
      rintro _ rfl
      walk_at "gs"
      refine ite_k (fun c => ?_) (fun c => ?_)
      · walk_at "gs"
        rw [bD_f]
        rintro ⟨rfl, _⟩
        rw [isP_optN] at c
        cases c
      · obtain ⟨o, rfl⟩ := isP_opt (not_t c)
        walk_at "gs"
        refine rn_reprO hx.opt ?_
        walk_at "gs"
        refine rw_m1 (p := 0) g1 ?_
        walk_at "gs"
        refine rw_m2 (l := 0) g3 ?_
        walk_at "gs"
        refine rn_reprO (hp.mat D (Nat.succ_pos _) hm1) ?_
        walk_at "gs"
        refine ite_k (fun c2 => ?_) (fun c2 => ?_)
        · have c2 := of_decide_eq_false (not_f c2)
          walk_at "gs"
          rw [bD_f]
          rintro ⟨h, _⟩
          rw [optN_inj h] at c2
          exact c2 rfl
        · have c2 := of_decide_eq_true (not_t c2)
          walk_at "gs"
          rw [reprO_inj c2]
          exact ⟨rfl, rfl⟩
    · rintro G1 ⟨rfl, rfl⟩
      refine ds_mid' (fun G => ∃ c, at2 M 0 0 = some c ∧ y ≠ .none ∧ G = [.d (encM m), .d (zD z), .d (zD row), .d (encC co), .d (.tuple [nD c, y, .tuple (M.map encR)]), .d (nD c), .d y, .d (.tuple (M.map encR)), .un, .un, .un, .un, .un]) ?_ ?_
      · cases ho : at2 M 0 0 with
        | none =>
          dsimp only [optN]
          walk_at "gs"
          rw [bD_iff (b := isNone y)]
          constructor
          · intro h
            refine ⟨rfl, hM, accS_none.mpr ?_⟩
            cases y <;> first | rfl | cases h
          · rintro ⟨_, _, h⟩
            rw [accS_none.mp h]
            rfl
        | some c =>
          dsimp only [optN]
          walk_at "gs"
          refine ite_k (fun c2 => ?_) (fun c2 => ?_)
          · walk_at "gs"
            rw [bD_f]
            rintro ⟨_, _, h⟩
            rcases h with ⟨h, _⟩ | ⟨ss, c', md, _, rfl, _⟩
            · cases h
            · cases c2
          · walk_at "gs"
            exact ⟨(fun e => by rw [e] at c2; cases c2), rfl⟩
      · rintro G1 ⟨c, ho, hyn, rfl⟩
        rw [ho]
        refine ds_mid' (fun G => ∃ ss : List Stp, y = .tuple (ss.map encT) ∧ (∀ s ∈ ss, goodS z s) ∧ G = [.d (encM m), .d (zD z), .d (zD row), .d (encC co), .d (.tuple [nD c, y, .tuple (M.map encR)]), .d (nD c), .d y, .d (.tuple (M.map encR)), .un, .un, .un, .un, .un]) ?_ ?_
        · walk_at "gs"
          refine ite_k (fun c => ?_) (fun c => ?_)
          · walk_at "gs"
            rw [bD_f]
            rintro ⟨_, _, h⟩
            rcases h with ⟨h, _⟩ | ⟨ss, c', md, _, rfl, _⟩
            · cases h
            · cases c
          · obtain ⟨ys, rfl⟩ := isi_t (not_t c)
            obtain ⟨n, rfl⟩ := hy.pos
            have hyl : ys.length ≤ 20000 := hy.1
            walk_at "gs"
            refine dw_lcM ys id (fun q => .bool (bD (okS z q))) ?_
            refine di_anyT (di_tup ?_)
            walk_at "gs"
            refine ⟨(List.map_id ys).symm, szl (by omega), fun B' q hq => ?_, ?_⟩
            · walk_at "gs"
              refine ⟨(z, q), ⟨O.zl, n, by omega, hy.2 q hq⟩, rfl, ?_⟩
              rintro _ rfl
              walk_at "gs"
            · walk_at "gs"
              refine rw_inL rfl rfl (shp_ok (shp_bool 0 _) (by decide)) (shp_ok (shp_list fun x hx => by
                obtain ⟨k, _, rfl⟩ := List.mem_map.mp hx
                exact shp_bool 0 _) (by decide)) ?_
              rw [any_false, ← List.not_all_eq_any_not]
              walk_at "gs"
              refine ite_k (fun c3 => ?_) (fun c3 => ?_)
              · walk_at "gs"
                rw [bD_f]
                rintro ⟨_, _, h⟩
                rcases h with ⟨h, _⟩ | ⟨ss, c', md, _, e, hg, _⟩
                · cases h
                · injection e with e
                  have : (ys.all fun q => bD (okS z q)) = true := List.all_eq_true.mpr fun q hq => by
                    rw [e] at hq
                    obtain ⟨s, hs, rfl⟩ := List.mem_map.mp hq
                    exact bD_t ⟨s, rfl, hg s hs⟩
                  rw [this] at c3
                  cases c3
              · obtain ⟨ss, rfl, hg⟩ := all_steps (z := z) (ys := ys) fun q hq => bD_true (List.all_eq_true.mp (not_t c3) q hq)
                walk_at "gs"
                exact ⟨hg, rfl⟩
        · rintro G1 ⟨ss, rfl, hg, rfl⟩
          obtain ⟨n, rfl⟩ := hy.pos
          have hssl : ss.length ≤ 20000 := by
            have := hy.1
            rwa [List.length_map] at this
          have eq : bD (optN (some c) = optN (some c) ∧ okM m z row co M ∧ accS m z row co (some c) (.tuple (ss.map encT))) = bD (∃ md, chg row ss = some md ∧ (ss.map (stC co)).sum = c ∧ pas m (run m z 0 md) = true) := by
            rw [← propext (accS_ss hg)]
            congr 1
            exact propext ⟨fun h => h.2.2, fun h => ⟨rfl, hM, h⟩⟩
          rw [eq]
          refine ds_mid' (fun G => G = [.d (encM m), .d (zD z), .d (zD row), .d (encC co), .d (.tuple [nD c, .tuple (ss.map encT), .tuple (M.map encR)]), .d (nD c), .d (.tuple (ss.map encT)), .d (.tuple (M.map encR)), .k none (ptab co), .un, .un, .un, .un]) ?_ ?_
          · walk_at "gs"
            refine dw_dispN fun B' => dpp_cons ?_
            walk_at "gs"
            refine ⟨.inr (mkS keepL), _, rfl, rfl, dpp_cons ?_⟩
            walk_at "gs"
            refine ⟨.inr (mkS putL), _, rfl, rfl, dpp_cons ?_⟩
            walk_at "gs"
            refine ⟨.inr (mkS leaveL), _, rfl, rfl, dpp_cons ?_⟩
            walk_at "gs"
            refine ⟨.inr (mkS turnL), _, rfl, rfl, dpp_nil ⟨by simp, ?_⟩⟩
            refine asn_fr (nx_nxt ?_)
            show _ = [Sl.d (encM m), Sl.d (zD z), Sl.d (zD row), Sl.d (encC co), Sl.d (.tuple [nD c, .tuple (ss.map encT), .tuple (M.map encR)]), Sl.d (nD c), Sl.d (.tuple (ss.map encT)), Sl.d (.tuple (M.map encR)), Sl.k none (ptab co), Sl.un, Sl.un, Sl.un, Sl.un]
            rw [← ptab_merge]
            rfl
          · rintro G1 rfl
            refine ds_seq' ?_
            walk_at "gs"
            refine ⟨(row, ss), ⟨by show row.length ≤ 1000; omega, by show ss.length ≤ 30000; omega⟩, rfl, ?_⟩
            rintro _ rfl
            walk_at "gs"
            dsimp only
            refine ds_mid' (fun G => ∃ md s12, chg row ss = some md ∧ (ss.map (stC co)).sum = c ∧ G = [.d (encM m), .d (zD z), .d (zD row), .d (encC co), .d (.tuple [nD c, .tuple (ss.map encT), .tuple (M.map encR)]), .d (nD c), .d (.tuple (ss.map encT)), .d (.tuple (M.map encR)), .k none (ptab co), .d (zD md), .un, .un, s12]) ?_ ?_
            · cases hch : chg row ss with
              | none =>
                dsimp only [optZ]
                walk_at "gs"
                rw [bD_f (by
                  rintro ⟨md, h, _⟩
                  cases h)]
              | some md =>
                dsimp only [optZ]
                walk_at "gs"
                refine dw_lcM ss encT (fun s => .int ((stC co s : Nat) : Int)) ?_
                refine di_anyT (di_tup ?_)
                walk_at "gs"
                refine ⟨szl (by omega), fun B' s hs => ?_, ?_⟩
                · obtain ⟨r, hr⟩ := encT_key s
                  rw [hr]
                  walk_at "gs"
                  refine rw_ixT (d := zD (keyT s)) (atn (i := 0) rfl) ?_
                  walk_at "gs"
                  exact ⟨8, none, .inr (mkS (keyT s)), ptab co, _, rfl, rfl, rfl, lkG_ptab co s, rfl, rfl⟩
                · walk_at "gs"
                  refine rn_sum (ns := ss.map fun s => ((stC co s : Nat) : Int)) (by rw [List.map_map]; rfl) ?_
                  walk_at "gs"
                  have es : (ss.map fun s => ((stC co s : Nat) : Int)).sum = (((ss.map (stC co)).sum : Nat) : Int) := by
                    exact sum_cast ss
                  rw [es]
                  refine ite_k (fun c2 => ?_) (fun c2 => ?_)
                  · have c2 := of_decide_eq_false (not_f c2)
                    walk_at "gs"
                    rw [bD_f (by
                      rintro ⟨md', _, h, _⟩
                      exact c2 (by rw [h]))]
                  · have c2 := of_decide_eq_true (not_t c2)
                    walk_at "gs"
                    exact ⟨md, _, rfl, Int.ofNat.inj c2, rfl⟩
            · rintro G1 ⟨md, s12, hch, hsum, rfl⟩
              have hin := chg_in hg hch
              have hmd := chg_len hch
              have eq2 : bD (∃ md, chg row ss = some md ∧ (ss.map (stC co)).sum = c ∧ pas m (run m z 0 md) = true) = pas m (run m z 0 md) := bD_iff ⟨fun h => ⟨md, hch, hsum, h⟩, fun ⟨md', h1, _, h3⟩ => by
                rw [hch] at h1
                cases h1
                exact h3⟩
              rw [eq2]
              refine ds_seq' ?_
              walk_at "gs"
              refine ds_mid' (fun G => ∃ s11, G = [.d (encM m), .d (zD z), .d (zD row), .d (encC co), .d (.tuple [nD c, .tuple (ss.map encT), .tuple (M.map encR)]), .d (nD c), .d (.tuple (ss.map encT)), .d (.tuple (M.map encR)), .k none (ptab co), .d (zD md), .d (nD (run m z 0 md)), s11, s12]) ?_ ?_
              · refine ds_forE' (ch := [11]) ?_
                refine di_anyS (di_str ?_)
                walk_at "gs"
                refine ⟨fun i G => ∃ s11, G = [.d (encM m), .d (zD z), .d (zD row), .d (encC co), .d (.tuple [nD c, .tuple (ss.map encT), .tuple (M.map encR)]), .d (nD c), .d (.tuple (ss.map encT)), .d (.tuple (M.map encR)), .k none (ptab co), .d (zD md), .d (nD (run m z 0 (md.take i))), s11, s12], ⟨.un, rfl⟩, fun i G2 d hd ⟨s, hG⟩ => ?_, fun G2 ⟨s, hG⟩ => ?_⟩
                · subst hG
                  rw [List.getElem?_map] at hd
                  obtain ⟨q, hc, rfl⟩ := Option.map_eq_some_iff.mp hd
                  have hcz : q ∈ z := hin q (List.mem_of_getElem? hc)
                  have hlt : run m z 0 (md.take i) < m.length := run_lt O.g hm1 fun c hc => hin c (List.mem_of_mem_take hc)
                  obtain ⟨x, e1, e2, _⟩ := O.g.at hlt (List.idxOf_lt_length_of_mem hcz)
                  refine dg_name ?_
                  walk_at "gs"
                  refine rw_ixT (ati e1) ?_
                  walk_at "gs"
                  refine rm_sindex hcz ?_
                  walk_at "gs"
                  refine rw_ixT (ati e2) ?_
                  walk_at "gs"
                  refine ⟨.d (zD [q]), ?_⟩
                  rw [List.take_succ, hc, run_app]
                  rfl
                · subst hG
                  rw [List.length_map, List.take_length]
                  exact ⟨s, rfl⟩
              · rintro G1 ⟨s11, rfl⟩
                have hlt := run_lt O.g (row := md) hm1 hin
                obtain ⟨x, hx2⟩ : ∃ x, m[run m z 0 md]? = some x := ⟨_, List.getElem?_eq_getElem hlt⟩
                walk_at "gs"
                refine rw_ixT (ati hx2) ?_
                walk_at "gs"
                unfold pas
                rw [hx2]
                rfl
end
end K62
namespace K62
open PySem PySem.Spec PyProof.Rows L2 DL
local macro_rules | `(tactic| walk_at "st") => `(tactic| with_reducible first
  | refine pw_p ?_ | refine pw_o ?_ | refine dw_op ?_ | refine dw_un ?_ | refine dw_int ?_ | refine dw_str ?_ | refine dw_bl ?_ | refine dw_non ?_ | refine dw_ty ?_ | refine da_nil' ?_ | refine da_cons' ?_ | refine dw_sortSetT ?_ | refine dw_CB ?_ | refine dw_BM ?_ | refine dw_BM0 ?_
  | refine dw_tup ?_ | refine dw_lst ?_ | refine dw_notV ?_ | refine dw_and ?_ | refine dw_or ?_ | refine dw_if ?_ | refine dw_chain ?_ | refine dw_sl3 ?_ | refine dw_revT ?_ | refine dw_tupRg1 ?_ | refine dw_lstRg1 ?_ | refine dw_callI ?_ | refine dw_callJ ?_
  | refine dt_test ?_ | refine dt_B ?_ | refine dt_and ?_ | refine dt_or ?_ | refine dt_not ?_ | refine dt_yes ?_ | refine dt_truth ?_
  | refine ds_ret ?_ | refine ds_retN ?_ | refine ds_next ?_ | refine ds_break ?_ | refine ds_cont ?_ | refine ds_drop ?_ | refine ds_if ?_ | refine ds_set ?_
  | refine nx_nxt ?_ | refine rt_nxt ?_ | refine bk_nxt ?_ | refine ct_nxt ?_ | refine nx_lp ?_ | refine rt_lp ?_ | refine bk_lp ?_ | refine ct_lp ?_ | refine asn_d ?_ | refine asn_fr ?_ | refine rt_E0 ?_ | refine rt_E0o ?_ | refine nx_E0 ?_
  | refine dw_newK ?_ | refine dw_dInK ?_ | refine dw_dNotInK ?_ | refine dw_dGetK ?_ | refine ds_dPutK ?_ | refine dw_callH ?_
  | refine tr_b ?_ | refine tr_i ?_ | refine tr_n ?_ | refine tr_T ?_ | refine tr_L ?_
  | refine do_none ?_ | refine do_some ?_ | refine ite_t ?_ | refine ite_f ?_
  | refine rw_addI ?_ | refine rw_sub ?_ | refine rw_cmp ?_ | refine rw_eqI ?_ | refine rw_neI ?_ | refine rw_eqZ ?_ | refine rw_neZ ?_ | refine rw_eqS ?_ | refine rw_neS ?_ | refine rw_eqB ?_ | refine rw_neB ?_ | refine isN_d ?_ | refine notN_d ?_ | refine rw_isB ?_ | refine rw_notB ?_
  | refine rn_intI ?_ | refine rn_intB ?_ | refine rn_max ?_ | refine rn_min ?_ | refine rn_lenT ?_ | refine rn_lenD ?_ | refine rm_sw ?_ | refine isi_int ?_ | refine isi_bool ?_ | refine isi_str ?_ | refine isi_tuple ?_ | refine isi_list ?_ | refine rn_tupT ?_ | refine rn_listT ?_
  | refine ⟨_, rfl, ?_⟩
  | fail)
local macro_rules | `(tactic| walk_at "va") => `(tactic| first
  | ((with_reducible apply dw_var); rfl) | ((with_reducible apply dw_sl); rfl) | ((with_reducible apply dw_slK); rfl)
  | ((with_reducible apply rw_ixL); rfl; rfl) | ((with_reducible apply rw_ixT); rfl)
  | ((with_reducible apply ite_T); rfl) | ((with_reducible apply ite_F); rfl) | ((with_reducible apply tr_o); rfl)
  | refine ⟨_, rfl, szl (Nat.le_of_ble_eq_true rfl), ?_⟩
  | (with_reducible refine rw_mod (by omega) ?_)
  | (with_reducible refine rw_fdiv (by unfold CDiv; omega) ?_)
  | (with_reducible refine rw_mul (by unfold CMul; omega) ?_)
  | refine ⟨szl (Nat.le_of_ble_eq_true rfl), ?_⟩
  | refine ⟨⟨rfl, _, _, rfl⟩, ?_⟩
  | refine ⟨rfl, ?_⟩
  | rfl
  | fail)
local macro_rules | `(tactic| walk_at "go") => `(tactic| repeat' (first | walk_at "st" | (with_reducible refine ds_seq' ?_) | walk_at "va" | fail))
local macro_rules | `(tactic| walk_at "gs") => `(tactic| repeat' (first | walk_at "st" | walk_at "va" | fail))
def NoE (d : PyData) : Prop := ∀ x ss p, d = .tuple [x, .tuple ss, p] → PyData.tuple [] ∉ ss
def preB (x : Px × PyData) : Prop := preA x ∧ NoE x.2
abbrev spQ2 (K : PySem.W.Frag) := spI K (fun x : PyData × Option Nat => [x.1, optN x.2]) (fun _ => True) (fun x r => r = .p (.d (.bool (bD (x.1 = optN x.2)))))
section
variable {P : Program} {w : World} {K : PySem.W.Frag} {mg : Str → Option Value} {base : Heap} {a : Ad}
theorem ok_law_same2 (T : Tx K mg a) : FnOk P w K mg base CX0 2 a.f11 a.d11 ["actual", "expected"] (spQ2 K) := by
  have G_law_same := ok_law_same (P := P) (w := w) (base := base) T 0
  refine fnI T.F_law_same sc_law_same (fun x => ⟨rfl, by decide⟩) fun cdv A outer s H E hr => ⟨_, (pss_cons (ps_if (pt_cmpR op_isN (pv 1) pe_non (nomark _)) (pss_one (ps_ret (pe_cmpR op_isN (pv 0) pe_non (nomark _)))) pss_nil) (pss_cons (ps_if (kTRUTH K rfl (pe_callB (kISI K rfl) (by rfl) T.z_isinstance (by decide +kernel) (pa_cons (pv 1) (pa_cons (pe_bltn (v := .ty "bool") (by rfl) T.z_bool (by decide +kernel) rfl) pa_nil))) (by intro _; rfl)) (pss_one (ps_ret (pe_and (pe_callB (kISI K rfl) (by rfl) T.z_isinstance (by decide +kernel) (pa_cons (pv 0) (pa_cons (pe_bltn (v := .ty "bool") (by rfl) T.z_bool (by decide +kernel) rfl) pa_nil))) (pe_one (pe_cmpR (kEQ K rfl hr.units) (pv 0) (pv 1) (nomark _)))))) pss_nil) (pss_cons (ps_if (kTRUTH K rfl (pe_callB (kISI K rfl) (by rfl) T.z_isinstance (by decide +kernel) (pa_cons (pv 1) (pa_cons (pe_bltn (v := .ty "int") (by rfl) T.z_int (by decide +kernel) rfl) pa_nil))) (by intro _; rfl)) (pss_one (ps_ret (pe_and (pe_callB (kISI K rfl) (by rfl) T.z_isinstance (by decide +kernel) (pa_cons (pv 0) (pa_cons (pe_bltn (v := .ty "int") (by rfl) T.z_int (by decide +kernel) rfl) pa_nil))) (pe_and (pe_not (pe_callB (kISI K rfl) (by rfl) T.z_isinstance (by decide +kernel) (pa_cons (pv 0) (pa_cons (pe_bltn (v := .ty "bool") (by rfl) T.z_bool (by decide +kernel) rfl) pa_nil)))) (pe_one (pe_cmpR (kEQ K rfl hr.units) (pv 0) (pv 1) (nomark _))))))) pss_nil) (pss_cons (ps_if (kTRUTH K rfl (pe_callB (kISI K rfl) (by rfl) T.z_isinstance (by decide +kernel) (pa_cons (pv 1) (pa_cons (pe_bltn (v := .ty "str") (by rfl) T.z_str (by decide +kernel) rfl) pa_nil))) (by intro _; rfl)) (pss_one (ps_ret (pe_and (pe_callB (kISI K rfl) (by rfl) T.z_isinstance (by decide +kernel) (pa_cons (pv 0) (pa_cons (pe_bltn (v := .ty "str") (by rfl) T.z_str (by decide +kernel) rfl) pa_nil))) (pe_one (pe_cmpR (kEQ K rfl hr.units) (pv 0) (pv 1) (nomark _)))))) pss_nil) (pss_cons (ps_if (PW.pt (pw_and (kTRUTH K rfl (pe_callB (kISI K rfl) (by rfl) T.z_isinstance (by decide +kernel) (pa_cons (pv 1) (pa_cons (pe_bltn (v := .ty "tuple") (by rfl) T.z_tuple (by decide +kernel) rfl) pa_nil))) (by intro _; rfl)) (pw_and1 (pt_not (kTRUTH K rfl (pe_callB (kISI K rfl) (by rfl) T.z_isinstance (by decide +kernel) (pa_cons (pv 0) (pa_cons (pe_bltn (v := .ty "tuple") (by rfl) T.z_tuple (by decide +kernel) rfl) pa_nil))) (by intro _; rfl)))))) (pss_one (ps_ret pe_bl)) pss_nil) (pss_cons (ps_if (PW.pt (pw_and (kTRUTH K rfl (pe_callB (kISI K rfl) (by rfl) T.z_isinstance (by decide +kernel) (pa_cons (pv 1) (pa_cons (pe_bltn (v := .ty "list") (by rfl) T.z_list (by decide +kernel) rfl) pa_nil))) (by intro _; rfl)) (pw_and1 (pt_not (kTRUTH K rfl (pe_callB (kISI K rfl) (by rfl) T.z_isinstance (by decide +kernel) (pa_cons (pv 0) (pa_cons (pe_bltn (v := .ty "list") (by rfl) T.z_list (by decide +kernel) rfl) pa_nil))) (by intro _; rfl)))))) (pss_one (ps_ret pe_bl)) pss_nil) (pss_cons (ps_if (pt_cmpR (kNE K rfl hr.units) (pe_callB (kLEN K rfl) (by rfl) T.z_len (by decide +kernel) (pa_cons (pv 0) pa_nil)) (pe_callB (kLEN K rfl) (by rfl) T.z_len (by decide +kernel) (pa_cons (pv 1) pa_nil)) (nomark _)) (pss_one (ps_ret pe_bl)) pss_nil) (pss_cons (ps_for PassesOwn.never rfl (pi_range1 (by rfl) T.z_range (pa_cons (pe_callB (kLEN K rfl) (by rfl) T.z_len (by decide +kernel) (pa_cons (pv 1) pa_nil)) pa_nil)) (pg_name (i := 2) sc_law_same.nd rfl (Or.inl rfl)) (pss_one (ps_if (pt_not (kTRUTH K rfl (pe_call G_law_same hr (by rfl) T.m_law_same T.k_law_same T.b_law_same .nil pass0 (pa_cons (pe_ix (kIX K rfl) (pv 0) (pv 2) (fun _ _ => rfl)) (pa_cons (pe_ix (kIX K rfl) (pv 1) (pv 2) (fun _ _ => rfl)) pa_nil))) (by intro _; rfl))) (pss_one (ps_ret pe_bl)) pss_nil))) (pss_one (ps_ret pe_bl)))))))))), ?_⟩
  rintro ⟨x, o⟩ _ B
  cases o with
  | none =>
    dsimp only [optN]
    walk_at "go"
    rw [bD_iff (b := isNone x)]
    constructor
    · intro h
      cases x <;> first | rfl | cases h
    · rintro rfl
      rfl
  | some c =>
    dsimp only [optN]
    walk_at "go"
    refine ite_k (fun h => ?_) (fun h => ?_)
    · walk_at "go"
      refine ite_k (fun h' => ?_) (fun h' => ?_)
      · obtain ⟨i, rfl⟩ := isi_i h (not_f h')
        walk_at "go"
        rw [bD_iff (b := decide (i = (c : Int)))]
        constructor
        · intro h
          rw [of_decide_eq_true h]
        · intro h
          injection h with h
          exact decide_eq_true h
      · obtain ⟨b, rfl⟩ := isi_b (not_t h')
        walk_at "go"
        rw [bD_f]
        intro h
        cases h
    · walk_at "go"
      rw [bD_f]
      rintro rfl
      cases h
theorem ok_law_accepts (T : Tx K mg a) (G_law_is_price0 : FnOk P w K mg base CX0 1 a.f22 a.d22 ["value"] (spIp K)) (G_law_edges0 : FnOk P w K mg base CX0 1 a.f17 a.d17 ["machine", "signs", "row", "costs", "place", "line"] (spE K encE))
    (G_law_is_step0 : FnOk P w K mg base CX0 1 a.f21 a.d21 ["signs", "step"] (spI K argIs (fun x => preIs x ∧ x.2 ≠ .tuple []) (fun x r => r = .p (.d (.bool (bD (okS x.1 x.2)))))))
    (G_law_changed0 : FnOk P w K mg base CX0 1 a.f20 a.d20 ["row", "steps"] (spCh K)) (G_law_passes : FnOk P w K mg base CX0 2 a.f15 a.d15 ["machine", "signs", "line", "row"] (spI K argR preR (fun x r => r = .p (.d (.bool (pas x.1 (run x.1 x.2.1 x.2.2.1 x.2.2.2))))))) :
    FnOk P w K mg base CX0 3 a.f23 a.d23 ["machine", "signs", "row", "costs", "told"] (spJd K preB) := by
  have G_law_is_price := G_law_is_price0.mono (show 1 ≤ 2 by decide)
  have G_law_edges := G_law_edges0.mono (show 1 ≤ 2 by decide)
  have G_law_is_step := G_law_is_step0.mono (show 1 ≤ 2 by decide)
  have G_law_changed := G_law_changed0.mono (show 1 ≤ 2 by decide)
  have G_law_same := ok_law_same2 (P := P) (w := w) (base := base) T
  refine fnI T.F_law_accepts sc_law_accepts (fun x => ⟨rfl, by decide⟩) fun cdv A outer s H E hr => ⟨_, (pss_cons (ps_if (PW.pt (pw_or (pt_not (kTRUTH K rfl (pe_callB (kISI K rfl) (by rfl) T.z_isinstance (by decide +kernel) (pa_cons (pv 4) (pa_cons (pe_bltn (v := .ty "tuple") (by rfl) T.z_tuple (by decide +kernel) rfl) pa_nil))) (by intro _; rfl))) (pw_or (pt_cmpR (kNE K rfl hr.units) (pe_callB (kLEN K rfl) (by rfl) T.z_len (by decide +kernel) (pa_cons (pv 4) pa_nil)) pe_int (nomark _)) (pw_or (pt_not (kTRUTH K rfl (pe_callB (kISI K rfl) (by rfl) T.z_isinstance (by decide +kernel) (pa_cons (pe_ix (kIX K rfl) (pv 4) pe_int (fun _ _ => rfl)) (pa_cons (pe_bltn (v := .ty "tuple") (by rfl) T.z_tuple (by decide +kernel) rfl) pa_nil))) (by intro _; rfl))) (pw_or1 (pt_cmpR (kNE K rfl hr.units) (pe_callB (kLEN K rfl) (by rfl) T.z_len (by decide +kernel) (pa_cons (pe_ix (kIX K rfl) (pv 4) pe_int (fun _ _ => rfl)) pa_nil)) (pe_op (kADD K rfl) (pe_callB (kLEN K rfl) (by rfl) T.z_len (by decide +kernel) (pa_cons (pv 2) pa_nil)) pe_int) (nomark _))))))) (pss_one (ps_ret pe_bl)) pss_nil) (pss_cons (ps_asg (pv 4) (kTG K rfl rfl (pgs_cons (pg_name (i := 5) sc_law_accepts.nd rfl (Or.inl rfl)) (pgs_cons (pg_name (i := 6) sc_law_accepts.nd rfl (Or.inl rfl)) (pgs_cons (pg_name (i := 7) sc_law_accepts.nd rfl (Or.inr rfl)) pgs_nil))))) (pss_cons (ps_for PassesOwn.never rfl (kANY K rfl (pv 7)) (pg_name (i := 8) sc_law_accepts.nd rfl (Or.inl rfl)) (pss_one (ps_if (PW.pt (pw_or (pt_not (kTRUTH K rfl (pe_callB (kISI K rfl) (by rfl) T.z_isinstance (by decide +kernel) (pa_cons (pv 8) (pa_cons (pe_bltn (v := .ty "tuple") (by rfl) T.z_tuple (by decide +kernel) rfl) pa_nil))) (by intro _; rfl))) (pw_or (pt_cmpR (kNE K rfl hr.units) (pe_callB (kLEN K rfl) (by rfl) T.z_len (by decide +kernel) (pa_cons (pv 8) pa_nil)) (pe_callB (kLEN K rfl) (by rfl) T.z_len (by decide +kernel) (pa_cons (pv 0) pa_nil)) (nomark _)) (pw_or1 (pt_cmpR (kNE K rfl hr.units) (pe_lc (own := [("one", 16)]) (g := gName 16) (by rfl) sc_law_accepts.nd (kANY K rfl (pv 8)) (blkOk_by (own := [("one", 16)]) (N := ["machine", "signs", "row", "costs", "told", "cost", "steps", "prices", "part", "place", "line", "step", "price", "other", "behind", "made", "one"]) (sc := defScope s_law_accepts) (by decide +kernel)) (fun _ _ _ _ _ => (pg_name (i := 16) sc_law_accepts.nd rfl (by first | exact Or.inl rfl | exact Or.inr rfl))) (fun _ _ _ _ _ => (pts_one (pt_not (kTRUTH K rfl (pe_call G_law_is_price hr (by rfl) T.m_law_is_price T.k_law_is_price T.b_law_is_price .nil pass0 (pa_cons (pv 16) pa_nil)) (by intro _; rfl))))) (fun _ _ _ _ _ => (pv 16))) (pe_lst pa_nil) (nomark _)))))) (pss_one (ps_ret pe_bl)) pss_nil))) (pss_cons (ps_if (pt_cmpR (kNE K rfl hr.units) (pe_lc (own := [("line", 10)]) (g := gName 10) (by rfl) sc_law_accepts.nd (pi_range1 (by rfl) T.z_range (pa_cons (pe_callB (kLEN K rfl) (by rfl) T.z_len (by decide +kernel) (pa_cons (pv 0) pa_nil)) pa_nil)) (blkOk_by (own := [("line", 10)]) (N := ["machine", "signs", "row", "costs", "told", "cost", "steps", "prices", "part", "place", "line", "step", "price", "other", "behind", "made", "one"]) (sc := defScope s_law_accepts) (by decide +kernel)) (fun _ _ _ _ _ => (pg_name (i := 10) sc_law_accepts.nd rfl (by first | exact Or.inl rfl | exact Or.inr rfl))) (fun _ _ _ _ _ => (pts_one (PW.pt (pw_and (kTRUTH K rfl (pe_ix (kIX K rfl) (pe_ix (kIX K rfl) (pv 0) (pv 10) (fun _ _ => rfl)) pe_int (fun _ _ => rfl)) (by intro _; rfl)) (pw_and1 (pt_cmpR (kNE K rfl hr.units) (pe_ix (kIX K rfl) (pe_ix (kIX K rfl) (pv 7) (pe_callB (kLEN K rfl) (by rfl) T.z_len (by decide +kernel) (pa_cons (pv 2) pa_nil)) (fun _ _ => rfl)) (pv 10) (fun _ _ => rfl)) pe_int (nomark _))))))) (fun _ _ _ _ _ => (pv 10))) (pe_lst pa_nil) (nomark _)) (pss_one (ps_ret pe_bl)) pss_nil) (pss_cons (ps_for PassesOwn.never rfl (pi_range1 (by rfl) T.z_range (pa_cons (pe_op (kADD K rfl) (pe_callB (kLEN K rfl) (by rfl) T.z_len (by decide +kernel) (pa_cons (pv 2) pa_nil)) pe_int) pa_nil)) (pg_name (i := 9) sc_law_accepts.nd rfl (Or.inl rfl)) (pss_one (ps_for PassesOwn.never rfl (pi_range1 (by rfl) T.z_range (pa_cons (pe_callB (kLEN K rfl) (by rfl) T.z_len (by decide +kernel) (pa_cons (pv 0) pa_nil)) pa_nil)) (pg_name (i := 10) sc_law_accepts.nd rfl (Or.inl rfl)) (pss_one (ps_for PassesOwn.never rfl (kANY K rfl (pe_call G_law_edges hr (by rfl) T.m_law_edges T.k_law_edges T.b_law_edges .nil pass0 (pa_cons (pv 0) (pa_cons (pv 1) (pa_cons (pv 2) (pa_cons (pv 3) (pa_cons (pv 9) (pa_cons (pv 10) pa_nil)))))))) (kTG K rfl rfl (pgs_cons (pg_name (i := 11) sc_law_accepts.nd rfl (Or.inl rfl)) (pgs_cons (pg_name (i := 12) sc_law_accepts.nd rfl (Or.inr rfl)) (pgs_cons (pg_name (i := 13) sc_law_accepts.nd rfl (Or.inl rfl)) (pgs_cons (pg_name (i := 14) sc_law_accepts.nd rfl (Or.inl rfl)) pgs_nil))))) (pss_one (ps_if (pt_cmpR op_notN (pe_ix (kIX K rfl) (pe_ix (kIX K rfl) (pv 7) (pv 13) (fun _ _ => rfl)) (pv 14) (fun _ _ => rfl)) pe_non (nomark _)) (pss_one (ps_if (PW.pt (pw_or (pt_cmpR op_isN (pe_ix (kIX K rfl) (pe_ix (kIX K rfl) (pv 7) (pv 9) (fun _ _ => rfl)) (pv 10) (fun _ _ => rfl)) pe_non (nomark _)) (pw_or1 (pt_cmpR op_gt (pe_ix (kIX K rfl) (pe_ix (kIX K rfl) (pv 7) (pv 9) (fun _ _ => rfl)) (pv 10) (fun _ _ => rfl)) (pe_op (kADD K rfl) (pv 12) (pe_ix (kIX K rfl) (pe_ix (kIX K rfl) (pv 7) (pv 13) (fun _ _ => rfl)) (pv 14) (fun _ _ => rfl))) (nomark _))))) (pss_one (ps_ret pe_bl)) pss_nil)) pss_nil))))))) (pss_cons (ps_if (pt_not (kTRUTH K rfl (pe_call G_law_same hr (by rfl) T.m_law_same T.k_law_same T.b_law_same .nil pass0 (pa_cons (pv 5) (pa_cons (pe_ix (kIX K rfl) (pe_ix (kIX K rfl) (pv 7) pe_int (fun _ _ => rfl)) pe_int (fun _ _ => rfl)) pa_nil))) (by intro _; rfl))) (pss_one (ps_ret pe_bl)) pss_nil) (pss_cons (ps_if (PW.pt (pw_or (pt_cmpR op_isN (pv 5) pe_non (nomark _)) (pw_or1 (pt_cmpR op_isN (pv 6) pe_non (nomark _))))) (pss_one (ps_ret (pe_and (pe_cmpR op_isN (pv 5) pe_non (nomark _)) (pe_one (pe_cmpR op_isN (pv 6) pe_non (nomark _)))))) pss_nil) (pss_cons (ps_if (PW.pt (pw_or (pt_not (kTRUTH K rfl (pe_callB (kISI K rfl) (by rfl) T.z_isinstance (by decide +kernel) (pa_cons (pv 6) (pa_cons (pe_bltn (v := .ty "tuple") (by rfl) T.z_tuple (by decide +kernel) rfl) pa_nil))) (by intro _; rfl))) (pw_or1 (pt_cmpR (kNE K rfl hr.units) (pe_lc (own := [("step", 11)]) (g := gName 11) (by rfl) sc_law_accepts.nd (kANY K rfl (pv 6)) (blkOk_by (own := [("step", 11)]) (N := ["machine", "signs", "row", "costs", "told", "cost", "steps", "prices", "part", "place", "line", "step", "price", "other", "behind", "made", "one"]) (sc := defScope s_law_accepts) (by decide +kernel)) (fun _ _ _ _ _ => (pg_name (i := 11) sc_law_accepts.nd rfl (by first | exact Or.inl rfl | exact Or.inr rfl))) (fun _ _ _ _ _ => (pts_one (pt_not (kTRUTH K rfl (pe_call G_law_is_step hr (by rfl) T.m_law_is_step T.k_law_is_step T.b_law_is_step .nil pass0 (pa_cons (pv 1) (pa_cons (pv 11) pa_nil))) (by intro _; rfl))))) (fun _ _ _ _ _ => (pv 11))) (pe_lst pa_nil) (nomark _))))) (pss_one (ps_ret pe_bl)) pss_nil) (pss_cons (ps_set (i := 15) sc_law_accepts.nd rfl (Or.inl rfl) (pe_call G_law_changed hr (by rfl) T.m_law_changed T.k_law_changed T.b_law_changed .nil pass0 (pa_cons (pv 2) (pa_cons (pv 6) pa_nil)))) (pss_cons (ps_set (i := 12) sc_law_accepts.nd rfl (Or.inr rfl) (pe_disp (pps_cons (pe_strM [107, 101, 101, 112] rfl) pe_int (pps_cons (pe_strM [112, 117, 116] rfl) (pe_ix (kIX K rfl) (pv 3) pe_int (fun _ _ => rfl)) (pps_cons (pe_strM [108, 101, 97, 118, 101] rfl) (pe_ix (kIX K rfl) (pv 3) pe_int (fun _ _ => rfl)) (pps_cons (pe_strM [116, 117, 114, 110] rfl) (pe_ix (kIX K rfl) (pv 3) pe_int (fun _ _ => rfl)) pps_nil)))) (by rfl) (by rfl) (by simp) (by decide))) (pss_one (ps_ret (pe_and (pe_cmpR op_notN (pv 15) pe_non (nomark _)) (pe_and (pe_cmpR (kEQ K rfl hr.units) (pe_callB (kSUM K rfl (by rfl)) (by rfl) T.z_sum (by decide +kernel) (pa_cons (pe_lc (own := [("step", 11)]) (g := gName 11) (by rfl) sc_law_accepts.nd (kANY K rfl (pv 6)) (blkOk_by (own := [("step", 11)]) (N := ["machine", "signs", "row", "costs", "told", "cost", "steps", "prices", "part", "place", "line", "step", "price", "other", "behind", "made", "one"]) (sc := defScope s_law_accepts) (by decide +kernel)) (fun _ _ _ _ _ => (pg_name (i := 11) sc_law_accepts.nd rfl (by first | exact Or.inl rfl | exact Or.inr rfl))) (fun _ _ _ _ _ => pts_nil) (fun _ _ _ _ _ => (pe_dget (hu_of hr) (pv 12) (pe_ix (kIX K rfl) (pv 11) pe_int (fun _ _ => rfl)) (fun _ _ => rfl)))) pa_nil)) (pv 5) (nomark _)) (pe_one (pe_call G_law_passes hr (by rfl) T.m_law_passes T.k_law_passes T.b_law_passes .nil pass0 (pa_cons (pv 0) (pa_cons (pv 1) (pa_cons pe_int (pa_cons (pv 15) pa_nil)))))))))))))))))))), ?_⟩
  rintro ⟨⟨m, z, row, co⟩, d⟩ ⟨⟨⟨O, hc1, hc2, hc3⟩, n, hn, hd⟩, hnoe⟩ B
  dsimp only [argA] at *
  have hrl : row.length ≤ 20 := O.rl
  have hml : m.length ≤ 11 := O.m11
  have hm1 : 1 ≤ m.length := O.m1
  refine ds_mid' (fun G => ∃ x y ps, d = .tuple [x, y, .tuple ps] ∧ ps.length = row.length + 1 ∧ G = [.d (encM m), .d (zD z), .d (zD row), .d (encC co), .d d, .un, .un, .un, .un, .un, .un, .un, .un, .un, .un, .un, .un]) ?_ ?_
  · walk_at "gs"
    refine ite_k (fun c => ?_) (fun c => ?_)
    · walk_at "gs"
      rw [bD_f]
      rintro ⟨M, y, rfl, _⟩
      cases c
    · obtain ⟨xs, rfl⟩ := isi_t (not_t c)
      walk_at "gs"
      refine ite_k (fun c2 => ?_) (fun c2 => ?_)
      · have c2 := of_decide_eq_false (not_f c2)
        walk_at "gs"
        rw [bD_f]
        rintro ⟨M, y, e, _⟩
        injection e with e
        rw [e] at c2
        exact c2 rfl
      · have c2 : ((xs.length : Nat) : Int) = 3 := of_decide_eq_true (not_t c2)
        obtain ⟨x, y, p, rfl⟩ : ∃ x y p, xs = [x, y, p] := by
          match xs, c2 with
          | [x, y, p], _ => exact ⟨x, y, p, rfl⟩
          | [], c2 => cases c2
          | [_], c2 => cases c2
          | [_, _], c2 => cases c2
          | _ :: _ :: _ :: _ :: _, c2 => simp only [List.length_cons] at c2; omega
        walk_at "gs"
        refine ite_k (fun c3 => ?_) (fun c3 => ?_)
        · walk_at "gs"
          rw [bD_f fun h => ?_]
          obtain ⟨M, rfl, _⟩ := accP_okP h
          cases c3
        · obtain ⟨ps, rfl⟩ := isi_t (not_t c3)
          walk_at "gs"
          refine rn_lenZ (by omega) ?_
          walk_at "gs"
          refine ite_k (fun c4 => ?_) (fun c4 => ?_)
          · have c4 := of_decide_eq_false (not_f c4)
            walk_at "gs"
            rw [bD_f fun h => ?_]
            have := (okP_part (accP_okP h)).1
            omega
          · have c4 := of_decide_eq_true (not_t c4)
            walk_at "gs"
            exact ⟨x, y, ps, rfl, by omega, rfl⟩
  · rintro G1 ⟨x, y, ps, rfl, hpl, rfl⟩
    obtain ⟨n, rfl⟩ := hd.pos
    have hx := hd.2 x (by simp)
    have hy := hd.2 y (by simp)
    have hp := hd.2 (.tuple ps) (by simp)
    obtain ⟨n, rfl⟩ := hp.pos
    have hps := hp.2
    refine ds_seq' ?_
    refine ds_asg (cs := [5, 6, 7]) ?_
    walk_at "gs"
    refine dg_tup rfl (dgs_cons (dg_name (dgs_cons (dg_name (dgs_cons (dg_name (dgs_nil ?_)))))))
    refine ds_mid' (fun G => ∃ (M : Mat) (s8 : Sl), ps = M.map encR ∧ Dim M (row.length + 1) m.length ∧ G = [.d (encM m), .d (zD z), .d (zD row), .d (encC co), .d (.tuple [x, y, .tuple ps]), .d x, .d y, .d (.tuple ps), s8, .un, .un, .un, .un, .un, .un, .un, .un]) ?_ ?_
    · refine ds_forE' (ch := [8]) ?_
      refine di_anyT (di_tup ?_)
      walk_at "gs"
      refine ⟨fun i G => ∃ s8, (∀ q ∈ ps.take i, partOk m.length q = true) ∧ G = [.d (encM m), .d (zD z), .d (zD row), .d (encC co), .d (.tuple [x, y, .tuple ps]), .d x, .d y, .d (.tuple ps), s8, .un, .un, .un, .un, .un, .un, .un, .un], ⟨.un, (fun q hq => nomatch hq), rfl⟩, fun i G2 q hq ⟨s8, hj, hG⟩ => ?_, fun G2 ⟨s8, hj, hG⟩ => ?_⟩
      · subst hG
        have hqm := List.mem_of_getElem? hq
        have bad : partOk m.length q = false → bD (accP m z row co (.tuple [x, y, .tuple ps])) = false := fun hb => bD_f fun h => by
          rw [(okP_part (accP_okP h)).2 q hqm] at hb
          cases hb
        refine dg_name ?_
        walk_at "gs"
        refine ite_k (fun c => ?_) (fun c => ?_)
        · walk_at "gs"
          rw [bad (partOk_not (not_f c))]
        · obtain ⟨xs, rfl⟩ := isi_t (not_t c)
          have hxs := hps _ hqm
          obtain ⟨n, rfl⟩ := hxs.pos
          have hxl : xs.length ≤ 20000 := hxs.1
          walk_at "gs"
          rw [List.length_map]
          refine ite_k (fun c2 => ?_) (fun c2 => ?_)
          · have c2 := of_decide_eq_false (not_f c2)
            walk_at "gs"
            rw [bad (by
              show (decide (xs.length = m.length) && xs.all isP) = false
              rw [decide_eq_false (by omega)]
              rfl)]
          · have c2 := of_decide_eq_true (not_t c2)
            walk_at "gs"
            refine dw_lcF xs id (fun x => !isP x) id ?_
            refine di_anyT (di_tup ?_)
            walk_at "gs"
            refine ⟨(List.map_id xs).symm, szl (by omega), fun B' x hx => ?_, ?_⟩
            · walk_at "gs"
              refine ⟨x, trivial, rfl, ?_⟩
              rintro _ rfl
              walk_at "gs"
              refine fun _ => ?_
              walk_at "gs"
            · walk_at "gs"
              refine rw_neF (fun x hx => shp_mono (hxs.2 x hx).shp (by omega)) ?_
              rw [← List.not_all_eq_any_not]
              walk_at "gs"
              refine ite_k (fun c3 => ?_) (fun c3 => ?_)
              · walk_at "gs"
                rw [bad (by
                  show (decide (xs.length = m.length) && xs.all isP) = false
                  rw [not_f c3, Bool.and_false])]
              · walk_at "gs"
                refine ⟨.d (.tuple xs), fun q hq' => ?_, rfl⟩
                rw [List.take_succ, hq] at hq'
                rcases List.mem_append.mp hq' with h | h
                · exact hj q h
                · rw [List.mem_singleton.mp h]
                  show (decide (xs.length = m.length) && xs.all isP) = true
                  rw [not_t c3, decide_eq_true (by omega)]
                  rfl
      · subst hG
        rw [List.take_length] at hj
        obtain ⟨M, rfl, hM⟩ := parts_mat hj
        rw [List.length_map] at hpl
        exact ⟨M, s8, rfl, ⟨hpl, hM⟩, rfl⟩
    · rintro G1 ⟨M, s8, rfl, D, rfl⟩
      obtain ⟨r0, g1, g2, g3⟩ := D.get (Nat.succ_pos row.length) (Nat.lt_of_lt_of_le Nat.zero_lt_one hm1)
      rw [show bD (accP m z row co (.tuple [x, y, .tuple (M.map encR)])) = bD (x = optN (at2 M 0 0) ∧ okM m z row co M ∧ accS m z row co (at2 M 0 0) y) by rw [propext accP_M]]
      refine ds_mid' (fun G => (∀ l, l < m.length → pas m l = true → at2 M row.length l = some 0) ∧ G = [.d (encM m), .d (zD z), .d (zD row), .d (encC co), .d (.tuple [x, y, .tuple (M.map encR)]), .d x, .d y, .d (.tuple (M.map encR)), s8, .un, .un, .un, .un, .un, .un, .un, .un]) ?_ ?_
      · walk_at "gs"
        refine dw_lcF (List.range m.length) nD (fun l => pas m l && !decide (at2 M row.length l = some 0)) nD ?_
        refine di_rng1 ?_
        walk_at "gs"
        rw [List.length_map, rng_nD]
        refine ⟨by omega, by omega, rfl, szl (by rw [List.length_range]; omega), fun B' l hl => ?_, ?_⟩
        · have hl := List.mem_range.mp hl
          obtain ⟨q, hq⟩ : ∃ q, m[l]? = some q := ⟨_, List.getElem?_eq_getElem hl⟩
          have hpas : pas m l = q.1 := by
            unfold pas
            rw [hq]
            rfl
          obtain ⟨r, k1, k2, k3⟩ := D.get (Nat.lt_succ_self row.length) hl
          walk_at "gs"
          refine rw_ixT (ati hq) ?_
          walk_at "gs"
          refine ite_k (fun c => ?_) (fun c => ?_)
          · walk_at "gs"
            refine rn_lenZ (by omega) ?_
            walk_at "gs"
            refine rw_m1 k1 ?_
            walk_at "gs"
            refine rw_m2 k3 ?_
            walk_at "gs"
            refine rw_neD (d := optN (at2 M row.length l)) (e := nD 0) rfl rfl (shp_ok (n := 0) (by cases at2 M row.length l <;> first | exact shp_none _ | exact shp_int _ _) (by decide)) (shp_ok (shp_int 0 _) (by decide)) ?_
            rw [eqv_optN]
            walk_at "gs"
            refine ⟨by rw [hpas, c, Bool.true_and], rfl, fun _ => ?_⟩
            walk_at "gs"
          · refine ⟨by rw [hpas, c]; rfl, rfl, fun h => ?_⟩
            rw [hpas, c] at h
            cases h
        · walk_at "gs"
          refine rw_neF (fun x _ => shp_int _ _) ?_
          walk_at "gs"
          refine ite_k (fun c => ?_) (fun c => ?_)
          · walk_at "gs"
            rw [bD_f]
            rintro ⟨_, ⟨_, h, _⟩, _⟩
            obtain ⟨l, hl, h2⟩ := List.any_eq_true.mp c
            rw [Bool.and_eq_true] at h2
            have := h l (List.mem_range.mp hl) h2.1
            rw [decide_eq_true this] at h2
            cases h2.2
          · walk_at "gs"
            refine ⟨fun l hl hpl => ?_, rfl⟩
            refine Classical.byContradiction fun q => ?_
            have : ((List.range m.length).any fun l => pas m l && !decide (at2 M row.length l = some 0)) = true := List.any_eq_true.mpr ⟨l, List.mem_range.mpr hl, by rw [hpl, decide_eq_false q]; rfl⟩
            rw [this] at c
            cases c
      · rintro G1 ⟨hfin, rfl⟩
        refine ds_mid' (fun G => ∃ s9 s10 s11 s12 s13 s14, (∀ p l, p ≤ row.length → l < m.length → EdOk M p l (eds m z row co p l)) ∧ G = [.d (encM m), .d (zD z), .d (zD row), .d (encC co), .d (.tuple [x, y, .tuple (M.map encR)]), .d x, .d y, .d (.tuple (M.map encR)), s8, s9, s10, s11, s12, s13, s14, .un, .un]) ?_ ?_
        · refine ds_forE' (ch := [9]) ?_
          refine di_rng1 ?_
          walk_at "gs"
          refine rn_lenZ (by omega) ?_
          walk_at "gs"
          refine ⟨by omega, by omega, fun i G => ∃ s9 s10 s11 s12 s13 s14, (∀ p l, p < i → l < m.length → EdOk M p l (eds m z row co p l)) ∧ G = [.d (encM m), .d (zD z), .d (zD row), .d (encC co), .d (.tuple [x, y, .tuple (M.map encR)]), .d x, .d y, .d (.tuple (M.map encR)), s8, s9, s10, s11, s12, s13, s14, .un, .un], ⟨.un, .un, .un, .un, .un, .un, fun p l h => absurd h (Nat.not_lt_zero _), rfl⟩, fun i G2 d hd ⟨s9, s10, s11, s12, s13, s14, hj, hG⟩ => ?_, fun G2 ⟨s9, s10, s11, s12, s13, s14, hj, hG⟩ => ?_⟩
          · subst hG
            obtain ⟨hi, rfl⟩ := rngD_get hd
            have hi : i < row.length + 1 := by omega
            have e0 : (0 : Int) + (i : Int) = (i : Int) := by omega
            rw [e0]
            refine dg_name ?_
            refine ds_forE' (ch := [10]) ?_
            refine di_rng1 ?_
            walk_at "gs"
            rw [List.length_map, rng_nD]
            refine ⟨by omega, by omega, fun j G => ∃ s10 s11 s12 s13 s14, (∀ l, l < j → EdOk M i l (eds m z row co i l)) ∧ G = [.d (encM m), .d (zD z), .d (zD row), .d (encC co), .d (.tuple [x, y, .tuple (M.map encR)]), .d x, .d y, .d (.tuple (M.map encR)), s8, .d (nD i), s10, s11, s12, s13, s14, .un, .un], ⟨s10, s11, s12, s13, s14, fun l h => absurd h (Nat.not_lt_zero _), rfl⟩, fun j G2 d2 hd2 ⟨s10, s11, s12, s13, s14, hj2, hG⟩ => ?_, fun G2 ⟨s10, s11, s12, s13, s14, hj2, hG⟩ => ?_⟩
            · subst hG
              rw [List.getElem?_map] at hd2
              obtain ⟨k, hk, rfl⟩ := Option.map_eq_some_iff.mp hd2
              obtain ⟨hjk, hk⟩ := List.getElem?_eq_some_iff.mp hk
              rw [List.getElem_range] at hk
              subst hk
              rw [List.length_range] at hjk
              refine dg_name ?_
              walk_at "gs"
              refine ds_forE' (ch := [11, 12, 13, 14]) ?_
              refine di_anyL (di_list ?_)
              walk_at "gs"
              refine ⟨⟨m, z, row, co, i, j⟩, ⟨O, hjk⟩, rfl, ?_⟩
              rintro _ rfl
              dsimp only
              walk_at "gs"
              refine ⟨fun q G => ∃ s11 s12 s13 s14, EdOk M i j ((eds m z row co i j).take q) ∧ G = [.d (encM m), .d (zD z), .d (zD row), .d (encC co), .d (.tuple [x, y, .tuple (M.map encR)]), .d x, .d y, .d (.tuple (M.map encR)), s8, .d (nD i), .d (nD j), s11, s12, s13, s14, .un, .un], ⟨s11, s12, s13, s14, (fun e he => nomatch he), rfl⟩, fun q G2 d3 hd3 ⟨s11, s12, s13, s14, hj3, hG⟩ => ?_, fun G2 ⟨s11, s12, s13, s14, hj3, hG⟩ => ?_⟩
              · subst hG
                rw [List.getElem?_map] at hd3
                obtain ⟨e, he, rfl⟩ := Option.map_eq_some_iff.mp hd3
                have hem := List.mem_of_getElem? he
                have hep := eds_p hem
                have hel := eds_l O hjk hem
                obtain ⟨r, f1, f2, f3⟩ := D.get (by omega : e.p < row.length + 1) hel
                obtain ⟨r', k1, k2, k3⟩ := D.get hi hjk
                have keep : (∀ c, at2 M e.p e.l = some c → ∃ c', at2 M i j = some c' ∧ c' ≤ e.c + c) → EdOk M i j ((eds m z row co i j).take (q + 1)) := fun h e' he' => by
                  rw [List.take_succ, he] at he'
                  rcases List.mem_append.mp he' with k | k
                  · exact hj3 e' k
                  · rw [List.mem_singleton.mp k]
                    exact h
                have bad : ∀ c, at2 M e.p e.l = some c → (¬ ∃ c', at2 M i j = some c' ∧ c' ≤ e.c + c) → bD (x = optN (at2 M 0 0) ∧ okM m z row co M ∧ accS m z row co (at2 M 0 0) y) = false := fun c hc hb => bD_f fun h => hb (h.2.1.2.2 i j (Nat.le_of_lt_succ hi) hjk e hem c hc)
                refine dg_tup rfl (dgs_cons (dg_name (dgs_cons (dg_name (dgs_cons (dg_name (dgs_cons (dg_name (dgs_nil ?_)))))))))
                walk_at "gs"
                refine rw_m1 f1 ?_
                walk_at "gs"
                refine rw_m2 f3 ?_
                walk_at "gs"
                cases hM : at2 M e.p e.l with
                | none =>
                  refine ite_F rfl ?_
                  walk_at "gs"
                  exact ⟨_, _, _, _, keep (fun c hc => by rw [hM] at hc; cases hc), rfl⟩
                | some c =>
                  dsimp only [optN]
                  refine ite_T rfl ?_
                  walk_at "gs"
                  refine rw_m1 k1 ?_
                  walk_at "gs"
                  refine rw_m2 k3 ?_
                  walk_at "gs"
                  cases hN : at2 M i j with
                  | none =>
                    refine ite_T rfl ?_
                    walk_at "gs"
                    exact congrArg (fun b => Rs.p (.d (.bool b))) (bad c hM (fun ⟨c', h, _⟩ => by rw [hN] at h; cases h)).symm
                  | some o =>
                    refine ite_F rfl ?_
                    walk_at "gs"
                    refine rw_m1 k1 ?_
                    walk_at "gs"
                    refine rw_m2 k3 ?_
                    rw [hN]
                    dsimp only [optN]
                    walk_at "gs"
                    refine rw_m1 f1 ?_
                    walk_at "gs"
                    refine rw_m2 f3 ?_
                    rw [hM]
                    dsimp only [optN]
                    walk_at "gs"
                    refine ite_k (fun c4 => ?_) (fun c4 => ?_)
                    · have c4 := of_decide_eq_true c4
                      walk_at "gs"
                      exact congrArg (fun b => Rs.p (.d (.bool b))) (bad c hM (fun ⟨c', h, h2⟩ => by rw [hN] at h; cases h; omega)).symm
                    · have c4 := of_decide_eq_false c4
                      walk_at "gs"
                      exact ⟨_, _, _, _, keep (fun c' hc => by rw [hM] at hc; cases hc; exact ⟨o, hN, by omega⟩), rfl⟩
              · subst hG
                rw [List.length_map, List.take_length] at hj3
                exact ⟨_, _, _, _, _, fun l hl => by
                  rcases Nat.lt_succ_iff_lt_or_eq.mp hl with k | rfl
                  · exact hj2 l k
                  · exact hj3, rfl⟩
            · subst hG
              rw [List.length_map, List.length_range] at hj2
              exact ⟨_, _, _, _, _, _, fun p l hp hl => by
                rcases Nat.lt_succ_iff_lt_or_eq.mp hp with k | rfl
                · exact hj p l k hl
                · exact hj2 l hl, rfl⟩
          · subst hG
            rw [rngD_len] at hj
            exact ⟨s9, s10, s11, s12, s13, s14, fun p l hp hl => hj p l (by omega) hl, rfl⟩
        · rintro G1 ⟨s9, s10, s11, s12, s13, s14, hed, rfl⟩
          have hM : okM m z row co M := ⟨D, hfin, hed⟩
          refine ds_mid' (fun G => x = optN (at2 M 0 0) ∧ G = [.d (encM m), .d (zD z), .d (zD row), .d (encC co), .d (.tuple [x, y, .tuple (M.map encR)]), .d x, .d y, .d (.tuple (M.map encR)), s8, s9, s10, s11, s12, s13, s14, .un, .un]) ?_ ?_
          · walk_at "gs"
            refine rw_m1 (p := 0) g1 ?_
            walk_at "gs"
            refine rw_m2 (l := 0) g3 ?_
            walk_at "gs"
            refine ⟨(x, at2 M 0 0), trivial, rfl, ?_⟩
            rintro _ rfl
            dsimp only
            walk_at "gs"
            refine ite_k (fun c => ?_) (fun c => ?_)
            · walk_at "gs"
              rw [bD_f fun h => bD_false (not_f c) h.1]
            · have c := bD_true (not_t c)
              walk_at "gs"
              exact ⟨c, rfl⟩
          · rintro G1 ⟨rfl, rfl⟩
            refine ds_mid' (fun G => ∃ c, at2 M 0 0 = some c ∧ y ≠ .none ∧ G = [.d (encM m), .d (zD z), .d (zD row), .d (encC co), .d (.tuple [nD c, y, .tuple (M.map encR)]), .d (nD c), .d y, .d (.tuple (M.map encR)), s8, s9, s10, s11, s12, s13, s14, .un, .un]) ?_ ?_
            · cases ho : at2 M 0 0 with
              | none =>
                dsimp only [optN]
                walk_at "gs"
                rw [bD_iff (b := isNone y)]
                constructor
                · intro h
                  refine ⟨rfl, hM, accS_none.mpr ?_⟩
                  cases y <;> first | rfl | cases h
                · rintro ⟨_, _, h⟩
                  rw [accS_none.mp h]
                  rfl
              | some c =>
                dsimp only [optN]
                walk_at "gs"
                refine ite_k (fun c2 => ?_) (fun c2 => ?_)
                · walk_at "gs"
                  rw [bD_f]
                  rintro ⟨_, _, h⟩
                  rcases h with ⟨h, _⟩ | ⟨ss, c', md, _, rfl, _⟩
                  · cases h
                  · cases c2
                · walk_at "gs"
                  exact ⟨(fun e => by rw [e] at c2; cases c2), rfl⟩
            · rintro G1 ⟨c, ho, hyn, rfl⟩
              rw [ho]
              refine ds_mid' (fun G => ∃ (ss : List Stp) (s11 : Sl), y = .tuple (ss.map encT) ∧ (∀ s ∈ ss, goodS z s) ∧ G = [.d (encM m), .d (zD z), .d (zD row), .d (encC co), .d (.tuple [nD c, y, .tuple (M.map encR)]), .d (nD c), .d y, .d (.tuple (M.map encR)), s8, s9, s10, s11, s12, s13, s14, .un, .un]) ?_ ?_
              · refine ds_forget 11 ?_
                walk_at "gs"
                refine ite_k (fun c => ?_) (fun c => ?_)
                · walk_at "gs"
                  rw [bD_f]
                  rintro ⟨_, _, h⟩
                  rcases h with ⟨h, _⟩ | ⟨ss, c', md, _, rfl, _⟩
                  · cases h
                  · cases c
                · obtain ⟨ys, rfl⟩ := isi_t (not_t c)
                  have hyl : ys.length ≤ 20000 := hy.1
                  walk_at "gs"
                  refine dw_lcF ys id (fun q => !bD (okS z q)) id ?_
                  refine di_anyT (di_tup ?_)
                  walk_at "gs"
                  refine ⟨(List.map_id ys).symm, szl (by omega), fun B' q hq => ?_, ?_⟩
                  · walk_at "gs"
                    refine ⟨(z, q), ⟨⟨O.zl, n, by omega, hy.2 q hq⟩, fun e => ?_⟩, rfl, ?_⟩
                    · have e : q = .tuple [] := e
                      rw [e] at hq
                      exact hnoe _ _ _ rfl hq
                    rintro _ rfl
                    walk_at "gs"
                    refine fun _ => ?_
                    walk_at "gs"
                  · walk_at "gs"
                    refine rw_neF (fun x hx => shp_mono (hy.2 x hx).shp (by omega)) ?_
                    rw [← List.not_all_eq_any_not]
                    walk_at "gs"
                    refine ite_k (fun c3 => ?_) (fun c3 => ?_)
                    · walk_at "gs"
                      rw [bD_f]
                      rintro ⟨_, _, h⟩
                      rcases h with ⟨h, _⟩ | ⟨ss, c', md, _, e, hg, _⟩
                      · cases h
                      · injection e with e
                        have : (ys.all fun q => bD (okS z q)) = true := List.all_eq_true.mpr fun q hq => by
                          rw [e] at hq
                          obtain ⟨s, hs, rfl⟩ := List.mem_map.mp hq
                          exact bD_t ⟨s, rfl, hg s hs⟩
                        rw [this] at c3
                        cases c3
                    · obtain ⟨ss, rfl, hg⟩ := all_steps (z := z) (ys := ys) fun q hq => bD_true (List.all_eq_true.mp (not_t c3) q hq)
                      walk_at "gs"
                      exact ⟨ss, _, rfl, hg, rfl⟩
              · rintro G1 ⟨ss, s11, rfl, hg, rfl⟩
                have hssl : ss.length ≤ 20000 := by
                  have := hy.1
                  rwa [List.length_map] at this
                have eq : bD (optN (some c) = optN (some c) ∧ okM m z row co M ∧ accS m z row co (some c) (.tuple (ss.map encT))) = bD (∃ md, chg row ss = some md ∧ (ss.map (stC co)).sum = c ∧ pas m (run m z 0 md) = true) := by
                  rw [← propext (accS_ss hg)]
                  congr 1
                  exact propext ⟨fun h => h.2.2, fun h => ⟨rfl, hM, h⟩⟩
                rw [eq]
                refine ds_seq' ?_
                walk_at "gs"
                refine ⟨(row, ss), ⟨by show row.length ≤ 1000; omega, by show ss.length ≤ 30000; omega⟩, rfl, ?_⟩
                rintro _ rfl
                walk_at "gs"
                dsimp only
                refine ds_mid' (fun G => G = [.d (encM m), .d (zD z), .d (zD row), .d (encC co), .d (.tuple [nD c, .tuple (ss.map encT), .tuple (M.map encR)]), .d (nD c), .d (.tuple (ss.map encT)), .d (.tuple (M.map encR)), s8, s9, s10, .un, .k none (ptab co), s13, s14, .d (optZ (chg row ss)), .un]) ?_ ?_
                · refine ds_forget 11 ?_
                  walk_at "gs"
                  refine dw_dispN fun B' => dpp_cons ?_
                  walk_at "gs"
                  refine ⟨.inr (mkS keepL), _, rfl, rfl, dpp_cons ?_⟩
                  walk_at "gs"
                  refine ⟨.inr (mkS putL), _, rfl, rfl, dpp_cons ?_⟩
                  walk_at "gs"
                  refine ⟨.inr (mkS leaveL), _, rfl, rfl, dpp_cons ?_⟩
                  walk_at "gs"
                  refine ⟨.inr (mkS turnL), _, rfl, rfl, dpp_nil ⟨by simp, ?_⟩⟩
                  refine asn_fr (nx_nxt ?_)
                  rw [← ptab_merge]
                  rfl
                · rintro G1 rfl
                  cases hch : chg row ss with
                  | none =>
                    dsimp only [optZ]
                    walk_at "gs"
                    rw [bD_f (by
                      rintro ⟨md, h, _⟩
                      cases h)]
                  | some md =>
                    dsimp only [optZ]
                    walk_at "gs"
                    refine dw_lcM ss encT (fun s => .int ((stC co s : Nat) : Int)) ?_
                    refine di_anyT (di_tup ?_)
                    walk_at "gs"
                    refine ⟨szl (by omega), fun B' s hs => ?_, ?_⟩
                    · obtain ⟨r, hr⟩ := encT_key s
                      rw [hr]
                      walk_at "gs"
                      refine rw_ixT (d := zD (keyT s)) (atn (i := 0) rfl) ?_
                      walk_at "gs"
                      exact ⟨12, none, .inr (mkS (keyT s)), ptab co, _, rfl, rfl, rfl, lkG_ptab co s, rfl, rfl⟩
                    · walk_at "gs"
                      refine rn_sum (ns := ss.map fun s => ((stC co s : Nat) : Int)) (by rw [List.map_map]; rfl) ?_
                      walk_at "gs"
                      have es : (ss.map fun s => ((stC co s : Nat) : Int)).sum = (((ss.map (stC co)).sum : Nat) : Int) := sum_cast ss
                      rw [es]
                      refine ite_k (fun c2 => ?_) (fun c2 => ?_)
                      · have c2 := of_decide_eq_true c2
                        have hin := chg_in hg hch
                        walk_at "gs"
                        refine ⟨(m, z, 0, md), ⟨O.g, hm1, hin⟩, rfl, ?_⟩
                        rintro _ rfl
                        dsimp only
                        walk_at "gs"
                        rw [bD_iff (b := pas m (run m z 0 md))]
                        exact ⟨fun h => ⟨md, rfl, Int.ofNat.inj c2, h⟩, fun ⟨md', h1, _, h3⟩ => by
                          cases h1
                          exact h3⟩
                      · have c2 := of_decide_eq_false c2
                        walk_at "gs"
                        rw [bD_f (by
                          rintro ⟨md', _, h, _⟩
                          exact c2 (by rw [h]))]
end
end K62
namespace K62
open PySem PySem.Spec PyProof.Rows L2 DL
local macro_rules | `(tactic| walk_at "st") => `(tactic| with_reducible first
  | refine pw_p ?_ | refine pw_o ?_ | refine dw_op ?_ | refine dw_un ?_ | refine dw_int ?_ | refine dw_str ?_ | refine dw_bl ?_ | refine dw_non ?_ | refine dw_ty ?_ | refine da_nil' ?_ | refine da_cons' ?_ | refine dw_sortSetT ?_ | refine dw_CB ?_ | refine dw_BM ?_ | refine dw_BM0 ?_
  | refine dw_tup ?_ | refine dw_lst ?_ | refine dw_notV ?_ | refine dw_and ?_ | refine dw_or ?_ | refine dw_if ?_ | refine dw_chain ?_ | refine dw_sl3 ?_ | refine dw_revT ?_ | refine dw_tupRg1 ?_ | refine dw_lstRg1 ?_ | refine dw_callI ?_ | refine dw_callJ ?_
  | refine dt_test ?_ | refine dt_B ?_ | refine dt_and ?_ | refine dt_or ?_ | refine dt_not ?_ | refine dt_yes ?_ | refine dt_truth ?_
  | refine ds_ret ?_ | refine ds_retN ?_ | refine ds_next ?_ | refine ds_break ?_ | refine ds_cont ?_ | refine ds_drop ?_ | refine ds_if ?_ | refine ds_set ?_
  | refine nx_nxt ?_ | refine rt_nxt ?_ | refine bk_nxt ?_ | refine ct_nxt ?_ | refine nx_lp ?_ | refine rt_lp ?_ | refine bk_lp ?_ | refine ct_lp ?_ | refine asn_d ?_ | refine asn_fr ?_ | refine rt_E0 ?_ | refine rt_E0o ?_ | refine nx_E0 ?_
  | refine dw_newK ?_ | refine dw_dInK ?_ | refine dw_dNotInK ?_ | refine dw_dGetK ?_ | refine ds_dPutK ?_ | refine dw_callH ?_
  | refine tr_b ?_ | refine tr_i ?_ | refine tr_n ?_ | refine tr_T ?_ | refine tr_L ?_
  | refine do_none ?_ | refine do_some ?_ | refine ite_t ?_ | refine ite_f ?_
  | refine rw_addI ?_ | refine rw_sub ?_ | refine rw_cmp ?_ | refine rw_eqI ?_ | refine rw_neI ?_ | refine rw_eqZ ?_ | refine rw_neZ ?_ | refine rw_eqS ?_ | refine rw_neS ?_ | refine rw_eqB ?_ | refine rw_neB ?_ | refine isN_d ?_ | refine notN_d ?_ | refine rw_isB ?_ | refine rw_notB ?_
  | refine rn_intI ?_ | refine rn_intB ?_ | refine rn_max ?_ | refine rn_min ?_ | refine rn_lenT ?_ | refine rn_lenD ?_ | refine rm_sw ?_ | refine isi_int ?_ | refine isi_bool ?_ | refine isi_str ?_ | refine isi_tuple ?_ | refine isi_list ?_ | refine rn_tupT ?_ | refine rn_listT ?_
  | refine ⟨_, rfl, ?_⟩
  | fail)
local macro_rules | `(tactic| walk_at "va") => `(tactic| first
  | ((with_reducible apply dw_var); rfl) | ((with_reducible apply dw_sl); rfl) | ((with_reducible apply dw_slK); rfl)
  | ((with_reducible apply rw_ixL); rfl; rfl) | ((with_reducible apply rw_ixT); rfl)
  | ((with_reducible apply ite_T); rfl) | ((with_reducible apply ite_F); rfl) | ((with_reducible apply tr_o); rfl)
  | refine ⟨_, rfl, szl (Nat.le_of_ble_eq_true rfl), ?_⟩
  | (with_reducible refine rw_mod (by omega) ?_)
  | (with_reducible refine rw_fdiv (by unfold CDiv; omega) ?_)
  | (with_reducible refine rw_mul (by unfold CMul; omega) ?_)
  | refine ⟨szl (Nat.le_of_ble_eq_true rfl), ?_⟩
  | refine ⟨⟨rfl, _, _, rfl⟩, ?_⟩
  | refine ⟨rfl, ?_⟩
  | rfl
  | fail)
local macro_rules | `(tactic| walk_at "go") => `(tactic| repeat' (first | walk_at "st" | (with_reducible refine ds_seq' ?_) | walk_at "va" | fail))
local macro_rules | `(tactic| walk_at "gs") => `(tactic| repeat' (first | walk_at "st" | walk_at "va" | fail))
/-! what is turned -/
def TD : Nat → PyData → Prop
  | 0, _ => False
  | n + 1, .tuple xs => xs.length ≤ 10000 ∧ ∀ x ∈ xs, TD n x
  | _ + 1, .none => True
  | _ + 1, .int i => i.natAbs ≤ 10000
  | _ + 1, .str s => ∃ z : List Nat, s = mkS z ∧ z.length ≤ 1000 ∧ ∀ c ∈ z, c < 0x110000
  | _ + 1, _ => False
def LeafR (d d' : PyData) : Prop := (∃ s, d' = zD s ∧ s.length ≤ 5 ∧ ∀ c ∈ s, c < 0x110000) ∨ d' = .none ∨ d' = .bool true ∨ d' = .tuple [] ∨ (∃ i, d' = .int i ∧ i.natAbs ≤ 10) ∨ ∃ i j, d = .int i ∧ d' = .int j ∧ j.natAbs ≤ i.natAbs + 2
def TupR (xs : List PyData) (d' : PyData) : Prop := d' = .tuple (xs ++ [.int 0]) ∨ d' = .tuple (xs.drop 1) ∨ d' = .tuple xs.reverse ∨ d' = .list xs ∨ ∃ c, c < 0x110000 ∧ d' = .tuple (xs ++ [.tuple [zD putL, zD [c]]])
inductive TurR : PyData → PyData → Prop
  | sub {xs : List PyData} {k : Nat} {x x' : PyData} : xs[k]? = some x → TurR x x' → TurR (.tuple xs) (.tuple (xs.take k ++ [x'] ++ xs.drop (k + 1)))
  | tup {xs : List PyData} {d' : PyData} : TupR xs d' → TurR (.tuple xs) d'
  | leaf {d d' : PyData} : isiD d "tuple" = false → LeafR d d' → TurR d d'
abbrev argT (x : Stt × List Nat × PyData) : List PyData := [zD x.2.1, x.2.2]
abbrev spTu (K : PySem.W.Frag) (n : Nat) := spJ K (fun x : Stt × List Nat × PyData => encS x.1) argT (fun x => x.1.ok ∧ x.2.1 ∈ sigs ∧ TD n x.2.2) (fun x l d => ∃ st', Stt.ok st' ∧ l = encS st' ∧ TurR x.2.2 d)
theorem TD.shp : ∀ {n : Nat} {d : PyData}, TD n d → Shp n d
  | 0, _, h => h.elim
  | n + 1, .tuple xs, h => shp_tup fun x hx => (h.2 x hx).shp
  | n + 1, .none, _ => shp_none _
  | n + 1, .int _, _ => shp_int _ _
  | n + 1, .str s, h => by
    obtain ⟨z, rfl, _, hc⟩ := h
    exact shp_str _ hc
  | n + 1, .bool _, h => h.elim
  | n + 1, .list _, h => h.elim
  | n + 1, .dict _, h => h.elim
theorem lt5c {k : Nat} (h : k < 5) : k = 0 ∨ k = 1 ∨ k = 2 ∨ k = 3 ∨ k = 4 := by omega
theorem lt8c {k : Nat} (h : k < 8) : k = 0 ∨ k = 1 ∨ k = 2 ∨ k = 3 ∨ k = 4 ∨ k = 5 ∨ k = 6 ∨ k = 7 := by omega
section
variable {P : Program} {w : World} {K : PySem.W.Frag} {mg : Str → Option Value} {base : Heap} {a : Ad}
theorem ok_law_turned (T : Tx K mg a) (G_law_next0 : FnOk P w K mg base CX0 1 a.f10 a.d10 ["state", "limit"] (spN K)) : ∀ n : Nat, n ≤ 40 → FnOk P w K mg base CX0 (n + 2) a.f24 a.d24 ["state", "signs", "value"] (spTu K n)
  | 0, _ => fnEx fun x h => h.2.2.elim
  | n + 1, hn40 => by
    have G_law_turned := ok_law_turned T G_law_next0 n (by omega)
    have G_law_next := G_law_next0.mono (show 1 ≤ n + 2 by omega)
    refine fnJ T.F_law_turned sc_law_turned (fun x => ⟨rfl, by decide⟩) fun cdv A outer s H E hr => ⟨_, (pss_cons (ps_set (i := 3) sc_law_turned.nd rfl (Or.inl rfl) (pe_call G_law_next hr (by rfl) T.m_law_next T.k_law_next T.b_law_next .nil pass0 (pa_cons (pv 0) (pa_cons pe_int pa_nil)))) (pss_cons (ps_if (PW.pt (pw_and (kTRUTH K rfl (pe_callB (kISI K rfl) (by rfl) T.z_isinstance (by decide +kernel) (pa_cons (pv 2) (pa_cons (pe_bltn (v := .ty "tuple") (by rfl) T.z_tuple (by decide +kernel) rfl) pa_nil))) (by intro _; rfl)) (pw_and (pt_cmpR (kNE K rfl hr.units) (pv 2) (pe_tup pa_nil) (nomark _)) (pw_and1 (pt_cmpR op_gt (pv 3) pe_int (nomark _)))))) (pss_cons (ps_set (i := 4) sc_law_turned.nd rfl (Or.inl rfl) (pe_call G_law_next hr (by rfl) T.m_law_next T.k_law_next T.b_law_next .nil pass0 (pa_cons (pv 0) (pa_cons (pe_callB (kLEN K rfl) (by rfl) T.z_len (by decide +kernel) (pa_cons (pv 2) pa_nil)) pa_nil)))) (pss_one (ps_ret (pe_op (kADD K rfl) (pe_op (kADD K rfl) (pe_slice (kSLC K rfl) (pv 2) po_none (po_some (pv 4))) (pe_tup (pa_cons (pe_call G_law_turned hr (by rfl) T.m_law_turned T.k_law_turned T.b_law_turned .nil pass0 (pa_cons (pv 0) (pa_cons (pv 1) (pa_cons (pe_ix (kIX K rfl) (pv 2) (pv 4) (fun _ _ => rfl)) pa_nil)))) pa_nil))) (pe_slice (kSLC K rfl) (pv 2) (po_some (pe_op (kADD K rfl) (pv 4) pe_int)) po_none))))) pss_nil) (pss_cons (ps_if (kTRUTH K rfl (pe_callB (kISI K rfl) (by rfl) T.z_isinstance (by decide +kernel) (pa_cons (pv 2) (pa_cons (pe_bltn (v := .ty "tuple") (by rfl) T.z_tuple (by decide +kernel) rfl) pa_nil))) (by intro _; rfl)) (pss_one (ps_ret (pe_ix (kIX K rfl) (pe_lst (pa_cons (pe_op (kADD K rfl) (pv 2) (pe_tup (pa_cons pe_int pa_nil))) (pa_cons (pe_slice (kSLC K rfl) (pv 2) (po_some pe_int) po_none) (pa_cons (kREVT K rfl (pe_revT (pv 2))) (pa_cons (pe_callTy (kLIST K rfl) (by rfl) T.z_list (by decide +kernel) (pa_cons (pv 2) pa_nil)) (pa_cons (pe_op (kADD K rfl) (pv 2) (pe_tup (pa_cons (pe_tup (pa_cons (pe_strM [112, 117, 116] rfl) (pa_cons (pe_ix (kIX K rfl) (pv 1) pe_int (fun _ _ => rfl)) pa_nil))) pa_nil))) pa_nil)))))) (pe_call G_law_next hr (by rfl) T.m_law_next T.k_law_next T.b_law_next .nil pass0 (pa_cons (pv 0) (pa_cons pe_int pa_nil))) (fun _ _ => rfl)))) pss_nil) (pss_cons (ps_if (kTRUTH K rfl (pe_callB (kISI K rfl) (by rfl) T.z_isinstance (by decide +kernel) (pa_cons (pv 2) (pa_cons (pe_bltn (v := .ty "str") (by rfl) T.z_str (by decide +kernel) rfl) pa_nil))) (by intro _; rfl)) (pss_one (ps_ret (pe_ix (kIX K rfl) (pe_lst (pa_cons (pe_ix (kIX K rfl) (pv 1) (pe_call G_law_next hr (by rfl) T.m_law_next T.k_law_next T.b_law_next .nil pass0 (pa_cons (pv 0) (pa_cons (pe_callB (kLEN K rfl) (by rfl) T.z_len (by decide +kernel) (pa_cons (pv 1) pa_nil)) pa_nil))) (fun _ _ => rfl)) (pa_cons (pe_strM [] rfl) (pa_cons (pe_strM [107, 101, 101, 112] rfl) (pa_cons (pe_strM [112, 117, 116] rfl) (pa_cons (pe_strM [108, 101, 97, 118, 101] rfl) (pa_cons (pe_strM [116, 117, 114, 110] rfl) (pa_cons pe_int (pa_cons (pe_strM [113] rfl) pa_nil))))))))) (pv 3) (fun _ _ => rfl)))) pss_nil) (pss_cons (ps_if (pt_cmpR op_isN (pv 2) pe_non (nomark _)) (pss_one (ps_ret (pe_ix (kIX K rfl) (pe_lst (pa_cons pe_int (pa_cons pe_int (pa_cons pe_int (pa_cons (pe_strM [97] rfl) (pa_cons pe_bl (pa_cons pe_int (pa_cons (pe_tup pa_nil) (pa_cons pe_non pa_nil))))))))) (pv 3) (fun _ _ => rfl)))) pss_nil) (pss_one (ps_ret (pe_ix (kIX K rfl) (pe_lst (pa_cons (pe_op (kADD K rfl) (pv 2) pe_int) (pa_cons (pe_op op_sub (pv 2) pe_int) (pa_cons pe_non (pa_cons (pe_op (kADD K rfl) (pv 2) pe_int) (pa_cons pe_bl (pa_cons pe_int (pa_cons (pe_un un_neg pe_int) (pa_cons (pe_strM [97] rfl) pa_nil))))))))) (pv 3) (fun _ _ => rfl))))))))), ?_⟩
    rintro ⟨st, z, d⟩ ⟨hst, hz, hd⟩ p B
    obtain ⟨z1, z2, z3, z4⟩ := sigs_ok hz
    have hz2 : 2 ≤ z.length := z2
    have hz3 : z.length ≤ 4 := z3
    obtain ⟨c0, hc0⟩ : ∃ c, z[0]? = some c := ⟨_, List.getElem?_eq_getElem (by omega)⟩
    have hc0b : c0 < 0x110000 := z4 c0 (List.mem_of_getElem? hc0)
    dsimp only [argT] at *
    refine ds_seq' ?_
    walk_at "gs"
    refine ⟨(st, 8), 0, some p, _, ⟨hst, by simp, by simp⟩, rfl, rfl, rfl, ?_⟩
    rintro _ _ ⟨st1, pick, hst1, rfl, rfl, hpick⟩
    have hpick : pick < 8 := hpick
    walk_at "gs"
    cases d with
    | bool _ => exact hd.elim
    | list _ => exact hd.elim
    | dict _ => exact hd.elim
    | none =>
      refine ds_seq' ?_
      walk_at "gs"
      refine ds_seq' ?_
      walk_at "gs"
      refine ds_seq' ?_
      walk_at "gs"
      refine ds_seq' ?_
      walk_at "gs"
      have S1 : ∀ c ∈ [97], c < 0x110000 := by decide
      rcases lt8c hpick with rfl | rfl | rfl | rfl | rfl | rfl | rfl | rfl <;> (refine rw_ixL rfl rfl ?_; walk_at "gs"; refine rt_E1 rfl ⟨st1, hst1, rfl, .leaf rfl ?_⟩)
      · exact .inr (.inr (.inr (.inr (.inl ⟨0, rfl, by decide⟩))))
      · exact .inr (.inr (.inr (.inr (.inl ⟨1, rfl, by decide⟩))))
      · exact .inr (.inr (.inr (.inr (.inl ⟨2, rfl, by decide⟩))))
      · exact .inl ⟨[97], rfl, by decide, S1⟩
      · exact .inr (.inr (.inl rfl))
      · exact .inr (.inr (.inr (.inr (.inl ⟨7, rfl, by decide⟩))))
      · exact .inr (.inr (.inr (.inl rfl)))
      · exact .inr (.inl rfl)
    | int i =>
      refine ds_seq' ?_
      walk_at "gs"
      refine ds_seq' ?_
      walk_at "gs"
      refine ds_seq' ?_
      walk_at "gs"
      refine ds_seq' ?_
      walk_at "gs"
      refine rw_neg ?_
      walk_at "gs"
      have S1 : ∀ c ∈ [97], c < 0x110000 := by decide
      rcases lt8c hpick with rfl | rfl | rfl | rfl | rfl | rfl | rfl | rfl <;> (refine rw_ixL rfl rfl ?_; walk_at "gs"; refine rt_E1 rfl ⟨st1, hst1, rfl, .leaf rfl ?_⟩)
      · exact .inr (.inr (.inr (.inr (.inr ⟨i, _, rfl, rfl, by omega⟩))))
      · exact .inr (.inr (.inr (.inr (.inr ⟨i, _, rfl, rfl, by omega⟩))))
      · exact .inr (.inl rfl)
      · exact .inr (.inr (.inr (.inr (.inr ⟨i, _, rfl, rfl, by omega⟩))))
      · exact .inr (.inr (.inl rfl))
      · exact .inr (.inr (.inr (.inr (.inl ⟨0, rfl, by decide⟩))))
      · exact .inr (.inr (.inr (.inr (.inl ⟨-1, rfl, by decide⟩))))
      · exact .inl ⟨[97], rfl, by decide, S1⟩
    | str s =>
      obtain ⟨y, rfl, hyl, hyc⟩ := hd
      refine ds_seq' ?_
      walk_at "gs"
      refine ds_seq' ?_
      walk_at "gs"
      refine ds_seq' ?_
      walk_at "gs"
      refine rn_lenZ (by omega) ?_
      walk_at "gs"
      refine ⟨(st1, z.length), 0, some p, _, ⟨hst1, by show 0 < z.length; omega, by show z.length < 1000000000; omega⟩, rfl, rfl, rfl, ?_⟩
      rintro _ _ ⟨st2, j, hst2, rfl, rfl, hj⟩
      have hj : j < z.length := hj
      walk_at "gs"
      obtain ⟨c, hcz⟩ : ∃ c, z[j]? = some c := ⟨_, List.getElem?_eq_getElem hj⟩
      refine rw_ixS (szl (by omega)) (atn hcz) ?_
      walk_at "gs"
      have hcb := z4 c (List.mem_of_getElem? hcz)
      rcases lt8c hpick with rfl | rfl | rfl | rfl | rfl | rfl | rfl | rfl <;> (refine rw_ixL rfl rfl ?_; walk_at "gs"; refine rt_E1 rfl ⟨st2, hst2, rfl, .leaf rfl ?_⟩)
      · exact .inl ⟨[c], rfl, by simp, fun q hq => by rw [List.mem_singleton.mp hq]; exact hcb⟩
      · exact .inl ⟨[], rfl, by decide, by decide⟩
      · exact .inl ⟨keepL, rfl, by decide, by decide⟩
      · exact .inl ⟨putL, rfl, by decide, by decide⟩
      · exact .inl ⟨leaveL, rfl, by decide, by decide⟩
      · exact .inl ⟨turnL, rfl, by decide, by decide⟩
      · exact .inr (.inr (.inr (.inr (.inl ⟨5, rfl, by decide⟩))))
      · exact .inl ⟨[113], rfl, by decide, by decide⟩
    | tuple xs =>
      have shx : Shp 61 (.tuple xs) := shp_mono hd.shp (by omega)
      obtain ⟨hxl, hxs⟩ := hd
      refine ds_mid' (fun G => G = [.o (some p) (encS st1), .d (zD z), .d (.tuple xs), .d (nD pick), .un]) ?_ ?_
      · walk_at "gs"
        refine rw_neD (d := .tuple xs) (e := .tuple []) rfl rfl (shp_ok shx (by decide)) (shp_ok (shp_tup (n := 0) fun x hx => nomatch hx) (by decide)) ?_
        rw [eqv_nilT]
        walk_at "gs"
        refine ite_k (fun c => ?_) (fun c => ?_)
        · walk_at "gs"
          refine ite_k (fun c2 => ?_) (fun c2 => ?_)
          · have hne : 0 < xs.length := by
              cases xs with
              | nil => cases c
              | cons x xs => simp
            refine ds_seq' ?_
            walk_at "gs"
            refine ⟨(st1, xs.length), 0, some p, _, ⟨hst1, hne, by show xs.length < 1000000000; omega⟩, rfl, rfl, rfl, ?_⟩
            rintro _ _ ⟨st2, k, hst2, rfl, rfl, hk⟩
            have hk : k < xs.length := hk
            obtain ⟨x, hx⟩ : ∃ x, xs[k]? = some x := ⟨_, List.getElem?_eq_getElem hk⟩
            walk_at "gs"
            refine rs_Tto (n := k) ?_
            walk_at "gs"
            refine rw_ixT (atn hx) ?_
            walk_at "gs"
            refine ⟨(st2, z, x), 0, some p, _, ⟨hst2, hz, hxs x (List.mem_of_getElem? hx)⟩, rfl, rfl, rfl, ?_⟩
            rintro _ _ ⟨st3, hst3, rfl, hr3⟩
            walk_at "gs"
            refine rw_addT (szl (by rw [List.length_take]; simp; omega)) ?_
            walk_at "gs"
            refine rs_Tfrom (n := k + 1) ?_
            walk_at "gs"
            refine rw_addT (szl (by rw [List.length_append, List.length_take, List.length_drop]; simp; omega)) ?_
            walk_at "gs"
            exact rt_E1 rfl ⟨st3, hst3, rfl, .sub hx hr3⟩
          · walk_at "gs"
        · walk_at "gs"
      · rintro G1 rfl
        refine ds_seq' ?_
        walk_at "gs"
        refine rw_addT (szl (by simp; omega)) ?_
        walk_at "gs"
        refine rs_Tfrom (n := 1) ?_
        walk_at "gs"
        refine rw_ixS (szl (by omega)) (atn (i := 0) hc0) ?_
        walk_at "gs"
        refine rw_addT (szl (by simp; omega)) ?_
        walk_at "gs"
        refine ⟨(st1, 5), 0, some p, _, ⟨hst1, by simp, by simp⟩, rfl, rfl, rfl, ?_⟩
        rintro _ _ ⟨st2, k, hst2, rfl, rfl, hk⟩
        have hk : k < 5 := hk
        walk_at "gs"
        rcases lt5c hk with rfl | rfl | rfl | rfl | rfl <;> (refine rw_ixL rfl rfl ?_; walk_at "gs"; refine rt_E1 rfl ⟨st2, hst2, rfl, .tup ?_⟩)
        · exact .inl rfl
        · exact .inr (.inl rfl)
        · exact .inr (.inr (.inl rfl))
        · exact .inr (.inr (.inr (.inl rfl)))
        · exact .inr (.inr (.inr (.inr ⟨c0, hc0b, rfl⟩)))
end
end K62
namespace K62
open PySem PySem.Spec PyProof.Rows L2 DL
/-! what the law hands to the judges is small -/
theorem TD.sb : ∀ {n : Nat} (j : Nat) {d : PyData}, TD n d → SB 20000 (n + j) d
  | 0, _, _, h => h.elim
  | n + 1, j, .tuple xs, h => by
    rw [Nat.add_right_comm]
    exact ⟨Nat.le_trans h.1 (by decide), fun x hx => TD.sb j (h.2 x hx)⟩
  | n + 1, j, .none, _ => by
    rw [Nat.add_right_comm]
    trivial
  | n + 1, j, .int i, h => by
    rw [Nat.add_right_comm]
    exact Nat.le_trans h (by decide)
  | n + 1, j, .str s, h => by
    rw [Nat.add_right_comm]
    exact h
  | n + 1, _, .bool _, h => h.elim
  | n + 1, _, .list _, h => h.elim
  | n + 1, _, .dict _, h => h.elim
theorem TD.sd : ∀ {n : Nat} {d : PyData}, TD n d → SD n d
  | 0, _, h => h.elim
  | n + 1, .tuple xs, h => ⟨Nat.le_trans h.1 (by decide), fun x hx => (h.2 x hx).sd⟩
  | n + 1, .none, _ => trivial
  | n + 1, .int _, _ => trivial
  | n + 1, .str _, _ => trivial
  | n + 1, .bool _, h => h.elim
  | n + 1, .list _, h => h.elim
  | n + 1, .dict _, h => h.elim
theorem sb_str {b n : Nat} {z : List Nat} (h1 : z.length ≤ 1000) (h2 : ∀ c ∈ z, c < 0x110000) : SB b (n + 1) (zD z) := ⟨z, rfl, h1, h2⟩
theorem leaf_sb {d d' : PyData} {n : Nat} (h : LeafR d d') (hd : ∀ i, d = .int i → i.natAbs ≤ 10000) : SB 20000 (n + 1) d' := by
  rcases h with ⟨s, rfl, h1, h2⟩ | rfl | rfl | rfl | ⟨i, rfl, h⟩ | ⟨i, j, h1, rfl, h2⟩
  · exact sb_str (by omega) h2
  · trivial
  · trivial
  · exact ⟨Nat.zero_le _, fun x hx => nomatch hx⟩
  · exact Nat.le_trans h (by decide)
  · have := hd i h1
    show j.natAbs ≤ 20000
    omega
theorem put_ok : putL.length ≤ 1000 ∧ ∀ c ∈ putL, c < 0x110000 := by decide
theorem TurR.sb {d d' : PyData} (h : TurR d d') : ∀ {n : Nat}, TD n d → SB 20000 (n + 2) d' := by
  induction h with
  | @sub xs k x x' hx hr ih =>
    intro n hd
    cases n with
    | zero => exact hd.elim
    | succ n =>
      have hk := (List.getElem?_eq_some_iff.mp hx).1
      rw [Nat.add_right_comm]
      refine ⟨?_, fun y hy => ?_⟩
      · have := hd.1
        simp only [List.length_append, List.length_take, List.length_drop, List.length_cons, List.length_nil]
        omega
      · rcases List.mem_append.mp hy with hy | hy
        · rcases List.mem_append.mp hy with hy | hy
          · exact (hd.2 y (List.mem_of_mem_take hy)).sb 2
          · rw [List.mem_singleton.mp hy]
            exact ih (hd.2 x (List.mem_of_getElem? hx))
        · exact (hd.2 y (List.mem_of_mem_drop hy)).sb 2
  | @tup xs d' h =>
    intro n hd
    cases n with
    | zero => exact hd.elim
    | succ n =>
      have hl := hd.1
      have he : ∀ y ∈ xs, SB 20000 (n + 2) y := fun y hy => (hd.2 y hy).sb 2
      rw [Nat.add_right_comm]
      rcases h with rfl | rfl | rfl | rfl | ⟨c, hc, rfl⟩
      · refine ⟨by simp; omega, fun y hy => ?_⟩
        rcases List.mem_append.mp hy with hy | hy
        · exact he y hy
        · rw [List.mem_singleton.mp hy]
          exact Nat.zero_le _
      · exact ⟨by rw [List.length_drop]; omega, fun y hy => he y (List.mem_of_mem_drop hy)⟩
      · exact ⟨by rw [List.length_reverse]; omega, fun y hy => he y (List.mem_reverse.mp hy)⟩
      · exact ⟨by omega, he⟩
      · refine ⟨by simp; omega, fun y hy => ?_⟩
        rcases List.mem_append.mp hy with hy | hy
        · exact he y hy
        · rw [List.mem_singleton.mp hy]
          refine ⟨by show 2 ≤ 20000; decide, fun q hq => ?_⟩
          simp only [List.mem_cons, List.not_mem_nil, or_false] at hq
          rcases hq with rfl | rfl
          · exact sb_str put_ok.1 put_ok.2
          · exact sb_str (by simp) fun q hq => by rw [List.mem_singleton.mp hq]; exact hc
  | @leaf d d' hn h =>
    intro n hd
    cases n with
    | zero => exact hd.elim
    | succ n =>
      refine leaf_sb h ?_
      rintro i rfl
      exact hd
/-! a step is never empty -/
def NE3 (y : PyData) : Prop := ∀ ss, y = .tuple ss → ∀ q ∈ ss, ∀ xs, q = .tuple xs → 2 ≤ xs.length
def NE1 (y : PyData) : Prop := ∀ ss, y = .tuple ss → PyData.tuple [] ∉ ss
theorem NE3.ne1 {y : PyData} (h : NE3 y) : NE1 y := fun ss e hm => by
  have := h ss e _ hm [] rfl
  simp at this
theorem noE_of {x y p : PyData} (h : NE1 y) : NoE (.tuple [x, y, p]) := fun x' ss p' e => by
  injection e with e
  injection e with e1 e
  injection e with e2 e
  exact h ss e2
theorem ne1_none : NE1 .none := fun ss e => by cases e
theorem step_ne {q q' : PyData} (h : TurR q q') (hq : ∀ xs, q = .tuple xs → 2 ≤ xs.length) (hn : isiD q "tuple" = true) : q' ≠ .tuple [] := by
  cases h with
  | @sub xs k x x' hx hr =>
    intro e
    injection e with e
    have := congrArg List.length e
    simp at this
  | @tup xs d' h =>
    have h2 := hq xs rfl
    rcases h with rfl | rfl | rfl | rfl | ⟨c, hc, rfl⟩
    · intro e
      injection e with e
      have := congrArg List.length e
      simp at this
    · intro e
      injection e with e
      have : (xs.drop 1).length = 0 := by rw [e]; rfl
      rw [List.length_drop] at this
      omega
    · intro e
      injection e with e
      have : xs.reverse.length = 0 := by rw [e]; rfl
      rw [List.length_reverse] at this
      omega
    · intro e
      cases e
    · intro e
      injection e with e
      have := congrArg List.length e
      simp at this
  | leaf h1 _ =>
    rw [h1] at hn
    cases hn
/-- the steps turned -/
theorem steps_ne {y y' : PyData} (h : TurR y y') (hy : NE3 y) (ht : ∀ ss, y = .tuple ss → ∀ q ∈ ss, isiD q "tuple" = true) : NE1 y' := by
  intro ss' e hm
  cases h with
  | @sub xs k x x' hx hr =>
    injection e with e
    subst e
    have hxm := List.mem_of_getElem? hx
    have base : ∀ q ∈ xs, q ≠ .tuple [] := fun q hq e => by
      have := hy xs rfl q hq [] e
      simp at this
    rcases List.mem_append.mp hm with hm | hm
    · rcases List.mem_append.mp hm with hm | hm
      · exact base _ (List.mem_of_mem_take hm) rfl
      · have := List.mem_singleton.mp hm
        exact step_ne hr (fun xs e => hy _ rfl x hxm xs e) (ht _ rfl x hxm) this.symm
    · exact base _ (List.mem_of_mem_drop hm) rfl
  | @tup xs d' h =>
    have base : ∀ q ∈ xs, q ≠ .tuple [] := fun q hq e => by
      have := hy xs rfl q hq [] e
      simp at this
    rcases h with h | h | h | h | ⟨c, hc, h⟩
    · rw [h] at e
      injection e with e
      rw [← e] at hm
      rcases List.mem_append.mp hm with hm | hm
      · exact base _ hm rfl
      · cases List.mem_singleton.mp hm
    · rw [h] at e
      injection e with e
      rw [← e] at hm
      exact base _ (List.mem_of_mem_drop hm) rfl
    · rw [h] at e
      injection e with e
      rw [← e] at hm
      exact base _ (List.mem_reverse.mp hm) rfl
    · rw [h] at e
      cases e
    · rw [h] at e
      injection e with e
      rw [← e] at hm
      rcases List.mem_append.mp hm with hm | hm
      · exact base _ hm rfl
      · have := List.mem_singleton.mp hm
        injection this with this
        cases this
  | leaf h1 h2 =>
    rcases h2 with ⟨s, h, _⟩ | h | h | h | ⟨i, h, _⟩ | ⟨i, j, _, h, _⟩
    · rw [h] at e
      cases e
    · rw [h] at e
      cases e
    · rw [h] at e
      cases e
    · rw [h] at e
      injection e with e
      rw [← e] at hm
      cases hm
    · rw [h] at e
      cases e
    · rw [h] at e
      cases e
theorem turned_noE {x y p d' : PyData} (h : TurR (.tuple [x, y, p]) d') (hy : NE3 y) (ht : ∀ ss, y = .tuple ss → ∀ q ∈ ss, isiD q "tuple" = true) : NoE d' := by
  cases h with
  | @sub xs k q q' hq hr =>
    have hk := (List.getElem?_eq_some_iff.mp hq).1
    have hk : k = 0 ∨ k = 1 ∨ k = 2 := by
      simp only [List.length_cons, List.length_nil] at hk
      omega
    rcases hk with rfl | rfl | rfl
    · exact noE_of hy.ne1
    · have : q = y := by simpa using hq.symm
      subst this
      exact noE_of (steps_ne hr hy ht)
    · exact noE_of hy.ne1
  | @tup xs d' h =>
    rcases h with rfl | rfl | rfl | rfl | ⟨c, hc, rfl⟩
    · intro a b c e
      injection e with e
      have := congrArg List.length e
      simp at this
    · intro a b c e
      injection e with e
      have := congrArg List.length e
      simp at this
    · exact noE_of hy.ne1
    · intro a b c e
      cases e
    · intro a b c e
      injection e with e
      have := congrArg List.length e
      simp at this
  | leaf h1 _ => cases h1
/-! what is due -/
noncomputable def bestM (x : Px) : Mat := (List.range (x.row.length + 1)).map fun pl => (List.range x.m.length).map fun ln => best x.m x.z x.row x.co pl ln
theorem pricesD_eq (x : Px) : pricesD x = .tuple ((bestM x).map encR) := by
  unfold pricesD bestM
  congr 1
  rw [List.map_map]
  refine List.map_congr_left fun pl _ => ?_
  show PyData.tuple _ = PyData.tuple (((List.range x.m.length).map fun ln => best x.m x.z x.row x.co pl ln).map optN)
  rw [List.map_map]
  rfl
theorem bestM_at {x : Px} {p l : Nat} (hp : p ≤ x.row.length) (hl : l < x.m.length) : at2 (bestM x) p l = best x.m x.z x.row x.co p l := by
  unfold at2 bestM
  rw [List.getElem?_map, List.getElem?_range (Nat.lt_succ_of_le hp)]
  show (((List.range x.m.length).map fun ln => best x.m x.z x.row x.co p ln)[l]?).join = _
  rw [List.getElem?_map, List.getElem?_range hl]
  rfl
theorem bestM_ok {x : Px} (O : Ok5 x.m x.z x.row) : okM x.m x.z x.row x.co (bestM x) := by
  refine ⟨⟨by simp [bestM], fun r hr => ?_⟩, fun l hl hpas => ?_, fun p l hp hl e he c hc => ?_⟩
  · unfold bestM at hr
    obtain ⟨_, _, rfl⟩ := List.mem_map.mp hr
    simp
  · rw [bestM_at (Nat.le_refl _) hl]
    exact best_some.mpr ⟨.fin hpas, fun _ _ => Nat.zero_le _⟩
  · have hep : e.p ≤ x.row.length := by
      rcases eds_p he with h | h <;> omega
    rw [bestM_at hep (eds_l O hl he)] at hc
    rw [bestM_at hp hl]
    have h1 := Rch.step he (best_some.mp hc).1
    obtain ⟨k, k1, k2⟩ := nat_min (p := Rch x.m x.z x.row x.co p l) h1
    exact ⟨k, best_some.mpr ⟨k1, k2⟩, k2 _ h1⟩
structure DueF (x : Px) (d : PyData) where
  acc : accP x.m x.z x.row x.co d
  td : TD 4 d
  y : PyData
  eq : ∃ q p, d = .tuple [q, y, p] ∧ TD 3 q ∧ TD 3 y ∧ TD 3 p
  ne : NE3 y
  tu : ∀ ss, y = .tuple ss → ∀ q ∈ ss, isiD q "tuple" = true
theorem td_prices {x : Px} (P : preP x) : TD 3 (pricesD x) := by
  obtain ⟨O, h1, h2, h3⟩ := P
  have hrl := O.rl
  have hml := O.m11
  refine ⟨by rw [List.length_map, List.length_range]; omega, fun r hr => ?_⟩
  obtain ⟨pl, hpl, rfl⟩ := List.mem_map.mp hr
  refine ⟨by rw [List.length_map, List.length_range]; omega, fun q hq => ?_⟩
  obtain ⟨ln, hln, rfl⟩ := List.mem_map.mp hq
  cases hb : best x.m x.z x.row x.co pl ln with
  | none => trivial
  | some c =>
    have := best_le O h1 h2 h3 (Nat.le_of_lt_succ (List.mem_range.mp hpl)) (List.mem_range.mp hln) hb
    show c ≤ 10000
    omega
theorem keys_ok : (keepL.length ≤ 1000 ∧ ∀ c ∈ keepL, c < 0x110000) ∧ (turnL.length ≤ 1000 ∧ ∀ c ∈ turnL, c < 0x110000) ∧ (leaveL.length ≤ 1000 ∧ ∀ c ∈ leaveL, c < 0x110000) := by decide
theorem td_step {z : List Nat} (hz : ∀ c ∈ z, c < 0x110000) {s : Stp} (h : goodS z s) : TD 2 (encT s) := by
  have one : ∀ {c : Nat}, c ∈ z → TD 1 (zD [c]) := fun {c} hc => ⟨[c], rfl, by simp, fun q hq => by rw [List.mem_singleton.mp hq]; exact hz c hc⟩
  obtain ⟨k1, k2, k3⟩ := keys_ok
  cases s with
  | keep r =>
    refine ⟨by show 2 ≤ 10000; decide, fun q hq => ?_⟩
    simp only [List.mem_cons, List.not_mem_nil, or_false] at hq
    rcases hq with rfl | rfl
    · exact ⟨_, rfl, k1.1, k1.2⟩
    · exact one h
  | turn r s =>
    refine ⟨by show 3 ≤ 10000; decide, fun q hq => ?_⟩
    simp only [List.mem_cons, List.not_mem_nil, or_false] at hq
    rcases hq with rfl | rfl | rfl
    · exact ⟨_, rfl, k2.1, k2.2⟩
    · exact one h.1
    · exact one h.2.1
  | leave r =>
    refine ⟨by show 2 ≤ 10000; decide, fun q hq => ?_⟩
    simp only [List.mem_cons, List.not_mem_nil, or_false] at hq
    rcases hq with rfl | rfl
    · exact ⟨_, rfl, k3.1, k3.2⟩
    · exact one h
  | put s =>
    refine ⟨by show 2 ≤ 10000; decide, fun q hq => ?_⟩
    simp only [List.mem_cons, List.not_mem_nil, or_false] at hq
    rcases hq with rfl | rfl
    · exact ⟨_, rfl, put_ok.1, put_ok.2⟩
    · exact one h
theorem encT_two (s : Stp) : ∃ xs, encT s = .tuple xs ∧ 2 ≤ xs.length := by
  cases s <;> exact ⟨_, rfl, by simp⟩
theorem td3 {q y p : PyData} (h1 : TD 3 q) (h2 : TD 3 y) (h3 : TD 3 p) : TD 4 (.tuple [q, y, p]) := by
  refine ⟨by show 3 ≤ 10000; decide, fun x hx => ?_⟩
  simp only [List.mem_cons, List.not_mem_nil, or_false] at hx
  rcases hx with rfl | rfl | rfl
  · exact h1
  · exact h2
  · exact h3
/-- the way that is due is short, its steps make a row that passes -/
structure WayF (x : Px) (c : Nat) (ss : List Stp) : Prop where
  len : ss.length ≤ 2099
  good : ∀ s ∈ ss, goodS x.z s
  sum : (ss.map (stC x.co)).sum = c
  cb : c ≤ 2079
  md : ∃ md, chg x.row ss = some md ∧ (∀ c ∈ md, c ∈ x.z) ∧ md.length ≤ 2099 ∧ pas x.m (run x.m x.z 0 md) = true
  run : ∃ md, runS (x.row, []) ss = some ([], md)
theorem way_ok {x : Px} (P : preL x) {c : Nat} {ss : List Stp} (hb : best x.m x.z x.row x.co 0 0 = some c) (h : Path x.m x.z x.row x.co 0 0 ss) : WayF x c ss := by
  obtain ⟨⟨O, h1, h2, h3⟩, d1, d2, d3⟩ := P
  obtain ⟨a1, a2, a3, a4⟩ := h.ok O d1 (Nat.zero_le _)
  obtain ⟨w, b1, b2, b3, b4⟩ := a4 []
  have hcb := best_le O h1 h2 h3 (Nat.zero_le _) O.m1 hb
  have hl : ss.length ≤ 2099 := by
    unfold msr at a3
    rw [hb] at a3
    have := O.rl
    have a3 : ss.length ≤ x.row.length - 0 + c := a3
    omega
  have b3 : runS (x.row, []) ss = some ([], w) := b3
  refine ⟨hl, a1, ?_, hcb, ⟨w, ?_, b1, by omega, b4⟩, ⟨w, b3⟩⟩
  · rw [hb] at a2
    exact (Option.some.inj a2).symm
  · rw [chg_run, b3]
    rfl
theorem due_ok {x : Px} (P : preL x) (hz : ∀ c ∈ x.z, c < 0x110000) {d : PyData} (h : dueR x d) : Nonempty (DueF x d) := by
  have hM := bestM_ok (x := x) P.1.1
  have h00 := bestM_at (x := x) (Nat.zero_le _) P.1.1.m1
  rcases h with ⟨hb, rfl⟩ | ⟨c, ss, hb, hp, rfl⟩
  · refine ⟨⟨⟨bestM x, .none, ?_, hM, ?_⟩, td3 trivial trivial (td_prices P.1), .none, ⟨_, _, rfl, trivial, trivial, td_prices P.1⟩, (fun ss e => by cases e), fun ss e => by cases e⟩⟩
    · rw [h00, hb, pricesD_eq]
      rfl
    · rw [h00, hb]
      exact accS_none.mpr rfl
  · have W := way_ok P hb hp
    have tdc : TD 3 (nD c) := by
      show c ≤ 10000
      have := W.cb
      omega
    have tdy : TD 3 (.tuple (ss.map encT)) := ⟨by rw [List.length_map]; have := W.len; omega, fun q hq => by
      obtain ⟨s, hs, rfl⟩ := List.mem_map.mp hq
      exact td_step hz (W.good s hs)⟩
    refine ⟨⟨⟨bestM x, .tuple (ss.map encT), ?_, hM, ?_⟩, td3 tdc tdy (td_prices P.1), .tuple (ss.map encT), ⟨_, _, rfl, tdc, tdy, td_prices P.1⟩, (fun ss' e q hq xs hx => ?_), fun ss' e q hq => ?_⟩⟩
    · rw [h00, hb, pricesD_eq]
      rfl
    · rw [h00, hb, accS_ss W.good]
      obtain ⟨md, m1, _, _, m4⟩ := W.md
      exact ⟨md, m1, W.sum, m4⟩
    · injection e with e
      rw [← e] at hq
      obtain ⟨s, _, rfl⟩ := List.mem_map.mp hq
      obtain ⟨ys, e2, hl⟩ := encT_two s
      rw [e2] at hx
      injection hx with hx
      rw [← hx]
      exact hl
    · injection e with e
      rw [← e] at hq
      obtain ⟨s, _, rfl⟩ := List.mem_map.mp hq
      cases s <;> rfl
/-- behind more signs the steps do not end -/
theorem runS_more (r : List Nat) : ∀ {ss : List Stp} {p q : List Nat × List Nat}, runS p ss = some q → runS (p.1 ++ r, p.2) ss = some (q.1 ++ r, q.2)
  | [], p, q, h => by
    have h : some p = some q := h
    cases h
    rfl
  | s :: ss, p, q, h => by
    have h : (st1 p s).bind (fun q => runS q ss) = some q := h
    obtain ⟨p', h1, h2⟩ := Option.bind_eq_some_iff.mp h
    have key : st1 (p.1 ++ r, p.2) s = some (p'.1 ++ r, p'.2) := by
      have tk : ∀ {c : Nat}, p.1.take 1 = [c] → (p.1 ++ r).take 1 = [c] ∧ (p.1 ++ r).drop 1 = p.1.drop 1 ++ r := fun {c} e => by
        cases hp : p.1 with
        | nil => rw [hp] at e; cases e
        | cons a l => rw [hp] at e; exact ⟨e, rfl⟩
      cases s with
      | keep c =>
        simp only [st1] at h1 ⊢
        split at h1
        · rename_i e
          cases h1
          rw [if_pos (tk e).1, (tk e).2]
        · cases h1
      | turn c c2 =>
        simp only [st1] at h1 ⊢
        split at h1
        · rename_i e
          cases h1
          rw [if_pos (tk e).1, (tk e).2]
        · cases h1
      | leave c =>
        simp only [st1] at h1 ⊢
        split at h1
        · rename_i e
          cases h1
          rw [if_pos (tk e).1, (tk e).2]
        · cases h1
      | put c =>
        simp only [st1] at h1 ⊢
        cases h1
        rfl
    show (st1 (p.1 ++ r, p.2) s).bind (fun q => runS q ss) = _
    rw [key]
    exact runS_more r h2
theorem chg_more {row : List Nat} {ss : List Stp} {md : List Nat} {c : Nat} (h : runS (row, []) ss = some ([], md)) : chg (row ++ [c]) ss = none := by
  rw [chg_run]
  have := runS_more [c] h
  have this : runS (row ++ [c], []) ss = some ([c], md) := this
  rw [this]
  rfl
theorem dueR_det {x : Px} {d d' : PyData} (h : dueR x d) (h' : dueR x d') : d = d' := by
  rcases h with ⟨hb, rfl⟩ | ⟨c, ss, hb, hp, rfl⟩ <;> rcases h' with ⟨hb', rfl⟩ | ⟨c', ss', hb', hp', rfl⟩
  · rfl
  · rw [hb] at hb'
    cases hb'
  · rw [hb] at hb'
    cases hb'
  · rw [hb] at hb'
    cases hb'
    rw [hp.det hp']
def AskOk (d : PyData) : Prop := SB 20000 10 d ∧ NoE d
theorem noE_len {xs : List PyData} (h : xs.length ≠ 3) : NoE (.tuple xs) := fun a b c e => by
  injection e with e
  rw [e] at h
  exact absurd rfl h
theorem noE_not {d : PyData} (h : isiD d "tuple" = false) : NoE d := fun a b c e => by
  rw [e] at h
  cases h
theorem sb_tup {n : Nat} {xs : List PyData} (hl : xs.length ≤ 20000) (h : ∀ x ∈ xs, SB 20000 n x) : SB 20000 (n + 1) (.tuple xs) := ⟨hl, h⟩
end K62
namespace K62
open PySem PySem.Spec PyProof.Rows L2 DL
local macro_rules | `(tactic| walk_at "st") => `(tactic| with_reducible first
  | refine pw_p ?_ | refine pw_o ?_ | refine dw_op ?_ | refine dw_un ?_ | refine dw_int ?_ | refine dw_str ?_ | refine dw_bl ?_ | refine dw_non ?_ | refine dw_ty ?_ | refine da_nil' ?_ | refine da_cons' ?_ | refine dw_sortSetT ?_ | refine dw_CB ?_ | refine dw_BM ?_ | refine dw_BM0 ?_
  | refine dw_tup ?_ | refine dw_lst ?_ | refine dw_notV ?_ | refine dw_and ?_ | refine dw_or ?_ | refine dw_if ?_ | refine dw_chain ?_ | refine dw_sl3 ?_ | refine dw_revT ?_ | refine dw_tupRg1 ?_ | refine dw_lstRg1 ?_ | refine dw_callI ?_ | refine dw_callJ ?_
  | refine dt_test ?_ | refine dt_B ?_ | refine dt_and ?_ | refine dt_or ?_ | refine dt_not ?_ | refine dt_yes ?_ | refine dt_truth ?_
  | refine ds_ret ?_ | refine ds_retN ?_ | refine ds_next ?_ | refine ds_break ?_ | refine ds_cont ?_ | refine ds_drop ?_ | refine ds_if ?_ | refine ds_set ?_
  | refine nx_nxt ?_ | refine rt_nxt ?_ | refine bk_nxt ?_ | refine ct_nxt ?_ | refine nx_lp ?_ | refine rt_lp ?_ | refine bk_lp ?_ | refine ct_lp ?_ | refine asn_d ?_ | refine asn_fr ?_ | refine rt_E0 ?_ | refine rt_E0o ?_ | refine nx_E0 ?_
  | refine dw_newK ?_ | refine dw_dInK ?_ | refine dw_dNotInK ?_ | refine dw_dGetK ?_ | refine ds_dPutK ?_ | refine dw_callH ?_
  | refine tr_b ?_ | refine tr_i ?_ | refine tr_n ?_ | refine tr_T ?_ | refine tr_L ?_
  | refine do_none ?_ | refine do_some ?_ | refine ite_t ?_ | refine ite_f ?_
  | refine rw_addI ?_ | refine rw_sub ?_ | refine rw_cmp ?_ | refine rw_eqI ?_ | refine rw_neI ?_ | refine rw_eqZ ?_ | refine rw_neZ ?_ | refine rw_eqS ?_ | refine rw_neS ?_ | refine rw_eqB ?_ | refine rw_neB ?_ | refine isN_d ?_ | refine notN_d ?_ | refine rw_isB ?_ | refine rw_notB ?_
  | refine rn_intI ?_ | refine rn_intB ?_ | refine rn_max ?_ | refine rn_min ?_ | refine rn_lenT ?_ | refine rn_lenD ?_ | refine rm_sw ?_ | refine isi_int ?_ | refine isi_bool ?_ | refine isi_str ?_ | refine isi_tuple ?_ | refine isi_list ?_ | refine rn_tupT ?_ | refine rn_listT ?_
  | refine ⟨_, rfl, ?_⟩
  | fail)
local macro_rules | `(tactic| walk_at "va") => `(tactic| first
  | ((with_reducible apply dw_var); rfl) | ((with_reducible apply dw_sl); rfl) | ((with_reducible apply dw_slK); rfl)
  | ((with_reducible apply rw_ixL); rfl; rfl) | ((with_reducible apply rw_ixT); rfl)
  | ((with_reducible apply ite_T); rfl) | ((with_reducible apply ite_F); rfl) | ((with_reducible apply tr_o); rfl)
  | refine ⟨_, rfl, szl (Nat.le_of_ble_eq_true rfl), ?_⟩
  | (with_reducible refine rw_mod (by omega) ?_)
  | (with_reducible refine rw_fdiv (by unfold CDiv; omega) ?_)
  | (with_reducible refine rw_mul (by unfold CMul; omega) ?_)
  | refine ⟨szl (Nat.le_of_ble_eq_true rfl), ?_⟩
  | refine ⟨⟨rfl, _, _, rfl⟩, ?_⟩
  | refine ⟨rfl, ?_⟩
  | rfl
  | fail)
local macro_rules | `(tactic| walk_at "go") => `(tactic| repeat' (first | walk_at "st" | (with_reducible refine ds_seq' ?_) | walk_at "va" | fail))
local macro_rules | `(tactic| walk_at "gs") => `(tactic| repeat' (first | walk_at "st" | walk_at "va" | fail))
theorem sb_mono : ∀ {n : Nat} {d : PyData}, SB 20000 n d → SB 20000 (n + 1) d
  | 0, _, h => h.elim
  | n + 1, .tuple xs, h => ⟨h.1, fun x hx => sb_mono (h.2 x hx)⟩
  | n + 1, .list xs, h => ⟨h.1, fun x hx => sb_mono (h.2 x hx)⟩
  | n + 1, .none, _ => trivial
  | n + 1, .bool _, _ => trivial
  | n + 1, .int _, h => h
  | n + 1, .str _, h => h
  | n + 1, .dict _, h => h.elim
theorem sb_up {d : PyData} (h : SB 20000 6 d) : SB 20000 10 d := sb_mono (sb_mono (sb_mono (sb_mono h)))
section
variable {P : Program} {w : World} {K : PySem.W.Frag} {mg : Str → Option Value} {base : Heap} {a : Ad}
theorem ok_law (T : Tx K mg a)
    (N1 : FnOk P w K mg base CX0 1 a.f10 a.d10 ["state", "limit"] (spN K))
    (N2 : ∀ n : Nat, FnOk P w K mg base CX0 (n + 1) a.f11 a.d11 ["actual", "expected"] (spQ K n))
    (N3 : FnOk P w K mg base CX0 2 a.f12 a.d12 ["state"] (spS K))
    (N4 : FnOk P w K mg base CX0 2 a.f13 a.d13 ["state", "signs"] (spM K))
    (N5 : FnOk P w K mg base CX0 2 a.f16 a.d16 ["state", "signs", "most"] (spW K))
    (N6 : FnOk P w K mg base CX0 3 a.f19 a.d19 ["machine", "signs", "row", "costs"] (spL K))
    (N7 : FnOk P w K mg base CX0 3 a.f4 a.d4 ["machine", "signs", "row", "costs"] (spL K))
    (N8 : FnOk P w K mg base CX0 3 a.f8 a.d8 ["machine", "signs", "row", "costs", "told"] (spJd K preA))
    (N9 : FnOk P w K mg base CX0 1 a.f5 a.d5 ["row", "steps"] (spCh K))
    (N10 : FnOk P w K mg base CX0 1 a.f20 a.d20 ["row", "steps"] (spCh K))
    (N11 : FnOk P w K mg base CX0 2 a.f15 a.d15 ["machine", "signs", "line", "row"] (spI K argR preR (fun x r => r = .p (.d (.bool (pas x.1 (run x.1 x.2.1 x.2.2.1 x.2.2.2)))))))
    (N12 : FnOk P w K mg base CX0 6 a.f24 a.d24 ["state", "signs", "value"] (spTu K 4))
    (N13 : FnOk P w K mg base CX0 3 a.f23 a.d23 ["machine", "signs", "row", "costs", "told"] (spJd K preB)) :
    FnOk P w K mg base CX0 9 a.f25 a.d25 ["script"] (spLaw K 63) := by
  have G_law_next := N1.mono (show 1 ≤ 8 by decide)
  have G_law_same := (N2 4).mono (show 5 ≤ 8 by decide)
  have G_law_signs := N3.mono (show 2 ≤ 8 by decide)
  have G_law_machine := N4.mono (show 2 ≤ 8 by decide)
  have G_law_row := N5.mono (show 2 ≤ 8 by decide)
  have G_law_due := N6.mono (show 3 ≤ 8 by decide)
  have G_least_change := N7.mono (show 3 ≤ 8 by decide)
  have G_judge_change := N8.mono (show 3 ≤ 8 by decide)
  have G_changed := N9.mono (show 1 ≤ 8 by decide)
  have G_law_changed := N10.mono (show 1 ≤ 8 by decide)
  have G_law_passes := N11.mono (show 2 ≤ 8 by decide)
  have G_law_turned := N12.mono (show 6 ≤ 8 by decide)
  have G_law_accepts := N13.mono (show 3 ≤ 8 by decide)
  refine fnLaw T.F_law sc_law (by decide) fun cdv A outer s H E hr => ⟨_, (pss_cons (ps_set (i := 1) sc_law.nd rfl (Or.inr rfl) (pe_lst (pa_cons (pe_callTy (kLIST K rfl) (by rfl) T.z_list (by decide +kernel) (pa_cons (pv 0) pa_nil)) (pa_cons pe_int (pa_cons pe_int (pa_cons pe_int pa_nil)))))) (pss_cons (ps_for PassesOwn.never rfl (pi_range1 (by rfl) T.z_range (pa_cons pe_int pa_nil)) (pg_name (i := 2) sc_law.nd rfl (Or.inl rfl)) (pss_cons (ps_set (i := 3) sc_law.nd rfl (Or.inl rfl) (pe_call G_law_signs hr (by rfl) T.m_law_signs T.k_law_signs T.b_law_signs .nil pass0 (pa_cons (pv 1) pa_nil))) (pss_cons (ps_set (i := 4) sc_law.nd rfl (Or.inl rfl) (pe_call G_law_machine hr (by rfl) T.m_law_machine T.k_law_machine T.b_law_machine .nil pass0 (pa_cons (pv 1) (pa_cons (pv 3) pa_nil)))) (pss_cons (ps_set (i := 5) sc_law.nd rfl (Or.inl rfl) (pe_call G_law_row hr (by rfl) T.m_law_row T.k_law_row T.b_law_row .nil pass0 (pa_cons (pv 1) (pa_cons (pv 3) (pa_cons (pe_ix (kIX K rfl) (pe_lst (pa_cons pe_int (pa_cons pe_int (pa_cons pe_int pa_nil)))) (pe_call G_law_next hr (by rfl) T.m_law_next T.k_law_next T.b_law_next .nil pass0 (pa_cons (pv 1) (pa_cons pe_int pa_nil))) (fun _ _ => rfl)) pa_nil))))) (pss_cons (ps_set (i := 6) sc_law.nd rfl (Or.inl rfl) (pe_callTy (kTUP K rfl) (by rfl) T.z_tuple (by decide +kernel) (pa_cons (pe_lc (own := [("k", 10)]) (g := gName 10) (by rfl) sc_law.nd (pi_range1 (by rfl) T.z_range (pa_cons pe_int pa_nil)) (blkOk_by (own := [("k", 10)]) (N := ["script", "state", "turn", "signs", "machine", "row", "costs", "due", "told", "asks", "k", "asked"]) (sc := defScope s_law) (by decide +kernel)) (fun _ _ _ _ _ => (pg_name (i := 10) sc_law.nd rfl (by first | exact Or.inl rfl | exact Or.inr rfl))) (fun _ _ _ _ _ => pts_nil) (fun _ _ _ _ _ => (pe_op (kADD K rfl) pe_int (pe_call G_law_next hr (by rfl) T.m_law_next T.k_law_next T.b_law_next .nil pass0 (pa_cons (pv 1) (pa_cons (pe_ix (kIX K rfl) (pe_lst (pa_cons pe_int (pa_cons pe_int pa_nil))) (pe_call G_law_next hr (by rfl) T.m_law_next T.k_law_next T.b_law_next .nil pass0 (pa_cons (pv 1) (pa_cons pe_int pa_nil))) (fun _ _ => rfl)) pa_nil)))))) pa_nil))) (pss_cons (ps_set (i := 7) sc_law.nd rfl (Or.inl rfl) (pe_call G_law_due hr (by rfl) T.m_law_due T.k_law_due T.b_law_due .nil pass0 (pa_cons (pv 4) (pa_cons (pv 3) (pa_cons (pv 5) (pa_cons (pv 6) pa_nil)))))) (pss_cons (ps_set (i := 8) sc_law.nd rfl (Or.inl rfl) (pe_call G_least_change hr (by rfl) T.m_least_change T.k_least_change T.b_least_change .nil pass0 (pa_cons (pv 4) (pa_cons (pv 3) (pa_cons (pv 5) (pa_cons (pv 6) pa_nil)))))) (pss_cons (ps_if (PW.pt (pw_or (pt_not (kTRUTH K rfl (pe_call G_law_same hr (by rfl) T.m_law_same T.k_law_same T.b_law_same .nil pass0 (pa_cons (pv 8) (pa_cons (pv 7) pa_nil))) (by intro _; rfl))) (pw_or1 (pt_cmpR op_notBl (pe_call G_judge_change hr (by rfl) T.m_judge_change T.k_judge_change T.b_judge_change .nil pass0 (pa_cons (pv 4) (pa_cons (pv 3) (pa_cons (pv 5) (pa_cons (pv 6) (pa_cons (pv 8) pa_nil)))))) pe_bl (nomark _))))) (pss_one (ps_ret pe_bl)) pss_nil) (pss_cons (ps_if (pt_cmpR op_notN (pe_ix (kIX K rfl) (pv 7) pe_int (fun _ _ => rfl)) pe_non (nomark _)) (pss_cons (ps_if (PW.pt (pw_or (pt_not (kTRUTH K rfl (pe_call G_law_same hr (by rfl) T.m_law_same T.k_law_same T.b_law_same .nil pass0 (pa_cons (pe_call G_changed hr (by rfl) T.m_changed T.k_changed T.b_changed .nil pass0 (pa_cons (pv 5) (pa_cons (pe_ix (kIX K rfl) (pv 7) pe_int (fun _ _ => rfl)) pa_nil))) (pa_cons (pe_call G_law_changed hr (by rfl) T.m_law_changed T.k_law_changed T.b_law_changed .nil pass0 (pa_cons (pv 5) (pa_cons (pe_ix (kIX K rfl) (pv 7) pe_int (fun _ _ => rfl)) pa_nil))) pa_nil))) (by intro _; rfl))) (pw_or1 (pt_not (kTRUTH K rfl (pe_call G_law_passes hr (by rfl) T.m_law_passes T.k_law_passes T.b_law_passes .nil pass0 (pa_cons (pv 4) (pa_cons (pv 3) (pa_cons pe_int (pa_cons (pe_call G_law_changed hr (by rfl) T.m_law_changed T.k_law_changed T.b_law_changed .nil pass0 (pa_cons (pv 5) (pa_cons (pe_ix (kIX K rfl) (pv 7) pe_int (fun _ _ => rfl)) pa_nil))) pa_nil))))) (by intro _; rfl)))))) (pss_one (ps_ret pe_bl)) pss_nil) (pss_one (ps_if (PW.pt (pw_or (pt_cmpR op_notN (pe_call G_changed hr (by rfl) T.m_changed T.k_changed T.b_changed .nil pass0 (pa_cons (pe_op (kADD K rfl) (pv 5) (pe_ix (kIX K rfl) (pv 3) pe_int (fun _ _ => rfl))) (pa_cons (pe_ix (kIX K rfl) (pv 7) pe_int (fun _ _ => rfl)) pa_nil))) pe_non (nomark _)) (pw_or1 (pt_not (kTRUTH K rfl (pe_call G_law_same hr (by rfl) T.m_law_same T.k_law_same T.b_law_same .nil pass0 (pa_cons (pe_call G_changed hr (by rfl) T.m_changed T.k_changed T.b_changed .nil pass0 (pa_cons (pe_slice (kSLC K rfl) (pv 5) (po_some pe_int) po_none) (pa_cons (pe_ix (kIX K rfl) (pv 7) pe_int (fun _ _ => rfl)) pa_nil))) (pa_cons (pe_call G_law_changed hr (by rfl) T.m_law_changed T.k_law_changed T.b_law_changed .nil pass0 (pa_cons (pe_slice (kSLC K rfl) (pv 5) (po_some pe_int) po_none) (pa_cons (pe_ix (kIX K rfl) (pv 7) pe_int (fun _ _ => rfl)) pa_nil))) pa_nil))) (by intro _; rfl)))))) (pss_one (ps_ret pe_bl)) pss_nil))) pss_nil) (pss_cons (ps_set (i := 9) sc_law.nd rfl (Or.inl rfl) (pe_lst (pa_cons pe_non (pa_cons (pe_slice (kSLC K rfl) (pv 7) po_none (po_some pe_int)) (pa_cons (pe_callTy (kLIST K rfl) (by rfl) T.z_list (by decide +kernel) (pa_cons (pv 7) pa_nil)) (pa_cons (pe_tup (pa_cons pe_non (pa_cons pe_non (pa_cons (pe_ix (kIX K rfl) (pv 7) pe_int (fun _ _ => rfl)) pa_nil)))) (pa_cons (pe_tup (pa_cons (pe_ix (kIX K rfl) (pv 7) pe_int (fun _ _ => rfl)) (pa_cons pe_non (pa_cons (pe_ix (kIX K rfl) (pv 7) pe_int (fun _ _ => rfl)) pa_nil)))) (pa_cons (pe_tup (pa_cons pe_non (pa_cons (pe_ix (kIX K rfl) (pv 7) pe_int (fun _ _ => rfl)) (pa_cons (pe_ix (kIX K rfl) (pv 7) pe_int (fun _ _ => rfl)) pa_nil)))) (pa_cons (pe_tup (pa_cons pe_int (pa_cons (pe_tup pa_nil) (pa_cons (pe_ix (kIX K rfl) (pv 7) pe_int (fun _ _ => rfl)) pa_nil)))) pa_nil))))))))) (pss_cons (ps_if (pt_cmpR op_notN (pe_ix (kIX K rfl) (pv 7) pe_int (fun _ _ => rfl)) pe_non (nomark _)) (pss_one (ps_expr (kBM K rfl (pe_bm PySem.F.plainAttrs_list PySem.F.slot_list_append PySem.F.type_list_append mt_append (pv 9) (pa_cons (pe_tup (pa_cons (pe_op (kADD K rfl) (pe_op (kADD K rfl) (pe_ix (kIX K rfl) (pv 7) pe_int (fun _ _ => rfl)) (pe_ix (kIX K rfl) (pv 6) pe_int (fun _ _ => rfl))) (pe_ix (kIX K rfl) (pv 6) pe_int (fun _ _ => rfl))) (pa_cons (pe_op (kADD K rfl) (pe_ix (kIX K rfl) (pv 7) pe_int (fun _ _ => rfl)) (pe_tup (pa_cons (pe_tup (pa_cons (pe_strM [112, 117, 116] rfl) (pa_cons (pe_ix (kIX K rfl) (pv 3) pe_int (fun _ _ => rfl)) pa_nil))) pa_nil))) (pa_cons (pe_ix (kIX K rfl) (pv 7) pe_int (fun _ _ => rfl)) pa_nil)))) pa_nil))))) pss_nil) (pss_cons (ps_for PassesOwn.never rfl (pi_range1 (by rfl) T.z_range (pa_cons pe_int pa_nil)) (pg_name (i := 10) sc_law.nd rfl (Or.inl rfl)) (pss_one (ps_expr (kBM K rfl (pe_bm PySem.F.plainAttrs_list PySem.F.slot_list_append PySem.F.type_list_append mt_append (pv 9) (pa_cons (pe_call G_law_turned hr (by rfl) T.m_law_turned T.k_law_turned T.b_law_turned .nil pass0 (pa_cons (pv 1) (pa_cons (pv 3) (pa_cons (pv 7) pa_nil)))) pa_nil)))))) (pss_one (ps_for PassesOwn.never rfl (kANY K rfl (pv 9)) (pg_name (i := 11) sc_law.nd rfl (Or.inl rfl)) (pss_one (ps_if (pt_not (kTRUTH K rfl (pe_call G_law_same hr (by rfl) T.m_law_same T.k_law_same T.b_law_same .nil pass0 (pa_cons (pe_call G_judge_change hr (by rfl) T.m_judge_change T.k_judge_change T.b_judge_change .nil pass0 (pa_cons (pv 4) (pa_cons (pv 3) (pa_cons (pv 5) (pa_cons (pv 6) (pa_cons (pv 11) pa_nil)))))) (pa_cons (pe_call G_law_accepts hr (by rfl) T.m_law_accepts T.k_law_accepts T.b_law_accepts .nil pass0 (pa_cons (pv 4) (pa_cons (pv 3) (pa_cons (pv 5) (pa_cons (pv 6) (pa_cons (pv 11) pa_nil)))))) pa_nil))) (by intro _; rfl))) (pss_one (ps_ret pe_bl)) pss_nil)))))))))))))))) (pss_one (ps_ret pe_bl)))), ?_⟩
  intro ns hns B
  refine ds_seq' (ds_set (dw_lst (da_cons' (dw_CB (da_cons' (dw_scr (ns := ns) rfl (pw_p (da_nil' (rn_listScr (ns := ns) rfl ?_)))))))))
  walk_at "gs"
  refine ds_mid' (fun _ => True) ?_ ?_
  · refine ds_forE' (ch := [2]) ?_
    refine di_rng1 ?_
    walk_at "gs"
    refine ⟨by decide, by decide, fun i G => ∃ (st : Stt) (s2 s3 s4 s5 s6 s7 s8 s9 s10 s11 : Sl), st.ok ∧ G = [.ow (scr K ns), .o none (encS st), s2, s3, s4, s5, s6, s7, s8, s9, s10, s11], ⟨⟨ns, 0, 0, 1⟩, _, _, _, _, _, _, _, _, _, _, ⟨Int.le_refl 0, by show (0 : Int) ≤ 1; decide, by show (1 : Int) < 2147483647; decide, hns⟩, rfl⟩, fun i G2 d hd ⟨st, s2, s3, s4, s5, s6, s7, s8, s9, s10, s11, hst, hG⟩ => ?_, fun G2 _ => trivial⟩
    subst hG
    refine dg_name ?_
    refine ds_seq' ?_
    walk_at "gs"
    refine ⟨st, 1, none, _, hst, rfl, rfl, rfl, ?_⟩
    rintro _ _ ⟨st1, z, hst1, rfl, rfl, hz⟩
    obtain ⟨z1, z2, z3, z4⟩ := sigs_ok hz
    have z2 : 2 ≤ z.length := z2
    have z3 : z.length ≤ 4 := z3
    obtain ⟨c0, hc0⟩ : ∃ c, z[0]? = some c := ⟨_, List.getElem?_eq_getElem (by omega)⟩
    walk_at "gs"
    refine ds_seq' ?_
    walk_at "gs"
    refine ⟨(st1, z), 1, none, _, ⟨hst1, by show 0 < z.length; omega, by show z.length ≤ 1000; omega⟩, rfl, rfl, rfl, ?_⟩
    rintro _ _ ⟨st2, m, hst2, rfl, rfl, hg, hm1, hm11⟩
    have hg : Good m z.length := hg
    walk_at "gs"
    refine ds_seq' ?_
    walk_at "gs"
    refine ⟨(st2, 3), 1, none, _, ⟨hst2, by simp, by simp⟩, rfl, rfl, rfl, ?_⟩
    rintro _ _ ⟨st3, k3, hst3, rfl, rfl, hk3⟩
    have hk3 : k3 < 3 := hk3
    obtain ⟨most, hmost⟩ : ∃ n, ([5, 5, 10] : List Nat)[k3]? = some n := ⟨_, List.getElem?_eq_getElem hk3⟩
    have hmo : most ≤ 10 := (by decide : ∀ n ∈ ([5, 5, 10] : List Nat), n ≤ 10) _ (List.mem_of_getElem? hmost)
    walk_at "gs"
    refine rw_ixL rfl (ati (f := nD) (xs := [5, 5, 10]) hmost) ?_
    walk_at "gs"
    refine ⟨(st3, z, most), 1, none, _, ⟨hst3, by show 0 < z.length; omega, by show z.length ≤ 1000; omega, by show most ≤ 1000; omega⟩, rfl, rfl, rfl, ?_⟩
    rintro _ _ ⟨st4, row, hst4, rfl, rfl, hrl, hrz⟩
    have hrl : row.length ≤ most := hrl
    have hrz : ∀ c ∈ row, c ∈ z := hrz
    walk_at "gs"
    refine ds_mid' (fun G => ∃ (st : Stt) (co : Co), st.ok ∧ (1 ≤ co.put ∧ co.put ≤ 9) ∧ (1 ≤ co.leave ∧ co.leave ≤ 9) ∧ (1 ≤ co.turn ∧ co.turn ≤ 9) ∧ G = [.ow (scr K ns), .o none (encS st), .d d, .d (zD z), .d (encM m), .d (zD row), .d (encC co), s7, s8, s9, .un, s11]) ?_ ?_
    · walk_at "gs"
      refine dw_lcE (ch := [10]) (fun k hk => hk) ?_
      refine di_rng1 ?_
      walk_at "gs"
      refine ⟨by omega, by omega, fun i acc G => ∃ (st : Stt) (cs : List Nat), st.ok ∧ acc = cs.map nD ∧ cs.length = i ∧ (∀ c ∈ cs, 1 ≤ c ∧ c ≤ 9) ∧ G = [.ow (scr K ns), .o none (encS st), .d d, .d (zD z), .d (encM m), .d (zD row), s6, s7, s8, s9, .un, s11], ⟨st4, [], hst4, rfl, rfl, (fun c h => nomatch h), rfl⟩, fun B' i acc G2 d2 hd2 ⟨st5, cs, hst5, ha, hl, hcs, hG⟩ => ?_, fun acc G2 ⟨st5, cs, hst5, ha, hl, hcs, hG⟩ => ?_⟩
      · subst hG ha
        have hi : i < 3 := (rngD_get hd2).1
        refine dg_name ?_
        walk_at "gs"
        refine ⟨(st5, 2), 1, none, _, ⟨hst5, by simp, by simp⟩, rfl, rfl, rfl, ?_⟩
        rintro _ _ ⟨st6, k6, hst6, rfl, rfl, hk6⟩
        have hk6 : k6 < 2 := hk6
        obtain ⟨lim, hlim⟩ : ∃ n, ([2, 9] : List Nat)[k6]? = some n := ⟨_, List.getElem?_eq_getElem hk6⟩
        have hli : 2 ≤ lim ∧ lim ≤ 9 := (by decide : ∀ n ∈ ([2, 9] : List Nat), 2 ≤ n ∧ n ≤ 9) _ (List.mem_of_getElem? hlim)
        walk_at "gs"
        refine rw_ixL rfl (ati (f := nD) (xs := [2, 9]) hlim) ?_
        walk_at "gs"
        refine ⟨(st6, lim), 1, none, _, ⟨hst6, by show 0 < lim; omega, by show lim < 1000000000; omega⟩, rfl, rfl, rfl, ?_⟩
        rintro _ _ ⟨st7, k7, hst7, rfl, rfl, hk7⟩
        have hk7 : k7 < lim := hk7
        walk_at "gs"
        have e1 : (1 : Int) + (k7 : Int) = ((1 + k7 : Nat) : Int) := by omega
        rw [e1]
        refine ⟨szlt (by rw [List.length_map]; omega), st7, cs ++ [1 + k7], hst7, by rw [List.map_append]; rfl, by simp [hl], fun c' h' => ?_, rfl⟩
        rcases List.mem_append.mp h' with h' | h'
        · exact hcs c' h'
        · rw [List.mem_singleton.mp h']
          omega
      · subst hG ha
        have hl : cs.length = 3 := hl
        obtain ⟨x1, x2, x3, rfl⟩ : ∃ x y p, cs = [x, y, p] := by
          match cs, hl with
          | [x, y, p], _ => exact ⟨x, y, p, rfl⟩
        walk_at "gs"
        refine rn_tupL rfl ?_
        refine asn_d (nx_nxt ?_)
        exact ⟨st5, ⟨x1, x2, x3⟩, hst5, hcs x1 (by simp), hcs x2 (by simp), hcs x3 (by simp), rfl⟩
    · rintro G1 ⟨st5, co, hst5, ⟨p1, p2⟩, ⟨l1, l2⟩, ⟨t1, t2⟩, rfl⟩
      have O : Ok5 m z row := ⟨hg, z1, z3, by omega, hm1, hm11, hrz, by omega⟩
      have Pp : preP ⟨m, z, row, co⟩ := ⟨O, p2, l2, t2⟩
      have Pl : preL ⟨m, z, row, co⟩ := ⟨Pp, p1, l1, t1⟩
      refine ds_seq' ?_
      walk_at "gs"
      refine ⟨⟨m, z, row, co⟩, Pl, rfl, ?_⟩
      rintro _ ⟨due, hdue, rfl⟩
      walk_at "gs"
      refine ds_seq' ?_
      walk_at "gs"
      refine ⟨⟨m, z, row, co⟩, Pl, rfl, ?_⟩
      rintro _ ⟨told, htold, rfl⟩
      walk_at "gs"
      obtain rfl := dueR_det hdue htold
      obtain ⟨D⟩ := due_ok Pl z4 hdue
      have hsd := D.td.sd
      refine ds_mid' (fun G => G = [.ow (scr K ns), .o none (encS st5), .d d, .d (zD z), .d (encM m), .d (zD row), .d (encC co), .d due, .d due, s9, .un, s11]) ?_ ?_
      · walk_at "gs"
        refine ⟨due, hsd, rfl, ?_⟩
        rintro _ rfl
        walk_at "gs"
        refine ⟨(⟨m, z, row, co⟩, due), ⟨Pp, 4, by decide, D.td.sb 0⟩, rfl, ?_⟩
        rintro _ rfl
        dsimp only
        rw [bD_t D.acc]
        walk_at "gs"
      · rintro G1 rfl
        obtain ⟨q, p, heq, tq, ty, tp⟩ := D.eq
        have hne := D.ne
        have htu := D.tu
        have htd := D.td
        generalize hy : D.y = y at *
        subst heq
        have hy3 : y = .none ∨ ∃ c ss, q = nD c ∧ y = .tuple (ss.map encT) ∧ WayF ⟨m, z, row, co⟩ c ss := by
          rcases hdue with ⟨hb, e⟩ | ⟨c, ss, hb, hp, e⟩
          · injection e with e
            injection e with e1 e
            injection e with e2 e
            exact .inl e2
          · injection e with e
            injection e with e1 e
            injection e with e2 e
            exact .inr ⟨c, ss, e1, e2, way_ok Pl hb hp⟩
        have hr1000 : row.length ≤ 1000 := by omega
        refine ds_mid' (fun G => G = [.ow (scr K ns), .o none (encS st5), .d d, .d (zD z), .d (encM m), .d (zD row), .d (encC co), .d (.tuple [q, y, p]), .d (.tuple [q, y, p]), s9, .un, s11]) ?_ ?_
        · rcases hy3 with rfl | ⟨c, ss, rfl, rfl, W⟩
          · walk_at "gs"
          · obtain ⟨md, hmd, hmz, hml, hpas⟩ := W.md
            obtain ⟨mdr, hrun⟩ := W.run
            have hmd : chg row ss = some md := hmd
            have hmz : ∀ c ∈ md, c ∈ z := hmz
            have hpas : pas m (run m z 0 md) = true := hpas
            have hrun : runS (row, []) ss = some ([], mdr) := hrun
            have hsl : ss.length ≤ 30000 := Nat.le_trans W.len (by decide)
            walk_at "gs"
            refine ds_seq' ?_
            walk_at "gs"
            refine ⟨(row, ss), ⟨hr1000, hsl⟩, rfl, ?_⟩
            rintro _ rfl
            dsimp only
            rw [hmd]
            dsimp only [optZ]
            walk_at "gs"
            refine ⟨(row, ss), ⟨hr1000, hsl⟩, rfl, ?_⟩
            rintro _ rfl
            dsimp only
            rw [hmd]
            dsimp only [optZ]
            walk_at "gs"
            refine ⟨zD md, trivial, rfl, ?_⟩
            rintro _ rfl
            walk_at "gs"
            refine ⟨(row, ss), ⟨hr1000, hsl⟩, rfl, ?_⟩
            rintro _ rfl
            dsimp only
            rw [hmd]
            dsimp only [optZ]
            walk_at "gs"
            refine ⟨(m, z, 0, md), ⟨hg, hm1, hmz⟩, rfl, ?_⟩
            rintro _ rfl
            dsimp only
            rw [hpas]
            walk_at "gs"
            refine rw_ixS (szl (by omega)) (atn (i := 0) hc0) ?_
            walk_at "gs"
            refine rw_addZ (by simp; omega) ?_
            walk_at "gs"
            refine ⟨(row ++ [c0], ss), ⟨by show (row ++ [c0]).length ≤ 1000; simp; omega, hsl⟩, rfl, ?_⟩
            rintro _ rfl
            dsimp only
            rw [chg_more hrun]
            dsimp only [optZ]
            walk_at "gs"
            refine rs_from (n := 1) (by omega) ?_
            walk_at "gs"
            refine ⟨(row.drop 1, ss), ⟨by show (row.drop 1).length ≤ 1000; rw [List.length_drop]; omega, hsl⟩, rfl, ?_⟩
            rintro _ rfl
            dsimp only
            walk_at "gs"
            refine rs_from (n := 1) (by omega) ?_
            walk_at "gs"
            refine ⟨(row.drop 1, ss), ⟨by show (row.drop 1).length ≤ 1000; rw [List.length_drop]; omega, hsl⟩, rfl, ?_⟩
            rintro _ rfl
            dsimp only
            walk_at "gs"
            refine ⟨optZ (chg (row.drop 1) ss), by cases chg (row.drop 1) ss <;> trivial, rfl, ?_⟩
            rintro _ rfl
            walk_at "gs"
        · rintro G1 rfl
          have sq : SB 20000 9 q := tq.sb 6
          have sy : SB 20000 9 y := ty.sb 6
          have sp : SB 20000 9 p := tp.sb 6
          have sn : ∀ n, SB 20000 (n + 1) .none := fun n => trivial
          have a3 : ∀ {x y p}, SB 20000 9 x → SB 20000 9 y → SB 20000 9 p → SB 20000 10 (.tuple [x, y, p]) := fun {x y p} h1 h2 h3 => sb_tup (by show 3 ≤ 20000; decide) fun u hu => by
            simp only [List.mem_cons, List.not_mem_nil, or_false] at hu
            rcases hu with rfl | rfl | rfl
            · exact h1
            · exact h2
            · exact h3
          refine ds_mid' (fun G => ∃ asks : List PyData, asks.length ≤ 7 ∧ (∀ d ∈ asks, AskOk d) ∧ G = [.ow (scr K ns), .o none (encS st5), .d d, .d (zD z), .d (encM m), .d (zD row), .d (encC co), .d (.tuple [q, y, p]), .d (.tuple [q, y, p]), .o none asks, .un, s11]) ?_ ?_
          · walk_at "gs"
            refine rs_Tto (n := 2) ?_
            walk_at "gs"
            refine ⟨[.none, .tuple [q, y], .list [q, y, p], .tuple [.none, .none, p], .tuple [q, .none, p], .tuple [.none, y, p], .tuple [.int 0, .tuple [], p]], by simp, fun u hu => ?_, rfl⟩
            simp only [List.mem_cons, List.not_mem_nil, or_false] at hu
            rcases hu with rfl | rfl | rfl | rfl | rfl | rfl | rfl
            · exact ⟨sn 9, noE_not rfl⟩
            · refine ⟨sb_tup (by show 2 ≤ 20000; decide) fun u hu => ?_, noE_len (by simp)⟩
              simp only [List.mem_cons, List.not_mem_nil, or_false] at hu
              rcases hu with rfl | rfl
              · exact sq
              · exact sy
            · exact ⟨a3 sq sy sp, noE_not rfl⟩
            · exact ⟨a3 (sn 8) (sn 8) sp, noE_of ne1_none⟩
            · exact ⟨a3 sq (sn 8) sp, noE_of ne1_none⟩
            · exact ⟨a3 (sn 8) sy sp, noE_of hne.ne1⟩
            · exact ⟨a3 (Nat.zero_le _) (sb_tup (Nat.zero_le _) fun u hu => nomatch hu) sp, noE_of fun ss e hm => by injection e with e; rw [← e] at hm; cases hm⟩
          · rintro G1 ⟨asks, hal, hak, rfl⟩
            refine ds_mid' (fun G => ∃ asks : List PyData, asks.length ≤ 8 ∧ (∀ d ∈ asks, AskOk d) ∧ G = [.ow (scr K ns), .o none (encS st5), .d d, .d (zD z), .d (encM m), .d (zD row), .d (encC co), .d (.tuple [q, y, p]), .d (.tuple [q, y, p]), .o none asks, .un, s11]) ?_ ?_
            · rcases hy3 with rfl | ⟨c, ss, rfl, rfl, W⟩
              · walk_at "gs"
                exact ⟨asks, by omega, hak, rfl⟩
              · have hsl := W.len
                walk_at "gs"
                refine rw_ixS (szl (by omega)) (atn (i := 0) hc0) ?_
                walk_at "gs"
                refine rw_addT (szl (by simp; omega)) ?_
                walk_at "gs"
                refine rm_app (i := 9) (ds := asks) rfl (szlt (by omega)) ?_
                walk_at "gs"
                have hc0b := z4 c0 (List.mem_of_getElem? hc0)
                have hcb := W.cb
                refine ⟨asks ++ [.tuple [.int ((c : Int) + (co.put : Int) + (co.leave : Int)), .tuple (ss.map encT ++ [.tuple [zD putL, zD [c0]]]), p]], by rw [List.length_append]; show asks.length + 1 ≤ 8; omega, fun u hu => ?_, rfl⟩
                rcases List.mem_append.mp hu with hu | hu
                · exact hak u hu
                · rw [List.mem_singleton.mp hu]
                  refine ⟨a3 (by show ((c : Int) + (co.put : Int) + (co.leave : Int)).natAbs ≤ 20000; omega) (sb_tup (by simp; omega) fun v hv => ?_) sp, noE_of fun ss' e hm => ?_⟩
                  · rcases List.mem_append.mp hv with hv | hv
                    · obtain ⟨s, hs, rfl⟩ := List.mem_map.mp hv
                      exact (td_step z4 (W.good s hs)).sb 6
                    · rw [List.mem_singleton.mp hv]
                      refine sb_tup (by show 2 ≤ 20000; decide) fun v hv => ?_
                      simp only [List.mem_cons, List.not_mem_nil, or_false] at hv
                      rcases hv with rfl | rfl
                      · exact sb_str put_ok.1 put_ok.2
                      · exact sb_str (by simp) fun q hq => by rw [List.mem_singleton.mp hq]; exact hc0b
                  · injection e with e
                    rw [← e] at hm
                    rcases List.mem_append.mp hm with hm | hm
                    · obtain ⟨s, _, e2⟩ := List.mem_map.mp hm
                      obtain ⟨ys, e3, hl⟩ := encT_two s
                      rw [e3] at e2
                      injection e2 with e2
                      rw [e2] at hl
                      simp at hl
                    · have := List.mem_singleton.mp hm
                      injection this with this
                      cases this
            · rintro G1 ⟨asks, hal, hak, rfl⟩
              refine ds_mid' (fun G => ∃ (st : Stt) (asks : List PyData) (s10 : Sl), st.ok ∧ asks.length ≤ 20 ∧ (∀ d ∈ asks, AskOk d) ∧ G = [.ow (scr K ns), .o none (encS st), .d d, .d (zD z), .d (encM m), .d (zD row), .d (encC co), .d (.tuple [q, y, p]), .d (.tuple [q, y, p]), .o none asks, s10, s11]) ?_ ?_
              · refine ds_forE' (ch := [10]) ?_
                refine di_rng1 ?_
                walk_at "gs"
                refine ⟨by decide, by decide, fun i G => ∃ (st : Stt) (asks : List PyData) (s10 : Sl), st.ok ∧ asks.length ≤ 8 + i ∧ (∀ d ∈ asks, AskOk d) ∧ G = [.ow (scr K ns), .o none (encS st), .d d, .d (zD z), .d (encM m), .d (zD row), .d (encC co), .d (.tuple [q, y, p]), .d (.tuple [q, y, p]), .o none asks, s10, s11], ⟨st5, asks, .un, hst5, hal, hak, rfl⟩, fun i G2 d2 hd2 ⟨st, asks, s10, hst, hal, hak, hG⟩ => ?_, fun G2 ⟨st, asks, s10, hst, hal, hak, hG⟩ => ?_⟩
                · subst hG
                  have hi : i < 6 := (rngD_get hd2).1
                  refine dg_name ?_
                  walk_at "gs"
                  refine ⟨(st, z, .tuple [q, y, p]), 1, none, _, ⟨hst, hz, htd⟩, rfl, rfl, rfl, ?_⟩
                  rintro _ d3 ⟨st6, hst6, rfl, htr⟩
                  have htr : TurR (.tuple [q, y, p]) d3 := htr
                  walk_at "gs"
                  refine rm_app (i := 9) (ds := asks) rfl (szlt (by omega)) ?_
                  walk_at "gs"
                  refine ⟨st6, asks ++ [d3], .d d2, hst6, by rw [List.length_append]; show asks.length + 1 ≤ _; omega, fun u hu => ?_, rfl⟩
                  rcases List.mem_append.mp hu with hu | hu
                  · exact hak u hu
                  · rw [List.mem_singleton.mp hu]
                    exact ⟨sb_up (htr.sb htd), turned_noE htr hne htu⟩
                · subst hG
                  refine ⟨st, asks, s10, hst, ?_, hak, rfl⟩
                  rw [rngD_len] at hal
                  have hal : asks.length ≤ 8 + 6 := hal
                  omega
              · rintro G1 ⟨st, asks, s10, hst, hal, hak, rfl⟩
                refine ds_freeze 9 rfl ?_
                refine ds_forE' (ch := [11]) ?_
                refine di_anyL (di_list ?_)
                walk_at "gs"
                refine ⟨fun i G => ∃ s11, G = [.ow (scr K ns), .o none (encS st), .d d, .d (zD z), .d (encM m), .d (zD row), .d (encC co), .d (.tuple [q, y, p]), .d (.tuple [q, y, p]), .d (.list asks), s10, s11], ⟨_, rfl⟩, fun i G2 d2 hd2 ⟨s11, hG⟩ => ?_, fun G2 ⟨s11, hG⟩ => ?_⟩
                · subst hG
                  obtain ⟨hd3, hd4⟩ := hak d2 (List.mem_of_getElem? hd2)
                  refine dg_name ?_
                  walk_at "gs"
                  refine ⟨(⟨m, z, row, co⟩, d2), ⟨Pp, 10, by decide, hd3⟩, rfl, ?_⟩
                  rintro _ rfl
                  dsimp only
                  walk_at "gs"
                  refine ⟨(⟨m, z, row, co⟩, d2), ⟨⟨Pp, 10, by decide, hd3⟩, hd4⟩, rfl, ?_⟩
                  rintro _ rfl
                  dsimp only
                  walk_at "gs"
                  refine ⟨.bool (bD (accP m z row co d2)), trivial, rfl, ?_⟩
                  rintro _ rfl
                  walk_at "gs"
                  exact ⟨_, rfl⟩
                · subst hG
                  exact ⟨st, _, _, _, _, _, _, _, _, _, _, hst, rfl⟩
  · rintro G1 _
    walk_at "gs"
end
end K62
namespace K62
open PySem PySem.Spec PyProof.Rows L2 DL
theorem ok_all {P : Program} {w : World} {K : PySem.W.Frag} {mg : Str → Option Value} {base : Heap} {a : Ad} (T : Tx K mg a) : FnOk P w K mg base CX0 9 a.f25 a.d25 ["script"] (spLaw K 63) := by
  have n1 : FnOk P w K mg base CX0 1 a.f10 a.d10 ["state", "limit"] (spN K) := ok_law_next T
  have e1 : FnOk P w K mg base CX0 1 a.f17 a.d17 ["machine", "signs", "row", "costs", "place", "line"] (spE K encE) := ok_law_edges T
  have e2 : FnOk P w K mg base CX0 1 a.f2 a.d2 ["machine", "signs", "row", "costs", "place", "line"] (spE K encP) := ok_steps_from T
  have p1 := ok_is_price (P := P) (w := w) (base := base) T
  have c1 := ok_changed (P := P) (w := w) (base := base) T
  have c2 := ok_law_changed (P := P) (w := w) (base := base) T
  have s1 := ok_law_passes (P := P) (w := w) (base := base) T (ok_law_line T)
  exact ok_law T n1 (ok_law_same T) (ok_law_signs T n1) (ok_law_machine T n1) (ok_law_row T n1) (ok_law_due T (ok_law_prices T e1) e1) (ok_least_change T (ok_prices_of T e2) e2) (ok_judge_change T p1 (ok_are_prices T p1 e2) (ok_is_step T) c1) c1 c2 s1 (ok_law_turned T n1 4 (by decide)) (ok_law_accepts T (ok_law_is_price T) e1 (ok_law_is_step T) c2 s1)
theorem kit_of {K : PySem.W.Frag} {C : Addr} {T : String} (hm : PySem.W.kitMeta T = true) (h : PySem.W.subIn K (.ref C) (.type T) = some true) : PySem.W.kitOne K (.ref C) (.type T) = some true := by
  show (if ((Value.ref C) == (Value.type T)) = true then some true else if PySem.W.kitMeta T = true then PySem.W.subIn K (.ref C) (.type T) else none) = some true
  rw [if_neg (by simp), if_pos hm]
  exact h
theorem all_mk {P : Program} {w : World} {K : PySem.W.Frag} {h : Heap} {mg : Str → Option Value} {fa f1 f2 f3 f4 f5 f6 f7 f8 f10 f11 f12 f13 f14 f15 f16 f17 f18 f19 f20 f21 f22 f23 f24 f25 : Addr} (X : K.In h) (G : h.Ns mainGlobals mg) (hfa : mg "law" = some (.ref fa))
    {od1 an1 : Option Addr} {sl1 : Array (Option Value)} {oc1 kV1 dc1 pm1 cd1 ct1 : Value}
    {od2 an2 : Option Addr} {sl2 : Array (Option Value)} {oc2 kV2 dc2 pm2 cd2 ct2 : Value}
    {od3 an3 : Option Addr} {sl3 : Array (Option Value)} {oc3 kV3 dc3 pm3 cd3 ct3 : Value}
    {od4 an4 : Option Addr} {sl4 : Array (Option Value)} {oc4 kV4 dc4 pm4 cd4 ct4 : Value}
    {od5 an5 : Option Addr} {sl5 : Array (Option Value)} {oc5 kV5 dc5 pm5 cd5 ct5 : Value}
    {od6 an6 : Option Addr} {sl6 : Array (Option Value)} {oc6 kV6 dc6 pm6 cd6 ct6 : Value}
    {od7 an7 : Option Addr} {sl7 : Array (Option Value)} {oc7 kV7 dc7 pm7 cd7 ct7 : Value}
    {od8 an8 : Option Addr} {sl8 : Array (Option Value)} {oc8 kV8 dc8 pm8 cd8 ct8 : Value}
    {od10 an10 : Option Addr} {sl10 : Array (Option Value)} {oc10 kV10 dc10 pm10 cd10 ct10 : Value}
    {od11 an11 : Option Addr} {sl11 : Array (Option Value)} {oc11 kV11 dc11 pm11 cd11 ct11 : Value}
    {od12 an12 : Option Addr} {sl12 : Array (Option Value)} {oc12 kV12 dc12 pm12 cd12 ct12 : Value}
    {od13 an13 : Option Addr} {sl13 : Array (Option Value)} {oc13 kV13 dc13 pm13 cd13 ct13 : Value}
    {od14 an14 : Option Addr} {sl14 : Array (Option Value)} {oc14 kV14 dc14 pm14 cd14 ct14 : Value}
    {od15 an15 : Option Addr} {sl15 : Array (Option Value)} {oc15 kV15 dc15 pm15 cd15 ct15 : Value}
    {od16 an16 : Option Addr} {sl16 : Array (Option Value)} {oc16 kV16 dc16 pm16 cd16 ct16 : Value}
    {od17 an17 : Option Addr} {sl17 : Array (Option Value)} {oc17 kV17 dc17 pm17 cd17 ct17 : Value}
    {od18 an18 : Option Addr} {sl18 : Array (Option Value)} {oc18 kV18 dc18 pm18 cd18 ct18 : Value}
    {od19 an19 : Option Addr} {sl19 : Array (Option Value)} {oc19 kV19 dc19 pm19 cd19 ct19 : Value}
    {od20 an20 : Option Addr} {sl20 : Array (Option Value)} {oc20 kV20 dc20 pm20 cd20 ct20 : Value}
    {od21 an21 : Option Addr} {sl21 : Array (Option Value)} {oc21 kV21 dc21 pm21 cd21 ct21 : Value}
    {od22 an22 : Option Addr} {sl22 : Array (Option Value)} {oc22 kV22 dc22 pm22 cd22 ct22 : Value}
    {od23 an23 : Option Addr} {sl23 : Array (Option Value)} {oc23 kV23 dc23 pm23 cd23 ct23 : Value}
    {od24 an24 : Option Addr} {sl24 : Array (Option Value)} {oc24 kV24 dc24 pm24 cd24 ct24 : Value}
    {od25 an25 : Option Addr} {sl25 : Array (Option Value)} {oc25 kV25 dc25 pm25 cd25 ct25 : Value}
    (a1 : PySem.W.nsIn K mainGlobals "is_price" = some (some (.ref f1))) (l1 : K.lookup f1 = some ⟨oc1, od1, .func (PySem.W.fnOf "is_price" "is_price" (defArgs s_is_price) (defBody s_is_price) (defScope s_is_price) .none kV1 dc1 pm1 an1 cd1 ct1), sl1⟩) (e1 : PySem.W.codeIn K cd1 "is_price" = true) (k1 : PySem.W.keepIn K (.ref f1) = true)
    (a2 : PySem.W.nsIn K mainGlobals "steps_from" = some (some (.ref f2))) (l2 : K.lookup f2 = some ⟨oc2, od2, .func (PySem.W.fnOf "steps_from" "steps_from" (defArgs s_steps_from) (defBody s_steps_from) (defScope s_steps_from) .none kV2 dc2 pm2 an2 cd2 ct2), sl2⟩) (e2 : PySem.W.codeIn K cd2 "steps_from" = true) (k2 : PySem.W.keepIn K (.ref f2) = true)
    (a3 : PySem.W.nsIn K mainGlobals "prices_of" = some (some (.ref f3))) (l3 : K.lookup f3 = some ⟨oc3, od3, .func (PySem.W.fnOf "prices_of" "prices_of" (defArgs s_prices_of) (defBody s_prices_of) (defScope s_prices_of) .none kV3 dc3 pm3 an3 cd3 ct3), sl3⟩) (e3 : PySem.W.codeIn K cd3 "prices_of" = true) (k3 : PySem.W.keepIn K (.ref f3) = true)
    (a4 : PySem.W.nsIn K mainGlobals "least_change" = some (some (.ref f4))) (l4 : K.lookup f4 = some ⟨oc4, od4, .func (PySem.W.fnOf "least_change" "least_change" (defArgs s_least_change) (defBody s_least_change) (defScope s_least_change) .none kV4 dc4 pm4 an4 cd4 ct4), sl4⟩) (e4 : PySem.W.codeIn K cd4 "least_change" = true) (k4 : PySem.W.keepIn K (.ref f4) = true)
    (a5 : PySem.W.nsIn K mainGlobals "changed" = some (some (.ref f5))) (l5 : K.lookup f5 = some ⟨oc5, od5, .func (PySem.W.fnOf "changed" "changed" (defArgs s_changed) (defBody s_changed) (defScope s_changed) .none kV5 dc5 pm5 an5 cd5 ct5), sl5⟩) (e5 : PySem.W.codeIn K cd5 "changed" = true) (k5 : PySem.W.keepIn K (.ref f5) = true)
    (a6 : PySem.W.nsIn K mainGlobals "is_step" = some (some (.ref f6))) (l6 : K.lookup f6 = some ⟨oc6, od6, .func (PySem.W.fnOf "is_step" "is_step" (defArgs s_is_step) (defBody s_is_step) (defScope s_is_step) .none kV6 dc6 pm6 an6 cd6 ct6), sl6⟩) (e6 : PySem.W.codeIn K cd6 "is_step" = true) (k6 : PySem.W.keepIn K (.ref f6) = true)
    (a7 : PySem.W.nsIn K mainGlobals "are_prices" = some (some (.ref f7))) (l7 : K.lookup f7 = some ⟨oc7, od7, .func (PySem.W.fnOf "are_prices" "are_prices" (defArgs s_are_prices) (defBody s_are_prices) (defScope s_are_prices) .none kV7 dc7 pm7 an7 cd7 ct7), sl7⟩) (e7 : PySem.W.codeIn K cd7 "are_prices" = true) (k7 : PySem.W.keepIn K (.ref f7) = true)
    (a8 : PySem.W.nsIn K mainGlobals "judge_change" = some (some (.ref f8))) (l8 : K.lookup f8 = some ⟨oc8, od8, .func (PySem.W.fnOf "judge_change" "judge_change" (defArgs s_judge_change) (defBody s_judge_change) (defScope s_judge_change) .none kV8 dc8 pm8 an8 cd8 ct8), sl8⟩) (e8 : PySem.W.codeIn K cd8 "judge_change" = true) (k8 : PySem.W.keepIn K (.ref f8) = true)
    (a10 : PySem.W.nsIn K mainGlobals "_law_next" = some (some (.ref f10))) (l10 : K.lookup f10 = some ⟨oc10, od10, .func (PySem.W.fnOf "_law_next" "_law_next" (defArgs s_law_next) (defBody s_law_next) (defScope s_law_next) .none kV10 dc10 pm10 an10 cd10 ct10), sl10⟩) (e10 : PySem.W.codeIn K cd10 "_law_next" = true) (k10 : PySem.W.keepIn K (.ref f10) = true)
    (a11 : PySem.W.nsIn K mainGlobals "_law_same" = some (some (.ref f11))) (l11 : K.lookup f11 = some ⟨oc11, od11, .func (PySem.W.fnOf "_law_same" "_law_same" (defArgs s_law_same) (defBody s_law_same) (defScope s_law_same) .none kV11 dc11 pm11 an11 cd11 ct11), sl11⟩) (e11 : PySem.W.codeIn K cd11 "_law_same" = true) (k11 : PySem.W.keepIn K (.ref f11) = true)
    (a12 : PySem.W.nsIn K mainGlobals "_law_signs" = some (some (.ref f12))) (l12 : K.lookup f12 = some ⟨oc12, od12, .func (PySem.W.fnOf "_law_signs" "_law_signs" (defArgs s_law_signs) (defBody s_law_signs) (defScope s_law_signs) .none kV12 dc12 pm12 an12 cd12 ct12), sl12⟩) (e12 : PySem.W.codeIn K cd12 "_law_signs" = true) (k12 : PySem.W.keepIn K (.ref f12) = true)
    (a13 : PySem.W.nsIn K mainGlobals "_law_machine" = some (some (.ref f13))) (l13 : K.lookup f13 = some ⟨oc13, od13, .func (PySem.W.fnOf "_law_machine" "_law_machine" (defArgs s_law_machine) (defBody s_law_machine) (defScope s_law_machine) .none kV13 dc13 pm13 an13 cd13 ct13), sl13⟩) (e13 : PySem.W.codeIn K cd13 "_law_machine" = true) (k13 : PySem.W.keepIn K (.ref f13) = true)
    (a14 : PySem.W.nsIn K mainGlobals "_law_line" = some (some (.ref f14))) (l14 : K.lookup f14 = some ⟨oc14, od14, .func (PySem.W.fnOf "_law_line" "_law_line" (defArgs s_law_line) (defBody s_law_line) (defScope s_law_line) .none kV14 dc14 pm14 an14 cd14 ct14), sl14⟩) (e14 : PySem.W.codeIn K cd14 "_law_line" = true) (k14 : PySem.W.keepIn K (.ref f14) = true)
    (a15 : PySem.W.nsIn K mainGlobals "_law_passes" = some (some (.ref f15))) (l15 : K.lookup f15 = some ⟨oc15, od15, .func (PySem.W.fnOf "_law_passes" "_law_passes" (defArgs s_law_passes) (defBody s_law_passes) (defScope s_law_passes) .none kV15 dc15 pm15 an15 cd15 ct15), sl15⟩) (e15 : PySem.W.codeIn K cd15 "_law_passes" = true) (k15 : PySem.W.keepIn K (.ref f15) = true)
    (a16 : PySem.W.nsIn K mainGlobals "_law_row" = some (some (.ref f16))) (l16 : K.lookup f16 = some ⟨oc16, od16, .func (PySem.W.fnOf "_law_row" "_law_row" (defArgs s_law_row) (defBody s_law_row) (defScope s_law_row) .none kV16 dc16 pm16 an16 cd16 ct16), sl16⟩) (e16 : PySem.W.codeIn K cd16 "_law_row" = true) (k16 : PySem.W.keepIn K (.ref f16) = true)
    (a17 : PySem.W.nsIn K mainGlobals "_law_edges" = some (some (.ref f17))) (l17 : K.lookup f17 = some ⟨oc17, od17, .func (PySem.W.fnOf "_law_edges" "_law_edges" (defArgs s_law_edges) (defBody s_law_edges) (defScope s_law_edges) .none kV17 dc17 pm17 an17 cd17 ct17), sl17⟩) (e17 : PySem.W.codeIn K cd17 "_law_edges" = true) (k17 : PySem.W.keepIn K (.ref f17) = true)
    (a18 : PySem.W.nsIn K mainGlobals "_law_prices" = some (some (.ref f18))) (l18 : K.lookup f18 = some ⟨oc18, od18, .func (PySem.W.fnOf "_law_prices" "_law_prices" (defArgs s_law_prices) (defBody s_law_prices) (defScope s_law_prices) .none kV18 dc18 pm18 an18 cd18 ct18), sl18⟩) (e18 : PySem.W.codeIn K cd18 "_law_prices" = true) (k18 : PySem.W.keepIn K (.ref f18) = true)
    (a19 : PySem.W.nsIn K mainGlobals "_law_due" = some (some (.ref f19))) (l19 : K.lookup f19 = some ⟨oc19, od19, .func (PySem.W.fnOf "_law_due" "_law_due" (defArgs s_law_due) (defBody s_law_due) (defScope s_law_due) .none kV19 dc19 pm19 an19 cd19 ct19), sl19⟩) (e19 : PySem.W.codeIn K cd19 "_law_due" = true) (k19 : PySem.W.keepIn K (.ref f19) = true)
    (a20 : PySem.W.nsIn K mainGlobals "_law_changed" = some (some (.ref f20))) (l20 : K.lookup f20 = some ⟨oc20, od20, .func (PySem.W.fnOf "_law_changed" "_law_changed" (defArgs s_law_changed) (defBody s_law_changed) (defScope s_law_changed) .none kV20 dc20 pm20 an20 cd20 ct20), sl20⟩) (e20 : PySem.W.codeIn K cd20 "_law_changed" = true) (k20 : PySem.W.keepIn K (.ref f20) = true)
    (a21 : PySem.W.nsIn K mainGlobals "_law_is_step" = some (some (.ref f21))) (l21 : K.lookup f21 = some ⟨oc21, od21, .func (PySem.W.fnOf "_law_is_step" "_law_is_step" (defArgs s_law_is_step) (defBody s_law_is_step) (defScope s_law_is_step) .none kV21 dc21 pm21 an21 cd21 ct21), sl21⟩) (e21 : PySem.W.codeIn K cd21 "_law_is_step" = true) (k21 : PySem.W.keepIn K (.ref f21) = true)
    (a22 : PySem.W.nsIn K mainGlobals "_law_is_price" = some (some (.ref f22))) (l22 : K.lookup f22 = some ⟨oc22, od22, .func (PySem.W.fnOf "_law_is_price" "_law_is_price" (defArgs s_law_is_price) (defBody s_law_is_price) (defScope s_law_is_price) .none kV22 dc22 pm22 an22 cd22 ct22), sl22⟩) (e22 : PySem.W.codeIn K cd22 "_law_is_price" = true) (k22 : PySem.W.keepIn K (.ref f22) = true)
    (a23 : PySem.W.nsIn K mainGlobals "_law_accepts" = some (some (.ref f23))) (l23 : K.lookup f23 = some ⟨oc23, od23, .func (PySem.W.fnOf "_law_accepts" "_law_accepts" (defArgs s_law_accepts) (defBody s_law_accepts) (defScope s_law_accepts) .none kV23 dc23 pm23 an23 cd23 ct23), sl23⟩) (e23 : PySem.W.codeIn K cd23 "_law_accepts" = true) (k23 : PySem.W.keepIn K (.ref f23) = true)
    (a24 : PySem.W.nsIn K mainGlobals "_law_turned" = some (some (.ref f24))) (l24 : K.lookup f24 = some ⟨oc24, od24, .func (PySem.W.fnOf "_law_turned" "_law_turned" (defArgs s_law_turned) (defBody s_law_turned) (defScope s_law_turned) .none kV24 dc24 pm24 an24 cd24 ct24), sl24⟩) (e24 : PySem.W.codeIn K cd24 "_law_turned" = true) (k24 : PySem.W.keepIn K (.ref f24) = true)
    (a25 : PySem.W.nsIn K mainGlobals "law" = some (some (.ref f25))) (l25 : K.lookup f25 = some ⟨oc25, od25, .func (PySem.W.fnOf "law" "law" (defArgs s_law) (defBody s_law) (defScope s_law) .none kV25 dc25 pm25 an25 cd25 ct25), sl25⟩) (e25 : PySem.W.codeIn K cd25 "law" = true) (k25 : PySem.W.keepIn K (.ref f25) = true)
    (z_bool : PySem.W.nsIn K mainGlobals "bool" = some none)
    (z_enumerate : PySem.W.nsIn K mainGlobals "enumerate" = some none)
    (z_int : PySem.W.nsIn K mainGlobals "int" = some none)
    (z_isinstance : PySem.W.nsIn K mainGlobals "isinstance" = some none)
    (z_len : PySem.W.nsIn K mainGlobals "len" = some none)
    (z_list : PySem.W.nsIn K mainGlobals "list" = some none)
    (z_max : PySem.W.nsIn K mainGlobals "max" = some none)
    (z_min : PySem.W.nsIn K mainGlobals "min" = some none)
    (z_range : PySem.W.nsIn K mainGlobals "range" = some none)
    (z_repr : PySem.W.nsIn K mainGlobals "repr" = some none)
    (z_reversed : PySem.W.nsIn K mainGlobals "reversed" = some none)
    (z_str : PySem.W.nsIn K mainGlobals "str" = some none)
    (z_sum : PySem.W.nsIn K mainGlobals "sum" = some none)
    (z_tuple : PySem.W.nsIn K mainGlobals "tuple" = some none)
    (z_zip : PySem.W.nsIn K mainGlobals "zip" = some none)
    : ∃ fd : FuncData, (∀ (s : Shared) (u : Value), BindsTo s fd ⟨[u], []⟩ [("script", u)]) ∧ ∀ base : Heap, K.In base → base.Ns mainGlobals mg → FnOk P w K mg base CX0 9 fa fd ["script"] (spLaw K 63) := by
  have e := hfa.symm.trans (PySem.W.mg_of X G a25)
  cases e
  have F1 := fun_mk (st := s_is_price) l1 e1 k1
  have b1 := F1.binds (ps := ["value"]) fun _ _ _ _ _ _ us hl => match us, hl with | [_], _ => rfl
  have F2 := fun_mk (st := s_steps_from) l2 e2 k2
  have b2 := F2.binds (ps := ["machine", "signs", "row", "costs", "place", "line"]) fun _ _ _ _ _ _ us hl => match us, hl with | [_, _, _, _, _, _], _ => rfl
  have F3 := fun_mk (st := s_prices_of) l3 e3 k3
  have b3 := F3.binds (ps := ["machine", "signs", "row", "costs"]) fun _ _ _ _ _ _ us hl => match us, hl with | [_, _, _, _], _ => rfl
  have F4 := fun_mk (st := s_least_change) l4 e4 k4
  have b4 := F4.binds (ps := ["machine", "signs", "row", "costs"]) fun _ _ _ _ _ _ us hl => match us, hl with | [_, _, _, _], _ => rfl
  have F5 := fun_mk (st := s_changed) l5 e5 k5
  have b5 := F5.binds (ps := ["row", "steps"]) fun _ _ _ _ _ _ us hl => match us, hl with | [_, _], _ => rfl
  have F6 := fun_mk (st := s_is_step) l6 e6 k6
  have b6 := F6.binds (ps := ["signs", "step"]) fun _ _ _ _ _ _ us hl => match us, hl with | [_, _], _ => rfl
  have F7 := fun_mk (st := s_are_prices) l7 e7 k7
  have b7 := F7.binds (ps := ["machine", "signs", "row", "costs", "prices"]) fun _ _ _ _ _ _ us hl => match us, hl with | [_, _, _, _, _], _ => rfl
  have F8 := fun_mk (st := s_judge_change) l8 e8 k8
  have b8 := F8.binds (ps := ["machine", "signs", "row", "costs", "told"]) fun _ _ _ _ _ _ us hl => match us, hl with | [_, _, _, _, _], _ => rfl
  have F10 := fun_mk (st := s_law_next) l10 e10 k10
  have b10 := F10.binds (ps := ["state", "limit"]) fun _ _ _ _ _ _ us hl => match us, hl with | [_, _], _ => rfl
  have F11 := fun_mk (st := s_law_same) l11 e11 k11
  have b11 := F11.binds (ps := ["actual", "expected"]) fun _ _ _ _ _ _ us hl => match us, hl with | [_, _], _ => rfl
  have F12 := fun_mk (st := s_law_signs) l12 e12 k12
  have b12 := F12.binds (ps := ["state"]) fun _ _ _ _ _ _ us hl => match us, hl with | [_], _ => rfl
  have F13 := fun_mk (st := s_law_machine) l13 e13 k13
  have b13 := F13.binds (ps := ["state", "signs"]) fun _ _ _ _ _ _ us hl => match us, hl with | [_, _], _ => rfl
  have F14 := fun_mk (st := s_law_line) l14 e14 k14
  have b14 := F14.binds (ps := ["machine", "signs", "line", "row"]) fun _ _ _ _ _ _ us hl => match us, hl with | [_, _, _, _], _ => rfl
  have F15 := fun_mk (st := s_law_passes) l15 e15 k15
  have b15 := F15.binds (ps := ["machine", "signs", "line", "row"]) fun _ _ _ _ _ _ us hl => match us, hl with | [_, _, _, _], _ => rfl
  have F16 := fun_mk (st := s_law_row) l16 e16 k16
  have b16 := F16.binds (ps := ["state", "signs", "most"]) fun _ _ _ _ _ _ us hl => match us, hl with | [_, _, _], _ => rfl
  have F17 := fun_mk (st := s_law_edges) l17 e17 k17
  have b17 := F17.binds (ps := ["machine", "signs", "row", "costs", "place", "line"]) fun _ _ _ _ _ _ us hl => match us, hl with | [_, _, _, _, _, _], _ => rfl
  have F18 := fun_mk (st := s_law_prices) l18 e18 k18
  have b18 := F18.binds (ps := ["machine", "signs", "row", "costs"]) fun _ _ _ _ _ _ us hl => match us, hl with | [_, _, _, _], _ => rfl
  have F19 := fun_mk (st := s_law_due) l19 e19 k19
  have b19 := F19.binds (ps := ["machine", "signs", "row", "costs"]) fun _ _ _ _ _ _ us hl => match us, hl with | [_, _, _, _], _ => rfl
  have F20 := fun_mk (st := s_law_changed) l20 e20 k20
  have b20 := F20.binds (ps := ["row", "steps"]) fun _ _ _ _ _ _ us hl => match us, hl with | [_, _], _ => rfl
  have F21 := fun_mk (st := s_law_is_step) l21 e21 k21
  have b21 := F21.binds (ps := ["signs", "step"]) fun _ _ _ _ _ _ us hl => match us, hl with | [_, _], _ => rfl
  have F22 := fun_mk (st := s_law_is_price) l22 e22 k22
  have b22 := F22.binds (ps := ["value"]) fun _ _ _ _ _ _ us hl => match us, hl with | [_], _ => rfl
  have F23 := fun_mk (st := s_law_accepts) l23 e23 k23
  have b23 := F23.binds (ps := ["machine", "signs", "row", "costs", "told"]) fun _ _ _ _ _ _ us hl => match us, hl with | [_, _, _, _, _], _ => rfl
  have F24 := fun_mk (st := s_law_turned) l24 e24 k24
  have b24 := F24.binds (ps := ["state", "signs", "value"]) fun _ _ _ _ _ _ us hl => match us, hl with | [_, _, _], _ => rfl
  have F25 := fun_mk (st := s_law) l25 e25 k25
  have b25 := F25.binds (ps := ["script"]) fun _ _ _ _ _ _ us hl => match us, hl with | [_], _ => rfl
  have T : Tx K mg (⟨f1, f2, f3, f4, f5, f6, f7, f8, f10, f11, f12, f13, f14, f15, f16, f17, f18, f19, f20, f21, f22, f23, f24, fa, PySem.W.fnOf "is_price" "is_price" (defArgs s_is_price) (defBody s_is_price) (defScope s_is_price) .none kV1 dc1 pm1 an1 cd1 ct1, PySem.W.fnOf "steps_from" "steps_from" (defArgs s_steps_from) (defBody s_steps_from) (defScope s_steps_from) .none kV2 dc2 pm2 an2 cd2 ct2, PySem.W.fnOf "prices_of" "prices_of" (defArgs s_prices_of) (defBody s_prices_of) (defScope s_prices_of) .none kV3 dc3 pm3 an3 cd3 ct3, PySem.W.fnOf "least_change" "least_change" (defArgs s_least_change) (defBody s_least_change) (defScope s_least_change) .none kV4 dc4 pm4 an4 cd4 ct4, PySem.W.fnOf "changed" "changed" (defArgs s_changed) (defBody s_changed) (defScope s_changed) .none kV5 dc5 pm5 an5 cd5 ct5, PySem.W.fnOf "is_step" "is_step" (defArgs s_is_step) (defBody s_is_step) (defScope s_is_step) .none kV6 dc6 pm6 an6 cd6 ct6, PySem.W.fnOf "are_prices" "are_prices" (defArgs s_are_prices) (defBody s_are_prices) (defScope s_are_prices) .none kV7 dc7 pm7 an7 cd7 ct7, PySem.W.fnOf "judge_change" "judge_change" (defArgs s_judge_change) (defBody s_judge_change) (defScope s_judge_change) .none kV8 dc8 pm8 an8 cd8 ct8, PySem.W.fnOf "_law_next" "_law_next" (defArgs s_law_next) (defBody s_law_next) (defScope s_law_next) .none kV10 dc10 pm10 an10 cd10 ct10, PySem.W.fnOf "_law_same" "_law_same" (defArgs s_law_same) (defBody s_law_same) (defScope s_law_same) .none kV11 dc11 pm11 an11 cd11 ct11, PySem.W.fnOf "_law_signs" "_law_signs" (defArgs s_law_signs) (defBody s_law_signs) (defScope s_law_signs) .none kV12 dc12 pm12 an12 cd12 ct12, PySem.W.fnOf "_law_machine" "_law_machine" (defArgs s_law_machine) (defBody s_law_machine) (defScope s_law_machine) .none kV13 dc13 pm13 an13 cd13 ct13, PySem.W.fnOf "_law_line" "_law_line" (defArgs s_law_line) (defBody s_law_line) (defScope s_law_line) .none kV14 dc14 pm14 an14 cd14 ct14, PySem.W.fnOf "_law_passes" "_law_passes" (defArgs s_law_passes) (defBody s_law_passes) (defScope s_law_passes) .none kV15 dc15 pm15 an15 cd15 ct15, PySem.W.fnOf "_law_row" "_law_row" (defArgs s_law_row) (defBody s_law_row) (defScope s_law_row) .none kV16 dc16 pm16 an16 cd16 ct16, PySem.W.fnOf "_law_edges" "_law_edges" (defArgs s_law_edges) (defBody s_law_edges) (defScope s_law_edges) .none kV17 dc17 pm17 an17 cd17 ct17, PySem.W.fnOf "_law_prices" "_law_prices" (defArgs s_law_prices) (defBody s_law_prices) (defScope s_law_prices) .none kV18 dc18 pm18 an18 cd18 ct18, PySem.W.fnOf "_law_due" "_law_due" (defArgs s_law_due) (defBody s_law_due) (defScope s_law_due) .none kV19 dc19 pm19 an19 cd19 ct19, PySem.W.fnOf "_law_changed" "_law_changed" (defArgs s_law_changed) (defBody s_law_changed) (defScope s_law_changed) .none kV20 dc20 pm20 an20 cd20 ct20, PySem.W.fnOf "_law_is_step" "_law_is_step" (defArgs s_law_is_step) (defBody s_law_is_step) (defScope s_law_is_step) .none kV21 dc21 pm21 an21 cd21 ct21, PySem.W.fnOf "_law_is_price" "_law_is_price" (defArgs s_law_is_price) (defBody s_law_is_price) (defScope s_law_is_price) .none kV22 dc22 pm22 an22 cd22 ct22, PySem.W.fnOf "_law_accepts" "_law_accepts" (defArgs s_law_accepts) (defBody s_law_accepts) (defScope s_law_accepts) .none kV23 dc23 pm23 an23 cd23 ct23, PySem.W.fnOf "_law_turned" "_law_turned" (defArgs s_law_turned) (defBody s_law_turned) (defScope s_law_turned) .none kV24 dc24 pm24 an24 cd24 ct24, PySem.W.fnOf "law" "law" (defArgs s_law) (defBody s_law) (defScope s_law) .none kV25 dc25 pm25 an25 cd25 ct25⟩ : Ad) := {
    z_bool := PySem.W.mg_none_of X G z_bool,
    z_enumerate := PySem.W.mg_none_of X G z_enumerate,
    z_int := PySem.W.mg_none_of X G z_int,
    z_isinstance := PySem.W.mg_none_of X G z_isinstance,
    z_len := PySem.W.mg_none_of X G z_len,
    z_list := PySem.W.mg_none_of X G z_list,
    z_max := PySem.W.mg_none_of X G z_max,
    z_min := PySem.W.mg_none_of X G z_min,
    z_range := PySem.W.mg_none_of X G z_range,
    z_repr := PySem.W.mg_none_of X G z_repr,
    z_reversed := PySem.W.mg_none_of X G z_reversed,
    z_str := PySem.W.mg_none_of X G z_str,
    z_sum := PySem.W.mg_none_of X G z_sum,
    z_tuple := PySem.W.mg_none_of X G z_tuple,
    z_zip := PySem.W.mg_none_of X G z_zip,
    m_is_price := PySem.W.mg_of X G a1, k_is_price := k1, b_is_price := b1, F_is_price := F1,
    m_steps_from := PySem.W.mg_of X G a2, k_steps_from := k2, b_steps_from := b2, F_steps_from := F2,
    m_prices_of := PySem.W.mg_of X G a3, k_prices_of := k3, b_prices_of := b3, F_prices_of := F3,
    m_least_change := PySem.W.mg_of X G a4, k_least_change := k4, b_least_change := b4, F_least_change := F4,
    m_changed := PySem.W.mg_of X G a5, k_changed := k5, b_changed := b5, F_changed := F5,
    m_is_step := PySem.W.mg_of X G a6, k_is_step := k6, b_is_step := b6, F_is_step := F6,
    m_are_prices := PySem.W.mg_of X G a7, k_are_prices := k7, b_are_prices := b7, F_are_prices := F7,
    m_judge_change := PySem.W.mg_of X G a8, k_judge_change := k8, b_judge_change := b8, F_judge_change := F8,
    m_law_next := PySem.W.mg_of X G a10, k_law_next := k10, b_law_next := b10, F_law_next := F10,
    m_law_same := PySem.W.mg_of X G a11, k_law_same := k11, b_law_same := b11, F_law_same := F11,
    m_law_signs := PySem.W.mg_of X G a12, k_law_signs := k12, b_law_signs := b12, F_law_signs := F12,
    m_law_machine := PySem.W.mg_of X G a13, k_law_machine := k13, b_law_machine := b13, F_law_machine := F13,
    m_law_line := PySem.W.mg_of X G a14, k_law_line := k14, b_law_line := b14, F_law_line := F14,
    m_law_passes := PySem.W.mg_of X G a15, k_law_passes := k15, b_law_passes := b15, F_law_passes := F15,
    m_law_row := PySem.W.mg_of X G a16, k_law_row := k16, b_law_row := b16, F_law_row := F16,
    m_law_edges := PySem.W.mg_of X G a17, k_law_edges := k17, b_law_edges := b17, F_law_edges := F17,
    m_law_prices := PySem.W.mg_of X G a18, k_law_prices := k18, b_law_prices := b18, F_law_prices := F18,
    m_law_due := PySem.W.mg_of X G a19, k_law_due := k19, b_law_due := b19, F_law_due := F19,
    m_law_changed := PySem.W.mg_of X G a20, k_law_changed := k20, b_law_changed := b20, F_law_changed := F20,
    m_law_is_step := PySem.W.mg_of X G a21, k_law_is_step := k21, b_law_is_step := b21, F_law_is_step := F21,
    m_law_is_price := PySem.W.mg_of X G a22, k_law_is_price := k22, b_law_is_price := b22, F_law_is_price := F22,
    m_law_accepts := PySem.W.mg_of X G a23, k_law_accepts := k23, b_law_accepts := b23, F_law_accepts := F23,
    m_law_turned := PySem.W.mg_of X G a24, k_law_turned := k24, b_law_turned := b24, F_law_turned := F24,
    m_law := PySem.W.mg_of X G a25, k_law := k25, b_law := b25, F_law := F25 }
  exact ⟨PySem.W.fnOf "law" "law" (defArgs s_law) (defBody s_law) (defScope s_law) .none kV25 dc25 pm25 an25 cd25 ct25, fun s u => .of_eq rfl, fun base _ _ => ok_all T⟩
end K62
open PySem PySem.W PyProof.Rows
set_option maxRecDepth 100000 in
set_option maxHeartbeats 0 in
theorem PySem.Challenge.cw_chipgate_k62_whole_least_changes_holds : PySem.Challenge.rw_chipgate_k62_whole_least_changes.Holds := by
  w_on; o_law; k_head; (case hw => w_witness2)
  k_fill
  refine L2.walk_ofK (l := PySem.Challenge.rw_chipgate_k62_whole_least_changes) (n := 63) (k := 9) (CX := L2.CX0) (x := "script") (sp := fun K => DL.spLaw K 63) rfl (by decide) rfl ⟨rfl, by decide, by decide⟩ (fun w h Y => PySem.W.kIn_of Y) ?F ?S (fun _ _ _ _ z => z)
  case F =>
    intro w mg fa h KX G hmg
    refine' K62.all_mk KX G hmg ?a1 ?l1 ?e1 ?k1 ?a2 ?l2 ?e2 ?k2 ?a3 ?l3 ?e3 ?k3 ?a4 ?l4 ?e4 ?k4 ?a5 ?l5 ?e5 ?k5 ?a6 ?l6 ?e6 ?k6 ?a7 ?l7 ?e7 ?k7 ?a8 ?l8 ?e8 ?k8 ?a10 ?l10 ?e10 ?k10 ?a11 ?l11 ?e11 ?k11 ?a12 ?l12 ?e12 ?k12 ?a13 ?l13 ?e13 ?k13 ?a14 ?l14 ?e14 ?k14 ?a15 ?l15 ?e15 ?k15 ?a16 ?l16 ?e16 ?k16 ?a17 ?l17 ?e17 ?k17 ?a18 ?l18 ?e18 ?k18 ?a19 ?l19 ?e19 ?k19 ?a20 ?l20 ?e20 ?k20 ?a21 ?l21 ?e21 ?k21 ?a22 ?l22 ?e22 ?k22 ?a23 ?l23 ?e23 ?k23 ?a24 ?l24 ?e24 ?k24 ?a25 ?l25 ?e25 ?k25 ?z_bool ?z_enumerate ?z_int ?z_isinstance ?z_len ?z_list ?z_max ?z_min ?z_range ?z_repr ?z_reversed ?z_str ?z_sum ?z_tuple ?z_zip
    (case a1 => k_is)
    (case l1 => k_is)
    (case e1 => k_is)
    (case k1 => k_is)
    (case a2 => k_is)
    (case l2 => k_is)
    (case e2 => k_is)
    (case k2 => k_is)
    (case a3 => k_is)
    (case l3 => k_is)
    (case e3 => k_is)
    (case k3 => k_is)
    (case a4 => k_is)
    (case l4 => k_is)
    (case e4 => k_is)
    (case k4 => k_is)
    (case a5 => k_is)
    (case l5 => k_is)
    (case e5 => k_is)
    (case k5 => k_is)
    (case a6 => k_is)
    (case l6 => k_is)
    (case e6 => k_is)
    (case k6 => k_is)
    (case a7 => k_is)
    (case l7 => k_is)
    (case e7 => k_is)
    (case k7 => k_is)
    (case a8 => k_is)
    (case l8 => k_is)
    (case e8 => k_is)
    (case k8 => k_is)
    (case a10 => k_is)
    (case l10 => k_is)
    (case e10 => k_is)
    (case k10 => k_is)
    (case a11 => k_is)
    (case l11 => k_is)
    (case e11 => k_is)
    (case k11 => k_is)
    (case a12 => k_is)
    (case l12 => k_is)
    (case e12 => k_is)
    (case k12 => k_is)
    (case a13 => k_is)
    (case l13 => k_is)
    (case e13 => k_is)
    (case k13 => k_is)
    (case a14 => k_is)
    (case l14 => k_is)
    (case e14 => k_is)
    (case k14 => k_is)
    (case a15 => k_is)
    (case l15 => k_is)
    (case e15 => k_is)
    (case k15 => k_is)
    (case a16 => k_is)
    (case l16 => k_is)
    (case e16 => k_is)
    (case k16 => k_is)
    (case a17 => k_is)
    (case l17 => k_is)
    (case e17 => k_is)
    (case k17 => k_is)
    (case a18 => k_is)
    (case l18 => k_is)
    (case e18 => k_is)
    (case k18 => k_is)
    (case a19 => k_is)
    (case l19 => k_is)
    (case e19 => k_is)
    (case k19 => k_is)
    (case a20 => k_is)
    (case l20 => k_is)
    (case e20 => k_is)
    (case k20 => k_is)
    (case a21 => k_is)
    (case l21 => k_is)
    (case e21 => k_is)
    (case k21 => k_is)
    (case a22 => k_is)
    (case l22 => k_is)
    (case e22 => k_is)
    (case k22 => k_is)
    (case a23 => k_is)
    (case l23 => k_is)
    (case e23 => k_is)
    (case k23 => k_is)
    (case a24 => k_is)
    (case l24 => k_is)
    (case e24 => k_is)
    (case k24 => k_is)
    (case a25 => k_is)
    (case l25 => k_is)
    (case e25 => k_is)
    (case k25 => k_is)
    (case z_bool => k_is)
    (case z_enumerate => k_is)
    (case z_int => k_is)
    (case z_isinstance => k_is)
    (case z_len => k_is)
    (case z_list => k_is)
    (case z_max => k_is)
    (case z_min => k_is)
    (case z_range => k_is)
    (case z_repr => k_is)
    (case z_reversed => k_is)
    (case z_str => k_is)
    (case z_sum => k_is)
    (case z_tuple => k_is)
    (case z_zip => k_is)
  case S => exact fun K H a ns hl _ hs => ⟨a, ns, rfl, hl, hs, fun _ => rfl⟩
