import PyProof.Rows.All
import Wide.All
import OpenK.AllK
import Wide.FinOn
import HandS.ForMost
import HandS.Deep
import HandS.TupAny
import HandS.Style
import HandS.IsInst
import HandS.SortInts
import HandS.SortRule
import HandS.Replace
import HandS.Strs
import HandS.SetFor
import HandS.Zip
import HandS.Conv
import HandS.DictTup
import KE.GoesMore
import KE.GoesEnum
import HandS.ExcIs
import HandS.WordsExc
import HandS.TryOnly
import KE.KDictDisplayH
import PyProof.StrOps2
import KE.SortData
import KE.DataMinMax
import KE.DataCmp
import HandS.StrMore
import HandS.RevRange
import HandS.Text
import KE.GoesZip
import HandS.MapSum
import HandS.ExcValue
import HandS.RaiseMore
import KE.KRevSl
import HandS.Exc
import KE.GoesRaise
import HandS.Wide
import PySem.Challenge.RW_chipgate_k12_bytes_written_and_read
set_option Elab.async false
set_option linter.all false
set_option maxRecDepth 100000
set_option maxHeartbeats 4000000
/-! DL: a calculus over plain data (PyData) on top of the hand layer: what an expression, a statement does, told without addresses -/
namespace DL
open PySem L2
abbrev Fr := PySem.W.Frag

/-! ### heaps -/
def Ex (H H' : Hp) : Prop := ∀ b o, H b = some o → H' b = some o
theorem Ex.refl (H : Hp) : Ex H H := fun _ _ h => h
theorem Ex.trans {H H1 H2 : Hp} (a : Ex H H1) (b : Ex H1 H2) : Ex H H2 := fun c o h => b c o (a c o h)
theorem Ex.new {H : Hp} {p : Addr} {o : HO} (h : H p = none) : Ex H (upd H p o) := fun a u e => by
  rw [upd_ne (ne_of_none e h)]
  exact e
theorem Ex.free {H H' : Hp} (e : Ex H H') {l : Addr} (h : H' l = none) : H l = none := by
  cases q : H l with
  | none => rfl
  | some o =>
    rw [e l o q] at h
    cases h
/-- both grow by the same -/
theorem Ex.both {F H : Hp} (e : Ex F H) (p : Addr) (o : HO) : Ex (upd F p o) (upd H p o) := fun a u h => by
  by_cases ha : a = p
  · subst ha
    rw [upd_same] at h
    rw [upd_same, h]
  · rw [upd_ne ha] at h
    rw [upd_ne ha]
    exact e a u h
/-- what is not frozen changes -/
theorem Ex.mut {F H : Hp} (e : Ex F H) {p : Addr} (h : F p = none) (o : HO) : Ex F (upd H p o) := fun a u q => by
  rw [upd_ne (ne_of_none q h)]
  exact e a u q
/-- what stands is frozen -/
theorem Ex.frz {F H : Hp} (e : Ex F H) {p : Addr} {o : HO} (h : H p = some o) : Ex (upd F p o) H := fun a u q => by
  by_cases ha : a = p
  · subst ha
    rw [upd_same] at q
    rw [h, q]
  · rw [upd_ne ha] at q
    exact e a u q
theorem rd_mono {H H' : Hp} {a : Addr} {u : HO} (e : Ex H H') (h : Rd H a u) : Rd H' a u := by
  rcases h with h | ⟨o, h⟩
  · exact .inl (e a _ h)
  · exact .inr ⟨o, e a _ h⟩
theorem sl_mono {K : Fr} {H H' : Hp} {a : Addr} {xs : List V} (e : Ex H H') (h : SqL K H a xs) : SqL K H' a xs := by
  rcases h with h | h
  · exact .inl (rd_mono e h)
  · exact .inr h
theorem st_mono {K : Fr} {H H' : Hp} {a : Addr} {xs : List V} (e : Ex H H') (h : SqT K H a xs) : SqT K H' a xs := by
  rcases h with h | h
  · exact .inl (rd_mono e h)
  · exact .inr h
mutual
/-- v is the data d: its lists and tuples stand in H themselves -/
inductive Dq (K : Fr) (H : Hp) : V → PyData → Prop
  | non : Dq K H .non .none
  | bl (b : Bool) : Dq K H (.bl b) (.bool b)
  | int (i : Int) : Dq K H (.int i) (.int i)
  | str (x : Str) : Dq K H (.str x) (.str x)
  | lst {a : Addr} {xs : List V} {ds : List PyData} : H a = some (.lst xs) → DqAll K H xs ds → Dq K H (.ref a) (.list ds)
  | tup {a : Addr} {xs : List V} {ds : List PyData} : H a = some (.tup xs) → DqAll K H xs ds → Dq K H (.ref a) (.tuple ds)
inductive DqAll (K : Fr) (H : Hp) : List V → List PyData → Prop
  | nil : DqAll K H [] []
  | cons {v : V} {vs : List V} {d : PyData} {ds : List PyData} : Dq K H v d → DqAll K H vs ds → DqAll K H (v :: vs) (d :: ds)
end
mutual
theorem dq_dp {K : Fr} {H : Hp} : ∀ {v : V} {d : PyData}, Dq K H v d → L2.Dp K H v d
  | _, _, .non => .non
  | _, _, .bl b => .bl b
  | _, _, .int i => .int i
  | _, _, .str x => .str x
  | _, _, .lst h a => .lst (SqL.of h) (dqa_dp a)
  | _, _, .tup h a => .tup (SqT.of h) (dqa_dp a)
theorem dqa_dp {K : Fr} {H : Hp} : ∀ {vs : List V} {ds : List PyData}, DqAll K H vs ds → L2.DpAll K H vs ds
  | _, _, .nil => .nil
  | _, _, .cons h a => .cons (dq_dp h) (dqa_dp a)
end
mutual
theorem dp_mono {K : Fr} {H H' : Hp} (e : Ex H H') : ∀ {v : V} {d : PyData}, Dq K H v d → Dq K H' v d
  | _, _, .non => .non
  | _, _, .bl b => .bl b
  | _, _, .int i => .int i
  | _, _, .str x => .str x
  | _, _, .lst h a => .lst (e _ _ h) (da_mono e a)
  | _, _, .tup h a => .tup (e _ _ h) (da_mono e a)
theorem da_mono {K : Fr} {H H' : Hp} (e : Ex H H') : ∀ {vs : List V} {ds : List PyData}, DqAll K H vs ds → DqAll K H' vs ds
  | _, _, .nil => .nil
  | _, _, .cons h a => .cons (dp_mono e h) (da_mono e a)
end
section
variable {K : Fr} {H : Hp}
theorem da_len : ∀ {vs : List V} {ds : List PyData}, DqAll K H vs ds → vs.length = ds.length
  | _, _, .nil => rfl
  | _, _, .cons _ a => congrArg (· + 1) (da_len a)
theorem da_app : ∀ {vs ws : List V} {ds es : List PyData}, DqAll K H vs ds → DqAll K H ws es → DqAll K H (vs ++ ws) (ds ++ es)
  | _, _, _, _, .nil, b => b
  | _, _, _, _, .cons h a, b => .cons h (da_app a b)
theorem da_get : ∀ {vs : List V} {ds : List PyData} {i : Nat} {d : PyData}, DqAll K H vs ds → ds[i]? = some d → ∃ v, vs[i]? = some v ∧ Dq K H v d
  | _, _, _, _, .nil, e => by simp at e
  | _, _, 0, _, .cons h _, e => by
    simp at e
    subst e
    exact ⟨_, rfl, h⟩
  | _, _, i + 1, _, .cons _ a, e => by
    obtain ⟨v, h1, h2⟩ := da_get (i := i) a (by simpa using e)
    exact ⟨v, by simpa using h1, h2⟩
theorem da_get' : ∀ {vs : List V} {ds : List PyData} {i : Nat} {v : V}, DqAll K H vs ds → vs[i]? = some v → ∃ d, ds[i]? = some d ∧ Dq K H v d
  | _, _, _, _, .nil, e => by simp at e
  | _, _, 0, _, .cons h _, e => by
    simp at e
    subst e
    exact ⟨_, rfl, h⟩
  | _, _, i + 1, _, .cons _ a, e => by
    obtain ⟨v, h1, h2⟩ := da_get' (i := i) a (by simpa using e)
    exact ⟨v, by simpa using h1, h2⟩
theorem da_set : ∀ {vs : List V} {ds : List PyData} (i : Nat) {v : V} {d : PyData}, DqAll K H vs ds → Dq K H v d → DqAll K H (vs.set i v) (ds.set i d)
  | _, _, _, _, _, .nil, _ => .nil
  | _, _, 0, _, _, .cons _ a, h => .cons h a
  | _, _, i + 1, _, _, .cons h a, h' => .cons h (da_set i a h')
theorem da_take : ∀ {vs : List V} {ds : List PyData} (n : Nat), DqAll K H vs ds → DqAll K H (vs.take n) (ds.take n)
  | _, _, 0, _ => .nil
  | _, _, _ + 1, .nil => .nil
  | _, _, n + 1, .cons h a => .cons h (da_take n a)
theorem da_drop : ∀ {vs : List V} {ds : List PyData} (n : Nat), DqAll K H vs ds → DqAll K H (vs.drop n) (ds.drop n)
  | _, _, 0, a => a
  | _, _, _ + 1, .nil => .nil
  | _, _, n + 1, .cons _ a => da_drop n a
theorem da_erase : ∀ {vs : List V} {ds : List PyData} (i : Nat), DqAll K H vs ds → DqAll K H (vs.eraseIdx i) (ds.eraseIdx i)
  | _, _, _, .nil => .nil
  | _, _, 0, .cons _ a => a
  | _, _, i + 1, .cons h a => .cons h (da_erase i a)
theorem da_rev : ∀ {vs : List V} {ds : List PyData}, DqAll K H vs ds → DqAll K H vs.reverse ds.reverse
  | _, _, .nil => .nil
  | _, _, .cons h a => by
    rw [List.reverse_cons, List.reverse_cons]
    exact da_app (da_rev a) (.cons h .nil)
theorem da_ints : ∀ ns : List Int, DqAll K H (ns.map V.int) (ns.map PyData.int)
  | [] => .nil
  | n :: r => .cons (.int n) (da_ints r)
theorem da_strs : ∀ ns : List Str, DqAll K H (ns.map V.str) (ns.map PyData.str)
  | [] => .nil
  | n :: r => .cons (.str n) (da_strs r)
theorem da_bls : ∀ ns : List Bool, DqAll K H (ns.map V.bl) (ns.map PyData.bool)
  | [] => .nil
  | n :: r => .cons (.bl n) (da_bls r)
theorem da_ints_eq : ∀ {vs : List V} {ns : List Int}, DqAll K H vs (ns.map PyData.int) → vs = ns.map V.int
  | _, [], .nil => rfl
  | _, n :: r, .cons h a => by
    cases h
    rw [da_ints_eq a]
    rfl
theorem da_strs_eq : ∀ {vs : List V} {ns : List Str}, DqAll K H vs (ns.map PyData.str) → vs = ns.map V.str
  | _, [], .nil => rfl
  | _, n :: r, .cons h a => by
    cases h
    rw [da_strs_eq a]
    rfl
theorem da_bls_eq : ∀ {vs : List V} {ns : List Bool}, DqAll K H vs (ns.map PyData.bool) → vs = ns.map V.bl
  | _, [], .nil => rfl
  | _, n :: r, .cons h a => by
    cases h
    rw [da_bls_eq a]
    rfl
theorem dp_int {v : V} {i : Int} (h : Dq K H v (.int i)) : v = .int i := by cases h; rfl
theorem dp_str {v : V} {i : Str} (h : Dq K H v (.str i)) : v = .str i := by cases h; rfl
theorem dp_bl {v : V} {i : Bool} (h : Dq K H v (.bool i)) : v = .bl i := by cases h; rfl
theorem dp_non {v : V} (h : Dq K H v .none) : v = .non := by cases h; rfl
theorem dp_lst {v : V} {ds : List PyData} (h : Dq K H v (.list ds)) : ∃ a vs, v = .ref a ∧ H a = some (.lst vs) ∧ DqAll K H vs ds := by
  cases h with
  | lst s a => exact ⟨_, _, rfl, s, a⟩
theorem dp_tup {v : V} {ds : List PyData} (h : Dq K H v (.tuple ds)) : ∃ a vs, v = .ref a ∧ H a = some (.tup vs) ∧ DqAll K H vs ds := by
  cases h with
  | tup s a => exact ⟨_, _, rfl, s, a⟩
end

/-! ### what a slot holds -/
structure Orel where
  rel : Hp → Hp → V → (Addr → Prop) → Prop
  stab : ∀ {F H F' H' : Hp} {v : V} {A : Addr → Prop}, rel F H v A → Ex F F' → (∀ a, A a → H' a = H a) → rel F' H' v A
  /-- it has one address; which one, where it is told -/
  ptr : Bool := false
  adr : Option Addr := none
  core : Hp → Hp → V → (Addr → Prop) → Prop := fun _ _ _ _ => False
  cstab : ∀ {F H F' H' : Hp} {v : V} {A : Addr → Prop}, core F H v A → Ex F F' → (∀ a, A a → H' a = H a) → core F' H' v A := by intro _ _ _ _ _ _ h; exact h.elim
  hcore : ptr = true → ∀ {F H : Hp} {v : V} {A : Addr → Prop}, rel F H v A → core F H v A ∧ ∀ a, adr = some a → v = .ref a := by intro h; cases h
  cptr : ptr = true → ∀ {F H : Hp} {v : V} {A : Addr → Prop}, core F H v A → ∃ p, v = .ref p ∧ A p ∧ H p ≠ none := by intro h; cases h
def mkO (core : Hp → Hp → V → (Addr → Prop) → Prop) (cs : ∀ {F H F' H' : Hp} {v : V} {A : Addr → Prop}, core F H v A → Ex F F' → (∀ a, A a → H' a = H a) → core F' H' v A)
    (cp : ∀ {F H : Hp} {v : V} {A : Addr → Prop}, core F H v A → ∃ p, v = .ref p ∧ A p ∧ H p ≠ none) (q : Option Addr) : Orel where
  rel := fun F H v A => core F H v A ∧ ∀ a, q = some a → v = .ref a
  stab := fun h e k => ⟨cs h.1 e k, h.2⟩
  ptr := true
  adr := q
  core := core
  cstab := cs
  hcore := fun _ _ _ _ _ h => h
  cptr := fun _ _ _ _ _ h => cp h
def Orel.at_ (R : Orel) (h : R.ptr = true) (q : Option Addr) : Orel := mkO R.core R.cstab (R.cptr h) q
/-- d: frozen data; o: a list that this def alone has (q: its address, where it is told); t: a dict (keys are tuples) that it alone has; k: keys are ints, texts; ow: anything else that it alone has -/
inductive Sl where
  | un
  | d (d : PyData)
  | o (q : Option Addr) (ds : List PyData)
  | t (kvs : List (List Key × PyData))
  | k (q : Option Addr) (kvs : List (Key × PyData))
  | ow (R : Orel)
abbrev En := List Sl
def SvR (K : Fr) (F H : Hp) (v : V) (A : Addr → Prop) : Sl → Prop
  | .un => True
  | .d d => Dq K F v d
  | .o q ds => ∃ p vs, v = .ref p ∧ H p = some (.lst vs) ∧ DqAll K F vs ds ∧ A p ∧ ∀ a, q = some a → p = a
  | .t kvs => ∃ p kws, v = .ref p ∧ H p = some (.dT kws) ∧ kws.map (·.1) = kvs.map (·.1) ∧ DqAll K F (kws.map (·.2)) (kvs.map (·.2)) ∧ A p
  | .k q kvs => ∃ p kws, v = .ref p ∧ H p = some (.dK kws) ∧ kws.map (·.1) = kvs.map (·.1) ∧ DqAll K F (kws.map (·.2)) (kvs.map (·.2)) ∧ A p ∧ ∀ a, q = some a → p = a
  | .ow R => R.rel F H v A
theorem slr_stab {K : Fr} {F H F' H' : Hp} {v : V} {A : Addr → Prop} : ∀ {s : Sl}, SvR K F H v A s → Ex F F' → (∀ a, A a → H' a = H a) → SvR K F' H' v A s
  | .un, _, _, _ => trivial
  | .d _, h, e, _ => dp_mono e h
  | .o _ _, ⟨p, vs, h1, h2, h3, h4, h5⟩, e, k => ⟨p, vs, h1, by rw [k p h4]; exact h2, da_mono e h3, h4, h5⟩
  | .t _, ⟨p, vs, h1, h2, h3, h5, h4⟩, e, k => ⟨p, vs, h1, by rw [k p h4]; exact h2, h3, da_mono e h5, h4⟩
  | .k _ _, ⟨p, vs, h1, h2, h3, h5, h4, h6⟩, e, k => ⟨p, vs, h1, by rw [k p h4]; exact h2, h3, da_mono e h5, h4, h6⟩
  | .ow R, h, e, k => R.stab h e k

/-- F0, H0: what was frozen, what stood at the def's entry; mu: what it may change of it -/
structure Bs where
  F0 : Hp
  H0 : Hp
  mu : Addr → Prop
structure Iv (K : Fr) (B : Bs) (G : En) (S : St) (F H : Hp) : Prop where
  ex : Ex F H
  f0 : Ex B.F0 F
  fr : ∀ b o, B.H0 b = some o → ¬ B.mu b → H b = some o
  nw : ∀ b o, F b = some o → B.H0 b ≠ none → B.F0 b ≠ none ∨ B.mu b
  st : ∀ b, B.H0 b ≠ none → H b ≠ none
  len : S.length = G.length
  own : ∃ A : Nat → Addr → Prop, (∀ i s, G[i]? = some s → s = .un ∨ ∃ v, S[i]? = some (some v) ∧ SvR K F H v (A i) s) ∧ (∀ i j a, A i a → A j a → i = j) ∧
    (∀ i a, A i a → F a = none ∧ H a ≠ none ∧ (B.H0 a = none ∨ B.mu a))
section
variable {K : Fr} {B : Bs} {G : En} {S : St} {F H F' H' : Hp} {v : V} {d : PyData} {p : Addr}
theorem Iv.dat (I : Iv K B G S F H) {i : Nat} (h : G[i]? = some (.d d)) : ∃ v, S[i]? = some (some v) ∧ Dq K F v d := by
  obtain ⟨A, h1, _, _⟩ := I.own
  rcases h1 i _ h with e | h1
  · cases e
  · exact h1
theorem Iv.lst (I : Iv K B G S F H) {i : Nat} {q : Option Addr} {ds : List PyData} (h : G[i]? = some (.o q ds)) : ∃ p vs, S[i]? = some (some (.ref p)) ∧ H p = some (.lst vs) ∧ F p = none ∧ DqAll K F vs ds := by
  obtain ⟨A, h1, _, h3⟩ := I.own
  rcases h1 i _ h with e | ⟨v, h1, p, vs, rfl, h5, h6, h7, _⟩
  · cases e
  · exact ⟨p, vs, h1, h5, (h3 i p h7).1, h6⟩
theorem Iv.new0 (I : Iv K B G S F H) (hp : H p = none) : B.H0 p = none := by
  cases q : B.H0 p with
  | none => rfl
  | some o => exact absurd hp (I.st p (by rw [q]; intro z; cases z))
theorem Iv.fnone (I : Iv K B G S F H) (hp : H p = none) : F p = none := I.ex.free hp
theorem set_same {G : En} {s s' : Sl} {i : Nat} (hj : (G.set i s)[i]? = some s') : s' = s ∧ i < G.length := by
  have hl : i < G.length := by
    have := (List.getElem?_eq_some_iff.mp hj).1
    simpa using this
  rw [List.getElem?_set_self hl] at hj
  exact ⟨(Option.some.inj hj).symm, hl⟩
/-- a slot gets data -/
theorem Iv.set_d (I : Iv K B G S F H) (i : Nat) (h : Dq K F v d) : Iv K B (G.set i (.d d)) (S.set i (some v)) F H := by
  obtain ⟨A, h1, h2, h3⟩ := I.own
  refine ⟨I.ex, I.f0, I.fr, I.nw, I.st, by simpa using I.len, A, fun j s hj => ?_, h2, h3⟩
  by_cases e : i = j
  · subst e
    obtain ⟨rfl, hl⟩ := set_same hj
    exact .inr ⟨v, List.getElem?_set_self (by rw [I.len]; exact hl), h⟩
  · rw [List.getElem?_set_ne e] at hj
    rw [List.getElem?_set_ne e]
    exact h1 j s hj
/-- a slot is forgotten -/
theorem Iv.set_un (I : Iv K B G S F H) (i : Nat) (x : Option V) : Iv K B (G.set i .un) (S.set i x) F H := by
  obtain ⟨A, h1, h2, h3⟩ := I.own
  refine ⟨I.ex, I.f0, I.fr, I.nw, I.st, by simpa using I.len, A, fun j s hj => ?_, h2, h3⟩
  by_cases e : i = j
  · subst e
    exact .inl (set_same hj).1
  · rw [List.getElem?_set_ne e] at hj
    rw [List.getElem?_set_ne e]
    exact h1 j s hj
/-- F grows by objects that no slot has -/
theorem Iv.grow (I : Iv K B G S F H) (eF : Ex F F') (eH : Ex H H') (ex : Ex F' H') (nw : ∀ b o, F' b = some o → F b = none → H b = none) : Iv K B G S F' H' := by
  obtain ⟨A, h1, h2, h3⟩ := I.own
  have hs : ∀ i a, A i a → F' a = none ∧ H' a = H a := fun i a ha => by
    obtain ⟨x, y, _⟩ := h3 i a ha
    refine ⟨?_, ?_⟩
    · cases q : F' a with
      | none => rfl
      | some o => exact absurd (nw a o q x) y
    · cases q : H a with
      | none => exact absurd q y
      | some o => exact eH a o q
  refine ⟨ex, I.f0.trans eF, fun b o h m => eH b o (I.fr b o h m), fun b o h n => ?_, fun b h => ?_, I.len, A, fun i s hi => ?_, h2, fun i a ha => ?_⟩
  · cases q : F b with
    | some u => exact I.nw b u q n
    | none => exact absurd (I.new0 (nw b o h q)) n
  · intro z
    exact I.st b h (Ex.free eH z)
  · rcases h1 i s hi with z | ⟨u, z1, z2⟩
    · exact .inl z
    · exact .inr ⟨u, z1, slr_stab z2 eF fun a ha => (hs i a ha).2⟩
  · refine ⟨(hs i a ha).1, ?_, (h3 i a ha).2.2⟩
    rw [(hs i a ha).2]
    exact (h3 i a ha).2.1
/-- a new object, frozen -/
theorem Iv.newF (I : Iv K B G S F H) (hp : H p = none) (o : HO) : Iv K B G S (upd F p o) (upd H p o) := by
  refine I.grow (Ex.new (I.fnone hp)) (Ex.new hp) (I.ex.both p o) fun b u h n => ?_
  by_cases e : b = p
  · subst e
    exact hp
  · rw [upd_ne e] at h
    rw [h] at n
    cases n
/-- a new object that nobody has -/
theorem Iv.newH (I : Iv K B G S F H) (hp : H p = none) (o : HO) : Iv K B G S F (upd H p o) := by
  refine I.grow (Ex.refl F) (Ex.new hp) (I.ex.trans (Ex.new hp)) fun b u h n => ?_
  rw [h] at n
  cases n
theorem app_get {α : Type} {G : List α} {s s' : α} {i : Nat} (h : (G ++ [s])[i]? = some s') : (i < G.length ∧ G[i]? = some s') ∨ (i = G.length ∧ s' = s) := by
  by_cases hi : i < G.length
  · rw [List.getElem?_append_left hi] at h
    exact .inl ⟨hi, h⟩
  · rw [List.getElem?_append_right (by omega)] at h
    have h2 : i - G.length < 1 := by
      have := (List.getElem?_eq_some_iff.mp h).1
      simpa using this
    have e : i - G.length = 0 := by omega
    rw [e] at h
    exact .inr ⟨by omega, (Option.some.inj h).symm⟩
/-- the last slot is dropped -/
theorem Iv.drop {s : Sl} {x : Option V} (I : Iv K B (G ++ [s]) (S ++ [x]) F H) : Iv K B G S F H := by
  obtain ⟨A, h1, h2, h3⟩ := I.own
  have hl : S.length = G.length := by
    have := I.len
    simpa using this
  refine ⟨I.ex, I.f0, I.fr, I.nw, I.st, hl, A, fun i s hi => ?_, h2, h3⟩
  have hlt := (List.getElem?_eq_some_iff.mp hi).1
  rcases h1 i s (by rw [List.getElem?_append_left hlt]; exact hi) with z | ⟨u, z1, z2⟩
  · exact .inl z
  · exact .inr ⟨u, by rw [List.getElem?_append_left (by omega)] at z1; exact z1, z2⟩
/-- the last slot's thing goes to slot i -/
theorem Iv.move {s : Sl} {x : Option V} (I : Iv K B (G ++ [s]) (S ++ [x]) F H) (i : Nat) : Iv K B (G.set i s) (S.set i x) F H := by
  obtain ⟨A, h1, h2, h3⟩ := I.own
  have hl : S.length = G.length := by
    have := I.len
    simpa using this
  refine ⟨I.ex, I.f0, I.fr, I.nw, I.st, by simpa using hl, fun j a => (j = i ∧ A G.length a) ∨ (j ≠ i ∧ j < G.length ∧ A j a), fun j s' hj => ?_, fun j k a ha hb => ?_, fun j a ha => ?_⟩
  · by_cases e : i = j
    · subst e
      obtain ⟨rfl, hl2⟩ := set_same hj
      rcases h1 G.length s' (by simp) with z | ⟨u, z1, z2⟩
      · exact .inl z
      · refine .inr ⟨u, ?_, ?_⟩
        · rw [← hl] at z1
          have : (S ++ [x])[S.length]? = some x := by simp
          rw [this] at z1
          rw [List.getElem?_set_self (by omega)]
          exact z1
        · have ea : (fun a => (i = i ∧ A G.length a) ∨ (i ≠ i ∧ i < G.length ∧ A i a)) = A G.length := by
            funext a
            exact propext ⟨fun z => z.elim (fun z => z.2) fun z => absurd rfl z.1, fun z => .inl ⟨rfl, z⟩⟩
          show SvR K F H u (fun a => (i = i ∧ A G.length a) ∨ (i ≠ i ∧ i < G.length ∧ A i a)) s'
          rw [ea]
          exact z2
    · rw [List.getElem?_set_ne e] at hj
      have hlt := (List.getElem?_eq_some_iff.mp hj).1
      rcases h1 j s' (by rw [List.getElem?_append_left hlt]; exact hj) with z | ⟨u, z1, z2⟩
      · exact .inl z
      · refine .inr ⟨u, ?_, ?_⟩
        · rw [List.getElem?_append_left (by omega)] at z1
          rw [List.getElem?_set_ne e]
          exact z1
        · have ea : (fun a => (j = i ∧ A G.length a) ∨ (j ≠ i ∧ j < G.length ∧ A j a)) = A j := by
            funext a
            exact propext ⟨fun z => z.elim (fun z => absurd z.1 (Ne.symm e)) fun z => z.2.2, fun z => .inr ⟨Ne.symm e, hlt, z⟩⟩
          show SvR K F H u (fun a => (j = i ∧ A G.length a) ∨ (j ≠ i ∧ j < G.length ∧ A j a)) s'
          rw [ea]
          exact z2
  · rcases ha with ⟨e1, q1⟩ | ⟨e1, l1, q1⟩ <;> rcases hb with ⟨e2, q2⟩ | ⟨e2, l2, q2⟩
    · rw [e1, e2]
    · have := h2 _ _ _ q1 q2
      omega
    · have := h2 _ _ _ q1 q2
      omega
    · exact h2 _ _ _ q1 q2
  · rcases ha with ⟨e1, q1⟩ | ⟨e1, l1, q1⟩
    · exact h3 _ _ q1
    · exact h3 _ _ q1
/-- what stands grows; a new thing is the last slot's -/
theorem Iv.add {s : Sl} (I : Iv K B G S F H) (eF : Ex F F') (eH : Ex H H') (ex : Ex F' H') (nw : ∀ b o, F' b = some o → F b = none → H b = none) (x : Option V) (A0 : Addr → Prop) (hr : s = .un ∨ ∃ v, x = some v ∧ SvR K F' H' v A0 s)
    (hn : ∀ a, A0 a → H a = none ∧ F' a = none ∧ H' a ≠ none) : Iv K B (G ++ [s]) (S ++ [x]) F' H' := by
  obtain ⟨A, h1, h2, h3⟩ := I.own
  have hs : ∀ i a, A i a → F' a = none ∧ H' a = H a := fun i a ha => by
    obtain ⟨x, y, _⟩ := h3 i a ha
    refine ⟨?_, ?_⟩
    · cases q : F' a with
      | none => rfl
      | some o => exact absurd (nw a o q x) y
    · cases q : H a with
      | none => exact absurd q y
      | some o => exact eH a o q
  have Ig := I.grow eF eH ex nw
  refine ⟨ex, Ig.f0, Ig.fr, Ig.nw, Ig.st, by simp [I.len], fun j a => (j < G.length ∧ A j a) ∨ (j = G.length ∧ A0 a), fun i s' hi => ?_, fun j k a ha hb => ?_, fun i a ha => ?_⟩
  · rcases app_get hi with ⟨hl, h⟩ | ⟨hl, e⟩
    · rcases h1 i s' h with z | ⟨u, z1, z2⟩
      · exact .inl z
      · refine .inr ⟨u, by rw [List.getElem?_append_left (by rw [I.len]; exact hl)]; exact z1, ?_⟩
        have ea : (fun a => (i < G.length ∧ A i a) ∨ (i = G.length ∧ A0 a)) = A i := by
          funext a
          exact propext ⟨fun z => z.elim (fun z => z.2) fun z => by omega, fun z => .inl ⟨hl, z⟩⟩
        show SvR K F' H' u (fun a => (i < G.length ∧ A i a) ∨ (i = G.length ∧ A0 a)) s'
        rw [ea]
        exact slr_stab z2 eF fun a ha => (hs i a ha).2
    · subst e hl
      rcases hr with z | ⟨v, e, z⟩
      · exact .inl z
      · refine .inr ⟨v, ?_, ?_⟩
        · rw [← I.len, e]
          simp
        · have ea : (fun a => (G.length < G.length ∧ A G.length a) ∨ (G.length = G.length ∧ A0 a)) = A0 := by
            funext a
            exact propext ⟨fun z => z.elim (fun z => by omega) fun z => z.2, fun z => .inr ⟨rfl, z⟩⟩
          show SvR K F' H' v (fun a => (G.length < G.length ∧ A G.length a) ∨ (G.length = G.length ∧ A0 a)) s'
          rw [ea]
          exact z
  · rcases ha with ⟨l1, q1⟩ | ⟨e1, q1⟩ <;> rcases hb with ⟨l2, q2⟩ | ⟨e2, q2⟩
    · exact h2 _ _ _ q1 q2
    · exact absurd (hn a q2).1 (h3 _ _ q1).2.1
    · exact absurd (hn a q1).1 (h3 _ _ q2).2.1
    · rw [e1, e2]
  · rcases ha with ⟨l1, q1⟩ | ⟨e1, q1⟩
    · refine ⟨(hs i a q1).1, ?_, (h3 i a q1).2.2⟩
      rw [(hs i a q1).2]
      exact (h3 i a q1).2.1
    · exact ⟨(hn a q1).2.1, (hn a q1).2.2, .inl (I.new0 (hn a q1).1)⟩
/-- a new list, this def's own -/
theorem Iv.newL {vs : List V} {ds : List PyData} (I : Iv K B G S F H) (hp : H p = none) (h : DqAll K F vs ds) : Iv K B (G ++ [.o none ds]) (S ++ [some (.ref p)]) F (upd H p (.lst vs)) := by
  refine I.add (Ex.refl F) (Ex.new hp) (I.ex.trans (Ex.new hp)) (fun b o h n => ?_) _ (fun a => a = p) (.inr ⟨_, rfl, p, vs, rfl, upd_same, h, rfl, fun a z => by cases z⟩) fun a e => ?_
  · rw [h] at n
    cases n
  · have e : a = p := e
    subst e
    exact ⟨hp, I.fnone hp, by rw [upd_same]; exact fun z => (by cases z)⟩
/-- slot i's list (this def's own) is another one now -/
theorem Iv.mut {i : Nat} {q : Option Addr} {ds ds' : List PyData} {vs' : List V} (I : Iv K B G S F H) (hi : G[i]? = some (.o q ds)) (hS : S[i]? = some (some (.ref p))) (h : DqAll K F vs' ds') : Iv K B (G.set i (.o q ds')) S F (upd H p (.lst vs')) := by
  obtain ⟨A, h1, h2, h3⟩ := I.own
  obtain ⟨u, e1, p', vs, e2, e3, e4, e5, e6⟩ : ∃ v, S[i]? = some (some v) ∧ SvR K F H v (A i) (.o q ds) := (h1 i _ hi).elim (fun z => by cases z) id
  rw [hS] at e1
  cases e1
  cases e2
  obtain ⟨k1, k2, k3⟩ := h3 i p e5
  refine ⟨I.ex.mut k1 _, I.f0, fun b o hb hm => ?_, I.nw, fun b hb => ?_, by simpa using I.len, A, fun j s hj => ?_, h2, fun j a ha => ?_⟩
  · have nb : b ≠ p := fun z => by
      subst z
      rcases k3 with z | z
      · rw [hb] at z
        cases z
      · exact hm z
    rw [upd_ne nb]
    exact I.fr b o hb hm
  · by_cases nb : b = p
    · rw [nb, upd_same]
      exact fun z => by cases z
    · rw [upd_ne nb]
      exact I.st b hb
  · by_cases e : i = j
    · subst e
      obtain ⟨rfl, _⟩ := set_same hj
      exact .inr ⟨_, hS, p, vs', rfl, upd_same, h, e5, e6⟩
    · rw [List.getElem?_set_ne e] at hj
      rcases h1 j s hj with z | ⟨u, z1, z2⟩
      · exact .inl z
      · refine .inr ⟨u, z1, slr_stab z2 (Ex.refl F) fun a ha => ?_⟩
        rw [upd_ne]
        intro z
        subst z
        exact e (h2 _ _ _ e5 ha)
  · obtain ⟨x, y, z⟩ := h3 j a ha
    refine ⟨x, ?_, z⟩
    by_cases na : a = p
    · rw [na, upd_same]
      exact fun z => by cases z
    · rw [upd_ne na]
      exact y
/-- slot i's list is frozen from now on -/
theorem Iv.freeze {i : Nat} {q : Option Addr} {ds : List PyData} (I : Iv K B G S F H) (hi : G[i]? = some (.o q ds)) : ∃ p vs, S[i]? = some (some (.ref p)) ∧ H p = some (.lst vs) ∧ F p = none ∧ Iv K B (G.set i (.d (.list ds))) S (upd F p (.lst vs)) H ∧ Dq K (upd F p (.lst vs)) (.ref p) (.list ds) := by
  obtain ⟨A, h1, h2, h3⟩ := I.own
  obtain ⟨u, e1, p, vs, rfl, e3, e4, e5, _⟩ : ∃ v, S[i]? = some (some v) ∧ SvR K F H v (A i) (.o q ds) := (h1 i _ hi).elim (fun z => by cases z) id
  obtain ⟨k1, k2, k3⟩ := h3 i p e5
  have eF : Ex F (upd F p (.lst vs)) := Ex.new k1
  have hd : Dq K (upd F p (.lst vs)) (.ref p) (.list ds) := .lst upd_same (da_mono eF e4)
  refine ⟨p, vs, e1, e3, k1, ⟨I.ex.frz e3, I.f0.trans eF, I.fr, fun b o hb hn => ?_, I.st, by simpa using I.len, fun j a => j ≠ i ∧ A j a, fun j s hj => ?_, fun j k a ha hb => h2 j k a ha.2 hb.2, fun j a ha => ?_⟩, hd⟩
  · by_cases nb : b = p
    · subst nb
      rcases k3 with z | z
      · exact absurd z hn
      · exact .inr z
    · rw [upd_ne nb] at hb
      exact I.nw b o hb hn
  · by_cases e : i = j
    · subst e
      obtain ⟨rfl, _⟩ := set_same hj
      exact .inr ⟨_, e1, hd⟩
    · rw [List.getElem?_set_ne e] at hj
      rcases h1 j s hj with z | ⟨u, z1, z2⟩
      · exact .inl z
      · refine .inr ⟨u, z1, ?_⟩
        have ea : (fun a => j ≠ i ∧ A j a) = A j := by
          funext a
          exact propext ⟨fun z => z.2, fun z => ⟨Ne.symm e, z⟩⟩
        show SvR K _ H u (fun a => j ≠ i ∧ A j a) s
        rw [ea]
        exact slr_stab z2 eF fun _ _ => rfl
  · obtain ⟨x, y, z⟩ := h3 j a ha.2
    refine ⟨?_, y, z⟩
    rw [upd_ne]
    · exact x
    · intro q
      subst q
      exact ha.1 (h2 _ _ _ ha.2 e5)
/-- the last slot's list is frozen, and the slot is dropped -/
theorem Iv.freezeL {q : Option Addr} {ds : List PyData} (I : Iv K B (G ++ [.o q ds]) (S ++ [some v]) F H) : ∃ F', Ex F F' ∧ Iv K B G S F' H ∧ Dq K F' v (.list ds) := by
  obtain ⟨p, vs, h1, h2, h3, I2, h4⟩ := I.freeze (i := G.length) (q := q) (ds := ds) (by simp)
  have hl : S.length = G.length := by
    have := I.len
    simpa using this
  have hv : v = .ref p := by
    rw [← hl] at h1
    have : (S ++ [some v])[S.length]? = some (some v) := by simp
    rw [this] at h1
    exact Option.some.inj (Option.some.inj h1)
  subst hv
  refine ⟨_, Ex.new h3, ?_, h4⟩
  have e : (G ++ [Sl.o q ds]).set G.length (.d (.list ds)) = G ++ [.d (.list ds)] := by simp
  rw [e] at I2
  exact I2.drop
end

/-! ### what an expression gives: data, or slot i's own thing; or a new thing that nobody has yet -/
inductive W where
  | d (d : PyData)
  | sl (i : Nat)
  | ty (n : String)
inductive Rs where
  | p (w : W)
  | fr (s : Sl)
def Vw (K : Fr) (S : St) (F : Hp) (v : V) : W → Prop
  | .d d => Dq K F v d
  | .sl i => S[i]? = some (some v)
  | .ty n => v = .ty n
theorem Vw.mono {K : Fr} {S : St} {F F' : Hp} {v : V} : ∀ {w : W}, Vw K S F v w → Ex F F' → Vw K S F' v w
  | .d _, h, e => dp_mono e h
  | .sl _, h, _ => h
  | .ty _, h, _ => h
def Vr (K : Fr) (B : Bs) (G : En) (S : St) (F H : Hp) (v : V) : Rs → Prop
  | .p w => Iv K B G S F H ∧ Vw K S F v w
  | .fr s => Iv K B (G ++ [s]) (S ++ [some v]) F H
theorem Vr.iv {K : Fr} {B : Bs} {G : En} {S : St} {F H : Hp} {v : V} : ∀ {r : Rs}, Vr K B G S F H v r → Iv K B G S F H
  | .p _, h => h.1
  | .fr _, h => h.drop
/-- a result that is to last: a new list is frozen -/
def PW : Rs → (W → Prop) → Prop
  | .p w, k => k w
  | .fr (.o _ ds), k => k (.d (.list ds))
  | _, _ => False
theorem pw_ok {K : Fr} {B : Bs} {G : En} {S : St} {F H : Hp} {v : V} {k : W → Prop} : ∀ {r : Rs}, Vr K B G S F H v r → PW r k → ∃ F' w, Ex F F' ∧ Iv K B G S F' H ∧ Vw K S F' v w ∧ k w
  | .p w, h, q => ⟨F, w, Ex.refl F, h.1, h.2, q⟩
  | .fr (.o _ ds), h, q => by
    obtain ⟨F', e, I, r⟩ := Iv.freezeL h
    exact ⟨F', .d (.list ds), e, I, r, q⟩
  | .fr .un, _, q => q.elim
  | .fr (.d _), _, q => q.elim
  | .fr (.t _), _, q => q.elim
  | .fr (.k _ _), _, q => q.elim
  | .fr (.ow _), _, q => q.elim
abbrev Po := En → Rs → Prop
def Ct (K : Fr) (B : Bs) (S : St) (F : Hp) (P : Po) (Q : VK) : Prop := ∀ v F' H' G' r, Ex F F' → Vr K B G' S F' H' v r → P G' r → Q v H'
theorem Ct.mono {K : Fr} {B : Bs} {S : St} {F F' : Hp} {P : Po} {Q : VK} (k : Ct K B S F P Q) (e : Ex F F') : Ct K B S F' P Q := fun v F1 H1 G1 r e1 I q => k v F1 H1 G1 r (e.trans e1) I q
/-- an expression; a test; arguments -/
def DW (K : Fr) (B : Bs) (G : En) (te : TE) (P : Po) : Prop := ∀ S F H Q, Iv K B G S F H → Ct K B S F P Q → te S H Q
def DT (K : Fr) (B : Bs) (G : En) (tt : TT) (P : En → Bool → Prop) : Prop := ∀ S F H (Q : Bool → Hp → Prop), Iv K B G S F H → (∀ b F' H' G', Ex F F' → Iv K B G' S F' H' → P G' b → Q b H') → tt S H Q
def Vws (K : Fr) (S : St) (F : Hp) : List V → List W → Prop := Paired (Vw K S F)
theorem Vws.mono {K : Fr} {S : St} {F F' : Hp} (e : Ex F F') : ∀ {vs : List V} {ws : List W}, Vws K S F vs ws → Vws K S F' vs ws
  | _, _, .nil => .nil
  | _, _, .cons h t => .cons (h.mono e) (Vws.mono e t)
def DA (K : Fr) (B : Bs) (G : En) (ta : TA) (P : En → List W → Prop) : Prop := ∀ S F H (Q : List V → Hp → Prop), Iv K B G S F H → (∀ vs F' H' G' ws, Ex F F' → Iv K B G' S F' H' → Vws K S F' vs ws → P G' ws → Q vs H') → ta S H Q
/-- operations by values -/
def RW2 (K : Fr) (B : Bs) (G : En) (r : R2) (w1 w2 : W) (P : Po) : Prop := ∀ S F H Q v1 v2, Iv K B G S F H → Vw K S F v1 w1 → Vw K S F v2 w2 → Ct K B S F P Q → r v1 v2 H Q
def RW1 (K : Fr) (B : Bs) (G : En) (r : V → Hp → VK → Prop) (w1 : W) (P : Po) : Prop := ∀ S F H Q v1, Iv K B G S F H → Vw K S F v1 w1 → Ct K B S F P Q → r v1 H Q
def RWn (K : Fr) (B : Bs) (G : En) (r : List V → Hp → VK → Prop) (ws : List W) (P : Po) : Prop := ∀ S F H Q vs, Iv K B G S F H → Vws K S F vs ws → Ct K B S F P Q → r vs H Q
def RWm (K : Fr) (B : Bs) (G : En) (r : V → List V → Hp → VK → Prop) (w : W) (ws : List W) (P : Po) : Prop := ∀ S F H Q v vs, Iv K B G S F H → Vw K S F v w → Vws K S F vs ws → Ct K B S F P Q → r v vs H Q
section
variable {K : Fr} {B : Bs} {G : En} {ta tb te : TE} {P : Po} {r : R2}
/-- the end of a rule: a value that is data, no heap changed -/
theorem ct_d {S : St} {F H : Hp} {Q : VK} {v : V} {d : PyData} (k : Ct K B S F P Q) (I : Iv K B G S F H) (h : Dq K F v d) (p : P G (.p (.d d))) : Q v H := k v F H G (.p (.d d)) (Ex.refl F) ⟨I, h⟩ p
theorem ct_L {S : St} {F H : Hp} {Q : VK} {p : Addr} {vs : List V} {ds : List PyData} (k : Ct K B S F P Q) (I : Iv K B G S F H) (hp : H p = none) (h : DqAll K F vs ds) (q : P G (.fr (.o none ds))) : Q (.ref p) (upd H p (.lst vs)) :=
  k _ F _ G (.fr (.o none ds)) (Ex.refl F) (I.newL hp h) q
theorem ct_T {S : St} {F H : Hp} {Q : VK} {p : Addr} {vs : List V} {ds : List PyData} (k : Ct K B S F P Q) (I : Iv K B G S F H) (hp : H p = none) (h : DqAll K F vs ds) (q : P G (.p (.d (.tuple ds)))) : Q (.ref p) (upd H p (.tup vs)) :=
  k _ (upd F p (.tup vs)) _ G (.p (.d (.tuple ds))) (Ex.new (I.fnone hp)) ⟨I.newF hp _, .tup upd_same (da_mono (Ex.new (I.fnone hp)) h)⟩ q
theorem dw_var {i : Nat} {d : PyData} (h : G[i]? = some (.d d)) (q : P G (.p (.d d))) : DW K B G (tVar i) P := fun S F H Q I k => by
  obtain ⟨v, e, r⟩ := I.dat h
  exact ⟨v, e, ct_d k I r q⟩
/-- a name of an own thing -/
theorem dw_sl {i : Nat} {a : Option Addr} {ds : List PyData} (h : G[i]? = some (.o a ds)) (q : P G (.p (.sl i))) : DW K B G (tVar i) P := fun S F H Q I k => by
  obtain ⟨p, vs, e, _⟩ := I.lst h
  exact ⟨_, e, k _ F H G (.p (.sl i)) (Ex.refl F) ⟨I, e⟩ q⟩
theorem dw_int {i : Int} (q : P G (.p (.d (.int i)))) : DW K B G (tC (.int i)) P := fun S F H Q I k => ct_d k I (.int i) q
theorem dw_str {x : Str} (q : P G (.p (.d (.str x)))) : DW K B G (tC (.str x)) P := fun S F H Q I k => ct_d k I (.str x) q
theorem dw_bl {b : Bool} (q : P G (.p (.d (.bool b)))) : DW K B G (tC (.bl b)) P := fun S F H Q I k => ct_d k I (.bl b) q
theorem dw_ty {n : String} (q : P G (.p (.ty n))) : DW K B G (tC (.ty n)) P := fun S F H Q I k => k _ F H G (.p (.ty n)) (Ex.refl F) ⟨I, rfl⟩ q
theorem dw_non (q : P G (.p (.d .none))) : DW K B G (tC .non) P := fun S F H Q I k => ct_d k I .non q
/-- run a part, its result to last -/
theorem dw_run {k' : En → W → Prop} {S : St} {F H : Hp} {Q : VK} (h : DW K B G te fun G1 r1 => PW r1 (k' G1)) (I : Iv K B G S F H) (k : ∀ v F1 H1 G1 w, Ex F F1 → Iv K B G1 S F1 H1 → Vw K S F1 v w → k' G1 w → Q v H1) : te S H Q :=
  h S F H _ I fun v F1 H1 G1 r e1 hr q => by
    obtain ⟨F2, w, e2, I2, hv, q2⟩ := pw_ok hr q
    exact k v F2 H1 G1 w (e1.trans e2) I2 hv q2
theorem dw_op (h : DW K B G ta fun G1 r1 => PW r1 fun w1 => DW K B G1 tb fun G2 r2 => PW r2 fun w2 => RW2 K B G2 r w1 w2 P) : DW K B G (tOp r ta tb) P := fun S F H Q I k => by
  show ta S H fun x H1 => tb S H1 fun y H2 => r x y H2 Q
  refine dw_run (k' := fun G1 w1 => DW K B G1 tb fun G2 r2 => PW r2 fun w2 => RW2 K B G2 r w1 w2 P) h I fun v1 F1 H1 G1 w1 e1 I1 r1 q1 => ?_
  refine dw_run (k' := fun G2 w2 => RW2 K B G2 r w1 w2 P) q1 I1 fun v2 F2 H2 G2 w2 e2 I2 r2 q2 => ?_
  exact q2 S F2 H2 Q v1 v2 I2 (r1.mono e2) r2 (k.mono (e1.trans e2))
theorem dw_un {r : V → Hp → VK → Prop} (h : DW K B G ta fun G1 r1 => PW r1 fun w1 => RW1 K B G1 r w1 P) : DW K B G (tUn r ta) P := fun S F H Q I k => by
  show ta S H fun x H1 => r x H1 Q
  refine dw_run (k' := fun G1 w1 => RW1 K B G1 r w1 P) h I fun v1 F1 H1 G1 w1 e1 I1 r1 q1 => ?_
  exact q1 S F1 H1 Q v1 I1 r1 (k.mono e1)
theorem dw_if {tA : TT} (h : DT K B G tA fun G1 b => if b = true then DW K B G1 ta P else DW K B G1 tb P) : DW K B G (tIf tA ta tb) P := fun S F H Q I k =>
  h S F H _ I fun b F1 H1 G1 e1 I1 q => by
    cases b with
    | true =>
      show ta S H1 Q
      exact q S F1 H1 Q I1 (k.mono e1)
    | false =>
      show tb S H1 Q
      exact q S F1 H1 Q I1 (k.mono e1)
theorem da_nil' {P : En → List W → Prop} (q : P G []) : DA K B G tNil P := fun S F H Q I k => k [] F H G [] (Ex.refl F) I .nil q
theorem da_cons' {tr : TA} {P : En → List W → Prop} (h : DW K B G te fun G1 r1 => PW r1 fun w1 => DA K B G1 tr fun G2 ws => P G2 (w1 :: ws)) : DA K B G (tCons te tr) P := fun S F H Q I k => by
  show te S H fun x H1 => tr S H1 fun xs H2 => Q (x :: xs) H2
  refine dw_run (k' := fun G1 w1 => DA K B G1 tr fun G2 ws => P G2 (w1 :: ws)) h I fun v1 F1 H1 G1 w1 e1 I1 r1 q1 => ?_
  refine q1 S F1 H1 _ I1 fun vs F2 H2 G2 ws e2 I2 r2 q2 => ?_
  exact k _ F2 H2 G2 _ (e1.trans e2) I2 (.cons (r1.mono e2) r2) q2
theorem dw_CB {t : TA} {r : List V → Hp → VK → Prop} (h : DA K B G t fun G1 ws => RWn K B G1 r ws P) : DW K B G (tCB r t) P := fun S F H Q I k =>
  h S F H _ I fun vs F1 H1 G1 ws e1 I1 hv q => q S F1 H1 Q vs I1 hv (k.mono e1)
/-- all the arguments are data -/
def allD : List W → Option (List PyData)
  | [] => some []
  | .d d :: r => (allD r).map (d :: ·)
  | .sl _ :: _ => none
  | .ty _ :: _ => none
theorem allD_ok {S : St} {F : Hp} : ∀ {ws : List W} {ds : List PyData} {vs : List V}, allD ws = some ds → Vws K S F vs ws → DqAll K F vs ds
  | [], _, _, e, .nil => by
    cases e
    exact .nil
  | .d d :: r, _, _, e, .cons h t => by
    simp only [allD, Option.map_eq_some_iff] at e
    obtain ⟨es, e1, rfl⟩ := e
    exact .cons h (allD_ok e1 t)
theorem dw_tup {t : TA} (h : DA K B G t fun G1 ws => ∃ ds, allD ws = some ds ∧ ds.length ≤ sizeLine ∧ P G1 (.p (.d (.tuple ds)))) : DW K B G (tTup t) P := fun S F H Q I k =>
  h S F H _ I fun vs F1 H1 G1 ws e1 I1 hv ⟨ds, e, hl, q⟩ => ⟨by rw [da_len (allD_ok e hv)]; exact hl, fun p hp => ct_T (k.mono e1) I1 hp (allD_ok e hv) q⟩
theorem dw_lst {t : TA} (h : DA K B G t fun G1 ws => ∃ ds, allD ws = some ds ∧ ds.length ≤ sizeLine ∧ P G1 (.fr (.o none ds))) : DW K B G (tLst t) P := fun S F H Q I k =>
  h S F H _ I fun vs F1 H1 G1 ws e1 I1 hv ⟨ds, e, hl, q⟩ => ⟨by rw [da_len (allD_ok e hv)]; exact hl, fun p hp => ct_L (k.mono e1) I1 hp (allD_ok e hv) q⟩
end
end DL
namespace DL
open PySem L2
/-! ### statements -/
structure De where
  nx : En → Prop
  rt : En → Rs → Prop
  bk : En → Prop := fun _ => False
  ct : En → Prop := fun _ => False
structure Cov (K : Fr) (B : Bs) (F0 : Hp) (E : De) (D : Ends) : Prop where
  nx : ∀ S F H G, Ex F0 F → Iv K B G S F H → E.nx G → D.nx S H
  rt : ∀ S F H G v r, Ex F0 F → Vr K B G S F H v r → E.rt G r → D.rt v H
  bk : ∀ S F H G, Ex F0 F → Iv K B G S F H → E.bk G → D.bk S H
  ct : ∀ S F H G, Ex F0 F → Iv K B G S F H → E.ct G → D.ct S H
theorem Cov.mono {K : Fr} {B : Bs} {F0 F1 : Hp} {E : De} {D : Ends} (c : Cov K B F0 E D) (e : Ex F0 F1) : Cov K B F1 E D :=
  ⟨fun S F H G e1 => c.nx S F H G (e.trans e1), fun S F H G v r e1 => c.rt S F H G v r (e.trans e1), fun S F H G e1 => c.bk S F H G (e.trans e1), fun S F H G e1 => c.ct S F H G (e.trans e1)⟩
def DS (K : Fr) (B : Bs) (G : En) (t : TS) (E : De) : Prop := ∀ S F H D, Iv K B G S F H → Cov K B F E D → t D S H
/-- a target; ch: the slots that it may change -/
def DG (K : Fr) (B : Bs) (G : En) (g : TG) (ch : List Nat) (w : W) (P : En → Prop) : Prop := ∀ S F H v (Q : St → Hp → Prop), Iv K B G S F H → Vw K S F v w →
  (∀ S' F' H' G', Ex F F' → Iv K B G' S' F' H' → S'.length = S.length → (∀ k, k ∉ ch → S'[k]? = S[k]?) → P G' → Q S' H') → g v S H Q
def DGs (K : Fr) (B : Bs) (G : En) (g : TGs) (ch : List Nat) (ds : List PyData) (P : En → Prop) : Prop := ∀ S F H vs (Q : St → Hp → Prop), Iv K B G S F H → DqAll K F vs ds →
  (∀ S' F' H' G', Ex F F' → Iv K B G' S' F' H' → S'.length = S.length → (∀ k, k ∉ ch → S'[k]? = S[k]?) → P G' → Q S' H') → g vs S H Q
section
variable {K : Fr} {B : Bs} {G : En} {ta tb te : TE} {P : Po} {r : R2} {E : De} {t u : TS} {tt : TT}
theorem ds_seq (h : DS K B G t { E with nx := fun G1 => DS K B G1 u E }) : DS K B G (tSeq t u) E := fun S F H D I c => by
  show t { D with nx := u D } S H
  exact h S F H _ I ⟨fun S F H G1 e I1 q => q S F H D I1 (c.mono e), c.rt, c.bk, c.ct⟩
theorem ds_next (h : E.nx G) : DS K B G tNext E := fun S F H D I c => c.nx S F H G (Ex.refl F) I h
theorem ds_break (h : E.bk G) : DS K B G tBreak E := fun S F H D I c => c.bk S F H G (Ex.refl F) I h
theorem ds_cont (h : E.ct G) : DS K B G tCont E := fun S F H D I c => c.ct S F H G (Ex.refl F) I h
theorem ds_ret (h : DW K B G te fun G1 r1 => E.rt G1 r1) : DS K B G (tRet te) E := fun S F H D I c => h S F H _ I fun v F1 H1 G1 r1 e1 i1 q => c.rt S F1 H1 G1 v r1 e1 i1 q
theorem ds_retN (h : E.rt G (.p (.d .none))) : DS K B G tRetN E := fun S F H D I c => c.rt S F H G _ (.p (.d .none)) (Ex.refl F) ⟨I, .non⟩ h
theorem ds_drop (h : DW K B G te fun G1 _ => E.nx G1) : DS K B G (tDrop te) E := fun S F H D I c => by
  show te S H fun _ H1 => D.nx S H1
  exact h S F H _ I fun v F1 H1 G1 r1 e1 i1 q => c.nx S F1 H1 G1 e1 i1.iv q
theorem ds_if (h : DT K B G tt fun G1 b => if b = true then DS K B G1 t E else DS K B G1 u E) : DS K B G (tIfS tt t u) E := fun S F H D I c => by
  show tt S H fun b H1 => if b = true then t D S H1 else u D S H1
  refine h S F H _ I fun b F1 H1 G1 e1 I1 q => ?_
  cases b with
  | true =>
    show t D S H1
    exact q S F1 H1 D I1 (c.mono e1)
  | false =>
    show u D S H1
    exact q S F1 H1 D I1 (c.mono e1)
/-- x = e: data; e's own new thing goes to x -/
def AsN (E : De) (G1 : En) (i : Nat) : Rs → Prop
  | .p (.d d) => E.nx (G1.set i (.d d))
  | .p (.sl _) => False
  | .p (.ty _) => False
  | .fr s => E.nx (G1.set i s)
theorem ds_set {i : Nat} (h : DW K B G te fun G1 r1 => AsN E G1 i r1) : DS K B G (tAsg te (gName i)) E := fun S F H D I c => by
  show te S H fun x H1 => D.nx (S.set i (some x)) H1
  refine h S F H _ I fun v F1 H1 G1 r1 e1 i1 q => ?_
  match r1, i1, q with
  | .p (.d d), i1, q => exact c.nx _ F1 H1 _ e1 (i1.1.set_d i i1.2) q
  | .fr s, i1, q => exact c.nx _ F1 H1 _ e1 (i1.move i) q
/-- .. as data from now on -/
theorem ds_setF {i : Nat} (h : DW K B G te fun G1 r1 => PW r1 fun w => ∃ d, w = .d d ∧ E.nx (G1.set i (.d d))) : DS K B G (tAsg te (gName i)) E := fun S F H D I c => by
  show te S H fun x H1 => D.nx (S.set i (some x)) H1
  refine dw_run (k' := fun G1 w => ∃ d, w = .d d ∧ E.nx (G1.set i (.d d))) h I fun v F1 H1 G1 w e1 I1 hv q => ?_
  obtain ⟨d, rfl, q⟩ := q
  exact c.nx _ F1 H1 _ e1 (I1.set_d i hv) q
/-- slot i's own list is data from now on -/
theorem ds_freeze (i : Nat) {a : Option Addr} {ds : List PyData} (hi : G[i]? = some (.o a ds)) (h : DS K B (G.set i (.d (.list ds))) t E) : DS K B G t E := fun S F H D I c => by
  obtain ⟨p, vs, _, _, hp, I2, _⟩ := I.freeze hi
  exact h S _ H D I2 (c.mono (Ex.new hp))
theorem ds_forget (i : Nat) (h : DS K B (G.set i .un) t E) : DS K B G t E := fun S F H D I c => by
  have I2 := I.set_un i ((S[i]?).getD none)
  have e : S.set i ((S[i]?).getD none) = S := by
    apply List.ext_getElem?
    intro k
    by_cases hk : i = k
    · subst hk
      by_cases hl : i < S.length
      · rw [List.getElem?_set_self hl, List.getElem?_eq_getElem hl]
        rfl
      · rw [List.getElem?_eq_none (by simpa using hl), List.getElem?_eq_none (by simpa using hl)]
    · rw [List.getElem?_set_ne hk]
  rw [e] at I2
  exact h S F H D I2 c
/-! ### tests -/
variable {PT : En → Bool → Prop}
theorem dt_test (h : DW K B G te fun G1 r1 => PW r1 fun w => ∃ b, w = .d (.bool b) ∧ PT G1 b) : DT K B G (tTest te) PT := fun S F H Q I k => by
  show te S H fun x H' => ∃ b, x = .bl b ∧ Q b H'
  refine dw_run (k' := fun G1 w => ∃ b, w = .d (.bool b) ∧ PT G1 b) h I fun v F1 H1 G1 w e1 I1 hv q => ?_
  obtain ⟨b, rfl, q⟩ := q
  exact ⟨b, dp_bl hv, k b F1 H1 G1 e1 I1 q⟩
theorem dt_B (h : DW K B G te fun G1 r1 => PW r1 fun w => ∃ b, w = .d (.bool b) ∧ PT G1 b) : DT K B G (tB te) PT := dt_test h
theorem dt_and {tu : TT} (h : DT K B G tt fun G1 b => if b = true then DT K B G1 tu PT else PT G1 false) : DT K B G (tAnd tt tu) PT := fun S F H Q I k => by
  show tt S H fun c H1 => if c = true then tu S H1 Q else Q false H1
  refine h S F H _ I fun b F1 H1 G1 e1 I1 q => ?_
  cases b with
  | true =>
    show tu S H1 Q
    exact q S F1 H1 Q I1 fun b F2 H2 G2 e2 I2 p => k b F2 H2 G2 (e1.trans e2) I2 p
  | false =>
    show Q false H1
    exact k false F1 H1 G1 e1 I1 q
theorem dt_or {tu : TT} (h : DT K B G tt fun G1 b => if b = true then PT G1 true else DT K B G1 tu PT) : DT K B G (tOr tt tu) PT := fun S F H Q I k => by
  show tt S H fun c H1 => if c = true then Q true H1 else tu S H1 Q
  refine h S F H _ I fun b F1 H1 G1 e1 I1 q => ?_
  cases b with
  | true =>
    show Q true H1
    exact k true F1 H1 G1 e1 I1 q
  | false =>
    show tu S H1 Q
    exact q S F1 H1 Q I1 fun b F2 H2 G2 e2 I2 p => k b F2 H2 G2 (e1.trans e2) I2 p
theorem dt_not (h : DT K B G tt fun G1 b => PT G1 (!b)) : DT K B G (tNot tt) PT := fun S F H Q I k => by
  show tt S H fun c H1 => Q (!c) H1
  exact h S F H _ I fun b F1 H1 G1 e1 I1 q => k (!b) F1 H1 G1 e1 I1 q
theorem dt_yes (h : PT G true) : DT K B G tYes PT := fun S F H Q I k => k true F H G (Ex.refl F) I h
/-- what a value is as a test -/
def truD : PyData → Option Bool
  | .none => some false
  | .bool b => some b
  | .int i => some (i != 0)
  | .list ds => some (!ds.isEmpty)
  | .tuple ds => some (!ds.isEmpty)
  | _ => none
theorem emp_eq {α β : Type} {xs : List α} {ys : List β} (h : xs.length = ys.length) : xs.isEmpty = ys.isEmpty := by
  cases xs <;> cases ys <;> simp_all
theorem tru_dp {F H : Hp} {v : V} {d : PyData} {b : Bool} (e : Ex F H) (h : Dq K F v d) (ht : truD d = some b) : TruV K v H b := by
  cases h with
  | non => exact (Option.some.inj ht).symm
  | bl _ => exact (Option.some.inj ht).symm
  | int _ => exact (Option.some.inj ht).symm
  | str _ => cases ht
  | lst s a => exact .inl ⟨_, SqL.of (e _ _ s), by rw [← Option.some.inj ht, emp_eq (da_len a)]⟩
  | tup s a => exact .inr (.inl ⟨_, SqT.of (e _ _ s), by rw [← Option.some.inj ht, emp_eq (da_len a)]⟩)
def TrW (G : En) (PT : En → Bool → Prop) : W → Prop
  | .d (.str x) => x.length ≤ sizeLine ∧ PT G ((x.length : Int) != 0)
  | .d d => ∃ b, truD d = some b ∧ PT G b
  | .sl i => ∃ a ds, G[i]? = some (.o a ds) ∧ PT G (!ds.isEmpty)
  | .ty _ => False
theorem dt_truth (h : DW K B G te fun G1 r1 => PW r1 fun w => TrW G1 PT w) : DT K B G (fun S H Q => te S H fun x H' => ∃ k, TruV K x H' k ∧ Q k H') PT := fun S F H Q I k => by
  refine dw_run (k' := fun G1 w => TrW G1 PT w) h I fun v F1 H1 G1 w e1 I1 hv q => ?_
  match w, hv, q with
  | .sl i, hv, ⟨_, ds, hi, q⟩ =>
    obtain ⟨p, vs, e, h1, h2, h3⟩ := I1.lst hi
    have hv : S[i]? = some (some v) := hv
    rw [e] at hv
    cases hv
    exact ⟨_, .inl ⟨_, SqL.of h1, rfl⟩, k _ F1 H1 G1 e1 I1 (by rw [emp_eq (da_len h3)]; exact q)⟩
  | .d (.str x), hv, ⟨hl, q⟩ =>
    obtain rfl := dp_str hv
    exact ⟨_, ⟨hl, rfl⟩, k _ F1 H1 G1 e1 I1 q⟩
  | .d .none, hv, ⟨b, ht, q⟩ => exact ⟨b, tru_dp I1.ex hv ht, k b F1 H1 G1 e1 I1 q⟩
  | .d (.bool _), hv, ⟨b, ht, q⟩ => exact ⟨b, tru_dp I1.ex hv ht, k b F1 H1 G1 e1 I1 q⟩
  | .d (.int _), hv, ⟨b, ht, q⟩ => exact ⟨b, tru_dp I1.ex hv ht, k b F1 H1 G1 e1 I1 q⟩
  | .d (.list _), hv, ⟨b, ht, q⟩ => exact ⟨b, tru_dp I1.ex hv ht, k b F1 H1 G1 e1 I1 q⟩
  | .d (.tuple _), hv, ⟨b, ht, q⟩ => exact ⟨b, tru_dp I1.ex hv ht, k b F1 H1 G1 e1 I1 q⟩
  | .d (.dict _), hv, _ => exact nomatch hv
/-! ### and, or, not as values (of bools) -/
theorem dw_and (h : DW K B G ta fun G1 r1 => PW r1 fun w => ∃ b, w = .d (.bool b) ∧ if b = true then DW K B G1 tb P else P G1 (.p (.d (.bool false)))) : DW K B G (tAndV ta tb) P := fun S F H Q I k => by
  show ta S H fun x H1 => ∃ c, x = .bl c ∧ if c = true then tb S H1 Q else Q (.bl false) H1
  refine dw_run (k' := fun G1 w => ∃ b, w = .d (.bool b) ∧ if b = true then DW K B G1 tb P else P G1 (.p (.d (.bool false)))) h I fun v F1 H1 G1 w e1 I1 hv q => ?_
  obtain ⟨b, rfl, q⟩ := q
  refine ⟨b, dp_bl hv, ?_⟩
  cases b with
  | true =>
    show tb S H1 Q
    exact q S F1 H1 Q I1 (k.mono e1)
  | false =>
    show Q (.bl false) H1
    exact ct_d (k.mono e1) I1 (.bl false) q
theorem dw_or (h : DW K B G ta fun G1 r1 => PW r1 fun w => ∃ b, w = .d (.bool b) ∧ if b = true then P G1 (.p (.d (.bool true))) else DW K B G1 tb P) : DW K B G (tOrV ta tb) P := fun S F H Q I k => by
  show ta S H fun x H1 => ∃ c, x = .bl c ∧ if c = true then Q (.bl true) H1 else tb S H1 Q
  refine dw_run (k' := fun G1 w => ∃ b, w = .d (.bool b) ∧ if b = true then P G1 (.p (.d (.bool true))) else DW K B G1 tb P) h I fun v F1 H1 G1 w e1 I1 hv q => ?_
  obtain ⟨b, rfl, q⟩ := q
  refine ⟨b, dp_bl hv, ?_⟩
  cases b with
  | true =>
    show Q (.bl true) H1
    exact ct_d (k.mono e1) I1 (.bl true) q
  | false =>
    show tb S H1 Q
    exact q S F1 H1 Q I1 (k.mono e1)
theorem dw_notV (h : DW K B G ta fun G1 r1 => PW r1 fun w => ∃ b, w = .d (.bool b) ∧ P G1 (.p (.d (.bool (!b))))) : DW K B G (tNotV ta) P := fun S F H Q I k => by
  show ta S H fun x H1 => ∃ c, x = .bl c ∧ Q (.bl (!c)) H1
  refine dw_run (k' := fun G1 w => ∃ b, w = .d (.bool b) ∧ P G1 (.p (.d (.bool (!b))))) h I fun v F1 H1 G1 w e1 I1 hv q => ?_
  obtain ⟨b, rfl, q⟩ := q
  exact ⟨b, dp_bl hv, ct_d (k.mono e1) I1 (.bl (!b)) q⟩
/-! ### targets -/
theorem dg_name {i : Nat} {d : PyData} {Pe : En → Prop} (h : Pe (G.set i (.d d))) : DG K B G (gName i) [i] (.d d) Pe := fun S F H v Q I hv k =>
  k _ F H _ (Ex.refl F) (I.set_d i hv) (by simp) (fun j hj => by rw [List.getElem?_set_ne]; simpa [eq_comm] using hj) h
theorem dgs_nil {Pe : En → Prop} (h : Pe G) : DGs K B G gNil [] [] Pe := fun S F H vs Q I hv k => by
  cases hv
  exact ⟨rfl, k S F H G (Ex.refl F) I rfl (fun _ _ => rfl) h⟩
theorem dgs_cons {g : TG} {gs : TGs} {c cs : List Nat} {d : PyData} {ds : List PyData} {Pe : En → Prop} (h : DG K B G g c (.d d) fun G1 => DGs K B G1 gs cs ds Pe) : DGs K B G (gCons g gs) (c ++ cs) (d :: ds) Pe := fun S F H vs Q I hv k => by
  cases hv with
  | cons h1 h2 =>
    refine ⟨_, _, rfl, h S F H _ _ I h1 fun S1 F1 H1 G1 e1 I1 l1 u1 q => ?_⟩
    refine q S1 F1 H1 _ Q I1 (da_mono e1 h2) fun S2 F2 H2 G2 e2 I2 l2 u2 q2 => ?_
    exact k S2 F2 H2 G2 (e1.trans e2) I2 (l2.trans l1) (fun j hj => (u2 j fun z => hj (List.mem_append_right _ z)).trans (u1 j fun z => hj (List.mem_append_left _ z))) q2
theorem dg_tup {n : Nat} {gs : TGs} {cs : List Nat} {ds : List PyData} {Pe : En → Prop} (hn : ds.length = n) (h : DGs K B G gs cs ds Pe) : DG K B G (gTup K n gs) cs (.d (.tuple ds)) Pe := fun S F H v Q I hv k => by
  obtain ⟨a, vs, rfl, hs, ha⟩ := dp_tup hv
  exact ⟨a, vs, rfl, SqT.of (I.ex _ _ hs), by rw [da_len ha]; exact hn, h S F H vs Q I ha k⟩
theorem ds_asg {g : TG} {cs : List Nat} (h : DW K B G te fun G1 r1 => PW r1 fun w => DG K B G1 g cs w E.nx) : DS K B G (tAsg te g) E := fun S F H D I c => by
  show te S H fun x H1 => g x S H1 D.nx
  refine dw_run (k' := fun G1 w => DG K B G1 g cs w E.nx) h I fun v F1 H1 G1 w e1 I1 hv q => ?_
  exact q S F1 H1 v D.nx I1 hv fun S2 F2 H2 G2 e2 I2 _ _ p => c.nx S2 F2 H2 G2 (e1.trans e2) I2 p
/-- x op= e of ints -/
theorem ds_augI {i : Nat} {f : Int → Int → Int} {a : Int} (hi : G[i]? = some (.d (.int a))) (h : DW K B G te fun G1 r1 => PW r1 fun w => ∃ b, w = .d (.int b) ∧ E.nx (G1.set i (.d (.int (f a b))))) : DS K B G (tAug i te (ipI f)) E := fun S F H D I c => by
  obtain ⟨v, e, hv⟩ := I.dat hi
  obtain rfl := dp_int hv
  refine ⟨_, e, ?_⟩
  refine dw_run (k' := fun G1 w => ∃ b, w = .d (.int b) ∧ E.nx (G1.set i (.d (.int (f a b))))) h I fun v F1 H1 G1 w e1 I1 hv q => ?_
  obtain ⟨b, rfl, q⟩ := q
  exact ⟨a, b, rfl, dp_int hv, c.nx _ F1 H1 _ e1 (I1.set_d i (.int _)) q⟩
/-! ### loops -/
/-- an iterator's items, as data -/
def Yields (K : Fr) (F : Hp) (J : It) (ds : List PyData) : Prop := ∀ i H F2, Ex F F2 → Ex F2 H → (∀ d, ds[i]? = some d → J.go i H ∧ ∀ x H', J.yld i H x H' → ∃ F', Ex F2 F' ∧ Ex H H' ∧ Ex F' H' ∧ (∀ b o, F' b = some o → F2 b = none → H b = none) ∧ Dq K F' x d) ∧ (i = ds.length → J.stop i H)
def DI (K : Fr) (B : Bs) (G : En) (wi : TI) (PI : En → List PyData → Prop) : Prop := ∀ S F H (R : It → Hp → Prop), Iv K B G S F H → (∀ J F1 H1 G1 ds, Ex F F1 → Iv K B G1 S F1 H1 → Yields K F1 J ds → PI G1 ds → R J H1) → wi S H R
theorem di_list {tl : TE} {PI : En → List PyData → Prop} (h : DW K B G tl fun G1 r1 => PW r1 fun w => ∃ ds, w = .d (.list ds) ∧ PI G1 ds) : DI K B G (iList K tl) PI := fun S F H R I k => by
  show tl S H fun x H1 => ∃ a, x = .ref a ∧ (∃ xs, SqL K H1 a xs) ∧ R (Itl K a) H1
  refine dw_run (k' := fun G1 w => ∃ ds, w = .d (.list ds) ∧ PI G1 ds) h I fun v F1 H1 G1 w e1 I1 hv q => ?_
  obtain ⟨ds, rfl, q⟩ := q
  obtain ⟨a, vs, rfl, hs, ha⟩ := dp_lst hv
  refine ⟨a, rfl, ⟨vs, SqL.of (I1.ex _ _ hs)⟩, k _ F1 H1 G1 ds e1 I1 (fun i H2 F2 eF eH => ⟨fun d hd => ?_, fun e => ?_⟩) q⟩
  · obtain ⟨v, h1, h2⟩ := da_get ha hd
    refine ⟨⟨vs, v, SqL.of ((eF.trans eH) _ _ hs), h1⟩, fun x H' y => ?_⟩
    obtain ⟨e, y⟩ := y
    subst e
    have hx := y vs (SqL.of ((eF.trans eH) _ _ hs))
    rw [h1] at hx
    cases hx
    exact ⟨F2, Ex.refl _, Ex.refl _, eH, (fun b o z n => by rw [z] at n; cases n), dp_mono eF h2⟩
  · refine ⟨vs, SqL.of ((eF.trans eH) _ _ hs), ?_⟩
    rw [e, da_len ha]
    exact Nat.le_refl _
theorem di_tup {tl : TE} {PI : En → List PyData → Prop} (h : DW K B G tl fun G1 r1 => PW r1 fun w => ∃ ds, w = .d (.tuple ds) ∧ PI G1 ds) : DI K B G (iTup K tl) PI := fun S F H R I k => by
  show tl S H fun x H1 => ∃ a, x = .ref a ∧ (∃ xs, SqT K H1 a xs) ∧ R (Itt K a) H1
  refine dw_run (k' := fun G1 w => ∃ ds, w = .d (.tuple ds) ∧ PI G1 ds) h I fun v F1 H1 G1 w e1 I1 hv q => ?_
  obtain ⟨ds, rfl, q⟩ := q
  obtain ⟨a, vs, rfl, hs, ha⟩ := dp_tup hv
  refine ⟨a, rfl, ⟨vs, SqT.of (I1.ex _ _ hs)⟩, k _ F1 H1 G1 ds e1 I1 (fun i H2 F2 eF eH => ⟨fun d hd => ?_, fun e => ?_⟩) q⟩
  · obtain ⟨v, h1, h2⟩ := da_get ha hd
    refine ⟨⟨vs, v, SqT.of ((eF.trans eH) _ _ hs), h1⟩, fun x H' y => ?_⟩
    obtain ⟨e, y⟩ := y
    subst e
    have hx := y vs (SqT.of ((eF.trans eH) _ _ hs))
    rw [h1] at hx
    cases hx
    exact ⟨F2, Ex.refl _, Ex.refl _, eH, (fun b o z n => by rw [z] at n; cases n), dp_mono eF h2⟩
  · refine ⟨vs, SqT.of ((eF.trans eH) _ _ hs), ?_⟩
    rw [e, da_len ha]
    exact Nat.le_refl _
theorem di_or {w1 w2 : TI} {PI : En → List PyData → Prop} (h : DI K B G w1 PI ∨ DI K B G w2 PI) : DI K B G (fun S H R => w1 S H R ∨ w2 S H R) PI := fun S F H R I k =>
  h.elim (fun h => .inl (h S F H R I k)) fun h => .inr (h S F H R I k)
/-- 0, 1, .. -/
def rngD (lo : Int) (n : Nat) : List PyData := (List.range n).map fun (i : Nat) => PyData.int (lo + (i : Int))
theorem rngD_get {lo : Int} {n i : Nat} {d : PyData} (h : (rngD lo n)[i]? = some d) : i < n ∧ d = .int (lo + (i : Int)) := by
  unfold rngD at h
  rw [List.getElem?_map] at h
  by_cases hi : i < n
  · rw [List.getElem?_range hi] at h
    exact ⟨hi, (Option.some.inj h).symm⟩
  · rw [List.getElem?_eq_none (by simpa using hi)] at h
    cases h
theorem rngD_len (lo : Int) (n : Nat) : (rngD lo n).length = n := by simp [rngD]
theorem yields_rng {F : Hp} {lo : Int} {n : Nat} : Yields K F (Itr lo n) (rngD lo n) := fun i H F2 eF eH => ⟨fun d hd => by
  obtain ⟨hi, rfl⟩ := rngD_get hd
  refine ⟨hi, fun x H' y => ?_⟩
  obtain ⟨e, y⟩ := y
  subst e y
  exact ⟨F2, Ex.refl _, Ex.refl _, eH, (fun b o z n => by rw [z] at n; cases n), .int _⟩, fun e => by
  rw [rngD_len] at e
  exact Nat.le_of_eq e.symm⟩
theorem di_rng1 {ta : TA} {PI : En → List PyData → Prop} (h : DA K B G ta fun G1 ws => ∃ j : Int, ws = [.d (.int j)] ∧ -(2 ^ 62) ≤ j ∧ j < 2 ^ 62 ∧ PI G1 (rngD 0 j.toNat)) : DI K B G (iRng1 ta) PI := fun S F H R I k => by
  show ta S H fun vs H1 => ∃ j : Int, vs = [.int j] ∧ -(2 ^ 62) ≤ j ∧ j < 2 ^ 62 ∧ R (Itr 0 j.toNat) H1
  refine h S F H _ I fun vs F1 H1 G1 ws e1 I1 hv q => ?_
  obtain ⟨j, rfl, h1, h2, q⟩ := q
  cases hv with
  | cons a t =>
    cases t
    obtain rfl := dp_int a
    exact ⟨j, rfl, h1, h2, k _ F1 H1 G1 _ e1 I1 yields_rng q⟩
theorem di_rng2 {ta : TA} {PI : En → List PyData → Prop} (h : DA K B G ta fun G1 ws => ∃ i j : Int, ws = [.d (.int i), .d (.int j)] ∧ (-(2 ^ 62) ≤ i ∧ i < 2 ^ 62 ∧ -(2 ^ 62) ≤ j ∧ j < 2 ^ 62) ∧ PI G1 (rngD i (j - i).toNat)) : DI K B G (iRng2 ta) PI := fun S F H R I k => by
  show ta S H fun vs H1 => ∃ i j : Int, vs = [.int i, .int j] ∧ (-(2 ^ 62) ≤ i ∧ i < 2 ^ 62 ∧ -(2 ^ 62) ≤ j ∧ j < 2 ^ 62) ∧ R (Itr i (j - i).toNat) H1
  refine h S F H _ I fun vs F1 H1 G1 ws e1 I1 hv q => ?_
  obtain ⟨i, j, rfl, h1, q⟩ := q
  cases hv with
  | cons a t =>
    cases t with
    | cons b t =>
      cases t
      obtain rfl := dp_int a
      obtain rfl := dp_int b
      exact ⟨i, j, rfl, h1, k _ F1 H1 G1 _ e1 I1 yields_rng q⟩
/-- what a turn's yield leaves -/
theorem Yields.turn {F1 F2 H H' : Hp} {J : It} {ds : List PyData} {i : Nat} {d : PyData} {x : V} {S : St} (Y : Yields K F1 J ds) (e : Ex F1 F2) (I : Iv K B G S F2 H) (hd : ds[i]? = some d) (y : J.yld i H x H') : ∃ F', Ex F2 F' ∧ Iv K B G S F' H' ∧ Dq K F' x d := by
  obtain ⟨F', k1, k2, k3, k4, k5⟩ := ((Y i H F2 e I.ex).1 d hd).2 x H' y
  exact ⟨F', k1, I.grow k1 k2 k3 k4, k5⟩
theorem ds_for {wi : TI} {g : TG} {ch : List Nat} (J : List PyData → Nat → En → Prop) (h : DI K B G wi fun G1 ds => J ds 0 G1 ∧ (∀ i G2 d, ds[i]? = some d → J ds i G2 → DG K B G2 g ch (.d d) fun G3 => DS K B G3 t { E with nx := J ds (i + 1), ct := J ds (i + 1), bk := E.nx }) ∧ ∀ G2, J ds ds.length G2 → E.nx G2) :
    DS K B G (tFor wi g t) E := fun S F H D I c => by
  refine h S F H _ I fun It F1 H1 G1 ds e1 I1 Y ⟨j0, hs, hd⟩ => ?_
  refine ⟨fun i m S H => m = ds.length - i ∧ i ≤ ds.length ∧ ∃ F2 G2, Ex F1 F2 ∧ Iv K B G2 S F2 H ∧ J ds i G2, ⟨_, rfl, Nat.zero_le _, F1, G1, Ex.refl _, I1, j0⟩, ?_⟩
  rintro i m S2 H2 ⟨rfl, hi, F2, G2, e2, I2, j2⟩
  by_cases hlt : i < ds.length
  · obtain ⟨d, hd'⟩ : ∃ d, ds[i]? = some d := ⟨_, List.getElem?_eq_getElem hlt⟩
    refine .inr ⟨((Y i H2 F2 e2 I2.ex).1 d hd').1, fun S H => ∃ F2 G2, Ex F1 F2 ∧ Iv K B G2 S F2 H ∧ J ds (i + 1) G2, fun S' H' p => ⟨ds.length - (i + 1), by omega, rfl, hlt, p⟩, fun x H3 y => ?_⟩
    obtain ⟨F3, e3, I3, hx⟩ := Y.turn e2 I2 hd' y
    refine hs i G2 d hd' j2 S2 F3 H3 x _ I3 hx fun S4 F4 H4 G4 e4 I4 _ _ q => ?_
    have e5 := (e2.trans e3).trans e4
    exact q S4 F4 H4 _ I4 ⟨fun S F H G e I j => ⟨F, G, e5.trans e, I, j⟩, fun S F H G v r e => c.rt S F H G v r ((e1.trans e5).trans e), fun S F H G e I p => c.nx S F H G ((e1.trans e5).trans e) I p, fun S F H G e I j => ⟨F, G, e5.trans e, I, j⟩⟩
  · have e : i = ds.length := by omega
    subst e
    exact .inl ⟨(Y _ H2 F2 e2 I2.ex).2 rfl, c.nx S2 F2 H2 G2 (e1.trans e2) I2 (hd G2 j2)⟩
theorem ds_while (J : Nat → En → Prop) (m : Nat) (h0 : J m G) (hs : ∀ m G1, J m G1 → DT K B G1 tt fun G2 b => if b = true then DS K B G2 t { E with nx := fun G3 => ∃ m', m' < m ∧ J m' G3, ct := fun G3 => ∃ m', m' < m ∧ J m' G3, bk := E.nx } else E.nx G2) : DS K B G (tWhile tt t) E := fun S F H D I c => by
  refine ⟨fun m S H => ∃ F1 G1, Ex F F1 ∧ Iv K B G1 S F1 H ∧ J m G1, ⟨m, F, G, Ex.refl _, I, h0⟩, ?_⟩
  rintro m S1 H1 ⟨F1, G1, e1, I1, j1⟩
  refine hs m G1 j1 S1 F1 H1 _ I1 fun b F2 H2 G2 e2 I2 q => ?_
  have e3 := e1.trans e2
  cases b with
  | true =>
    show ∃ N : St → Hp → Prop, (∀ S' H', N S' H' → ∃ m', m' < m ∧ ∃ F1 G1, Ex F F1 ∧ Iv K B G1 S' F1 H' ∧ J m' G1) ∧ t { D with nx := N, ct := N, bk := D.nx } S1 H2
    refine ⟨fun S' H' => ∃ m', m' < m ∧ ∃ F1 G1, Ex F F1 ∧ Iv K B G1 S' F1 H' ∧ J m' G1, fun S' H' p => p, ?_⟩
    exact q S1 F2 H2 _ I2 ⟨fun S F H G e I ⟨m', hm, j⟩ => ⟨m', hm, F, G, e3.trans e, I, j⟩, fun S F H G v r e => c.rt S F H G v r (e3.trans e), fun S F H G e I p => c.nx S F H G (e3.trans e) I p, fun S F H G e I ⟨m', hm, j⟩ => ⟨m', hm, F, G, e3.trans e, I, j⟩⟩
  | false =>
    show D.nx S1 H2
    exact c.nx S1 F2 H2 G2 e3 I2 q
end
end DL
namespace DL
open PySem L2
theorem nn {H : Hp} {b : Addr} {o : HO} (h : H b = some o) : H b ≠ none := fun z => by
  rw [h] at z
  cases z
/-! ### another base -/
section
variable {K : Fr} {B : Bs} {G G1 : En} {S S1 : St} {F H F1 H1 : Hp}
/-- the state as a base of its own: the slots' own things may change, nothing else -/
theorem Iv.rebase (I : Iv K B G S F H) : ∃ mu : Addr → Prop, Iv K B G S F H ∧ Iv K ⟨F, H, mu⟩ G S F H ∧ (∀ G1 S1 F1 H1, Iv K ⟨F, H, mu⟩ G1 S1 F1 H1 → Iv K B G1 S1 F1 H1) ∧ (∀ a, mu a → F a = none ∧ H a ≠ none ∧ (B.H0 a = none ∨ B.mu a)) := by
  obtain ⟨A, h1, h2, h3⟩ := I.own
  have hm : ∀ a, (∃ i, A i a) → F a = none ∧ H a ≠ none ∧ (B.H0 a = none ∨ B.mu a) := fun a ⟨i, h⟩ => h3 i a h
  refine ⟨fun a => ∃ i, A i a, I, ⟨I.ex, Ex.refl _, fun b o h _ => h, fun b o h _ => .inl (nn h), fun b h => h, I.len, A, h1, h2, fun i a h => ⟨(h3 i a h).1, (h3 i a h).2.1, .inr ⟨i, h⟩⟩⟩, fun G1 S1 F1 H1 J => ?_, hm⟩
  have back : ∀ a, (H a = none ∨ ∃ i, A i a) → B.H0 a = none ∨ B.mu a := fun a h => h.elim (fun h => .inl (I.new0 h)) fun h => (hm a h).2.2
  refine ⟨J.ex, I.f0.trans J.f0, fun b o h m => ?_, fun b o h n => ?_, fun b h => J.st b (I.st b h), J.len, ?_⟩
  · refine J.fr b o (I.fr b o h m) fun ⟨i, z⟩ => ?_
    rcases (h3 i b z).2.2 with q | q
    · rw [h] at q
      cases q
    · exact m q
  · rcases J.nw b o h (I.st b n) with z | z
    · obtain ⟨u, hu⟩ : ∃ u, F b = some u := by
        cases q : F b with
        | none => exact absurd q z
        | some u => exact ⟨u, rfl⟩
      exact I.nw b u hu n
    · rcases (hm b z).2.2 with q | q
      · exact absurd q n
      · exact .inr q
  · obtain ⟨A', k1, k2, k3⟩ := J.own
    exact ⟨A', k1, k2, fun i a h => ⟨(k3 i a h).1, (k3 i a h).2.1, back a (k3 i a h).2.2⟩⟩
/-- a list that nobody touches meanwhile: the last slot's, aside while the rest runs -/
theorem Iv.aside {o : Option Addr} {ds : List PyData} {x : V} (I : Iv K B (G ++ [.o o ds]) (S ++ [some x]) F H) : ∃ D vs mu, x = .ref D ∧ H D = some (.lst vs) ∧ DqAll K F vs ds ∧ Iv K ⟨F, H, mu⟩ G S F H ∧
    ∀ G1 S1 F1 H1, Iv K ⟨F, H, mu⟩ G1 S1 F1 H1 → H1 D = some (.lst vs) ∧ Iv K B (G1 ++ [.o o ds]) (S1 ++ [some x]) F1 H1 := by
  obtain ⟨A, h1, h2, h3⟩ := I.own
  have hl : S.length = G.length := by
    have := I.len
    simpa using this
  obtain ⟨u, e1, D, vs, rfl, e3, e4, e5, e6⟩ : ∃ v, (S ++ [some x])[G.length]? = some (some v) ∧ SvR K F H v (A G.length) (.o o ds) := (h1 G.length (.o o ds) (by simp)).elim (fun z => by cases z) id
  have ex : x = .ref D := by
    rw [← hl] at e1
    have : (S ++ [some x])[S.length]? = some (some x) := by simp
    rw [this] at e1
    exact Option.some.inj (Option.some.inj e1)
  subst ex
  obtain ⟨d1, d2, d3⟩ := h3 _ _ e5
  have I0 := I.drop
  have hm : ∀ a, (∃ i, i < G.length ∧ A i a) → F a = none ∧ H a ≠ none ∧ (B.H0 a = none ∨ B.mu a) := fun a ⟨i, _, h⟩ => h3 i a h
  have nD : ¬ ∃ i, i < G.length ∧ A i D := fun ⟨i, hi, h⟩ => by
    have := h2 _ _ _ h e5
    omega
  refine ⟨D, vs, fun a => ∃ i, i < G.length ∧ A i a, rfl, e3, e4, ⟨I.ex, Ex.refl _, fun b o h _ => h, fun b o h _ => .inl (nn h), fun b h => h, hl, fun i a => i < G.length ∧ A i a, fun i s hi => ?_, fun i j a p q => h2 i j a p.2 q.2, fun i a h => ⟨(h3 i a h.2).1, (h3 i a h.2).2.1, .inr ⟨i, h⟩⟩⟩, fun G1 S1 F1 H1 J => ?_⟩
  · have hlt := (List.getElem?_eq_some_iff.mp hi).1
    rcases h1 i s (by rw [List.getElem?_append_left hlt]; exact hi) with z | ⟨u, z1, z2⟩
    · exact .inl z
    · refine .inr ⟨u, by rw [List.getElem?_append_left (by omega)] at z1; exact z1, ?_⟩
      have ea : (fun a => i < G.length ∧ A i a) = A i := by
        funext a
        exact propext ⟨fun z => z.2, fun z => ⟨hlt, z⟩⟩
      show SvR K F H u (fun a => i < G.length ∧ A i a) s
      rw [ea]
      exact z2
  · have hD : H1 D = some (.lst vs) := J.fr D _ e3 nD
    have fD : F1 D = none := by
      cases q : F1 D with
      | none => rfl
      | some o =>
        rcases J.nw D o q d2 with z | z
        · exact absurd d1 z
        · exact absurd z nD
    obtain ⟨A', k1, k2, k3⟩ := J.own
    have nA : ∀ i, ¬ A' i D := fun i z => by
      rcases (k3 i D z).2.2 with q | q
      · exact d2 q
      · exact nD q
    refine ⟨hD, J.ex, I.f0.trans J.f0, fun b o h m => ?_, fun b o h n => ?_, fun b h => J.st b (I.st b h), by simp [J.len], fun i a => (i < G1.length ∧ A' i a) ∨ (i = G1.length ∧ a = D), fun i s hi => ?_, fun i j a p q => ?_, fun i a h => ?_⟩
    · refine J.fr b o (I.fr b o h m) fun ⟨i, _, z⟩ => ?_
      rcases (h3 i b z).2.2 with q | q
      · rw [h] at q
        cases q
      · exact m q
    · rcases J.nw b o h (I.st b n) with z | z
      · obtain ⟨u, hu⟩ : ∃ u, F b = some u := by
          cases q : F b with
          | none => exact absurd q z
          | some u => exact ⟨u, rfl⟩
        exact I.nw b u hu n
      · rcases (hm b z).2.2 with q | q
        · exact absurd q n
        · exact .inr q
    · rcases app_get hi with ⟨hlt, h⟩ | ⟨hlt, e⟩
      · rcases k1 i s h with z | ⟨u, z1, z2⟩
        · exact .inl z
        · refine .inr ⟨u, by rw [List.getElem?_append_left (by rw [J.len]; exact hlt)]; exact z1, ?_⟩
          have ea : (fun a => (i < G1.length ∧ A' i a) ∨ (i = G1.length ∧ a = D)) = A' i := by
            funext a
            exact propext ⟨fun z => z.elim (fun z => z.2) fun z => by omega, fun z => .inl ⟨hlt, z⟩⟩
          show SvR K F1 H1 u (fun a => (i < G1.length ∧ A' i a) ∨ (i = G1.length ∧ a = D)) s
          rw [ea]
          exact z2
      · subst e hlt
        refine .inr ⟨.ref D, by rw [← J.len]; simp, D, vs, rfl, hD, da_mono J.f0 e4, .inr ⟨rfl, rfl⟩, e6⟩
    · rcases p with ⟨p1, p2⟩ | ⟨p1, p2⟩ <;> rcases q with ⟨q1, q2⟩ | ⟨q1, q2⟩
      · exact k2 _ _ _ p2 q2
      · subst q2
        exact absurd p2 (nA i)
      · subst p2
        exact absurd q2 (nA j)
      · omega
    · rcases h with ⟨_, h⟩ | ⟨_, h⟩
      · refine ⟨(k3 i a h).1, (k3 i a h).2.1, ?_⟩
        rcases (k3 i a h).2.2 with q | q
        · exact .inl (I.new0 q)
        · exact (hm a q).2.2
      · subst h
        exact ⟨fD, (by rw [hD]; exact fun z => by cases z), d3⟩
end

/-! ### list comprehensions -/
def wipeG (G : En) : List Nat → En
  | [] => G
  | v :: vs => (wipeG G vs).set v .un
theorem wipeG_len (G : En) : ∀ vs : List Nat, (wipeG G vs).length = G.length
  | [] => rfl
  | v :: vs => by
    unfold wipeG
    rw [List.length_set, wipeG_len G vs]
theorem Iv.wipe {K : Fr} {B : Bs} {G : En} {S : St} {F H : Hp} (I : Iv K B G S F H) : ∀ vs : List Nat, Iv K B (wipeG G vs) (L2.wipe S vs) F H
  | [] => I
  | v :: vs => (I.wipe vs).set_un v none
theorem wipeG_app (G : En) (s : Sl) : ∀ vs : List Nat, (∀ v ∈ vs, v < G.length) → wipeG (G ++ [s]) vs = wipeG G vs ++ [s]
  | [], _ => rfl
  | v :: vs, h => by
    unfold wipeG
    rw [wipeG_app G s vs (fun v hv => h v (List.mem_cons_of_mem _ hv)), List.set_append, if_pos]
    rw [wipeG_len]
    exact h v (List.mem_cons_self)
/-- names of the block are forgotten: whatever they hold -/
theorem Iv.wiped {K : Fr} {B : Bs} {G : En} {S S' : St} {F H : Hp} {vs : List Nat} (I : Iv K B (wipeG G vs) S' F H) (hl : S.length = S'.length) (he : ∀ k, k ∉ vs → S[k]? = S'[k]?) : Iv K B (wipeG G vs) S F H := by
  obtain ⟨A, h1, h2, h3⟩ := I.own
  have un : ∀ (vs : List Nat) i s, i ∈ vs → (wipeG G vs)[i]? = some s → s = .un := by
    intro vs
    induction vs with
    | nil => intro i s h _; cases h
    | cons v vs ih =>
      intro i s h e
      unfold wipeG at e
      by_cases hi : v = i
      · subst hi
        exact (set_same e).1
      · rw [List.getElem?_set_ne hi] at e
        rcases List.mem_cons.mp h with z | z
        · exact absurd z.symm hi
        · exact ih i s z e
  refine ⟨I.ex, I.f0, I.fr, I.nw, I.st, hl.trans I.len, A, fun i s hi => ?_, h2, h3⟩
  by_cases hv : i ∈ vs
  · exact .inl (un vs i s hv hi)
  · rw [he i hv]
    exact h1 i s hi
theorem wipe_ne {S : St} {k : Nat} : ∀ {vs : List Nat}, k ∉ vs → (L2.wipe S vs)[k]? = S[k]?
  | [], _ => rfl
  | v :: vs, h => by
    unfold L2.wipe
    rw [List.getElem?_set_ne (fun z => h (by rw [z]; exact List.mem_cons_self)), wipe_ne fun z => h (List.mem_cons_of_mem _ z)]
theorem wipe_in {S : St} {k : Nat} : ∀ {vs : List Nat}, k ∈ vs → k < S.length → (L2.wipe S vs)[k]? = some none
  | v :: vs, h, hk => by
    unfold L2.wipe
    by_cases e : v = k
    · subst e
      rw [List.getElem?_set_self (by rw [wipe_length]; exact hk)]
    · rw [List.getElem?_set_ne e]
      rcases List.mem_cons.mp h with z | z
      · exact absurd z.symm e
      · exact wipe_in z hk
theorem wipe_ext {S S' : St} {vs : List Nat} (hl : S'.length = S.length) (he : ∀ k, k ∉ vs → S'[k]? = S[k]?) : L2.wipe S' vs = L2.wipe S vs := by
  apply List.ext_getElem?
  intro k
  by_cases hk : k ∈ vs
  · by_cases h2 : k < S.length
    · rw [wipe_in hk h2, wipe_in hk (by omega)]
    · rw [List.getElem?_eq_none (by rw [wipe_length]; omega), List.getElem?_eq_none (by rw [wipe_length]; omega)]
  · rw [wipe_ne hk, wipe_ne hk, he k hk]
section
variable {K : Fr} {B : Bs} {G : En} {te : TE} {P : Po} {tt : TT}
/-- [e for g in ..]: J by the items, the turn, what is made so far, the slots -/
theorem dw_lc {wi : TI} {g : TG} {ch : List Nat} {vs : List Nat} (J : List PyData → Nat → List PyData → En → Prop) (hsub : ∀ k ∈ ch, k ∈ vs)
    (h : DI K B G wi fun G1 ds => J ds 0 [] (wipeG G1 vs) ∧ (∀ (B' : Bs) i acc G2 d, ds[i]? = some d → J ds i acc G2 → DG K B' G2 g ch (.d d) fun G3 => DT K B' G3 tt fun G4 b => if b = true then DW K B' G4 te fun G5 r => PW r fun w => ∃ y, w = .d y ∧ acc.length < sizeLine ∧ J ds (i + 1) (acc ++ [y]) (wipeG G5 vs) else J ds (i + 1) acc (wipeG G4 vs)) ∧ ∀ acc G2, J ds ds.length acc G2 → P (wipeG G2 vs) (.fr (.o none acc))) :
    DW K B G (tLc wi g tt te vs) P := fun S F H Q I k => by
  refine h S F H _ I fun It F1 H1 G1 ds e1 I1 Y ⟨j0, hs, hd⟩ => ?_
  intro D hD
  refine ⟨fun i m H => m = ds.length - i ∧ i ≤ ds.length ∧ ∃ F2 G2 acc, Ex F1 F2 ∧ Iv K B (G2 ++ [.o none acc]) (L2.wipe S vs ++ [some (.ref D)]) F2 H ∧ J ds i acc G2, ⟨_, rfl, Nat.zero_le _, F1, _, [], Ex.refl _, (I1.wipe vs).newL hD .nil, j0⟩, ?_⟩
  rintro i m H2 ⟨rfl, hi, F2, G2, acc, e2, I2, j2⟩
  by_cases hlt : i < ds.length
  · obtain ⟨d, hd'⟩ : ∃ d, ds[i]? = some d := ⟨_, List.getElem?_eq_getElem hlt⟩
    refine .inr ⟨((Y i H2 F2 e2 I2.ex).1 d hd').1, fun H => ∃ F2 G2 acc, Ex F1 F2 ∧ Iv K B (G2 ++ [.o none acc]) (L2.wipe S vs ++ [some (.ref D)]) F2 H ∧ J ds (i + 1) acc G2, fun H' p => ⟨ds.length - (i + 1), by omega, rfl, hlt, p⟩, fun x H3 y => ?_⟩
    obtain ⟨F3, e3, I3, hx⟩ := Y.turn e2 I2 hd' y
    obtain ⟨D', accv, mu, eD, hD3, ha3, Ia, back⟩ := I3.aside
    cases eD
    refine hs _ i acc G2 d hd' j2 _ F3 H3 x _ Ia hx fun S4 F4 H4 G4 e4 I4 l4 u4 q => ?_
    have ew : L2.wipe S4 vs = L2.wipe S vs := by
      rw [wipe_ext l4 fun k hk => u4 k fun z => hk (hsub k z)]
      exact wipe_ext (wipe_length S vs) fun k hk => wipe_ne hk
    refine ⟨ew, q S4 F4 H4 _ I4 fun b F5 H5 G5 e5 I5 q5 => ?_⟩
    cases b with
    | false =>
      show ∃ F2 G2 acc, Ex F1 F2 ∧ Iv K B (G2 ++ [.o none acc]) (L2.wipe S vs ++ [some (.ref D)]) F2 H5 ∧ J ds (i + 1) acc G2
      obtain ⟨_, I6⟩ := back _ _ _ _ (I5.wipe vs)
      rw [ew] at I6
      exact ⟨F5, _, acc, ((e2.trans e3).trans e4).trans e5, I6, q5⟩
    | true =>
      show te S4 H5 fun y H4 => ∃ acc, H4 D = some (.lst acc) ∧ acc.length < sizeLine ∧ (∃ F2 G2 acc', Ex F1 F2 ∧ Iv K B (G2 ++ [.o none acc']) (L2.wipe S vs ++ [some (.ref D)]) F2 (upd H4 D (.lst (acc ++ [y]))) ∧ J ds (i + 1) acc' G2)
      refine dw_run (k' := fun G5 w => ∃ y, w = .d y ∧ acc.length < sizeLine ∧ J ds (i + 1) (acc ++ [y]) (wipeG G5 vs)) q5 I5 fun v F6 H6 G6 w e6 I6 hv q6 => ?_
      obtain ⟨y, rfl, hz, j6⟩ := q6
      obtain ⟨hD6, I7⟩ := back _ _ _ _ (I6.wipe vs)
      rw [ew] at I7
      refine ⟨accv, hD6, by rw [da_len ha3]; exact hz, F6, _, acc ++ [y], (((e2.trans e3).trans e4).trans e5).trans e6, ?_, j6⟩
      have hl : (L2.wipe S vs).length = (wipeG G6 vs).length := by
        have := I7.len
        simpa using this
      have I8 := I7.mut (i := (wipeG G6 vs).length) (p := D) (q := none) (ds := acc) (ds' := acc ++ [y]) (vs' := accv ++ [v]) (by simp) (by rw [← hl]; simp) (da_app (da_mono ((e4.trans e5).trans e6) ha3) (.cons hv .nil))
      have eg : (wipeG G6 vs ++ [Sl.o none acc]).set (wipeG G6 vs).length (.o none (acc ++ [y])) = wipeG G6 vs ++ [.o none (acc ++ [y])] := by simp
      rw [eg] at I8
      exact I8
  · have e : i = ds.length := by omega
    subst e
    refine .inl ⟨(Y _ H2 F2 e2 I2.ex).2 rfl, ?_⟩
    have I3 : Iv K B (wipeG G2 vs ++ [.o none acc]) (S ++ [some (.ref D)]) F2 H2 := by
      obtain ⟨D', accv, mu, eD, hD3, ha3, Ia, back⟩ := I2.aside
      exact (back _ _ _ _ ((Ia.wipe vs).wiped (S := S) (by rw [wipe_length, wipe_length]) fun k hk => by rw [wipe_ne hk, wipe_ne hk])).2
    exact k (.ref D) F2 H2 (wipeG G2 vs) (.fr (.o none acc)) (e1.trans e2) I3 (hd acc G2 j2)
end
end DL
namespace DL
open PySem L2
/-! ### calls -/
def Rr (K : Fr) (ok : Addr → Prop) (F' H' : Hp) (v : V) : Rs → Prop
  | .p (.d d) => Dq K F' v d
  | .p (.sl _) => False
  | .p (.ty _) => False
  | .fr s => ∃ A, SvR K F' H' v A s ∧ ∀ a, A a → F' a = none ∧ H' a ≠ none ∧ ok a
/-- a def whose arguments are data -/
def sp0 (K : Fr) (pre : List PyData → Prop) (post : List PyData → Rs → Prop) : Sp := fun vs H Q _ => ∃ F ds, Ex F H ∧ DqAll K F vs ds ∧ pre ds ∧
  ∀ v F' H' r, Ex F F' → Ex F' H' → Ex H H' → (∀ b o, F' b = some o → F b = none → H b = none) → Rr K (fun a => H a = none) F' H' v r → post ds r → Q v H'
/-- .. whose first argument is an own list of the caller's, which it may change; the others are data; it gives data -/
def sp1 (K : Fr) (pre : List PyData → List PyData → Prop) (post : List PyData → List PyData → List PyData → PyData → Prop) : Sp := fun vs H Q _ => ∃ F p vs0 vr ls ds, vs = .ref p :: vr ∧ Ex F H ∧ F p = none ∧ H p = some (.lst vs0) ∧ DqAll K F vs0 ls ∧ DqAll K F vr ds ∧ pre ls ds ∧
  ∀ v F' H' vs' ls' d, Ex F F' → Ex F' H' → (∀ b o, H b = some o → b ≠ p → H' b = some o) → (∀ b o, F' b = some o → F b = none → H b = none) → F' p = none → H' p = some (.lst vs') → DqAll K F' vs' ls' → Dq K F' v d → post ls ds ls' d → Q v H'
section
variable {K : Fr} {B : Bs} {G : En} {P : Po} {t : TA} {E : XK}
theorem dw_call0 {pre : List PyData → Prop} {post : List PyData → Rs → Prop} (h : DA K B G t fun G1 ws => ∃ ds, allD ws = some ds ∧ pre ds ∧ ∀ r, post ds r → P G1 r) : DW K B G (tCall (sp0 K pre post) [] E t) P := fun S F H Q I k => by
  show t S H fun vs H1 => sp0 K pre post (vs ++ []) H1 Q E
  refine h S F H _ I fun vs F1 H1 G1 ws e1 I1 hv ⟨ds, hd, hp, q⟩ => ?_
  rw [List.append_nil]
  refine ⟨F1, ds, I1.ex, allD_ok hd hv, hp, fun v F2 H2 r a1 a2 a3 a4 a5 a6 => ?_⟩
  match r, a5, a6 with
  | .p (.d d), a5, a6 => exact k v F2 H2 G1 (.p (.d d)) (e1.trans a1) ⟨I1.grow a1 a3 a2 a4, a5⟩ (q _ a6)
  | .fr s, ⟨A, b1, b2⟩, a6 =>
    refine k v F2 H2 G1 (.fr s) (e1.trans a1) ?_ (q _ a6)
    exact I1.add a1 a3 a2 a4 (some v) A (.inr ⟨v, rfl, b1⟩) fun a ha => ⟨(b2 a ha).2.2, (b2 a ha).1, (b2 a ha).2.1⟩
theorem dw_call1 {pre : List PyData → List PyData → Prop} {post : List PyData → List PyData → List PyData → PyData → Prop} (h : DA K B G t fun G1 ws => ∃ i a ls wr ds, ws = .sl i :: wr ∧ allD wr = some ds ∧ G1[i]? = some (.o a ls) ∧ pre ls ds ∧ ∀ ls' d, post ls ds ls' d → P (G1.set i (.o a ls')) (.p (.d d))) :
    DW K B G (tCall (sp1 K pre post) [] E t) P := fun S F H Q I k => by
  show t S H fun vs H1 => sp1 K pre post (vs ++ []) H1 Q E
  refine h S F H _ I fun vs F1 H1 G1 ws e1 I1 hv ⟨i, a, ls, wr, ds, hw, hd, hi, hp, q⟩ => ?_
  subst hw
  rw [List.append_nil]
  cases hv with
  | @cons v0 _ vr _ hv0 hvr =>
  obtain ⟨A, h1, h2, h3⟩ := I1.own
  obtain ⟨u, z1, p, vs0, rfl, z2, z3, z4, z5⟩ : ∃ v, S[i]? = some (some v) ∧ SvR K F1 H1 v (A i) (.o a ls) := (h1 i _ hi).elim (fun z => by cases z) id
  have hv0 : S[i]? = some (some v0) := hv0
  rw [hv0] at z1
  cases z1
  obtain ⟨y1, y2, y3⟩ := h3 i p z4
  refine ⟨F1, p, vs0, vr, ls, ds, rfl, I1.ex, y1, z2, z3, allD_ok hd hvr, hp, fun v F2 H2 vs' ls' d a1 a2 a3 a4 a5 a6 a7 a8 a9 => ?_⟩
  refine k v F2 H2 (G1.set i (.o a ls')) (.p (.d d)) (e1.trans a1) ⟨?_, a8⟩ (q ls' d a9)
  have own : ∀ j b, A j b → F2 b = none ∧ H2 b ≠ none ∧ (j ≠ i → H2 b = H1 b) := fun j b hb => by
    obtain ⟨x, y, z⟩ := h3 j b hb
    refine ⟨?_, ?_, fun hj => ?_⟩
    · cases q : F2 b with
      | none => rfl
      | some o => exact absurd (a4 b o q x) y
    · by_cases hbp : b = p
      · rw [hbp, a6]
        exact fun z => by cases z
      · cases q : H1 b with
        | none => exact absurd q y
        | some o =>
          rw [a3 b o q hbp]
          exact fun z => by cases z
    · cases q : H1 b with
      | none => exact absurd q y
      | some o =>
        refine a3 b o q fun e => ?_
        subst e
        exact hj (h2 _ _ _ hb z4)
  refine ⟨a2, I1.f0.trans a1, fun b o hb hm => ?_, fun b o hb hn => ?_, fun b hb => ?_, by simpa using I1.len, A, fun j s2 hj => ?_, h2, fun j b hb => ⟨(own j b hb).1, (own j b hb).2.1, (h3 j b hb).2.2⟩⟩
  · refine a3 b o (I1.fr b o hb hm) fun e => ?_
    subst e
    rcases y3 with z | z
    · rw [hb] at z
      cases z
    · exact hm z
  · cases q : F1 b with
    | some u => exact I1.nw b u q hn
    | none => exact absurd (I1.new0 (a4 b o hb q)) hn
  · have := I1.st b hb
    by_cases hbp : b = p
    · rw [hbp, a6]
      exact fun z => by cases z
    · cases q : H1 b with
      | none => exact absurd q this
      | some o =>
        rw [a3 b o q hbp]
        exact fun z => by cases z
  · by_cases e : i = j
    · subst e
      obtain ⟨rfl, _⟩ := set_same hj
      exact .inr ⟨_, hv0, p, vs', rfl, a6, a7, z4, z5⟩
    · rw [List.getElem?_set_ne e] at hj
      rcases h1 j s2 hj with z | ⟨u, x1, x2⟩
      · exact .inl z
      · exact .inr ⟨u, x1, slr_stab x2 a1 fun b hb => (own j b hb).2.2 (Ne.symm e)⟩
end

/-! ### a def's body -/
def G0 (N : List Str) (ds : List PyData) : En := ds.map Sl.d ++ List.replicate (N.length - ds.length) .un
def G1 (N : List Str) (p : Addr) (ls ds : List PyData) : En := .o (some p) ls :: (ds.map Sl.d ++ List.replicate (N.length - (ds.length + 1)) .un)
def Ret0 (p : Rs → Prop) (G : En) : Rs → Prop
  | .p (.d d) => p (.p (.d d))
  | .p (.sl i) => ∃ a ds, G[i]? = some (.o a ds) ∧ p (.fr (.o none ds))
  | .p (.ty _) => False
  | .fr s => s ≠ .un ∧ p (.fr s)
def E0 (p : Rs → Prop) : De := { nx := fun _ => p (.p (.d .none)), rt := fun G r => Ret0 p G r }
def E1 (a : Addr) (p : List PyData → PyData → Prop) : De := { nx := fun G => ∃ ls, G[0]? = some (.o (some a) ls) ∧ p ls .none, rt := fun G r => PW r fun w => ∃ d ls, w = .d d ∧ G[0]? = some (.o (some a) ls) ∧ p ls d }
theorem start_iv {K : Fr} {F H : Hp} {N : List Str} {vs : List V} {ds : List PyData} (ex : Ex F H) (h : DqAll K F vs ds) (hl : ds.length ≤ N.length) : Iv K ⟨F, H, fun _ => False⟩ (G0 N ds) (L2.start N vs) F H := by
  refine ⟨ex, Ex.refl _, fun b o h _ => h, fun b o h _ => .inl (nn h), fun b h => h, by simp [L2.start, G0, da_len h], fun _ _ => False, fun i s hi => ?_, fun _ _ _ x => x.elim, fun _ _ x => x.elim⟩
  have hd := da_len h
  by_cases hlt : i < ds.length
  · have e : s = .d ds[i] := by
      unfold G0 at hi
      rw [List.getElem?_append_left (by simpa using hlt), List.getElem?_map, List.getElem?_eq_getElem hlt] at hi
      exact (Option.some.inj hi).symm
    obtain ⟨v, h1, h2⟩ := da_get h (List.getElem?_eq_getElem hlt)
    subst e
    refine .inr ⟨v, ?_, h2⟩
    unfold L2.start
    rw [List.getElem?_append_left (by rw [List.length_map, hd]; exact hlt), List.getElem?_map, h1]
    rfl
  · refine .inl ?_
    unfold G0 at hi
    rw [List.getElem?_append_right (by simpa using Nat.le_of_not_lt hlt)] at hi
    simp only [List.getElem?_replicate] at hi
    split at hi
    · exact (Option.some.inj hi).symm
    · cases hi
section
variable {P : Program} {w : World} {K : Fr} {mg : Str → Option Value} {base : Heap} {x qual : Str} {st : Stmt} {f : Addr} {fd : FuncData} {N ps : List Str} {k : Nat}
theorem fn0 {pre : List PyData → Prop} {post : List PyData → Rs → Prop} (F : Fun K x qual st f fd) (S : FnScope N ps (defScope st)) (hl : ∀ ds, pre ds → ds.length = ps.length ∧ ds.length ≤ N.length)
    (hb : ∀ (cdv : Value) (A : Around) (outer : List Env) (s : Shared) (H : Hp) (E : XK), Room k (A.deeper (PyProof.Rows.envOfC qual (defScope st) s.heap.objs.size f cdv)) → ∃ t, PSs (cxOf CX0 P w K mg base N qual (defScope st) f cdv A outer s H E).nox (defBody st) t ∧
      ∀ ds, pre ds → ∀ B, DS K B (G0 N ds) t (E0 (post ds))) : FnOk P w K mg base CX0 (k + 1) f fd ps (sp0 K pre post) := by
  refine F.ok S (fun vs H Q E h => ?_) (fun cdv A outer s H vs Q E hr h => ?_)
  · obtain ⟨F, ds, _, h1, h2, _⟩ := h
    rw [da_len h1]
    exact (hl ds h2).1
  · obtain ⟨F0, ds, ex, h1, h2, q⟩ := h
    obtain ⟨t, ht, hs⟩ := hb cdv A outer s H E hr
    refine ⟨t, ht, ?_⟩
    have I0 := start_iv (N := N) ex h1 (hl ds h2).2
    have out : ∀ {G' : En} {S' : St} {F' H' : Hp}, Iv K ⟨F0, H, fun _ => False⟩ G' S' F' H' → Ex H H' ∧ ∀ b o, F' b = some o → F0 b = none → H b = none := fun {G' S' F' H'} J => ⟨fun b o h => J.fr b o h id, fun b o h n => by
      cases z : H b with
      | none => rfl
      | some u =>
        rcases J.nw b o h (nn z) with y | y
        · exact absurd n y
        · exact y.elim⟩
    refine hs ds h2 _ _ F0 H _ I0 ⟨fun S F H' G e J p => ?_, fun S F H' G v r e J p => ?_, fun _ _ _ _ _ _ z => z.elim, fun _ _ _ _ _ _ z => z.elim⟩
    · exact q .non F H' (.p (.d .none)) e J.ex (out J).1 (out J).2 .non p
    · match r, J, p with
      | .p (.d d), J, p => exact q v F H' (.p (.d d)) e J.1.ex (out J.1).1 (out J.1).2 J.2 p
      | .p (.sl i), J, ⟨a, ds', hi, p⟩ =>
        obtain ⟨A, a1, a2, a3⟩ := J.1.own
        obtain ⟨u, z1, c, vs', z2, z3, z4, z5, _⟩ : ∃ v, S[i]? = some (some v) ∧ SvR K F H' v (A i) (.o a ds') := (a1 i _ hi).elim (fun z => by cases z) id
        have hv : S[i]? = some (some v) := J.2
        rw [hv] at z1
        cases z1
        exact q v F H' (.fr (.o none ds')) e J.1.ex (out J.1).1 (out J.1).2 ⟨A i, ⟨c, vs', z2, z3, z4, z5, fun _ z => by cases z⟩, fun a ha => ⟨(a3 i a ha).1, (a3 i a ha).2.1, (a3 i a ha).2.2.elim id False.elim⟩⟩ p
      | .fr s, J, ⟨hu, p⟩ =>
        obtain ⟨A, a1, a2, a3⟩ := J.own
        have J' := Iv.drop J
        obtain ⟨u, z1, z2⟩ : ∃ v', (S ++ [some v])[G.length]? = some (some v') ∧ SvR K F H' v' (A G.length) s := (a1 G.length s (by simp)).elim (fun z => absurd z hu) id
        have hv : (S ++ [some v])[G.length]? = some (some v) := by
          rw [← J'.len]
          simp
        rw [hv] at z1
        cases z1
        exact q v F H' (.fr s) e J'.ex (out J').1 (out J').2 ⟨_, z2, fun a ha => ⟨(a3 _ a ha).1, (a3 _ a ha).2.1, (a3 _ a ha).2.2.elim id False.elim⟩⟩ p
theorem fn1 {pre : List PyData → List PyData → Prop} {post : List PyData → List PyData → List PyData → PyData → Prop} (F : Fun K x qual st f fd) (S : FnScope N ps (defScope st)) (hl : ∀ ls ds, pre ls ds → ds.length + 1 = ps.length ∧ ds.length + 1 ≤ N.length)
    (hb : ∀ (cdv : Value) (A : Around) (outer : List Env) (s : Shared) (H : Hp) (E : XK), Room k (A.deeper (PyProof.Rows.envOfC qual (defScope st) s.heap.objs.size f cdv)) → ∃ t, PSs (cxOf CX0 P w K mg base N qual (defScope st) f cdv A outer s H E).nox (defBody st) t ∧
      ∀ p ls ds, pre ls ds → ∀ B, DS K B (G1 N p ls ds) t (E1 p (post ls ds))) : FnOk P w K mg base CX0 (k + 1) f fd ps (sp1 K pre post) := by
  refine F.ok S (fun vs H Q E h => ?_) (fun cdv A outer s H vs Q E hr h => ?_)
  · obtain ⟨F, p, vs0, vr, ls, ds, rfl, _, _, _, _, h1, h2, _⟩ := h
    rw [List.length_cons, da_len h1]
    exact (hl ls ds h2).1
  · obtain ⟨F0, p, vs0, vr, ls, ds, rfl, ex, hF, hH, h0, h1, h2, q⟩ := h
    obtain ⟨t, ht, hs⟩ := hb cdv A outer s H E hr
    refine ⟨t, ht, ?_⟩
    obtain ⟨_, hN⟩ := hl ls ds h2
    have I0 : Iv K ⟨F0, H, fun a => a = p⟩ (G1 N p ls ds) (L2.start N (.ref p :: vr)) F0 H := by
      have J := start_iv (N := N.drop 1) ex h1 (by rw [List.length_drop]; omega)
      have eG : G1 N p ls ds = .o (some p) ls :: G0 (N.drop 1) ds := by
        unfold G1 G0
        rw [List.length_drop, show N.length - 1 - ds.length = N.length - (ds.length + 1) by omega]
      have eS : L2.start N (.ref p :: vr) = some (.ref p) :: L2.start (N.drop 1) vr := by
        unfold L2.start
        rw [List.length_drop, List.length_cons, show N.length - 1 - vr.length = N.length - (vr.length + 1) by omega]
        rfl
      rw [eG, eS]
      obtain ⟨A, a1, a2, a3⟩ := J.own
      refine ⟨ex, Ex.refl _, fun b o h _ => h, fun b o h _ => .inl (nn h), fun b h => h, congrArg (· + 1) J.len, fun j a => j = 0 ∧ a = p, fun i s hi => ?_, fun i j a x y => by rw [x.1, y.1], fun i a x => ?_⟩
      · cases i with
        | zero =>
          simp at hi
          subst hi
          exact .inr ⟨.ref p, rfl, p, vs0, rfl, hH, h0, ⟨rfl, rfl⟩, fun a z => Option.some.inj z⟩
        | succ i =>
          have hi' : (G0 (N.drop 1) ds)[i]? = some s := by simpa using hi
          by_cases hlt : i < ds.length
          · have e : s = .d ds[i] := by
              unfold G0 at hi'
              rw [List.getElem?_append_left (by simpa using hlt), List.getElem?_map, List.getElem?_eq_getElem hlt] at hi'
              exact (Option.some.inj hi').symm
            subst e
            rcases a1 i _ hi' with z | ⟨u, z1, z2⟩
            · cases z
            · exact .inr ⟨u, by simpa using z1, z2⟩
          · refine .inl ?_
            unfold G0 at hi'
            rw [List.getElem?_append_right (by simpa using Nat.le_of_not_lt hlt)] at hi'
            simp only [List.getElem?_replicate] at hi'
            split at hi'
            · exact (Option.some.inj hi').symm
            · cases hi'
      · obtain ⟨_, rfl⟩ := x
        exact ⟨hF, (by rw [hH]; exact fun z => by cases z), .inr rfl⟩
    have fin : ∀ {G' : En} {S' : St} {F' H' : Hp} {v : V} {d : PyData} {ls' : List PyData}, Iv K ⟨F0, H, fun a => a = p⟩ G' S' F' H' → Ex F0 F' → Dq K F' v d → G'[0]? = some (.o (some p) ls') → post ls ds ls' d → Q v H' := fun {G' S' F' H' v d ls'} J e hd hi p1 => by
      obtain ⟨A, a1, a2, a3⟩ := J.own
      obtain ⟨u, z1, c, vs', z2, z3, z4, z5, z6⟩ : ∃ v, S'[0]? = some (some v) ∧ SvR K F' H' v (A 0) (.o (some p) ls') := (a1 0 _ hi).elim (fun z => by cases z) id
      have ec : c = p := z6 p rfl
      subst ec
      refine q v F' H' vs' ls' d e J.ex (fun b o hb hn => J.fr b o hb hn) (fun b o hb hn => ?_) (a3 0 c z5).1 z3 z4 hd p1
      cases z : H b with
      | none => rfl
      | some u =>
        rcases J.nw b o hb (nn z) with y | y
        · exact absurd hn y
        · have y : b = c := y
          subst y
          rw [(a3 0 b z5).1] at hb
          cases hb
    refine hs p ls ds h2 _ _ F0 H _ I0 ⟨fun S F H' G e J p => ?_, fun S F H' G v r e J p => ?_, fun _ _ _ _ _ _ z => z.elim, fun _ _ _ _ _ _ z => z.elim⟩
    · obtain ⟨ls', hi, p1⟩ := p
      exact fin J e .non hi p1
    · obtain ⟨F', w, e', I', hv, d, ls', rfl, hi, p1⟩ := pw_ok J p
      exact fin I' (e.trans e') hv hi p1
end
end DL
namespace DL
open PySem L2
/-! ### what a view tells, read only -/
def slD : Option Sl → Option PyData
  | some (.o _ ds) => some (.list ds)
  | _ => none
theorem slD_of : ∀ {s : Option Sl} {d : PyData}, slD s = some d → ∃ a ds, s = some (.o a ds) ∧ d = .list ds
  | some (.o a ds), _, h => ⟨a, ds, rfl, (Option.some.inj h).symm⟩
def wd (G : En) : W → Option PyData
  | .d d => some d
  | .sl i => slD G[i]?
  | .ty _ => none
section
variable {K : Fr} {B : Bs} {G : En} {S : St} {F H : Hp} {v : V} {w : W} {d : PyData}
theorem wd_sl {i : Nat} {a : Option Addr} {ds : List PyData} (h : G[i]? = some (.o a ds)) : wd G (.sl i) = some (.list ds) := by
  show slD G[i]? = _
  rw [h]
  rfl
/-- a list (own, or data): where it stands, its items frozen -/
theorem wd_list {ds : List PyData} (I : Iv K B G S F H) (hv : Vw K S F v w) (h : wd G w = some (.list ds)) : ∃ p vs, v = .ref p ∧ H p = some (.lst vs) ∧ DqAll K F vs ds := by
  match w, hv, h with
  | .d e, hv, h =>
    cases h
    obtain ⟨p, vs, e, h1, h2⟩ := dp_lst hv
    exact ⟨p, vs, e, I.ex _ _ h1, h2⟩
  | .sl i, hv, h =>
    obtain ⟨a, ds', hi, e⟩ := slD_of h
    cases e
    obtain ⟨p, vs, e, h1, h2, h3⟩ := I.lst hi
    have hv : S[i]? = some (some v) := hv
    rw [e] at hv
    cases hv
    exact ⟨p, vs, rfl, h1, h3⟩
theorem wd_dq (I : Iv K B G S F H) (hv : Vw K S F v w) (h : wd G w = some d) : Dq K H v d := by
  match w, hv, h with
  | .d e, hv, h =>
    cases h
    exact dp_mono I.ex hv
  | .sl i, hv, h =>
    obtain ⟨a, ds', hi, e⟩ := slD_of h
    subst e
    obtain ⟨p, vs, rfl, h1, h3⟩ := wd_list I hv h
    exact .lst h1 (da_mono I.ex h3)
end
/-! ### operators -/
section
variable {X : Cx}
abbrev rEQ (K : Fr) : R2 := fun x y H Q => rEqD K x y H Q ∨ rEq x y H Q
abbrev rNE (K : Fr) : R2 := fun x y H Q => rNeD K x y H Q ∨ rNe x y H Q
theorem opEQ (hu : X.A.units + 64 < cLine) : OpR X (compareOp .Eq) (rEQ X.K) := (op_eqD hu).or op_eq
theorem opNE (hu : X.A.units + 64 < cLine) : OpR X (compareOp .NotEq) (rNE X.K) := (op_neD hu).or op_ne
abbrev rStrCat : R2 := fun x y H Q => ∃ i j, x = .str i ∧ y = .str j ∧ i.length + j.length ≤ sizeLine ∧ Q (.str (i ++ j)) H
abbrev rADD (K : Fr) : R2 := fun x y H Q => rI0 (fun i j => .int (i + j)) x y H Q ∨ rStrCat x y H Q ∨ rCat x y H Q ∨ rCatA K x y H Q
theorem opADD : OpR X (binaryOp .Add) (rADD X.K) := op_add.or (op_add_str.or (op_cat.or op_catA))
/-- x in t: a tuple of data -/
def rInT (K : Fr) : R2 := fun x y H Q => ∃ d ds, L2.Dp K H x d ∧ L2.Dp K H y (.tuple ds) ∧ SeqAt.shaped d = true ∧ SeqAt.shaped (.tuple ds) = true ∧ Q (.bl (ds.any fun z => PyData.eqv z d)) H
def rNotInT (K : Fr) : R2 := fun x y H Q => ∃ d ds, L2.Dp K H x d ∧ L2.Dp K H y (.tuple ds) ∧ SeqAt.shaped d = true ∧ SeqAt.shaped (.tuple ds) = true ∧ Q (.bl (!ds.any fun z => PyData.eqv z d)) H
theorem op_inT (hu : X.A.units + 65 < cLine) : OpR X (compareOp .In) (rInT X.K) := by
  intro pins s σ H x y v u Q I rx ry h
  obtain ⟨d, ds, hd, he, sd, se, q⟩ := h
  obtain ⟨as, r1⟩ := L2.Dp.reads I d x v hd rx
  obtain ⟨bs, r2⟩ := L2.Dp.reads I (.tuple ds) y u he ry
  exact SeqAt.in_tuple_reads r2 r1 (SeqAt.canLay_of_shaped se) (SeqAt.canLay_of_shaped sd) (PyProof.Rows.room_in_shaped sd hu) ⟨.bl _, H, I, rfl, q⟩
theorem op_notInT (hu : X.A.units + 65 < cLine) : OpR X (compareOp .NotIn) (rNotInT X.K) := by
  intro pins s σ H x y v u Q I rx ry h
  obtain ⟨d, ds, hd, he, sd, se, q⟩ := h
  obtain ⟨as, r1⟩ := L2.Dp.reads I d x v hd rx
  obtain ⟨bs, r2⟩ := L2.Dp.reads I (.tuple ds) y u he ry
  exact SeqAt.notIn_tuple_reads r2 r1 (SeqAt.canLay_of_shaped se) (SeqAt.canLay_of_shaped sd) (PyProof.Rows.room_in_shaped sd hu) ⟨.bl _, H, I, rfl, q⟩
abbrev rInS : R2 := fun x y H Q => ∃ (c : Nat) (z : Str), x = .str ⟨#[c]⟩ ∧ y = .str z ∧ Q (.bl (decide (c ∈ z.cps.toList))) H
abbrev rNotInS : R2 := fun x y H Q => ∃ (c : Nat) (z : Str), x = .str ⟨#[c]⟩ ∧ y = .str z ∧ Q (.bl (!decide (c ∈ z.cps.toList))) H
abbrev rIN (K : Fr) : R2 := fun x y H Q => rInD K x y H Q ∨ rInT K x y H Q ∨ rInS x y H Q
abbrev rNI (K : Fr) : R2 := fun x y H Q => rNotInD K x y H Q ∨ rNotInT K x y H Q ∨ rNotInS x y H Q
theorem opIN (hu : X.A.units + 65 < cLine) : OpR X (compareOp .In) (rIN X.K) := (op_inD hu).or ((op_inT hu).or op_in_sign)
theorem opNI (hu : X.A.units + 65 < cLine) : OpR X (compareOp .NotIn) (rNI X.K) := (op_notInD hu).or ((op_notInT hu).or op_notIn_sign)
abbrev rSLC (K : Fr) : V → Option Int → Option Int → Hp → VK → Prop := fun x lo hi H Q => rSlL K x lo hi H Q ∨ rSlA K x lo hi H Q ∨ rSlS x lo hi H Q
theorem slANY : L2.SlR X (rSLC X.K) := sl_list.or (sl_tupA.or sl_str)
end
def mkS (l : List Nat) : Str := ⟨l.toArray⟩
theorem mkS_cat (a b : List Nat) : mkS a ++ mkS b = mkS (a ++ b) := by
  show (⟨a.toArray ++ b.toArray⟩ : Str) = ⟨(a ++ b).toArray⟩
  simp
theorem mkS_len (a : List Nat) : (mkS a).length = a.length := by simp [mkS, Str.length]
theorem mkS_inj {a b : List Nat} : mkS a = mkS b ↔ a = b := by
  refine ⟨fun h => ?_, fun h => by rw [h]⟩
  have : a.toArray = b.toArray := congrArg Str.cps h
  simpa using congrArg Array.toList this
theorem mkS_of (x : Str) : mkS x.cps.toList = x := by
  cases x
  simp [mkS]
section
variable {K : Fr} {B : Bs} {G : En} {P : Po} {w1 w2 : W}
theorem rw_addI {i j : Int} (q : P G (.p (.d (.int (i + j))))) : RW2 K B G (rADD K) (.d (.int i)) (.d (.int j)) P := fun S F H Q v1 v2 I h1 h2 k => .inl ⟨i, j, dp_int h1, dp_int h2, ct_d k I (.int _) q⟩
theorem rw_addS {a b : List Nat} (hz : a.length + b.length ≤ sizeLine) (q : P G (.p (.d (.str (mkS (a ++ b)))))) : RW2 K B G (rADD K) (.d (.str (mkS a))) (.d (.str (mkS b))) P := fun S F H Q v1 v2 I h1 h2 k => .inr (.inl ⟨mkS a, mkS b, dp_str h1, dp_str h2, by rw [mkS_len, mkS_len]; exact hz, by rw [mkS_cat]; exact ct_d k I (.str _) q⟩)
theorem rw_addL {ds es : List PyData} (e1 : wd G w1 = some (.list ds)) (e2 : wd G w2 = some (.list es)) (hz : ds.length + es.length ≤ sizeLine) (q : P G (.fr (.o none (ds ++ es)))) : RW2 K B G (rADD K) w1 w2 P := fun S F H Q v1 v2 I h1 h2 k => by
  obtain ⟨p, vs, rfl, hp, ha⟩ := wd_list I h1 e1
  obtain ⟨p', vs', rfl, hp', ha'⟩ := wd_list I h2 e2
  exact .inr (.inr (.inl ⟨p, p', vs, vs', rfl, rfl, hp, hp', by rw [da_len ha, da_len ha']; exact hz, fun c hc => ct_L k I hc (da_app ha ha') q⟩))
theorem rw_addT {ds es : List PyData} (hz : ds.length + es.length ≤ sizeLine) (q : P G (.p (.d (.tuple (ds ++ es))))) : RW2 K B G (rADD K) (.d (.tuple ds)) (.d (.tuple es)) P := fun S F H Q v1 v2 I h1 h2 k => by
  obtain ⟨p, vs, rfl, hp, ha⟩ := dp_tup h1
  obtain ⟨p', vs', rfl, hp', ha'⟩ := dp_tup h2
  refine .inr (.inr (.inr ⟨p, p', vs, vs', rfl, rfl, SqT.of (I.ex _ _ hp), SqT.of (I.ex _ _ hp'), by rw [da_len ha, da_len ha']; exact hz, fun e => ?_, fun e1 e2 => ?_, fun e1 e2 c hc => ct_T k I hc (da_app ha ha') q⟩))
  · subst e
    cases ha
    exact ct_d k I (.tup hp' ha') q
  · subst e2
    cases ha'
    rw [List.append_nil] at q
    exact ct_d k I (.tup hp ha) q
theorem rw_sub {i j : Int} (q : P G (.p (.d (.int (i - j))))) : RW2 K B G (rI0 fun i j => .int (i - j)) (.d (.int i)) (.d (.int j)) P := fun S F H Q v1 v2 I h1 h2 k => ⟨i, j, dp_int h1, dp_int h2, ct_d k I (.int _) q⟩
theorem rw_mul {i j : Int} (hc : CMul i j) (q : P G (.p (.d (.int (i * j))))) : RW2 K B G (rI CMul fun i j => .int (i * j)) (.d (.int i)) (.d (.int j)) P := fun S F H Q v1 v2 I h1 h2 k => ⟨i, j, dp_int h1, dp_int h2, hc, ct_d k I (.int _) q⟩
theorem rw_fdiv {i j : Int} (hc : CDiv i j) (q : P G (.p (.d (.int (i / j))))) : RW2 K B G (rI CDiv fun i j => .int (i / j)) (.d (.int i)) (.d (.int j)) P := fun S F H Q v1 v2 I h1 h2 k => ⟨i, j, dp_int h1, dp_int h2, hc, ct_d k I (.int _) q⟩
theorem rw_mod {i j : Int} (hc : 0 < j) (q : P G (.p (.d (.int (i % j))))) : RW2 K B G (rI (fun _ j => 0 < j) fun i j => .int (i % j)) (.d (.int i)) (.d (.int j)) P := fun S F H Q v1 v2 I h1 h2 k => ⟨i, j, dp_int h1, dp_int h2, hc, ct_d k I (.int _) q⟩
theorem rw_pow {i j : Int} (hc : CPow i j) (q : P G (.p (.d (.int (i ^ j.toNat))))) : RW2 K B G (rI CPow fun i j => .int (i ^ j.toNat)) (.d (.int i)) (.d (.int j)) P := fun S F H Q v1 v2 I h1 h2 k => ⟨i, j, dp_int h1, dp_int h2, hc, ct_d k I (.int _) q⟩
theorem rw_cmp {i j : Int} {g : Int → Int → Bool} (q : P G (.p (.d (.bool (g i j))))) : RW2 K B G (rI0 fun i j => .bl (g i j)) (.d (.int i)) (.d (.int j)) P := fun S F H Q v1 v2 I h1 h2 k => ⟨i, j, dp_int h1, dp_int h2, ct_d k I (.bl _) q⟩
theorem rw_eqI {i j : Int} (q : P G (.p (.d (.bool (decide (i = j)))))) : RW2 K B G (rEQ K) (.d (.int i)) (.d (.int j)) P := fun S F H Q v1 v2 I h1 h2 k => by
  obtain rfl := dp_int h1
  obtain rfl := dp_int h2
  refine .inr ⟨rfl, ct_d k I (.bl _) ?_⟩
  rw [show decide (V.int i = V.int j) = decide (i = j) from decide_eq_decide.mpr ⟨fun z => V.int.inj z, fun z => by rw [z]⟩]
  exact q
theorem rw_neI {i j : Int} (q : P G (.p (.d (.bool (!decide (i = j)))))) : RW2 K B G (rNE K) (.d (.int i)) (.d (.int j)) P := fun S F H Q v1 v2 I h1 h2 k => by
  obtain rfl := dp_int h1
  obtain rfl := dp_int h2
  refine .inr ⟨rfl, ct_d k I (.bl _) ?_⟩
  rw [show decide (V.int i = V.int j) = decide (i = j) from decide_eq_decide.mpr ⟨fun z => V.int.inj z, fun z => by rw [z]⟩]
  exact q
theorem rw_eqS {i j : Str} (q : P G (.p (.d (.bool (decide (i = j)))))) : RW2 K B G (rEQ K) (.d (.str i)) (.d (.str j)) P := fun S F H Q v1 v2 I h1 h2 k => by
  obtain rfl := dp_str h1
  obtain rfl := dp_str h2
  refine .inr ⟨rfl, ct_d k I (.bl _) ?_⟩
  rw [show decide (V.str i = V.str j) = decide (i = j) from decide_eq_decide.mpr ⟨fun z => V.str.inj z, fun z => by rw [z]⟩]
  exact q
theorem rw_neS {i j : Str} (q : P G (.p (.d (.bool (!decide (i = j)))))) : RW2 K B G (rNE K) (.d (.str i)) (.d (.str j)) P := fun S F H Q v1 v2 I h1 h2 k => by
  obtain rfl := dp_str h1
  obtain rfl := dp_str h2
  refine .inr ⟨rfl, ct_d k I (.bl _) ?_⟩
  rw [show decide (V.str i = V.str j) = decide (i = j) from decide_eq_decide.mpr ⟨fun z => V.str.inj z, fun z => by rw [z]⟩]
  exact q
theorem rw_eqB {i j : Bool} (q : P G (.p (.d (.bool (decide (i = j)))))) : RW2 K B G (rEQ K) (.d (.bool i)) (.d (.bool j)) P := fun S F H Q v1 v2 I h1 h2 k => by
  obtain rfl := dp_bl h1
  obtain rfl := dp_bl h2
  refine .inr ⟨rfl, ct_d k I (.bl _) ?_⟩
  rw [show decide (V.bl i = V.bl j) = decide (i = j) from decide_eq_decide.mpr ⟨fun z => V.bl.inj z, fun z => by rw [z]⟩]
  exact q
theorem rw_neB {i j : Bool} (q : P G (.p (.d (.bool (!decide (i = j)))))) : RW2 K B G (rNE K) (.d (.bool i)) (.d (.bool j)) P := fun S F H Q v1 v2 I h1 h2 k => by
  obtain rfl := dp_bl h1
  obtain rfl := dp_bl h2
  refine .inr ⟨rfl, ct_d k I (.bl _) ?_⟩
  rw [show decide (V.bl i = V.bl j) = decide (i = j) from decide_eq_decide.mpr ⟨fun z => V.bl.inj z, fun z => by rw [z]⟩]
  exact q
theorem rw_eqD {d e : PyData} (e1 : wd G w1 = some d) (e2 : wd G w2 = some e) (s1 : SeqAt.shaped d = true) (s2 : SeqAt.shaped e = true) (q : P G (.p (.d (.bool (PyData.eqv d e))))) : RW2 K B G (rEQ K) w1 w2 P := fun S F H Q v1 v2 I h1 h2 k =>
  .inl ⟨d, e, dq_dp (wd_dq I h1 e1), dq_dp (wd_dq I h2 e2), s1, s2, ct_d k I (.bl _) q⟩
theorem rw_neD {d e : PyData} (e1 : wd G w1 = some d) (e2 : wd G w2 = some e) (s1 : SeqAt.shaped d = true) (s2 : SeqAt.shaped e = true) (q : P G (.p (.d (.bool (!PyData.eqv d e))))) : RW2 K B G (rNE K) w1 w2 P := fun S F H Q v1 v2 I h1 h2 k =>
  .inl ⟨d, e, dq_dp (wd_dq I h1 e1), dq_dp (wd_dq I h2 e2), s1, s2, ct_d k I (.bl _) q⟩
theorem rw_inL {d : PyData} {ds : List PyData} (e1 : wd G w1 = some d) (e2 : wd G w2 = some (.list ds)) (s1 : SeqAt.shaped d = true) (s2 : SeqAt.shaped (.list ds) = true) (q : P G (.p (.d (.bool (ds.any fun z => PyData.eqv z d))))) : RW2 K B G (rIN K) w1 w2 P := fun S F H Q v1 v2 I h1 h2 k =>
  .inl ⟨d, ds, dq_dp (wd_dq I h1 e1), dq_dp (wd_dq I h2 e2), s1, s2, ct_d k I (.bl _) q⟩
theorem rw_niL {d : PyData} {ds : List PyData} (e1 : wd G w1 = some d) (e2 : wd G w2 = some (.list ds)) (s1 : SeqAt.shaped d = true) (s2 : SeqAt.shaped (.list ds) = true) (q : P G (.p (.d (.bool (!ds.any fun z => PyData.eqv z d))))) : RW2 K B G (rNI K) w1 w2 P := fun S F H Q v1 v2 I h1 h2 k =>
  .inl ⟨d, ds, dq_dp (wd_dq I h1 e1), dq_dp (wd_dq I h2 e2), s1, s2, ct_d k I (.bl _) q⟩
theorem rw_inT {d : PyData} {ds : List PyData} (e1 : wd G w1 = some d) (s1 : SeqAt.shaped d = true) (s2 : SeqAt.shaped (.tuple ds) = true) (q : P G (.p (.d (.bool (ds.any fun z => PyData.eqv z d))))) : RW2 K B G (rIN K) w1 (.d (.tuple ds)) P := fun S F H Q v1 v2 I h1 h2 k =>
  .inr (.inl ⟨d, ds, dq_dp (wd_dq I h1 e1), dq_dp (dp_mono I.ex h2), s1, s2, ct_d k I (.bl _) q⟩)
theorem rw_niT {d : PyData} {ds : List PyData} (e1 : wd G w1 = some d) (s1 : SeqAt.shaped d = true) (s2 : SeqAt.shaped (.tuple ds) = true) (q : P G (.p (.d (.bool (!ds.any fun z => PyData.eqv z d))))) : RW2 K B G (rNI K) w1 (.d (.tuple ds)) P := fun S F H Q v1 v2 I h1 h2 k =>
  .inr (.inl ⟨d, ds, dq_dp (wd_dq I h1 e1), dq_dp (dp_mono I.ex h2), s1, s2, ct_d k I (.bl _) q⟩)
theorem rw_inS {c : Nat} {z : List Nat} (q : P G (.p (.d (.bool (decide (c ∈ z)))))) : RW2 K B G (rIN K) (.d (.str (mkS [c]))) (.d (.str (mkS z))) P := fun S F H Q v1 v2 I h1 h2 k =>
  .inr (.inr ⟨c, mkS z, dp_str h1, dp_str h2, ct_d k I (.bl _) q⟩)
theorem rw_niS {c : Nat} {z : List Nat} (q : P G (.p (.d (.bool (!decide (c ∈ z)))))) : RW2 K B G (rNI K) (.d (.str (mkS [c]))) (.d (.str (mkS z))) P := fun S F H Q v1 v2 I h1 h2 k =>
  .inr (.inr ⟨c, mkS z, dp_str h1, dp_str h2, ct_d k I (.bl _) q⟩)
/-! is -/
def isNone : PyData → Bool
  | .none => true
  | _ => false
theorem dq_isN {H : Hp} {v : V} {d : PyData} (h : Dq K H v d) : decide (v = .non) = isNone d := by
  cases h <;> rfl
theorem rw_isN {d : PyData} (e1 : wd G w1 = some d) (q : P G (.p (.d (.bool (isNone d))))) : RW2 K B G (fun x y H Q => y = .non ∧ Q (.bl (decide (x = .non))) H) w1 (.d .none) P := fun S F H Q v1 v2 I h1 h2 k =>
  ⟨dp_non h2, by rw [dq_isN (wd_dq I h1 e1)]; exact ct_d k I (.bl _) q⟩
theorem rw_notN {d : PyData} (e1 : wd G w1 = some d) (q : P G (.p (.d (.bool (!isNone d))))) : RW2 K B G (fun x y H Q => y = .non ∧ Q (.bl (!decide (x = .non))) H) w1 (.d .none) P := fun S F H Q v1 v2 I h1 h2 k =>
  ⟨dp_non h2, by rw [dq_isN (wd_dq I h1 e1)]; exact ct_d k I (.bl _) q⟩
theorem rw_isB {a b : Bool} (q : P G (.p (.d (.bool (decide (a = b)))))) : RW2 K B G rIsB (.d (.bool a)) (.d (.bool b)) P := fun S F H Q v1 v2 I h1 h2 k => ⟨a, b, dp_bl h1, dp_bl h2, ct_d k I (.bl _) q⟩
theorem rw_notB {a b : Bool} (q : P G (.p (.d (.bool (!decide (a = b)))))) : RW2 K B G rNotB (.d (.bool a)) (.d (.bool b)) P := fun S F H Q v1 v2 I h1 h2 k => ⟨a, b, dp_bl h1, dp_bl h2, ct_d k I (.bl _) q⟩
/-! items -/
theorem ixN_map {n m : Nat} (e : n = m) (i : Int) : ixN n i = ixN m i := by rw [e]
theorem atI_da {F : Hp} {vs : List V} {ds : List PyData} {i : Int} {d : PyData} (h : DqAll K F vs ds) (e : atI ds i = some d) : ∃ v, atI vs i = some v ∧ Dq K F v d := by
  unfold atI at e ⊢
  rw [da_len h]
  cases q : ixN ds.length i with
  | none =>
    rw [q] at e
    cases e
  | some j =>
    rw [q] at e
    exact da_get h e
theorem rw_ixL {ds : List PyData} {i : Int} {d : PyData} (e1 : wd G w1 = some (.list ds)) (e : atI ds i = some d) (q : P G (.p (.d d))) : RW2 K B G (rIx K) w1 (.d (.int i)) P := fun S F H Q v1 v2 I h1 h2 k => by
  obtain ⟨p, vs, rfl, hp, ha⟩ := wd_list I h1 e1
  obtain ⟨v, hv, hd⟩ := atI_da ha e
  exact .inl ⟨p, vs, i, v, rfl, dp_int h2, SqL.of hp, hv, ct_d k I hd q⟩
theorem rw_ixT {ds : List PyData} {i : Int} {d : PyData} (e : atI ds i = some d) (q : P G (.p (.d d))) : RW2 K B G (rIx K) (.d (.tuple ds)) (.d (.int i)) P := fun S F H Q v1 v2 I h1 h2 k => by
  obtain ⟨p, vs, rfl, hp, ha⟩ := dp_tup h1
  obtain ⟨v, hv, hd⟩ := atI_da ha e
  exact .inr (.inl ⟨p, vs, i, v, rfl, dp_int h2, SqT.of (I.ex _ _ hp), hv, ct_d k I hd q⟩)
theorem rw_ixS {z : List Nat} {i : Int} {c : Nat} (hz : z.length ≤ sizeLine) (e : atI z i = some c) (q : P G (.p (.d (.str (mkS [c]))))) : RW2 K B G (rIx K) (.d (.str (mkS z))) (.d (.int i)) P := fun S F H Q v1 v2 I h1 h2 k =>
  .inr (.inr ⟨mkS z, i, c, dp_str h1, dp_int h2, by rw [mkS_len]; exact hz, e, ct_d k I (.str _) q⟩)
/-! slices -/
def DO (K : Fr) (B : Bs) (G : En) (to : TO) (PO : En → Option Int → Prop) : Prop := ∀ S F H (Q : Option Int → Hp → Prop), Iv K B G S F H → (∀ o F' H' G', Ex F F' → Iv K B G' S F' H' → PO G' o → Q o H') → to S H Q
theorem do_none {PO : En → Option Int → Prop} (h : PO G none) : DO K B G tNoPart PO := fun S F H Q I k => k none F H G (Ex.refl F) I h
theorem do_some {te : TE} {PO : En → Option Int → Prop} (h : DW K B G te fun G1 r => PW r fun w => ∃ i, w = .d (.int i) ∧ PO G1 (some i)) : DO K B G (tPart te) PO := fun S F H Q I k => by
  show te S H fun x H1 => ∃ i, x = .int i ∧ Q (some i) H1
  refine dw_run (k' := fun G1 w => ∃ i, w = .d (.int i) ∧ PO G1 (some i)) h I fun v F1 H1 G1 w e1 I1 hv q => ?_
  obtain ⟨i, rfl, q⟩ := q
  exact ⟨i, dp_int hv, k _ F1 H1 G1 e1 I1 q⟩
def cutD {α : Type} (xs : List α) (lo hi : Option Int) : List α := (xs.drop (HT.sIx xs.length 0 lo)).take (HT.sIx xs.length xs.length hi - HT.sIx xs.length 0 lo)
theorem da_cut {F : Hp} {vs : List V} {ds : List PyData} (h : DqAll K F vs ds) (lo hi : Option Int) : DqAll K F (cutV vs lo hi) (cutD ds lo hi) := by
  unfold cutV cutD
  rw [da_len h]
  exact da_take _ (da_drop _ h)
theorem cutD_len {α : Type} (xs : List α) (lo hi : Option Int) : (cutD xs lo hi).length ≤ xs.length := by
  unfold cutD
  rw [List.length_take, List.length_drop]
  omega
def RWs (K : Fr) (B : Bs) (G : En) (r : V → Option Int → Option Int → Hp → VK → Prop) (w1 : W) (lo hi : Option Int) (P : Po) : Prop := ∀ S F H Q v1, Iv K B G S F H → Vw K S F v1 w1 → Ct K B S F P Q → r v1 lo hi H Q
theorem dw_sl3 {te : TE} {tl th : TO} {r : V → Option Int → Option Int → Hp → VK → Prop} (h : DW K B G te fun G1 r1 => PW r1 fun w1 => DO K B G1 tl fun G2 lo => DO K B G2 th fun G3 hi => RWs K B G3 r w1 lo hi P) : DW K B G (tSl r te tl th) P := fun S F H Q I k => by
  show te S H fun x H1 => tl S H1 fun l H2 => th S H2 fun u H3 => r x l u H3 Q
  refine dw_run (k' := fun G1 w1 => DO K B G1 tl fun G2 lo => DO K B G2 th fun G3 hi => RWs K B G3 r w1 lo hi P) h I fun v1 F1 H1 G1 w1 e1 I1 r1 q1 => ?_
  refine q1 S F1 H1 _ I1 fun lo F2 H2 G2 e2 I2 q2 => ?_
  refine q2 S F2 H2 _ I2 fun hi F3 H3 G3 e3 I3 q3 => ?_
  exact q3 S F3 H3 Q v1 I3 (r1.mono (e2.trans e3)) (k.mono ((e1.trans e2).trans e3))
theorem rs_L {ds : List PyData} {lo hi : Option Int} (e1 : wd G w1 = some (.list ds)) (q : P G (.fr (.o none (cutD ds lo hi)))) : RWs K B G (rSLC K) w1 lo hi P := fun S F H Q v1 I h1 k => by
  obtain ⟨p, vs, rfl, hp, ha⟩ := wd_list I h1 e1
  exact .inl ⟨p, vs, rfl, SqL.of hp, fun c hc => ct_L k I hc (da_cut ha lo hi) q⟩
theorem rs_T {ds : List PyData} {lo hi : Option Int} (q : P G (.p (.d (.tuple (cutD ds lo hi))))) : RWs K B G (rSLC K) (.d (.tuple ds)) lo hi P := fun S F H Q v1 I h1 k => by
  obtain ⟨p, vs, rfl, hp, ha⟩ := dp_tup h1
  refine .inr (.inl ⟨p, vs, rfl, SqT.of (I.ex _ _ hp), fun ⟨z1, z2⟩ => ?_, fun _ c hc => ct_T k I hc (da_cut ha lo hi) q⟩)
  have e : cutD ds lo hi = ds := by
    unfold cutD
    rw [← da_len ha, z1, z2]
    simp [da_len ha]
  rw [e] at q
  exact ct_d k I h1 q
theorem rs_S {z : List Nat} {lo hi : Option Int} (hz : z.length ≤ sizeLine) (q : P G (.p (.d (.str (mkS (cutD z lo hi)))))) : RWs K B G (rSLC K) (.d (.str (mkS z))) lo hi P := fun S F H Q v1 I h1 k => by
  refine .inr (.inr ⟨mkS z, dp_str h1, by rw [mkS_len]; exact hz, ?_⟩)
  have e : cutS (mkS z) lo hi = mkS (cutD z lo hi) := by
    unfold cutS cutD
    rw [mkS_len]
    rfl
  rw [e]
  exact ct_d k I (.str _) q
end
end DL
namespace DL
open PySem L2
section
variable {K : Fr} {B : Bs} {G : En} {P : Po} {w1 w2 : W}
theorem vws1 {S : St} {F : Hp} {vs : List V} {w : W} (h : Vws K S F vs [w]) : ∃ v, vs = [v] ∧ Vw K S F v w := by
  cases h with
  | cons a t =>
    cases t
    exact ⟨_, rfl, a⟩
theorem vws2 {S : St} {F : Hp} {vs : List V} {w w' : W} (h : Vws K S F vs [w, w']) : ∃ v v', vs = [v, v'] ∧ Vw K S F v w ∧ Vw K S F v' w' := by
  cases h with
  | cons a t =>
    cases t with
    | cons b t =>
      cases t
      exact ⟨_, _, rfl, a, b⟩
/-! ### calls of built-ins -/
abbrev rLEN (K : Fr) : List V → Hp → VK → Prop := fun xs H Q => ∃ x n, xs = [x] ∧ LenV K x H n ∧ Q (.int (n : Nat)) H
def lenD : PyData → Option Nat
  | .list ds => some ds.length
  | .tuple ds => some ds.length
  | _ => none
theorem len_dq {H : Hp} {v : V} {d : PyData} {n : Nat} (h : Dq K H v d) (e : lenD d = some n) : LenV K v H n := by
  cases h with
  | lst h a =>
    cases e
    exact .inl ⟨_, SqL.of h, (da_len a).symm⟩
  | tup h a =>
    cases e
    exact .inr ⟨_, SqT.of h, (da_len a).symm⟩
  | str x => cases e
  | non => cases e
  | bl _ => cases e
  | int _ => cases e
theorem rn_len {d : PyData} {n : Nat} (e1 : wd G w1 = some d) (e : lenD d = some n) (q : P G (.p (.d (.int (n : Int))))) : RWn K B G (rLEN K) [w1] P := fun S F H Q vs I hv k => by
  obtain ⟨v, rfl, h1⟩ := vws1 hv
  exact ⟨v, n, rfl, len_dq (wd_dq I h1 e1) e, ct_d k I (.int _) q⟩
theorem rn_lenL {ds : List PyData} (e1 : wd G w1 = some (.list ds)) (q : P G (.p (.d (.int (ds.length : Int))))) : RWn K B G (rLEN K) [w1] P := rn_len e1 rfl q
theorem rn_lenT {ds : List PyData} (q : P G (.p (.d (.int (ds.length : Int))))) : RWn K B G (rLEN K) [.d (.tuple ds)] P := rn_len (w1 := .d (.tuple ds)) rfl rfl q
theorem rn_lenS {z : List Nat} (hz : z.length ≤ sizeLine) (q : P G (.p (.d (.int (z.length : Int))))) : RWn K B G (rLEN K) [.d (.str (mkS z))] P := fun S F H Q vs I hv k => by
  obtain ⟨v, rfl, h1⟩ := vws1 hv
  obtain rfl := dp_str h1
  refine ⟨_, z.length, rfl, ⟨by rw [mkS_len]; exact hz, (mkS_len z).symm⟩, ct_d k I (.int _) q⟩
abbrev rINT : List V → Hp → VK → Prop := fun xs H Q => (∃ i, xs = [.int i] ∧ Q (.int i) H) ∨ ∃ k, xs = [.bl k] ∧ Q (.int (if k then 1 else 0)) H
theorem rn_intI {i : Int} (q : P G (.p (.d (.int i)))) : RWn K B G rINT [.d (.int i)] P := fun S F H Q vs I hv k => by
  obtain ⟨v, rfl, h1⟩ := vws1 hv
  exact .inl ⟨i, by rw [dp_int h1], ct_d k I (.int _) q⟩
theorem rn_intB {b : Bool} (q : P G (.p (.d (.int (if b then 1 else 0))))) : RWn K B G rINT [.d (.bool b)] P := fun S F H Q vs I hv k => by
  obtain ⟨v, rfl, h1⟩ := vws1 hv
  exact .inr ⟨b, by rw [dp_bl h1], ct_d k I (.int _) q⟩
theorem rn_max {i j : Int} (q : P G (.p (.d (.int (if j > i then j else i))))) : RWn K B G (fun xs H Q => ∃ i j, xs = [.int i, .int j] ∧ Q (.int (if j > i then j else i)) H) [.d (.int i), .d (.int j)] P := fun S F H Q vs I hv k => by
  obtain ⟨v, v', rfl, h1, h2⟩ := vws2 hv
  exact ⟨i, j, by rw [dp_int h1, dp_int h2], ct_d k I (.int _) q⟩
theorem rn_min {i j : Int} (q : P G (.p (.d (.int (if j < i then j else i))))) : RWn K B G (fun xs H Q => ∃ i j, xs = [.int i, .int j] ∧ Q (.int (if j < i then j else i)) H) [.d (.int i), .d (.int j)] P := fun S F H Q vs I hv k => by
  obtain ⟨v, v', rfl, h1, h2⟩ := vws2 hv
  exact ⟨i, j, by rw [dp_int h1, dp_int h2], ct_d k I (.int _) q⟩
abbrev rLIST (K : Fr) : List V → Hp → VK → Prop := fun xs H Q => ∃ p ys, xs = [.ref p] ∧ (SqL K H p ys ∨ SqT K H p ys) ∧ ∀ l, H l = none → Q (.ref l) (upd H l (.lst ys))
theorem rn_listL {ds : List PyData} (e1 : wd G w1 = some (.list ds)) (q : P G (.fr (.o none ds))) : RWn K B G (rLIST K) [w1] P := fun S F H Q vs I hv k => by
  obtain ⟨v, rfl, h1⟩ := vws1 hv
  obtain ⟨p, us, rfl, hp, ha⟩ := wd_list I h1 e1
  exact ⟨p, us, rfl, .inl (SqL.of hp), fun c hc => ct_L k I hc ha q⟩
theorem rn_listT {ds : List PyData} (q : P G (.fr (.o none ds))) : RWn K B G (rLIST K) [.d (.tuple ds)] P := fun S F H Q vs I hv k => by
  obtain ⟨v, rfl, h1⟩ := vws1 hv
  obtain ⟨p, us, rfl, hp, ha⟩ := dp_tup h1
  exact ⟨p, us, rfl, .inr (SqT.of (I.ex _ _ hp)), fun c hc => ct_L k I hc ha q⟩
abbrev rTUP (K : Fr) : List V → Hp → VK → Prop := fun xs H Q => ∃ p ys, xs = [.ref p] ∧ ((SqL K H p ys ∧ ∀ l, H l = none → Q (.ref l) (upd H l (.tup ys))) ∨ (SqT K H p ys ∧ Q (.ref p) H))
theorem rn_tupL {ds : List PyData} (e1 : wd G w1 = some (.list ds)) (q : P G (.p (.d (.tuple ds)))) : RWn K B G (rTUP K) [w1] P := fun S F H Q vs I hv k => by
  obtain ⟨v, rfl, h1⟩ := vws1 hv
  obtain ⟨p, us, rfl, hp, ha⟩ := wd_list I h1 e1
  exact ⟨p, us, rfl, .inl ⟨SqL.of hp, fun c hc => ct_T k I hc ha q⟩⟩
theorem rn_tupT {ds : List PyData} (q : P G (.p (.d (.tuple ds)))) : RWn K B G (rTUP K) [.d (.tuple ds)] P := fun S F H Q vs I hv k => by
  obtain ⟨v, rfl, h1⟩ := vws1 hv
  obtain ⟨p, us, rfl, hp, ha⟩ := dp_tup h1
  exact ⟨p, us, rfl, .inr ⟨SqT.of (I.ex _ _ hp), ct_d k I h1 q⟩⟩
theorem rn_str {i : Int} (hi : i.natAbs.log2 < 1920) (q : P G (.p (.d (.str (toString i))))) : RWn K B G (fun xs H Q => ∃ i, xs = [.int i] ∧ i.natAbs.log2 < 1920 ∧ Q (.str (toString i)) H) [.d (.int i)] P := fun S F H Q vs I hv k => by
  obtain ⟨v, rfl, h1⟩ := vws1 hv
  exact ⟨i, by rw [dp_int h1], hi, ct_d k I (.str _) q⟩
end
/-! sorted of ints -/
def srtI (ns : List Int) : List Int := ns.mergeSort (fun a b => decide (a ≤ b))
theorem srtI_perm (ns : List Int) : (srtI ns).Perm ns := List.mergeSort_perm _ _
theorem srtI_len (ns : List Int) : (srtI ns).length = ns.length := (srtI_perm ns).length_eq
theorem srtI_mem {ns : List Int} {x : Int} : x ∈ srtI ns ↔ x ∈ ns := (srtI_perm ns).mem_iff
theorem srtI_pw (ns : List Int) : (srtI ns).Pairwise (· ≤ ·) := by
  have h := List.pairwise_mergeSort (le := fun a b : Int => decide (a ≤ b)) (fun a b c h1 h2 => by simp at *; omega) (fun a b => by simp; omega) ns
  exact h.imp fun h => by simpa using h
theorem pw_perm_eq : ∀ {l m : List Int}, l.Pairwise (· ≤ ·) → m.Pairwise (· ≤ ·) → l.Perm m → l = m
  | [], m, _, _, h => (List.nil_perm.mp h).symm ▸ rfl
  | x :: l, [], _, _, h => by simpa using h.length_eq
  | x :: l, y :: m, h1, h2, h => by
    have hx : x ∈ y :: m := h.mem_iff.mp List.mem_cons_self
    have hy : y ∈ x :: l := h.mem_iff.mpr List.mem_cons_self
    have a1 := List.pairwise_cons.mp h1
    have a2 := List.pairwise_cons.mp h2
    have e : x = y := by
      rcases List.mem_cons.mp hx with z | z
      · exact z
      · rcases List.mem_cons.mp hy with z' | z'
        · exact z'.symm
        · have b1 : x ≤ y := a1.1 y z'
          have b2 : y ≤ x := a2.1 x z
          omega
    subst e
    rw [pw_perm_eq a1.2 a2.2 h.cons_inv]
theorem srtI_eq {ns ms : List Int} (h1 : ms.Perm ns) (h2 : ms.Pairwise (· ≤ ·)) : ms = srtI ns := pw_perm_eq h2 (srtI_pw ns) (h1.trans (srtI_perm ns).symm)
section
variable {K : Fr} {B : Bs} {G : En} {P : Po} {w1 w2 : W}
theorem rn_sortI {ns : List Int} (e1 : wd G w1 = some (.list (ns.map .int))) (q : P G (.fr (.o none ((srtI ns).map .int)))) : RWn K B G (rSortedI K) [w1] P := fun S F H Q vs I hv k => by
  obtain ⟨v, rfl, h1⟩ := vws1 hv
  obtain ⟨p, us, rfl, hp, ha⟩ := wd_list I h1 e1
  obtain rfl := da_ints_eq ha
  refine ⟨p, ns, rfl, SqL.of hp, fun ns' c hp hw hc => ?_⟩
  rw [srtI_eq hp hw]
  exact ct_L k I hc (da_ints _) q
/-! ### methods -/
/-- the receiver's type, by its view -/
def tyW (G : En) (T : String) : W → Prop
  | .d (.str _) => T = "str"
  | .d (.list _) => T = "list"
  | .sl i => T = "list" ∧ ∃ a ds, G[i]? = some (.o a ds)
  | _ => False
theorem tyW_ok {S : St} {F H : Hp} {v : V} {T : String} {w : W} (I : Iv K B G S F H) (hv : Vw K S F v w) (h : tyW G T w) : tyV K T v H := by
  match w, hv, h with
  | .d (.str _), hv, h =>
    obtain rfl := dp_str hv
    exact h
  | .d (.list _), hv, h =>
    obtain ⟨p, vs, rfl, h1, h2⟩ := dp_lst hv
    exact .inl ⟨h, vs, SqL.of (I.ex _ _ h1)⟩
  | .sl i, hv, ⟨h, a, ds, hi⟩ =>
    obtain ⟨p, vs, rfl, h1, h2⟩ := wd_list I hv (wd_sl hi)
    exact .inl ⟨h, vs, SqL.of h1⟩
theorem dw_BM {T : String} {r : V → List V → Hp → VK → Prop} {to : TE} {t : TA} (h : DW K B G to fun G1 r1 => PW r1 fun w1 => tyW G1 T w1 ∧ DA K B G1 t fun G2 ws => RWm K B G2 r w1 ws P) : DW K B G (tBM K T r to t) P := fun S F H Q I k => by
  show to S H fun x H1 => tyV K T x H1 ∧ t S H1 fun xs H2 => r x xs H2 Q
  refine dw_run (k' := fun G1 w1 => tyW G1 T w1 ∧ DA K B G1 t fun G2 ws => RWm K B G2 r w1 ws P) h I fun v1 F1 H1 G1 w1 e1 I1 r1 q1 => ⟨tyW_ok I1 r1 q1.1, ?_⟩
  exact q1.2 S F1 H1 _ I1 fun vs F2 H2 G2 ws e2 I2 r2 q2 => q2 S F2 H2 Q v1 vs I2 (r1.mono e2) r2 (k.mono (e1.trans e2))
theorem dw_BM0 {T : String} {r : V → List V → Hp → VK → Prop} {to : TE} (h : DW K B G to fun G1 r1 => PW r1 fun w1 => tyW G1 T w1 ∧ RWm K B G1 r w1 [] P) : DW K B G (tBM0 K T r to) P := fun S F H Q I k => by
  show to S H fun x H1 => tyV K T x H1 ∧ r x [] H1 Q
  refine dw_run (k' := fun G1 w1 => tyW G1 T w1 ∧ RWm K B G1 r w1 [] P) h I fun v1 F1 H1 G1 w1 e1 I1 r1 q1 => ⟨tyW_ok I1 r1 q1.1, ?_⟩
  exact q1.2 S F1 H1 Q v1 [] I1 r1 .nil (k.mono e1)
/-- xs.append(e) -/
theorem rm_app {i : Nat} {a : Option Addr} {ds : List PyData} {d : PyData} (hi : G[i]? = some (.o a ds)) (hz : ds.length < sizeLine) (q : P (G.set i (.o a (ds ++ [d]))) (.p (.d .none))) : RWm K B G rAppend (.sl i) [.d d] P := fun S F H Q v vs I hv hs k => by
  obtain ⟨y, rfl, hy⟩ := vws1 hs
  obtain ⟨p, us, e, hp, hF, ha⟩ := I.lst hi
  have hv : S[i]? = some (some v) := hv
  rw [e] at hv
  cases hv
  refine ⟨p, us, y, rfl, rfl, hp, by rw [da_len ha]; exact hz, ?_⟩
  exact k .non F _ _ (.p (.d .none)) (Ex.refl F) ⟨I.mut hi e (da_app ha (.cons hy .nil)), .non⟩ q
/-- xs.extend(ys) -/
theorem rm_ext {i : Nat} {a : Option Addr} {ds es : List PyData} (hi : G[i]? = some (.o a ds)) (e2 : wd G w2 = some (.list es)) (hz : ds.length + es.length ≤ sizeLine) (q : P (G.set i (.o a (ds ++ es))) (.p (.d .none))) : RWm K B G rExtend (.sl i) [w2] P := fun S F H Q v vs I hv hs k => by
  obtain ⟨y, rfl, hy⟩ := vws1 hs
  obtain ⟨p, us, e, hp, hF, ha⟩ := I.lst hi
  have hv : S[i]? = some (some v) := hv
  rw [e] at hv
  cases hv
  obtain ⟨p', us', rfl, hp', ha'⟩ := wd_list I hy e2
  refine ⟨p, p', us, us', rfl, rfl, hp, hp', by rw [da_len ha, da_len ha']; exact hz, ?_⟩
  exact k .non F _ _ (.p (.d .none)) (Ex.refl F) ⟨I.mut hi e (da_app ha ha'), .non⟩ q
/-- xs.pop(0) -/
theorem rm_pop0 {i : Nat} {a : Option Addr} {d : PyData} {ds : List PyData} (hi : G[i]? = some (.o a (d :: ds))) (q : P (G.set i (.o a ds)) (.p (.d d))) : RWm K B G rPopAt (.sl i) [.d (.int 0)] P := fun S F H Q v vs I hv hs k => by
  obtain ⟨y, rfl, hy⟩ := vws1 hs
  obtain rfl := dp_int hy
  obtain ⟨p, us, e, hp, hF, ha⟩ := I.lst hi
  have hv : S[i]? = some (some v) := hv
  rw [e] at hv
  cases hv
  cases ha with
  | @cons u ur _ _ hu hr =>
    refine ⟨p, u :: ur, 0, 0, u, rfl, rfl, hp, by decide, by decide, ?_, rfl, ?_⟩
    · exact PySem.seqIndex_of (by decide) (by simp)
    · exact k u F _ _ (.p (.d d)) (Ex.refl F) ⟨I.mut hi e hr, hu⟩ q
/-- xs.pop() -/
theorem rm_pop {i : Nat} {a : Option Addr} {d : PyData} {ds : List PyData} (hi : G[i]? = some (.o a (ds ++ [d]))) (q : P (G.set i (.o a ds)) (.p (.d d))) : RWm K B G rPop (.sl i) [] P := fun S F H Q v vs I hv hs k => by
  cases hs
  obtain ⟨p, us, e, hp, hF, ha⟩ := I.lst hi
  have hv : S[i]? = some (some v) := hv
  rw [e] at hv
  cases hv
  have hl := da_len ha
  simp only [List.length_append, List.length_singleton] at hl
  obtain ⟨y, hy, hd⟩ := da_get ha (i := ds.length) (d := d) (by simp)
  refine ⟨p, us, y, rfl, rfl, hp, by rw [hl]; exact hy, ?_⟩
  have e2 : DqAll K F us.dropLast ds := by
    have := da_take ds.length ha
    rw [List.take_left' rfl] at this
    rw [List.dropLast_eq_take, hl]
    exact this
  exact k y F _ _ (.p (.d d)) (Ex.refl F) ⟨I.mut hi e e2, hd⟩ q
theorem idx_le : ∀ {z : List Nat} {c i : Nat}, z[i]? = some c → z.idxOf c ≤ i
  | [], _, _, h => by simp at h
  | x :: z, c, 0, h => by
    simp at h
    subst h
    simp
  | x :: z, c, i + 1, h => by
    have := idx_le (z := z) (c := c) (i := i) (by simpa using h)
    rw [List.idxOf_cons]
    cases (x == c)
    · show z.idxOf c + 1 ≤ i + 1
      omega
    · exact Nat.zero_le _
/-- t.index(sign) -/
theorem occ_ix (z : List Nat) (c : Nat) (h : c ∈ z) : ∃ rest, Builtin.Str.occurrences (mkS z) (mkS [c]) 0 (mkS z).length 1 = (z.idxOf c) :: rest := by
  have at_ : ∀ i, PySem.StrLaws.At (mkS z) (mkS [c]) (mkS z).length i ↔ z[i]? = some c := fun i => PySem.StrLaws.subAt_one (mkS z) c i
  have hi : z[z.idxOf c]? = some c := by
    have hl := List.idxOf_lt_length_of_mem h
    rw [List.getElem?_eq_getElem hl, List.getElem_idxOf hl]
  rcases PySem.StrLaws.occ_head (mkS z) (mkS [c]) 1 (Nat.le_refl 1) with ⟨_, hn⟩ | ⟨i, r, e, ha, hn⟩
  · exact absurd ((at_ _).mpr hi) (hn _)
  · refine ⟨r, ?_⟩
    have h1 := (at_ i).mp ha
    have e2 : i = z.idxOf c := by
      rcases Nat.lt_trichotomy i (z.idxOf c) with q | q | q
      · exact absurd (idx_le h1) (by omega)
      · exact q
      · exact absurd ((at_ _).mpr hi) (hn _ q)
    rw [e, e2]
theorem rm_sindex {z : List Nat} {c : Nat} (h : c ∈ z) (q : P G (.p (.d (.int ((z.idxOf c : Nat) : Int))))) : RWm K B G (fun x xs H Q => ∃ a b i rest, x = .str a ∧ xs = [.str b] ∧ Builtin.Str.occurrences a b 0 a.length 1 = i :: rest ∧ Q (.int (i : Nat)) H) (.d (.str (mkS z))) [.d (.str (mkS [c]))] P := fun S F H Q v vs I hv hs k => by
  obtain ⟨y, rfl, hy⟩ := vws1 hs
  obtain rfl := dp_str hv
  obtain rfl := dp_str hy
  obtain ⟨rest, e⟩ := occ_ix z c h
  exact ⟨_, _, _, rest, rfl, rfl, e, ct_d k I (.int _) q⟩
end
end DL
namespace L2
open PySem PySem.Spec PyProof.Rows
section
variable {P : Program} {w : World} {A : Around} {E : Value → Shared → Prop} {s : Shared}
theorem call_set_lstI {l : Addr} {items : Array Value} (ns : List Int) {Q : Value → Shared → Prop} (hh : A.handled = none) (hl : s.heap.IsList l items) (hit : IntsAre items.toList ns) (hb : ns.length + 1 < scanBound)
    (h : ∀ (h' : Heap) (tk c : Nat), SetR w h' s.heap.objs.size (fun j => decide (j ∈ ns)) c → c ≤ ns.length → (∀ b o, s.heap.get? b = some o → h'.get? b = some o) → Q (.ref s.heap.objs.size) { s with heap := h', toks := tk }) :
    wpAny (model P w) A (call (.type "set") [.ref l]) Q E s := by
  have hisz : items.size = ns.length := by
    have q := IntsAre.length hit
    rw [Array.length_toList] at q
    exact q
  obtain ⟨c, tl, hmro⟩ := F.called_set.mro
  have hmade := F.called_set.made
  have hsub := F.called_set.sub
  refine wpAny_call (codeAny_of_tree ?_)
  show wpAny _ _ (callAny (.type "set") _) _ _ _
  refine wpAny_pure ⟨Code.quiet_builtin _ (by decide +kernel), codeAny_builtin F.entry_type_call ?_⟩
  rw [Around.under_plain (weight_type_call_type "set" [.ref l] []) rfl]
  have h1 := F.called_set.notType
  have h2 := F.called_set.canCreate
  have hct := F.typeCall_set_1 (.ref l)
  repeat (any_goals (first | assumption | wp_step))

  refine codeAny_mono (code_set_led1 (.ref l) (E := E) (Q₁ := fun obj s₁ => obj = .ref s.heap.objs.size ∧ s₁ = { s with heap := s.heap.push { cls := .type "set", dict := none, data := .set #[] 0 (.fresh 0 0 (!w.params.followText "set-order")) } }) ⟨rfl, rfl⟩) fun r s₁ hr => ?_
  cases r with
  | error e => exact hr
  | ok fl =>
    cases fl with
    | ret obj =>
      obtain ⟨rfl, rfl⟩ := hr
      have hS : (s.heap.push { cls := .type "set", dict := none, data := .set #[] 0 (.fresh 0 0 (!w.params.followText "set-order")) }).get? s.heap.objs.size = some { cls := .type "set", dict := none, data := .set #[] 0 (.fresh 0 0 (!w.params.followText "set-order")) } := Heap.get?_push_size _ rfl
      have hT : Shared.TypeIs { s with heap := s.heap.push { cls := .type "set", dict := none, data := .set #[] 0 (.fresh 0 0 (!w.params.followText "set-order")) } } (.ref s.heap.objs.size) "set" := ⟨_, hS, rfl⟩
      have hli := F.called_set.init.lookup
      have hbi := F.called_set.init.bind (.ref s.heap.objs.size)
      repeat (any_goals (first | assumption | wp_step))

      refine codeAny_mono (codeAny_call_builtin (R := wants (fun r s₂ => r = .none ∧ ∃ h' tk c, s₂ = { s with heap := h', toks := tk } ∧ SetR w h' s.heap.objs.size (fun j => decide (j ∈ ns)) c ∧ c ≤ ns.length ∧
          (∀ b o, s.heap.get? b = some o → h'.get? b = some o)) E) F.called_set.init.plain F.entry_set_init (check_set_init_1 hT ?_)) fun r₂ s₂ hr₂ => ?_
      · obtain ⟨ol, hol, hcl, nl, hdl⟩ := hl
        obtain ⟨ocls, odict, odata, oslots⟩ := ol
        simp only at hcl hdl
        subst hcl; subst hdl
        have hol' : (s.heap.push { cls := .type "set", dict := none, data := .set #[] 0 (.fresh 0 0 (!w.params.followText "set-order")) }).get? l = some { cls := .type "list", dict := odict, data := .seq items nl, slots := oslots } := Heap.get?_push_of_some _ hol
        have hsls := F.sub_list_set
        have hslf := F.sub_list_frozenset
        have hne : (Value.type "list" == Value.type "dict") = false := by decide
        have hl1 : (s.heap.push { cls := .type "set", dict := none, data := .set #[] 0 (.fresh 0 0 (!w.params.followText "set-order")) }).IsList l items := ⟨_, hol', rfl, nl, rfl⟩
        unfold Builtin.«set.__init__» noKeywords Builtin.Frozenset.updateFrom
        generalize hPI : pyIter = PI
        wp_walk
        subst hPI

        refine wpAny_pyIter_list hl1 ?_
        refine wpAny_bind (wpAny_runValue ?_)
        have hlS : l < s.heap.objs.size := Heap.lt_size hol
        have hh3 : A.in1.in1.in1.handled = none := by simp [hh]
        have hz1 : (s.heap.push { cls := .type "set", dict := none, data := .set #[] 0 (.fresh 0 0 (!w.params.followText "set-order")) }).objs.size = s.heap.objs.size + 1 := Heap.size_push ..
        have hneI : l ≠ (s.heap.push { cls := .type "set", dict := none, data := .set #[] 0 (.fresh 0 0 (!w.params.followText "set-order")) }).objs.size := by
          rw [Heap.size_push]; exact Nat.ne_of_lt (Nat.lt_succ_of_lt hlS)
        have hSf : s.heap.objs.size ∉ [(s.heap.push { cls := .type "set", dict := none, data := .set #[] 0 (.fresh 0 0 (!w.params.followText "set-order")) }).objs.size, l] := by
          rw [Heap.size_push]; simp only [List.mem_cons, List.mem_singleton, List.not_mem_nil, or_false, not_or]
          exact ⟨Nat.ne_of_lt (Nat.lt_succ_self _), Nat.ne_of_gt hlS⟩
        have hval : ∀ (i : Nat) (v : Value), items[i]? = some v → ∃ k t, ns[i]? = some k ∧ v = .int k t := fun i v hv => by
          have hi : i < ns.length := by rw [← hisz]; exact (Array.getElem?_eq_some_iff.mp hv).1
          obtain ⟨t, e⟩ := PyProof.Rows.IntsAre.int_at hit i v (by rw [Array.getElem?_toList]; exact hv)
          refine ⟨ns[i], t, List.getElem?_eq_getElem hi, ?_⟩
          rw [e, List.getD_eq_getElem?_getD, List.getElem?_eq_getElem hi] <;> rfl
        refine set_update_ints ((Walks.list hh3 _ l hneI items).toS) s.heap.objs.size
          hSf ns hisz hb hval (items.size - 0) 0 _ (by omega) (Nat.zero_le _)
          ⟨⟨_, Heap.get?_push_size _ rfl, rfl, rfl⟩, (hl1.push _)⟩ ?hS0 ?hR
        case hS0 =>
          have hget : ((s.heap.push { cls := .type "set", dict := none, data := .set #[] 0 (.fresh 0 0 (!w.params.followText "set-order")) }).push { cls := .type "list_iterator", data := .fields #[.ref l, .int 0 0] }).get? s.heap.objs.size
              = some { cls := .type "set", dict := none, data := .set #[] 0 (.fresh 0 0 (!w.params.followText "set-order")) } := Heap.get?_push_of_some _ hS
          exact ⟨0, Nat.le_refl 0, setR_new_at hget⟩
        case hR =>
          intro s' c' hm hc' hS'
          obtain ⟨h', g2, d', tk', os'⟩ := s'
          have eg : g2 = s.gens := hm.gens
          have ed : d' = s.drawn := hm.drawn
          have eo : os' = s.os := hm.os
          subst eg; subst ed; subst eo
          show wpAny _ _ _ _ _ _
          refine wpAny_pure ?_
          show wpAny _ _ (ret Value.none) _ _ _
          rw [hisz] at hc'
          refine wpAny_pure ⟨rfl, h', tk', c', rfl, hS', hc', fun b o e => ?_⟩
          have hb0 : b < s.heap.objs.size := Heap.lt_size e
          have hb1 : b ≠ s.heap.objs.size := Nat.ne_of_lt hb0
          have hb2 : b ≠ (s.heap.push { cls := .type "set", dict := none, data := .set #[] 0 (.fresh 0 0 (!w.params.followText "set-order")) }).objs.size := by
            rw [Heap.size_push]; exact Nat.ne_of_lt (Nat.lt_succ_of_lt hb0)
          exact hm.heap b o (by simp only [List.mem_cons, List.mem_singleton, List.not_mem_nil, or_false, not_or]; exact ⟨hb1, hb2⟩) (Heap.get?_push_of_some _ (Heap.get?_push_of_some _ e))

      · cases r₂ with
        | error e => exact hr₂
        | ok fl₂ =>
          cases fl₂ with
          | ret r =>
            obtain ⟨rfl, h', tk, c', rfl, hS', hc', hk'⟩ := hr₂
            repeat (any_goals (first | assumption | wp_step))
            exact h _ _ _ hS' hc' hk'
          | _ => exact hr₂.elim
    | _ => exact hr.elim

end
end L2
namespace DL
open PySem L2
/-! ### the increasing list of a list's ints -/
def insU (x : Int) : List Int → List Int
  | [] => [x]
  | y :: r => if x < y then x :: y :: r else if x = y then y :: r else y :: insU x r
def usrt : List Int → List Int
  | [] => []
  | x :: r => insU x (usrt r)
theorem insU_mem {x z : Int} : ∀ {l : List Int}, z ∈ insU x l ↔ z = x ∨ z ∈ l
  | [] => by simp [insU]
  | y :: r => by
    unfold insU
    split
    · simp
    · split
      · rename_i e
        subst e
        simp
      · rw [List.mem_cons, insU_mem (l := r), List.mem_cons]
        constructor
        · rintro (h | h | h)
          · exact .inr (.inl h)
          · exact .inl h
          · exact .inr (.inr h)
        · rintro (h | h | h)
          · exact .inr (.inl h)
          · exact .inl h
          · exact .inr (.inr h)
theorem insU_pw {x : Int} : ∀ {l : List Int}, l.Pairwise (· < ·) → (insU x l).Pairwise (· < ·)
  | [], _ => by simp [insU]
  | y :: r, h => by
    have h1 := List.pairwise_cons.mp h
    unfold insU
    split
    · rename_i c
      refine List.pairwise_cons.mpr ⟨fun z hz => ?_, h⟩
      rcases List.mem_cons.mp hz with e | hz
      · omega
      · have := h1.1 z hz
        omega
    · split
      · exact h
      · refine List.pairwise_cons.mpr ⟨fun z hz => ?_, insU_pw h1.2⟩
        rcases insU_mem.mp hz with e | hz
        · omega
        · exact h1.1 z hz
theorem usrt_mem {z : Int} : ∀ {l : List Int}, z ∈ usrt l ↔ z ∈ l
  | [] => by simp [usrt]
  | y :: r => by
    unfold usrt
    rw [insU_mem, usrt_mem (l := r), List.mem_cons]
theorem usrt_pw : ∀ l : List Int, (usrt l).Pairwise (· < ·)
  | [] => List.Pairwise.nil
  | y :: r => insU_pw (usrt_pw r)
theorem insU_len (x : Int) : ∀ l : List Int, (insU x l).length ≤ l.length + 1
  | [] => by simp [insU]
  | y :: r => by
    have := insU_len x r
    unfold insU
    split
    · simp
    · split
      · simp
      · simp only [List.length_cons]
        omega
theorem usrt_len : ∀ l : List Int, (usrt l).length ≤ l.length
  | [] => Nat.le_refl _
  | y :: r => by
    have h1 := usrt_len r
    have h2 := insU_len y (usrt r)
    show (insU y (usrt r)).length ≤ r.length + 1
    omega
theorem pwlt_eq : ∀ {l m : List Int}, l.Pairwise (· < ·) → m.Pairwise (· < ·) → (∀ z, z ∈ l ↔ z ∈ m) → l = m
  | [], [], _, _, _ => rfl
  | [], y :: m, _, _, h => by simpa using (h y).mpr List.mem_cons_self
  | x :: l, [], _, _, h => by simpa using (h x).mp List.mem_cons_self
  | x :: l, y :: m, h1, h2, h => by
    have a1 := List.pairwise_cons.mp h1
    have a2 := List.pairwise_cons.mp h2
    have e : x = y := by
      rcases List.mem_cons.mp ((h x).mp List.mem_cons_self) with z | z
      · exact z
      · rcases List.mem_cons.mp ((h y).mpr List.mem_cons_self) with z' | z'
        · exact z'.symm
        · have b1 := a1.1 y z'
          have b2 := a2.1 x z
          omega
    subst e
    congr 1
    refine pwlt_eq a1.2 a2.2 fun z => ⟨fun hz => ?_, fun hz => ?_⟩
    · rcases List.mem_cons.mp ((h z).mp (List.mem_cons_of_mem _ hz)) with e | k
      · have := a1.1 z hz
        omega
      · exact k
    · rcases List.mem_cons.mp ((h z).mpr (List.mem_cons_of_mem _ hz)) with e | k
      · have := a2.1 z hz
        omega
      · exact k
theorem nodup_len {l m : List Int} (h1 : l.Nodup) (h2 : m.Nodup) (h : ∀ z, z ∈ l ↔ z ∈ m) : l.length = m.length := by
  have a := (List.perm_ext_iff_of_nodup h1 h2).mpr h
  exact a.length_eq
theorem usrt_nodup (l : List Int) : (usrt l).Nodup := (usrt_pw l).imp fun h => by omega
/-! ### sets of ints, made and used at once -/
def rMkSet (w : World) (K : Fr) : List V → Hp → VK → Prop := fun xs H Q => ∃ (l : Addr) (ns : List Int), xs = [.ref l] ∧ SqL K H l (ns.map V.int) ∧ ns.length ≤ 1000 ∧ ∀ p, H p = none → Q (.ref p) (upd H p (SetO w p (fun j => decide (j ∈ ns)) (usrt ns).length))
section
variable {X : Cx}
theorem setR_count {w : World} {h : Heap} {a : Addr} {ns : List Int} {c : Nat} (R : SetR w h a (fun j => decide (j ∈ ns)) c) : c = (usrt ns).length := by
  obtain ⟨o, es, ep, t, h1, h2, h3, h4, h5, h6, h7, h8, h9, h10⟩ := R
  rw [← h9, ← Array.length_toList, ← List.length_map (f := keyOf)]
  refine nodup_len h5 (usrt_nodup ns) fun z => ?_
  rw [usrt_mem, ← h6 z]
  simp
theorem cr_setL (hc : X.calm = true) : CallR X (.type "set") (rMkSet X.w X.K) := by
  intro pins s σ H xs us Q I r h
  obtain ⟨l, ns, rfl, hs, hl, q⟩ := h
  rw [Vals.ref1 r]
  obtain ⟨its, rv, pl, hz⟩ := I.list hs
  refine call_set_lstI ns (I.ok.hd hc) pl.isList (by simpa using rv.ints) (by unfold scanBound; omega) fun h' tk c R hcl hk => ?_
  have ec := setR_count R
  subst ec
  exact ⟨.ref _, upd H s.heap.objs.size (SetO X.w s.heap.objs.size (fun j => decide (j ∈ ns)) (usrt ns).length), I.laid (t' := tk) hk (Nat.le_refl _) (setO_new R), rfl, q _ (I.hok.fresh (Nat.le_refl _))⟩
def rLenSet (w : World) : List V → Hp → VK → Prop := fun xs H Q => ∃ (a : Addr) (S : Int → Bool) (n : Nat), xs = [.ref a] ∧ H a = some (SetO w a S n) ∧ n ≤ 100000 ∧ Q (.int (n : Nat)) H
theorem call_lenSet : CallR X (.builtin "len") (rLenSet X.w) := by
  intro pins s σ H xs us Q I r h
  obtain ⟨a, S, n, rfl, ha, hn, q⟩ := h
  rw [Vals.ref1 r]
  obtain ⟨o, es, ep, t, h1, h2, h3, h4, h5, h6, h7, h8, h9, h10⟩ := setO_get I ha
  exact call_len_set h1 h2 h3 h8 (by rw [h9]; omega) ⟨.int n, H, I.tok _, ⟨_, by rw [h9]⟩, q⟩
end
section
variable {K : Fr} {B : Bs} {G : En} {P : Po} {te : TE} {w : World}
theorem dw_sortSet (h : DW K B G te fun G1 r1 => PW r1 fun w1 => ∃ ns : List Int, wd G1 w1 = some (.list (ns.map .int)) ∧ ns.length < 64 ∧ P G1 (.fr (.o none ((usrt ns).map .int)))) : DW K B G (tCB (rSortedSet w) (tCons (tCB (rMkSet w K) (tCons te tNil)) tNil)) P := fun S F H Q I k => by
  show te S H fun x H1 => rMkSet w K [x] H1 fun y H2 => rSortedSet w [y] H2 Q
  refine dw_run (k' := fun G1 w1 => ∃ ns : List Int, wd G1 w1 = some (.list (ns.map .int)) ∧ ns.length < 64 ∧ P G1 (.fr (.o none ((usrt ns).map .int)))) h I fun v1 F1 H1 G1 w1 e1 I1 r1 ⟨ns, hd, hl, q⟩ => ?_
  obtain ⟨l, us, rfl, hp, ha⟩ := wd_list I1 r1 hd
  obtain rfl := da_ints_eq ha
  refine ⟨l, ns, rfl, SqL.of hp, by omega, fun p hp => ⟨p, _, _, rfl, upd_same, Nat.lt_of_le_of_lt (usrt_len ns) hl, fun ms c hw hm _ hc => ?_⟩⟩
  have e : ms = usrt ns := pwlt_eq hw (usrt_pw ns) fun z => by
    rw [hm z, usrt_mem]
    simp
  subst e
  exact ct_L (k.mono e1) (I1.newH hp _) hc (da_ints _) q
theorem dw_lenSet (h : DW K B G te fun G1 r1 => PW r1 fun w1 => ∃ ns : List Int, wd G1 w1 = some (.list (ns.map .int)) ∧ ns.length ≤ 1000 ∧ P G1 (.p (.d (.int ((usrt ns).length : Int))))) : DW K B G (tCB (rLenSet w) (tCons (tCB (rMkSet w K) (tCons te tNil)) tNil)) P := fun S F H Q I k => by
  show te S H fun x H1 => rMkSet w K [x] H1 fun y H2 => rLenSet w [y] H2 Q
  refine dw_run (k' := fun G1 w1 => ∃ ns : List Int, wd G1 w1 = some (.list (ns.map .int)) ∧ ns.length ≤ 1000 ∧ P G1 (.p (.d (.int ((usrt ns).length : Int))))) h I fun v1 F1 H1 G1 w1 e1 I1 r1 ⟨ns, hd, hl, q⟩ => ?_
  obtain ⟨l, us, rfl, hp, ha⟩ := wd_list I1 r1 hd
  obtain rfl := da_ints_eq ha
  refine ⟨l, ns, rfl, SqL.of hp, hl, fun p hp => ⟨p, _, _, rfl, upd_same, Nat.le_trans (usrt_len ns) (by omega), ?_⟩⟩
  exact ct_d (k.mono e1) (I1.newH hp _) (.int _) q
end
/-! ### in short -/
section
variable {X : Cx} {pos : Pos}
theorem hu65 {k : Nat} {A : Around} (hr : Room k A) : A.units + 65 < cLine := by
  have := hr.un
  omega
theorem pe_strM {x : Str} {j pos} (l : List Nat) (h : x = mkS l) : PE X (.Constant (.str x) j pos) (tC (.str (mkS l))) := by
  subst h
  exact pe_str
/-- what stands in a for's head, whatever its kind -/
def iANY (K : Fr) (te : TE) : TI := fun S H R => iList K te S H R ∨ iTup K te S H R ∨ iStr te S H R
theorem PI.or {tg e : Expr} {w1 w2 : TI} (h1 : PI X tg e w1) (h2 : PI X tg e w2) : PI X tg e (fun S H R => w1 S H R ∨ w2 S H R) :=
  ⟨fun pins s σ H R I h => h.elim (h1.run pins s σ H R I) (h2.run pins s σ H R I)⟩
theorem pi_any {tg e : Expr} {te : TE} (h : PE X e te) : PI X tg e (iANY X.K te) := PI.or (pi_list h) (PI.or (pi_tup h) (pi_str h))
end
section
variable {K : Fr} {B : Bs} {G : En} {P : Po} {te : TE} {PI : En → List PyData → Prop}
theorem di_str (h : DW K B G te fun G1 r1 => PW r1 fun w => ∃ z : List Nat, w = .d (.str (mkS z)) ∧ PI G1 (z.map fun c => .str (mkS [c]))) : DI K B G (iStr te) PI := fun S F H R I k => by
  show te S H fun v H1 => ∃ x, v = .str x ∧ R (Its x) H1
  refine dw_run (k' := fun G1 w => ∃ z : List Nat, w = .d (.str (mkS z)) ∧ PI G1 (z.map fun c => .str (mkS [c]))) h I fun v F1 H1 G1 w e1 I1 hv q => ?_
  obtain ⟨z, rfl, q⟩ := q
  refine ⟨mkS z, dp_str hv, k _ F1 H1 G1 _ e1 I1 (fun i H2 F2 eF eH => ⟨fun d hd => ?_, fun e => ?_⟩) q⟩
  · rw [List.getElem?_map] at hd
    obtain ⟨c, hc, rfl⟩ := Option.map_eq_some_iff.mp hd
    have hl := (List.getElem?_eq_some_iff.mp hc).1
    refine ⟨(show i < (mkS z).cps.size by simpa [mkS] using hl), fun x H' y => ?_⟩
    obtain ⟨e, c', hc', rfl⟩ := y
    subst e
    have : c' = c := by
      have : z[i]? = some c' := by simpa [mkS] using hc'
      rw [hc] at this
      exact (Option.some.inj this).symm
    subst this
    exact ⟨F2, Ex.refl _, Ex.refl _, eH, (fun b o z n => by rw [z] at n; cases n), .str _⟩
  · show (mkS z).cps.size ≤ i
    rw [List.length_map] at e
    simp [mkS, e]
theorem di_anyL (h : DI K B G (iList K te) PI) : DI K B G (iANY K te) PI := fun S F H R I k => .inl (h S F H R I k)
theorem di_anyT (h : DI K B G (iTup K te) PI) : DI K B G (iANY K te) PI := fun S F H R I k => .inr (.inl (h S F H R I k))
theorem di_anyS (h : DI K B G (iStr te) PI) : DI K B G (iANY K te) PI := fun S F H R I k => .inr (.inr (h S F H R I k))
end
end DL
namespace DL
open PySem L2
/-! ### the rules with the written part named (so that a comprehension's block can bear them) -/
section
variable {X : Cx} {k : Nat} {A : Around} {pos : Pos}
theorem kEQ (K : Fr) (h : X.K = K) (hu : X.A.units + 64 < cLine) : OpR X (compareOp .Eq) (rEQ K) := h ▸ opEQ hu
theorem kNE (K : Fr) (h : X.K = K) (hu : X.A.units + 64 < cLine) : OpR X (compareOp .NotEq) (rNE K) := h ▸ opNE hu
theorem kIN (K : Fr) (h : X.K = K) (hu : X.A.units + 65 < cLine) : OpR X (compareOp .In) (rIN K) := h ▸ opIN hu
theorem kNI (K : Fr) (h : X.K = K) (hu : X.A.units + 65 < cLine) : OpR X (compareOp .NotIn) (rNI K) := h ▸ opNI hu
theorem kADD (K : Fr) (h : X.K = K) : OpR X (binaryOp .Add) (rADD K) := h ▸ opADD
theorem kIX (K : Fr) (h : X.K = K) : IxR X (rIx K) := h ▸ ix_seq
theorem kSLC (K : Fr) (h : X.K = K) : L2.SlR X (rSLC K) := h ▸ slANY
theorem kLEN (K : Fr) (h : X.K = K) : CallR X (.builtin "len") (rLEN K) := h ▸ call_len
theorem kLIST (K : Fr) (h : X.K = K) : CallR X (.type "list") (rLIST K) := h ▸ call_list_of
theorem kTUP (K : Fr) (h : X.K = K) : CallR X (.type "tuple") (rTUP K) := h ▸ call_tuple_of
theorem kSORT (K : Fr) (h : X.K = K) : CallR X (.builtin "sorted") (rSortedI K) := h ▸ cr_sortedI
theorem kSORTP (K : Fr) (h : X.K = K) : CallR X (.builtin "sorted") (rSortedPO K) := h ▸ cr_sortedPO
theorem kISI (K : Fr) (h : X.K = K) : CallR X (.builtin "isinstance") (rIsi K) := h ▸ call_isi
theorem kSET (w : World) (K : Fr) (hw : X.w = w) (h : X.K = K) (hc : X.calm = true) : CallR X (.type "set") (rMkSet w K) := h ▸ hw ▸ cr_setL hc
theorem kSORTSET (w : World) (hw : X.w = w) (hc : X.calm = true) : CallR X (.builtin "sorted") (rSortedSet w) := hw ▸ cr_sortedSet hc
theorem kLENSET (w : World) (hw : X.w = w) : CallR X (.builtin "len") (rLenSet w) := hw ▸ call_lenSet
theorem kANY (K : Fr) (h : X.K = K) {tg e : Expr} {te : TE} (he : PE X e te) : PI X tg e (iANY K te) := h ▸ pi_any he
theorem kTG (K : Fr) (h : X.K = K) {es : List Expr} {j : Nat} {t : TGs} {n : Nat} (hc : X.calm = true) (ht : PGs X es t)
    (hn : (assignEach es X.env).length = n := by rfl) (hst : (assignEach es X.env).findIdx? (·.1) = none := by rfl) : PG X (.Tuple es j pos) (gTup K n t) := h ▸ pg_tup hc ht hn hst
theorem kTRUTH (K : Fr) (h : X.K = K) {a : Expr} {ta : TE} (ha : PE X a ta) (he : ∀ whole, isTrue a X.env whole = (do let v ← whole; standAt a.pos; holding [v] (truthy v))) :
    PT X a (fun S H Q => ta S H fun x H' => ∃ k, TruV K x H' k ∧ Q k H') := h ▸ pt_truth ha he
theorem kBM (K : Fr) (h : X.K = K) {T : String} {r : V → List V → Hp → VK → Prop} {e : Expr} {to : TE} {t : TA} (he : PE X e (tBM X.K T r to t)) : PE X e (tBM K T r to t) := h ▸ he
theorem kBM0 (K : Fr) (h : X.K = K) {T : String} {r : V → List V → Hp → VK → Prop} {e : Expr} {to : TE} (he : PE X e (tBM0 X.K T r to)) : PE X e (tBM0 K T r to) := h ▸ he
abbrev rJOIN (K : Fr) : V → List V → Hp → VK → Prop := fun x xs H Q => ∃ a p, ∃ ys : List Str, x = .str a ∧ xs = [.ref p] ∧ (SqL K H p (ys.map V.str) ∨ SqT K H p (ys.map V.str)) ∧ (ys.map (·.length)).sum + ys.length * a.length ≤ 16777216 ∧ Q (.str (Txt.join a ys)) H
theorem kJOIN (K : Fr) (h : X.K = K) : MtR X "str.join" (rJOIN K) := h ▸ mt_join
end
/-! ### xs[i] op= e of a list of ints -/
section
variable {X : Cx}
def rGetL (K : Fr) : V → V → Hp → VK → Prop := fun x y H Q => ∃ p xs i v, x = .ref p ∧ y = .int i ∧ 0 ≤ i ∧ SqL K H p xs ∧ atI xs i = some v ∧ Q v H
theorem get_list : PGet X (rGetL X.K) := by
  intro pins s S H o i ov iv Q I ro ri h
  obtain ⟨p, xs, j, v, rfl, rfl, h0, hq, ha, q⟩ := h
  cases ro
  obtain ⟨t, rfl⟩ := ri
  obtain ⟨its, r, pl, hz⟩ := I.list hq
  obtain ⟨m, h1, h2, h3, h4, h5⟩ := atI_get ha
  obtain ⟨u, hu, ru⟩ := r.get h2
  have hn := line63
  have hj : j.toNat = m := by
    rw [PySem.seqIndex_of h0 h5] at h1
    exact Option.some.inj h1
  exact wpAny_getItem_list pl.isList h0 (by omega) (by rw [hj]; simpa using hu) ⟨v, H, I, ru, q⟩
theorem kGET (K : Fr) (h : X.K = K) : PGet X (rGetL K) := h ▸ get_list
end
section
variable {K : Fr} {B : Bs} {G : En} {to ti te : TE} {E : De}
/-- xs[j] op= e, xs this def's own -/
theorem ds_augL {i : Nat} {a : Option Addr} {ds : List PyData} {j : Nat} {x : Int} {f : Int → Int → Int} (h : DW K B G to fun G1 r1 => PW r1 fun w => w = .sl i ∧ DW K B G1 ti fun G2 r2 => PW r2 fun w2 => w2 = .d (.int (j : Int)) ∧ G2[i]? = some (.o a ds) ∧ ds[j]? = some (.int x) ∧
    DW K B G2 te fun G3 r3 => PW r3 fun w3 => ∃ y, w3 = .d (.int y) ∧ G3[i]? = some (.o a ds) ∧ E.nx (G3.set i (.o a (ds.set j (.int (f x y)))))) : DS K B G (tAugS to ti te (rGetL K) (ipI f) rSetL) E := fun S F H D I c => by
  show to S H fun o H1 => ti S H1 fun i H2 => rGetL K o i H2 fun x H3 => te S H3 fun y H4 => ipI f x y H4 fun z H5 => rSetL o i z H5 fun H6 => D.nx S H6
  refine dw_run (k' := fun G1 w => w = .sl i ∧ DW K B G1 ti fun G2 r2 => PW r2 fun w2 => w2 = .d (.int (j : Int)) ∧ G2[i]? = some (.o a ds) ∧ ds[j]? = some (.int x) ∧
    DW K B G2 te fun G3 r3 => PW r3 fun w3 => ∃ y, w3 = .d (.int y) ∧ G3[i]? = some (.o a ds) ∧ E.nx (G3.set i (.o a (ds.set j (.int (f x y)))))) h I fun v1 F1 H1 G1 w1 e1 I1 hv1 ⟨hw1, q1⟩ => ?_
  subst hw1
  refine dw_run (k' := fun G2 w2 => w2 = .d (.int (j : Int)) ∧ G2[i]? = some (.o a ds) ∧ ds[j]? = some (.int x) ∧
    DW K B G2 te fun G3 r3 => PW r3 fun w3 => ∃ y, w3 = .d (.int y) ∧ G3[i]? = some (.o a ds) ∧ E.nx (G3.set i (.o a (ds.set j (.int (f x y)))))) q1 I1 fun v2 F2 H2 G2 w2 e2 I2 hv2 ⟨hw2, hi, hj, q2⟩ => ?_
  subst hw2
  obtain rfl := dp_int hv2
  obtain ⟨p, vs, e, hp, hF, ha⟩ := I2.lst hi
  have hv1 : S[i]? = some (some v1) := hv1
  rw [e] at hv1
  cases hv1
  obtain ⟨u, hu, hd⟩ := da_get ha hj
  obtain rfl := dp_int hd
  refine ⟨p, vs, j, _, rfl, rfl, Int.natCast_nonneg j, SqL.of hp, atI_nat hu, ?_⟩
  refine dw_run (k' := fun G3 w3 => ∃ y, w3 = .d (.int y) ∧ G3[i]? = some (.o a ds) ∧ E.nx (G3.set i (.o a (ds.set j (.int (f x y)))))) q2 I2 fun v3 F3 H3 G3 w3 e3 I3 hv3 ⟨y, hw3, hi3, q3⟩ => ?_
  subst hw3
  obtain rfl := dp_int hv3
  obtain ⟨p', vs', e', hp', hF', ha'⟩ := I3.lst hi3
  rw [e] at e'
  cases e'
  have hl := (List.getElem?_eq_some_iff.mp hj).1
  refine ⟨x, y, rfl, rfl, p, vs', (j : Int), j, rfl, rfl, hp', ?_, ?_⟩
  · unfold ixN
    rw [if_pos (by omega), if_pos (by rw [da_len ha']; omega)]
    simp
  · exact c.nx S F3 _ _ ((e1.trans e2).trans e3) (I3.mut hi3 e (da_set j ha' (.int _))) q3
/-- xs[j] = e, xs this def's own -/
theorem ds_setL {i : Nat} {a : Option Addr} {ds : List PyData} {j : Nat} {d : PyData} (h : DW K B G te fun G1 r1 => PW r1 fun w => w = .d d ∧ DW K B G1 to fun G2 r2 => PW r2 fun w2 => w2 = .sl i ∧ DW K B G2 ti fun G3 r3 => PW r3 fun w3 => w3 = .d (.int (j : Int)) ∧ G3[i]? = some (.o a ds) ∧ j < ds.length ∧ E.nx (G3.set i (.o a (ds.set j d)))) :
    DS K B G (tAsg te (gSub to ti rSetL)) E := fun S F H D I c => by
  show te S H fun v H0 => to S H0 fun o H1 => ti S H1 fun i H2 => rSetL o i v H2 fun H3 => D.nx S H3
  refine dw_run (k' := fun G1 w => w = .d d ∧ DW K B G1 to fun G2 r2 => PW r2 fun w2 => w2 = .sl i ∧ DW K B G2 ti fun G3 r3 => PW r3 fun w3 => w3 = .d (.int (j : Int)) ∧ G3[i]? = some (.o a ds) ∧ j < ds.length ∧ E.nx (G3.set i (.o a (ds.set j d)))) h I fun v1 F1 H1 G1 w1 e1 I1 hv1 ⟨hw1, q1⟩ => ?_
  subst hw1
  refine dw_run (k' := fun G2 w2 => w2 = .sl i ∧ DW K B G2 ti fun G3 r3 => PW r3 fun w3 => w3 = .d (.int (j : Int)) ∧ G3[i]? = some (.o a ds) ∧ j < ds.length ∧ E.nx (G3.set i (.o a (ds.set j d)))) q1 I1 fun v2 F2 H2 G2 w2 e2 I2 hv2 ⟨hw2, q2⟩ => ?_
  subst hw2
  refine dw_run (k' := fun G3 w3 => w3 = .d (.int (j : Int)) ∧ G3[i]? = some (.o a ds) ∧ j < ds.length ∧ E.nx (G3.set i (.o a (ds.set j d)))) q2 I2 fun v3 F3 H3 G3 w3 e3 I3 hv3 ⟨hw3, hi, hl, q3⟩ => ?_
  subst hw3
  obtain rfl := dp_int hv3
  obtain ⟨p, vs, e, hp, hF, ha⟩ := I3.lst hi
  have hv2 : S[i]? = some (some v2) := hv2
  rw [e] at hv2
  cases hv2
  refine ⟨p, vs, (j : Int), j, rfl, rfl, hp, ?_, ?_⟩
  · unfold ixN
    rw [if_pos (by omega), if_pos (by rw [da_len ha]; omega)]
    simp
  · exact c.nx S F3 _ _ ((e1.trans e2).trans e3) (I3.mut hi e (da_set j ha (dp_mono (e2.trans e3) hv1))) q3
end
end DL
namespace DL
open PySem L2
/-! ### enumerate of a text -/
def IteS (z : Str) : It := ⟨fun i _ => i < z.cps.size, fun i H v H' => ∃ (T : Addr) (c : Nat), v = .ref T ∧ H T = none ∧ H' = upd H T (.tup [.int (i : Nat), .str ⟨#[c]⟩]) ∧ z.cps[i]? = some c, fun i _ => z.cps.size ≤ i⟩
theorem turn_enumS {P : Program} {w : World} {K : Fr} {elts : List Expr} {kk : Nat} {tpos : Pos} (z : Str) (t : Tok) (e it : Addr) :
    Turn P w K (.Tuple elts kk tpos) (IteS z) [e, it] e (fun i h => (∃ old, IsEnum h e it ((i : Nat) : Int) old) ∧ h.IsStrIter it (strIterType z) z t i ∧ e ≠ it ∧ i ≤ z.cps.size) where
  mem := by simp
  obj := fun i h st b hb => by
    obtain ⟨⟨old, he⟩, ⟨o, ho, hc, hd⟩, _⟩ := st
    have hb2 : b = e ∨ b = it := by simpa using hb
    rcases hb2 with q | q
    · rw [q]
      exact ⟨_, he, fun v z => nomatch z⟩
    · rw [q]
      exact ⟨o, ho, fun v z => by rw [hd] at z; cases z⟩
  keep := fun i h h' st k => by
    obtain ⟨⟨old, he⟩, ⟨o, ho, hr⟩, hne, hz⟩ := st
    exact ⟨⟨old, k e (by simp) _ he⟩, ⟨o, k it (by simp) _ ho, hr⟩, hne, hz⟩
  item := by
    intro X hP hw hK hc i pins s S H E I hf st hg
    subst hP hw hK
    obtain ⟨⟨old, he⟩, hit, hne, hz⟩ := st
    have hel : e < s.heap.objs.size := Heap.lt_size he
    have hil : it < s.heap.objs.size := by
      obtain ⟨_, q, _⟩ := hit
      exact Heap.lt_size q
    have D := PySem.Draws.text (prog := X.prog) (w := X.w) (A := X.A.in1) (I.ok.hd hc) it z t
    refine wpAny_pyNext_enum_itemC D he hit hg hne (by simpa using hne) fun x h' tk hx ho hit' hT hsz hk => ?_
    obtain ⟨c, u, hcx, rfl⟩ := hx
    refine ⟨_, rfl, wpAny_letOwnedTupleGo_enum (s := { s with heap := h', toks := tk + 1 }) ho fun h2 he' sb => ?_⟩
    have hT2 : h2.get? s.heap.objs.size = some { cls := .type "tuple", data := .seq #[.int i tk, .str ⟨#[c]⟩ u] } := (sb.2 _ (Nat.ne_of_gt hel)).trans hT
    have new : ObjOk X.prog X.w (upd H s.heap.objs.size (.tup [.int (i : Nat), .str ⟨#[c]⟩])) h2 s.heap.objs.size (.tup [.int (i : Nat), .str ⟨#[c]⟩]) :=
      ⟨by show 2 ≤ sizeLine; decide, [.int i tk, .str ⟨#[c]⟩ u], .cons ⟨_, rfl⟩ (.cons ⟨_, rfl⟩ .nil), ⟨_, hT2, rfl, _, rfl⟩⟩
    have I1 : Inv X pins S (upd H s.heap.objs.size (.tup [.int (i : Nat), .str ⟨#[c]⟩])) { s with heap := h2, toks := tk + 1 } :=
      I.turnedNew (ch := [e, it]) (fun b ob hb q => (sb.2 b (fun z => hb (by simp [z]))).trans (hk b ob (fun z => hb (by simp [z])) (fun z => hb (by simp [z])) q)) hf (Nat.le_refl _) new
    refine ⟨.ref s.heap.objs.size, _, I1, rfl, ⟨_, c, rfl, I.hok.fresh (Nat.le_refl _), rfl, hcx⟩, ⟨⟨.str ⟨#[c]⟩ u, ?_⟩, ?_, hne, hg⟩, fun b hb => ?_⟩
    · have e1 : ((i + 1 : Nat) : Int) = (i : Int) + 1 := by omega
      rw [e1]
      exact he'
    · obtain ⟨o, h1, hr⟩ := hit'
      exact ⟨o, (sb.2 it (Ne.symm hne)).trans h1, hr⟩
    · have hb' : b < s.heap.objs.size := by
        have e' : b = e ∨ b = it := by simpa using hb
        rcases e' with q | q
        · rw [q]
          exact hel
        · rw [q]
          exact hil
      rw [upd_ne (Nat.ne_of_lt hb')]
      exact (hf b hb).1
  done := by
    intro X hP hw hK hc i pins s S H E I hf st hg
    subst hP hw hK
    obtain ⟨⟨old, he⟩, hit, hne, hil⟩ := st
    have ei : i = z.cps.size := Nat.le_antisymm hil hg
    subst ei
    obtain ⟨f0, f1, f2, f3, f4, f5⟩ := hf it (by simp)
    have D := PySem.Draws.text (prog := X.prog) (w := X.w) (A := X.A.in1) (I.ok.hd hc) it z t
    exact wpAny_pyNext_enum_endD D he hit fun h' eb => ⟨rfl, I.turned (t' := s.toks) (fun b o hb q => eb b o hb q) f0 f1 f3 f4 f5⟩
  self := fun A i s Q E st h => by
    obtain ⟨⟨_, he⟩, _⟩ := st
    exact wpAny_pyIter_enum he h
def iEnumS (ta : TA) : TI := fun S H R => ta S H fun vs H1 => ∃ z, vs = [.str z] ∧ R (IteS z) H1
theorem pi_enumS {X : Cx} {e : Expr} {ta : TA} {p pos tpos : Pos} {elts : List Expr} {kk : Nat} (hg : Gl X "enumerate") (hm : X.mg "enumerate" = none) (ha : PA X [e] ta) (hs : starEach [e] X.env = [(false, eval e X.env)] := by rfl) :
    PI X (.Tuple elts kk tpos) (.Call (.Name "enumerate" p) [e] [] pos) (iEnumS ta) := by
  refine ⟨fun pins s S H R I h => ?_⟩
  refine PyProof.Rows.Call_ (ld_blt I hg hm PyProof.Rows.boot_enumerate (PyProof.Rows.callWith_type1 (thn (ha.run pos pins s S H _ I h) fun us s1 ⟨vs, H1, I1, r1, q1⟩ => ?_) hs rfl))
  obtain ⟨z, ex, q⟩ := q1
  subst ex
  cases r1 with
  | cons r rr =>
    cases rr
    obtain ⟨t, rfl⟩ := r
    refine call_enumerate_str fun h' he hit hsz hk => wpAny_pyIter_enum he ?_
    have I2 : Inv X pins S H1 { s1 with heap := h' } := I1.kept (t' := s1.toks) hk
    refine ⟨s1.heap.objs.size + 1, [s1.heap.objs.size + 1, s1.heap.objs.size], _, _, H1, rfl, I2, turn_enumS z t (s1.heap.objs.size + 1) s1.heap.objs.size, ⟨⟨.none, he⟩, hit, Nat.succ_ne_self _, Nat.zero_le _⟩, fun b hb => ?_, q⟩
    have e' : b = s1.heap.objs.size + 1 ∨ b = s1.heap.objs.size := by simpa using hb
    have hle : s1.heap.objs.size ≤ b := by
      rcases e' with e' | e'
      · rw [e']
        exact Nat.le_succ _
      · rw [e']
        exact Nat.le_refl _
    have hn : H1 b = none := I1.hok.fresh hle
    have f := I1.fpOk hle hn
    exact ⟨f.1, f.2.1, f.2.2.1, f.2.2.2.1, f.2.2.2.2.1, f.2.2.2.2.2⟩
abbrev iENUM (K : Fr) (ta : TA) : TI := fun S H R => iEnum K ta S H R ∨ iEnumS ta S H R
theorem kENUM {X : Cx} (K : Fr) (h : X.K = K) {e : Expr} {ta : TA} {p pos tpos : Pos} {elts : List Expr} {kk : Nat} (hg : Gl X "enumerate") (hm : X.mg "enumerate" = none) (ha : PA X [e] ta) (hs : starEach [e] X.env = [(false, eval e X.env)] := by rfl) :
    PI X (.Tuple elts kk tpos) (.Call (.Name "enumerate" p) [e] [] pos) (iENUM K ta) := h ▸ PI.or (pi_enum hg hm ha hs) (pi_enumS hg hm ha hs)
section
variable {K : Fr} {B : Bs} {G : En} {P : Po} {te : TE} {ta : TA} {PI : En → List PyData → Prop}
def enD (ds : List PyData) : List PyData := (List.range ds.length).zipWith (fun (i : Nat) d => PyData.tuple [.int (i : Int), d]) ds
theorem enD_get {ds : List PyData} {i : Nat} {d : PyData} (h : (enD ds)[i]? = some d) : ∃ x, ds[i]? = some x ∧ d = .tuple [.int (i : Int), x] := by
  unfold enD at h
  rw [List.getElem?_zipWith] at h
  cases q : ds[i]? with
  | none =>
    rw [q] at h
    cases hr : (List.range ds.length)[i]? <;> rw [hr] at h <;> cases h
  | some x =>
    have hl := (List.getElem?_eq_some_iff.mp q).1
    rw [q, List.getElem?_range hl] at h
    exact ⟨x, rfl, (Option.some.inj h).symm⟩
theorem enD_len (ds : List PyData) : (enD ds).length = ds.length := by simp [enD]
theorem di_enumS (h : DA K B G ta fun G1 ws => ∃ z : List Nat, ws = [.d (.str (mkS z))] ∧ PI G1 (enD (z.map fun c => .str (mkS [c])))) : DI K B G (iENUM K ta) PI := fun S F H R I k => by
  refine .inr ?_
  show ta S H fun vs H1 => ∃ z, vs = [.str z] ∧ R (IteS z) H1
  refine h S F H _ I fun vs F1 H1 G1 ws e1 I1 hv ⟨z, hw, q⟩ => ?_
  subst hw
  obtain ⟨v, rfl, hv1⟩ := vws1 hv
  refine ⟨mkS z, by rw [dp_str hv1], k _ F1 H1 G1 _ e1 I1 (fun i H2 F2 eF eH => ⟨fun d hd => ?_, fun e => ?_⟩) q⟩
  · obtain ⟨x, hx, rfl⟩ := enD_get hd
    rw [List.getElem?_map] at hx
    obtain ⟨c, hc, rfl⟩ := Option.map_eq_some_iff.mp hx
    have hl := (List.getElem?_eq_some_iff.mp hc).1
    refine ⟨(show i < (mkS z).cps.size by simpa [mkS] using hl), fun x H' y => ?_⟩
    obtain ⟨T, c', rfl, hT, rfl, hc'⟩ := y
    have : c' = c := by
      have : z[i]? = some c' := by simpa [mkS] using hc'
      rw [hc] at this
      exact (Option.some.inj this).symm
    subst this
    refine ⟨upd F2 T (.tup [.int (i : Nat), .str ⟨#[c']⟩]), Ex.new (eH.free hT), Ex.new hT, eH.both _ _, fun b o h1 h2 => ?_, .tup upd_same (.cons (.int _) (.cons (.str _) .nil))⟩
    by_cases hb : b = T
    · rw [hb]
      exact hT
    · rw [upd_ne hb] at h1
      rw [h1] at h2
      cases h2
  · show (mkS z).cps.size ≤ i
    rw [enD_len, List.length_map] at e
    simp [mkS, e]
end
/-! ### t[::-1] -/
section
open PyProof.Rows
variable {prog : Program} {w : World} {A : Around} {E : Value → Shared → Prop} {s : Shared}
theorem rev_adj (n : Nat) : Builtin.Slice.sliceAdjust none none (-1) (n : Int) = ((n : Int) - 1, -1) := by
  unfold Builtin.Slice.sliceAdjust
  simp
theorem rev_places (n : Nat) : Builtin.Slice.slicePlaces ((n : Int) - 1) (-1) (-1) = n := by
  unfold Builtin.Slice.slicePlaces
  simp
  omega
theorem get_all {α : Type} : ∀ l : List α, (List.range l.length).filterMap (fun i => l[i]?) = l
  | [] => rfl
  | x :: l => by
    rw [List.length_cons, List.range_succ_eq_map, List.filterMap_cons, List.filterMap_map]
    show x :: (List.range l.length).filterMap (fun i => l[i]?) = x :: l
    rw [get_all l]
theorem fm_congr {α β : Type} {f g : α → Option β} : ∀ {l : List α}, (∀ m ∈ l, f m = g m) → l.filterMap f = l.filterMap g
  | [], _ => rfl
  | x :: l, h => by
    rw [List.filterMap_cons, List.filterMap_cons, h x List.mem_cons_self, fm_congr fun m hm => h m (List.mem_cons_of_mem _ hm)]
theorem rev_pick (xs : List Value) : ((List.range xs.toArray.size).filterMap fun (m : Nat) => xs.toArray[(((xs.toArray.size : Int) - 1) + (m : Int) * (-1)).toNat]?).toArray = xs.reverse.toArray := by
  congr 1
  have hs : xs.toArray.size = xs.length := rfl
  rw [hs]
  have e : ∀ m ∈ List.range xs.length, xs.toArray[(((xs.length : Nat) : Int) - 1 + (m : Int) * (-1)).toNat]? = xs.reverse[m]? := fun m hm => by
    have hl : m < xs.length := List.mem_range.mp hm
    rw [List.getElem?_reverse hl, show (((xs.length : Nat) : Int) - 1 + (m : Int) * (-1)).toNat = xs.length - 1 - m by omega]
    simp
  rw [fm_congr e]
  have g := get_all xs.reverse
  rw [List.length_reverse] at g
  exact g
theorem getItem_tuple_rev {t sl : Addr} {items : List Value} {u : Tok} {Q : Value → Shared → Prop} (ht : IsTup s.heap t items.toArray) (hs : s.heap.IsSliceOf sl .none .none (.int (-1) u))
    (h : Q (.ref s.heap.objs.size) { s with heap := s.heap.push { cls := .type "tuple", data := .seq items.reverse.toArray } }) (hsz : items.length ≤ sizeLine) : wpAny (model prog w) A (getItem (.ref t) (.ref sl)) Q E s := by
  have htake : sizeOk (.seq items.reverse.toArray) := by
    show items.reverse.toArray.size ≤ sizeLine
    rw [List.size_toArray, List.length_reverse]
    exact hsz
  obtain ⟨os, hos, hcs, hds⟩ := id hs
  have hTs : s.TypeIs (.ref sl) "slice" := ⟨os, hos, hcs⟩
  unfold getItem
  try with_reducible refine wpAny_holding ?_
  first | refine wpAny_bind (wpAny_pure ?_) | skip
  refine wpAny_bind (wpAny_sequenceKey ht.typeIs (by decide) ?_)
  refine wpAny_bind (wpAny_callSpecial?_slot (name := Str.ofString "__getitem__") ht.typeIs PyProof.Rows.slot_tuple_getitem
    (wpAny_call_entry PyProof.Rows.slot_tuple_getitem ht.typeIs entry_tuple_getitem ?_ (args_tuple_getitem _ _)))
  show wpAny _ _ (Builtin.Tuple.tupleItemsOf (.ref t) >>= _) _ _ s
  refine wpAny_bind (tupleItemsOf_ ht ?_)
  refine wpAny_bind (wpAny_typeOf hTs ?_)
  rw [if_pos (by decide)]
  have ap : ∀ {A : Around} {E : Value → Shared → Prop} {Q : Int × Int × Nat → Shared → Prop}, Q ((items.length : Int) - 1, -1, items.length) s → wpAny (model prog w) A (Builtin.Slice.sliceApplied (.ref sl) (pure (items.toArray.size : Int))) Q E s := fun {A E Q} q => by
    unfold Builtin.Slice.sliceApplied Builtin.Slice.sliceFields
    refine wpAny_bind (wpAny_bind (wpAny_field hos hds (x := .none) rfl (wpAny_bind (wpAny_field hos hds (x := .none) rfl (wpAny_bind (wpAny_field hos hds (x := .int (-1) u) rfl (wpAny_pure ?_)))))))
    refine wpAny_bind (slicePart_int ?_)
    show wpAny _ _ (if ((-1 : Int) == 0) = true then _ else _) _ _ s
    rw [if_neg (by decide)]
    refine wpAny_bind (slicePart_none (wpAny_bind (slicePart_none (wpAny_bind (wpAny_pure ?_)))))
    show wpAny _ _ (match Builtin.Slice.sliceAdjust none none (-1) (items.toArray.size : Int) with | (lo, hi) => pure (lo, (-1 : Int), Builtin.Slice.slicePlaces lo hi (-1))) _ _ s
    rw [rev_adj]
    show wpAny _ _ (pure (((items.toArray.size : Nat) : Int) - 1, (-1 : Int), Builtin.Slice.slicePlaces (((items.toArray.size : Nat) : Int) - 1) (-1) (-1))) _ _ s
    rw [rev_places]
    exact wpAny_pure q
  refine wpAny_bind (ap ?_)
  show wpAny _ _ (if (((items.length : Int) - 1) == 0 && (-1 : Int) == 1 && items.length == items.toArray.size) = true then _ else _) _ _ s
  rw [if_neg (by rw [show ((-1 : Int) == 1) = false from rfl]; simp)]
  have hp := rev_pick items
  rw [List.size_toArray] at hp
  rw [hp]
  first
    | exact wpAny_bind (m := Builtin.Tuple.tupleExact _) (wpAny_newObj_type (wpAny_pure ⟨_, rfl, wpAny_pure h⟩) htake)
    | exact wpAny_bind (m := Builtin.Tuple.tupleExact _) (wpAny_newObj_type (wpAny_bind (wpAny_pure (wpAny_pure ⟨_, rfl, wpAny_pure h⟩))) htake)
    | exact wpAny_bind (wpAny_bind (m := Builtin.Tuple.tupleExact _) (wpAny_newObj_type (wpAny_pure (wpAny_pure ⟨_, rfl, wpAny_pure h⟩)) htake))
    | exact wpAny_bind (wpAny_bind (m := Builtin.Tuple.tupleExact _) (wpAny_newObj_type (wpAny_pure ⟨_, rfl, wpAny_pure h⟩) htake))
end
def tRevT (K : Fr) (te : TE) : TE := fun S H Q => te S H fun x H1 => ∃ a xs, x = .ref a ∧ SqT K H1 a xs ∧ ∀ p, H1 p = none → Q (.ref p) (upd H1 p (.tup xs.reverse))
section
open PySem.Spec PyProof.Rows
variable {X : Cx}
theorem pe_revT {e : Expr} {te : TE} {k : Nat} {p1 p2 p3 pos : Pos} (he : PE X e te) : PE X (.Subscript e (.Slice none none (some (.UnaryOp .USub (.Constant (.int 1) k p1) p2)) p3) pos) (tRevT X.K te) := by
  refine ⟨fun pins s S H Q I h => ?_⟩
  refine PyProof.Rows.Subscript_ (thn (he.run pins s S H _ I h) fun v s1 ⟨x, H1, I1, r1, q1⟩ => ?_)
  obtain ⟨a, xs, ex, hx, q⟩ := q1
  subst ex
  cases r1
  have hst : PO X (some (.UnaryOp .USub (.Constant (.int 1) k p1) p2)) (tPart (tUn (rU fun i => .int (-i)) (tC (.int 1)))) := po_some (pe_un un_neg pe_int)
  refine wpAny_Slice (thn (po_none.run pins s1 S H1 (fun o H2 => o = none ∧ H2 = H1) I1 ⟨rfl, rfl⟩) fun vl s2 ⟨l, H2, I2, pl, el, e2⟩ => ?_)
  subst el e2
  refine thn (po_none.run pins s2 S H2 (fun o H3 => o = none ∧ H3 = H2) I2 ⟨rfl, rfl⟩) fun vu s3 ⟨u, H3, I3, pu, eu, e3⟩ => ?_
  subst eu e3
  refine thn (hst.run pins s3 S H3 (fun o H4 => o = some (-1) ∧ H4 = H3) I3 ⟨1, rfl, -1, rfl, rfl, rfl⟩) fun vs s4 ⟨o, H4, I4, ps, eo, e4⟩ => ?_
  subst eo e4
  cases pl
  cases pu
  cases ps with
  | int i t =>
  have I5 : Inv X pins S H4 { s4 with heap := s4.heap.push { cls := .type "slice", data := .fields #[.none, .none, .int (-1) t] } } := I4.kept (t' := s4.toks) fun b ob q => Heap.get?_push_of_some _ q
  obtain ⟨its, r, ht, hz⟩ := I5.tuple hx
  have hlen := r.length
  show wpAny (model X.prog X.w) X.A (subscriptTail e (.Slice none none (some (.UnaryOp .USub (.Constant (.int 1) k p1) p2)) p3) (.ref a) (.ref s4.heap.objs.size)) (EP X pins S Q) X.xe { s4 with heap := s4.heap.push { cls := .type "slice", data := .fields #[.none, .none, .int (-1) t] } }
  refine PyProof.Rows.tail_any (ops := [.ref a, .ref s4.heap.objs.size]) ht.typeIs (PyProof.Rows.slot_tuple_getitem.lookup) ?_ (by with_unfolding_all rfl)
  refine getItem_tuple_rev ht (Heap.IsSliceOf.new _ .none .none (.int (-1) t)) ?_ (by omega)
  refine ⟨.ref _, _, I5.laid (t' := s4.toks) (o := .tup xs.reverse) (fun b ob q => Heap.get?_push_of_some _ q) (Nat.le_refl _) ?_, rfl, q _ (I5.hok.fresh (Nat.le_refl _))⟩
  exact ⟨by rw [List.length_reverse]; exact hz, _, r.reverse, ⟨_, Heap.get?_push_size _ rfl, rfl, 0, rfl⟩⟩
end
theorem kREVT {X : Cx} (K : Fr) (h : X.K = K) {e : Expr} {te : TE} (he : PE X e (tRevT X.K te)) : PE X e (tRevT K te) := h ▸ he
section
variable {K : Fr} {B : Bs} {G : En} {P : Po} {te : TE}
theorem dw_revT (h : DW K B G te fun G1 r1 => PW r1 fun w => ∃ ds, w = .d (.tuple ds) ∧ P G1 (.p (.d (.tuple ds.reverse)))) : DW K B G (tRevT K te) P := fun S F H Q I k => by
  show te S H fun x H1 => ∃ a xs, x = .ref a ∧ SqT K H1 a xs ∧ ∀ p, H1 p = none → Q (.ref p) (upd H1 p (.tup xs.reverse))
  refine dw_run (k' := fun G1 w => ∃ ds, w = .d (.tuple ds) ∧ P G1 (.p (.d (.tuple ds.reverse)))) h I fun v F1 H1 G1 w e1 I1 hv ⟨ds, hw, q⟩ => ?_
  subst hw
  obtain ⟨p, us, rfl, hp, ha⟩ := dp_tup hv
  exact ⟨p, us, rfl, SqT.of (I1.ex _ _ hp), fun c hc => ct_T (k.mono e1) I1 hc (da_rev ha) q⟩
/-! ### tuple(range(n)), list(range(n)) -/
theorem rgV_da {F : Hp} (a b : Int) : DqAll K F (rgV a b) ((rngD a (b - a).toNat)) := by
  have e1 : rgV a b = ((List.range (b - a).toNat).map fun (i : Nat) => a + (i : Int)).map V.int := by
    unfold rgV
    rw [List.map_map]
    rfl
  have e2 : rngD a (b - a).toNat = ((List.range (b - a).toNat).map fun (i : Nat) => a + (i : Int)).map PyData.int := by
    unfold rngD
    rw [List.map_map]
    rfl
  rw [e1, e2]
  exact da_ints _
theorem dw_tupRg1 (h : DW K B G te fun G1 r1 => PW r1 fun w => ∃ n : Nat, w = .d (.int (n : Int)) ∧ n ≤ 1000000 ∧ P G1 (.p (.d (.tuple (rngD 0 n))))) : DW K B G (tTupRg (tRg1 te)) P := fun S F H Q I k => by
  show te S H fun x H1 => ∃ n, x = .int n ∧ (RgOk 0 n ∧ ∀ q, H1 q = none → Q (.ref q) (upd H1 q (.tup (rgV 0 n))))
  refine dw_run (k' := fun G1 w => ∃ n : Nat, w = .d (.int (n : Int)) ∧ n ≤ 1000000 ∧ P G1 (.p (.d (.tuple (rngD 0 n))))) h I fun v F1 H1 G1 w e1 I1 hv ⟨n, hw, hn, q⟩ => ?_
  subst hw
  have e : ((n : Int) - 0).toNat = n := by omega
  refine ⟨n, dp_int hv, RgOk.of_le (by omega) (by omega) (by omega) (by omega), fun c hc => ?_⟩
  have hd := rgV_da (K := K) (F := F1) 0 (n : Int)
  rw [e] at hd
  exact ct_T (k.mono e1) I1 hc hd q
theorem dw_lstRg1 (h : DW K B G te fun G1 r1 => PW r1 fun w => ∃ n : Nat, w = .d (.int (n : Int)) ∧ n ≤ 1000000 ∧ P G1 (.fr (.o none (rngD 0 n)))) : DW K B G (tLstRg (tRg1 te)) P := fun S F H Q I k => by
  show te S H fun x H1 => ∃ n, x = .int n ∧ (RgOk 0 n ∧ ∀ q, H1 q = none → Q (.ref q) (upd H1 q (.lst (rgV 0 n))))
  refine dw_run (k' := fun G1 w => ∃ n : Nat, w = .d (.int (n : Int)) ∧ n ≤ 1000000 ∧ P G1 (.fr (.o none (rngD 0 n)))) h I fun v F1 H1 G1 w e1 I1 hv ⟨n, hw, hn, q⟩ => ?_
  subst hw
  have e : ((n : Int) - 0).toNat = n := by omega
  refine ⟨n, dp_int hv, RgOk.of_le (by omega) (by omega) (by omega) (by omega), fun c hc => ?_⟩
  have hd := rgV_da (K := K) (F := F1) 0 (n : Int)
  rw [e] at hd
  exact ct_L (k.mono e1) I1 hc hd q
/-! ### isinstance of data -/
def tyN : PyData → String
  | .none => "NoneType"
  | .bool _ => "bool"
  | .int _ => "int"
  | .str _ => "str"
  | .list _ => "list"
  | .tuple _ => "tuple"
  | .dict _ => "dict"
theorem ty_dq {H : Hp} {v : V} {d : PyData} (h : Dq K H v d) : TyX K H v (.type (tyN d)) := by
  cases h with
  | non => exact .base .non
  | bl b => exact .base (.bl b)
  | int i => exact .base (.int i)
  | str x => exact .base (.str x)
  | lst e _ => exact .base (.lst e)
  | tup e _ => exact .base (.tup e)
def isiD (d : PyData) (T : String) : Bool := tyN d == T || (tyN d == "bool" && T == "int")
theorem kit_tuple (d : PyData) : kitB (tyN d) "tuple" = some (isiD d "tuple") := by
  have h : ∀ n ∈ ["NoneType", "bool", "int", "str", "list", "tuple", "dict"], kitB n "tuple" = some (n == "tuple" || (n == "bool" && "tuple" == "int")) := by decide +kernel
  exact h _ (by cases d <;> simp [tyN])
theorem kit_list (d : PyData) : kitB (tyN d) "list" = some (isiD d "list") := by
  have h : ∀ n ∈ ["NoneType", "bool", "int", "str", "list", "tuple", "dict"], kitB n "list" = some (n == "list" || (n == "bool" && "list" == "int")) := by decide +kernel
  exact h _ (by cases d <;> simp [tyN])
theorem kit_str (d : PyData) : kitB (tyN d) "str" = some (isiD d "str") := by
  have h : ∀ n ∈ ["NoneType", "bool", "int", "str", "list", "tuple", "dict"], kitB n "str" = some (n == "str" || (n == "bool" && "str" == "int")) := by decide +kernel
  exact h _ (by cases d <;> simp [tyN])
theorem kit_int (d : PyData) : kitB (tyN d) "int" = some (isiD d "int") := by
  have h : ∀ n ∈ ["NoneType", "bool", "int", "str", "list", "tuple", "dict"], kitB n "int" = some (n == "int" || (n == "bool" && "int" == "int")) := by decide +kernel
  exact h _ (by cases d <;> simp [tyN])
theorem kit_bool (d : PyData) : kitB (tyN d) "bool" = some (isiD d "bool") := by
  have h : ∀ n ∈ ["NoneType", "bool", "int", "str", "list", "tuple", "dict"], kitB n "bool" = some (n == "bool" || (n == "bool" && "bool" == "int")) := by decide +kernel
  exact h _ (by cases d <;> simp [tyN])
theorem rn_isi {w1 : W} {d : PyData} {T : String} {b : Bool} (e1 : wd G w1 = some d) (e : kitB (tyN d) T = some b) (q : P G (.p (.d (.bool b)))) : RWn K B G (rIsi K) [w1, .ty T] P := fun S F H Q vs I hv k => by
  obtain ⟨v, v', rfl, h1, h2⟩ := vws2 hv
  have h2 : v' = .ty T := h2
  subst h2
  exact ⟨v, .ty T, _, _, b, rfl, .ty T, ty_dq (wd_dq I h1 e1), kit_ty e, ct_d k I (.bl _) q⟩
end
end DL
namespace DL
open PySem L2
section
variable {K : Fr} {B : Bs} {G : En} {P : Po} {ta tb tc te : TE} {r r' : R2}
/-! ### a op b op c -/
theorem dw_chain (h : DW K B G ta fun G1 r1 => PW r1 fun w1 => DW K B G1 tb fun G2 r2 => PW r2 fun w2 => RW2 K B G2 r w1 w2 fun G3 r3 => PW r3 fun w3 => ∃ b, w3 = .d (.bool b) ∧ if b = true then DW K B G3 tc fun G4 r4 => PW r4 fun w4 => RW2 K B G4 r' w2 w4 P else P G3 (.p (.d (.bool false)))) :
    DW K B G (tChain r r' ta tb tc) P := fun S F H Q I k => by
  show ta S H fun x H1 => tb S H1 fun y H2 => r x y H2 fun z H3 => ∃ k, z = .bl k ∧ (if k = true then tc S H3 fun w' H4 => r' y w' H4 Q else Q (.bl false) H3)
  refine dw_run (k' := fun G1 w1 => DW K B G1 tb fun G2 r2 => PW r2 fun w2 => RW2 K B G2 r w1 w2 fun G3 r3 => PW r3 fun w3 => ∃ b, w3 = .d (.bool b) ∧ if b = true then DW K B G3 tc fun G4 r4 => PW r4 fun w4 => RW2 K B G4 r' w2 w4 P else P G3 (.p (.d (.bool false)))) h I fun v1 F1 H1 G1 w1 e1 I1 a1 q1 => ?_
  refine dw_run (k' := fun G2 w2 => RW2 K B G2 r w1 w2 fun G3 r3 => PW r3 fun w3 => ∃ b, w3 = .d (.bool b) ∧ if b = true then DW K B G3 tc fun G4 r4 => PW r4 fun w4 => RW2 K B G4 r' w2 w4 P else P G3 (.p (.d (.bool false)))) q1 I1 fun v2 F2 H2 G2 w2 e2 I2 a2 q2 => ?_
  refine q2 S F2 H2 _ v1 v2 I2 (a1.mono e2) a2 fun v3 F3 H3 G3 r3 e3 V3 q3 => ?_
  obtain ⟨F4, w4, e4, I4, a4, b, rfl, q4⟩ := pw_ok V3 q3
  refine ⟨b, dp_bl a4, ?_⟩
  cases b with
  | false =>
    show Q (.bl false) H3
    exact ct_d (k.mono (((e1.trans e2).trans e3).trans e4)) I4 (.bl false) q4
  | true =>
    show tc S H3 fun w' H4 => r' v2 w' H4 Q
    refine dw_run (k' := fun G4 w4 => RW2 K B G4 r' w2 w4 P) q4 I4 fun v5 F5 H5 G5 w5 e5 I5 a5 q5 => ?_
    exact q5 S F5 H5 Q v2 v5 I5 (a2.mono ((e3.trans e4).trans e5)) a5 (k.mono ((((e1.trans e2).trans e3).trans e4).trans e5))
/-! ### sorted pairs -/
def leP (p q : Int × Int) : Bool := !SrtO.lexB q p
def srtP (ps : List (Int × Int)) : List (Int × Int) := ps.mergeSort leP
def pD (p : Int × Int) : PyData := .tuple [.int p.1, .int p.2]
theorem leP_tr (a b c : Int × Int) : leP a b = true → leP b c = true → leP a c = true := by
  unfold leP SrtO.lexB
  intro h1 h2
  simp only [Bool.not_eq_true'] at *
  split at h1 <;> split at h2 <;> split <;> simp at * <;> omega
theorem leP_tot (a b : Int × Int) : (leP a b || leP b a) = true := by
  unfold leP SrtO.lexB
  split <;> split <;> simp <;> omega
theorem srtP_perm (ps : List (Int × Int)) : (srtP ps).Perm ps := List.mergeSort_perm _ _
theorem srtP_pw (ps : List (Int × Int)) : (srtP ps).Pairwise fun a b => leP a b = true := List.pairwise_mergeSort (le := leP) leP_tr leP_tot ps
theorem leP_anti {a b : Int × Int} (h1 : leP a b = true) (h2 : leP b a = true) : a = b := by
  unfold leP SrtO.lexB at *
  simp only [Bool.not_eq_true'] at *
  apply Prod.ext
  · split at h1 <;> split at h2 <;> simp at * <;> omega
  · split at h1 <;> split at h2 <;> simp at * <;> omega
theorem pwP_eq : ∀ {l m : List (Int × Int)}, l.Pairwise (fun a b => leP a b = true) → m.Pairwise (fun a b => leP a b = true) → l.Perm m → l = m
  | [], m, _, _, h => (List.nil_perm.mp h).symm ▸ rfl
  | x :: l, [], _, _, h => by simpa using h.length_eq
  | x :: l, y :: m, h1, h2, h => by
    have hx : x ∈ y :: m := h.mem_iff.mp List.mem_cons_self
    have hy : y ∈ x :: l := h.mem_iff.mpr List.mem_cons_self
    have a1 := List.pairwise_cons.mp h1
    have a2 := List.pairwise_cons.mp h2
    have e : x = y := by
      rcases List.mem_cons.mp hx with z | z
      · exact z
      · rcases List.mem_cons.mp hy with z' | z'
        · exact z'.symm
        · exact leP_anti (a1.1 y z') (a2.1 x z)
    subst e
    rw [pwP_eq a1.2 a2.2 h.cons_inv]
def kP (H : Hp) (v : V) : Int × Int := match v with
  | .ref t => match H t with
    | some (.tup [.int i, .int j]) => (i, j)
    | _ => (0, 0)
  | _ => (0, 0)
theorem pairs_at {H : Hp} : ∀ {vs : List V} {ps : List (Int × Int)}, DqAll K H vs (ps.map pD) → vs.map (kP H) = ps ∧ ∀ x ∈ vs, ∃ t, x = V.ref t ∧ H t = some (.tup [.int (kP H x).1, .int (kP H x).2])
  | [], [], _ => ⟨rfl, fun x h => nomatch h⟩
  | v :: vs, p :: ps, h => by
    cases h with
    | cons a b =>
      obtain ⟨e1, e2⟩ := pairs_at b
      obtain ⟨t, us, rfl, ht, hu⟩ := dp_tup a
      cases hu with
      | cons u1 hu =>
        cases hu with
        | cons u2 hu =>
          cases hu
          obtain rfl := dp_int u1
          obtain rfl := dp_int u2
          have ek : kP H (.ref t) = p := by
            show (match H t with
              | some (.tup [.int i, .int j]) => (i, j)
              | _ => (0, 0)) = p
            rw [ht]
          refine ⟨by rw [List.map_cons, ek, e1], fun x hx => ?_⟩
          rcases List.mem_cons.mp hx with rfl | hx
          · exact ⟨t, rfl, by rw [ek]; exact ht⟩
          · exact e2 x hx
theorem da_of_pairs {H F : Hp} (e : Ex F H) : ∀ {ys : List V}, (∀ x ∈ ys, ∃ t, x = V.ref t ∧ F t = some (.tup [.int (kP H x).1, .int (kP H x).2])) → DqAll K F ys ((ys.map (kP H)).map pD)
  | [], _ => .nil
  | y :: ys, h => by
    obtain ⟨t, ht, hy⟩ := h y List.mem_cons_self
    refine .cons ?_ (da_of_pairs e fun x hx => h x (List.mem_cons_of_mem _ hx))
    rw [ht] at hy ⊢
    exact .tup hy (.cons (.int _) (.cons (.int _) .nil))
theorem rn_sortP {w1 : W} {ps : List (Int × Int)} (e1 : wd G w1 = some (.list (ps.map pD))) (q : P G (.fr (.o none ((srtP ps).map pD)))) : RWn K B G (rSortedPO K) [w1] P := fun S F H Q vs I hv k => by
  obtain ⟨v, rfl, h1⟩ := vws1 hv
  obtain ⟨p, us, rfl, hp, ha⟩ := wd_list I h1 e1
  obtain ⟨em, et⟩ := pairs_at (da_mono I.ex ha)
  obtain ⟨_, et2⟩ := pairs_at ha
  have kk : ∀ x ∈ us, kP F x = kP H x := fun x hx => by
    obtain ⟨t, rfl, ht⟩ := et2 x hx
    obtain ⟨t', e, ht'⟩ := et _ hx
    cases e
    have := I.ex _ _ ht
    rw [this] at ht'
    have := (HO.tup.inj (Option.some.inj ht'))
    simp only [List.cons.injEq, V.int.injEq, and_true] at this
    exact Prod.ext this.1 this.2
  refine ⟨p, us, kP H, rfl, SqL.of hp, et, fun ys c hs hb hc => ?_⟩
  have hperm := hb.perm
  have e3 : ys.map (kP H) = srtP ps := by
    refine pwP_eq ?_ (srtP_pw ps) ((hperm.map (kP H)).trans ?_)
    · refine List.pairwise_map.mpr ?_
      refine hs.imp fun {a b} h => ?_
      show (!SrtO.lexB (kP H b) (kP H a)) = true
      rw [show SrtO.lexB (kP H b) (kP H a) = false from h]
      rfl
    · rw [em]
      exact (srtP_perm ps).symm
  have hd : DqAll K F ys ((srtP ps).map pD) := by
    rw [← e3]
    refine da_of_pairs I.ex fun x hx => ?_
    have hm := hperm.mem_iff.mp hx
    obtain ⟨t, rfl, ht⟩ := et2 x hm
    exact ⟨t, rfl, by rw [← kk _ hm]; exact ht⟩
  exact ct_L k I hc hd q
end

/-! ### an own dict whose keys are tuples of ints and texts -/
def keyD : Key → PyData
  | .inl i => .int i
  | .inr s => .str s
def lkD (kvs : List (List Key × PyData)) (k : List Key) : Option PyData := (kvs.find? fun kv => decide (kv.1 = k)).map (·.2)
def putD (kvs : List (List Key × PyData)) (k : List Key) (d : PyData) : List (List Key × PyData) :=
  if (kvs.any fun kv => decide (kv.1 = k)) = true then kvs.map fun kv => if kv.1 = k then (kv.1, d) else kv else kvs ++ [(k, d)]
section
variable {K : Fr} {B : Bs} {G : En} {P : Po} {td ty tv te : TE} {E : De} {S : St} {F H : Hp}
theorem keys_eq : ∀ {vs : List V} {ks : List Key}, DqAll K H vs (ks.map keyD) → vs = ks.map kV
  | [], [], _ => rfl
  | v :: vs, k :: ks, h => by
    cases h with
    | cons a b =>
      rw [keys_eq b]
      cases k with
      | inl i => rw [dp_int a]; rfl
      | inr s => rw [dp_str a]; rfl
theorem key_at {v : V} {ks : List Key} (h : Dq K F v (.tuple (ks.map keyD))) (e : Ex F H) : ∃ b, v = .ref b ∧ H b = some (.tup (ks.map kV)) := by
  obtain ⟨b, vs, rfl, hb, ha⟩ := dp_tup h
  rw [keys_eq ha] at hb
  exact ⟨b, rfl, e _ _ hb⟩
theorem lk_val {k : List Key} : ∀ {kws : List (List Key × V)} {kvs : List (List Key × PyData)}, kws.map (·.1) = kvs.map (·.1) → DqAll K F (kws.map (·.2)) (kvs.map (·.2)) → (valV kws k).isSome = (lkD kvs k).isSome ∧ ∀ d, lkD kvs k = some d → ∃ v, valV kws k = some v ∧ Dq K F v d
  | [], [], _, _ => ⟨rfl, fun d h => nomatch h⟩
  | (a, v) :: kws, (b, e) :: kvs, h1, h2 => by
    cases h2 with
    | cons u1 u2 =>
      have h3 := List.cons.inj h1
      obtain ⟨i1, i2⟩ := lk_val (k := k) h3.2 u2
      have ea : a = b := h3.1
      subst ea
      by_cases hk : a = k
      · subst hk
        refine ⟨by rw [valV_pos rfl]; simp [lkD], fun d hd => ⟨v, valV_pos rfl, ?_⟩⟩
        have : d = e := by
          simp [lkD] at hd
          exact hd.symm
        rw [this]
        exact u1
      · have e1 : lkD ((a, e) :: kvs) k = lkD kvs k := by simp [lkD, List.find?_cons, hk]
        rw [valV_neg hk, e1]
        exact ⟨i1, i2⟩
theorem put_keys {k : List Key} {v : V} {d : PyData} : ∀ {kws : List (List Key × V)} {kvs : List (List Key × PyData)}, kws.map (·.1) = kvs.map (·.1) → DqAll K F (kws.map (·.2)) (kvs.map (·.2)) → Dq K F v d →
    (putK kws k v).map (·.1) = (putD kvs k d).map (·.1) ∧ DqAll K F ((putK kws k v).map (·.2)) ((putD kvs k d).map (·.2)) := by
  intro kws kvs h1 h2 hd
  have hany : ∀ {kws : List (List Key × V)} {kvs : List (List Key × PyData)}, kws.map (·.1) = kvs.map (·.1) → (kws.any fun kv => decide (kv.1 = k)) = (kvs.any fun kv => decide (kv.1 = k)) := by
    intro kws kvs h
    have e1 : (kws.any fun kv => decide (kv.1 = k)) = (kws.map (·.1)).any fun x => decide (x = k) := by rw [List.any_map]; rfl
    have e2 : (kvs.any fun kv => decide (kv.1 = k)) = (kvs.map (·.1)).any fun x => decide (x = k) := by rw [List.any_map]; rfl
    rw [e1, e2, h]
  have hrep : ∀ {kws : List (List Key × V)} {kvs : List (List Key × PyData)}, kws.map (·.1) = kvs.map (·.1) → DqAll K F (kws.map (·.2)) (kvs.map (·.2)) →
      (kws.map fun kv => if kv.1 = k then (kv.1, v) else kv).map (·.1) = (kvs.map fun kv => if kv.1 = k then (kv.1, d) else kv).map (·.1) ∧ DqAll K F ((kws.map fun kv => if kv.1 = k then (kv.1, v) else kv).map (·.2)) ((kvs.map fun kv => if kv.1 = k then (kv.1, d) else kv).map (·.2)) := by
    intro kws
    induction kws with
    | nil =>
      intro kvs h1 h2
      cases kvs with
      | nil => exact ⟨rfl, .nil⟩
      | cons _ _ => cases h1
    | cons a kws ih =>
      intro kvs h1 h2
      cases kvs with
      | nil => cases h1
      | cons b kvs =>
        have h3 := List.cons.inj h1
        have h31 : a.1 = b.1 := h3.1
        cases h2 with
        | cons u1 u2 =>
          obtain ⟨i1, i2⟩ := ih h3.2 u2
          simp only [List.map_cons]
          by_cases hk : a.1 = k
          · rw [if_pos hk, if_pos (h31 ▸ hk)]
            exact ⟨by rw [i1, h31], .cons hd i2⟩
          · rw [if_neg hk, if_neg (h31 ▸ hk)]
            exact ⟨by rw [i1, h31], .cons u1 i2⟩
  unfold putK putD
  rw [hany h1]
  split
  · exact hrep h1 h2
  · refine ⟨by rw [List.map_append, List.map_append, h1]; rfl, ?_⟩
    rw [List.map_append, List.map_append]
    exact da_app h2 (.cons hd .nil)
theorem Iv.dct (I : Iv K B G S F H) {i : Nat} {kvs : List (List Key × PyData)} (h : G[i]? = some (.t kvs)) : ∃ p kws, S[i]? = some (some (.ref p)) ∧ H p = some (.dT kws) ∧ kws.map (·.1) = kvs.map (·.1) ∧ DqAll K F (kws.map (·.2)) (kvs.map (·.2)) := by
  obtain ⟨A, h1, _, _⟩ := I.own
  rcases h1 i _ h with e | ⟨v, h1, p, kws, rfl, h5, h6, h7, _⟩
  · cases e
  · exact ⟨p, kws, h1, h5, h6, h7⟩
/-- slot i's own thing is another one now (of the same address) -/
theorem Iv.mutG {i : Nat} {s s' : Sl} {p : Addr} {ob : HO} (I : Iv K B G S F H) (hi : G[i]? = some s) (hS : S[i]? = some (some (.ref p))) (hA : ∀ A, SvR K F H (.ref p) A s → A p) (hn : s ≠ .un) (h : ∀ A : Addr → Prop, A p → SvR K F H (.ref p) A s → SvR K F (upd H p ob) (.ref p) A s') : Iv K B (G.set i s') S F (upd H p ob) := by
  obtain ⟨A, h1, h2, h3⟩ := I.own
  obtain ⟨u, z1, z2⟩ := (h1 i _ hi).resolve_left hn
  rw [hS] at z1
  cases z1
  have hAp := hA _ z2
  obtain ⟨y1, y2, y3⟩ := h3 i p hAp
  refine ⟨I.ex.mut y1 ob, I.f0, fun b o hb hm => ?_, I.nw, fun b hb => ?_, by simpa using I.len, A, fun j s2 hj => ?_, h2, fun j b hb => ?_⟩
  · by_cases e : b = p
    · subst e
      rcases y3 with z | z
      · rw [hb] at z
        cases z
      · exact absurd z hm
    · rw [upd_ne e]
      exact I.fr b o hb hm
  · by_cases e : b = p
    · subst e
      rw [upd_same]
      exact fun z => by cases z
    · rw [upd_ne e]
      exact I.st b hb
  · by_cases e : i = j
    · subst e
      obtain ⟨rfl, _⟩ := set_same hj
      exact .inr ⟨_, hS, h _ hAp z2⟩
    · rw [List.getElem?_set_ne e] at hj
      rcases h1 j s2 hj with z | ⟨u, x1, x2⟩
      · exact .inl z
      · refine .inr ⟨u, x1, slr_stab x2 (Ex.refl _) fun b hb => ?_⟩
        refine upd_ne fun z => ?_
        subst z
        exact e (h2 _ _ _ hAp hb)
  · refine ⟨(h3 j b hb).1, ?_, (h3 j b hb).2.2⟩
    by_cases e : b = p
    · subst e
      rw [upd_same]
      exact fun z => by cases z
    · rw [upd_ne e]
      exact (h3 j b hb).2.1
theorem dw_slT {i : Nat} {kvs : List (List Key × PyData)} (h : G[i]? = some (.t kvs)) (q : P G (.p (.sl i))) : DW K B G (tVar i) P := fun S F H Q I k => by
  obtain ⟨p, kws, e, _⟩ := I.dct h
  exact ⟨_, e, k _ F H G (.p (.sl i)) (Ex.refl F) ⟨I, e⟩ q⟩
theorem dw_newT (q : P G (.fr (.t []))) : DW K B G tDNewT P := fun S F H Q I k => by
  intro p hp
  refine k (.ref p) F _ G (.fr (.t [])) (Ex.refl F) ?_ q
  refine I.add (Ex.refl F) (Ex.new hp) (I.ex.trans (Ex.new hp)) (fun b o h n => ?_) _ (fun a => a = p) (.inr ⟨_, rfl, p, [], rfl, upd_same, rfl, .nil, rfl⟩) fun a e => ?_
  · rw [h] at n
    cases n
  · have e : a = p := e
    subst e
    exact ⟨hp, I.fnone hp, by rw [upd_same]; exact fun z => (by cases z)⟩
theorem dw_dIn (h : DW K B G ty fun G1 r1 => PW r1 fun w1 => DW K B G1 td fun G2 r2 => PW r2 fun w2 => ∃ i ks kvs, w1 = .d (.tuple (ks.map keyD)) ∧ w2 = .sl i ∧ G2[i]? = some (.t kvs) ∧ P G2 (.p (.d (.bool (lkD kvs ks).isSome)))) : DW K B G (tDIn ty td) P := fun S F H Q I k => by
  show ty S H fun y H1 => td S H1 fun x H2 => ∃ a o, x = .ref a ∧ DGet H2 a y o ∧ Q (.bl o.isSome) H2
  refine dw_run (k' := fun G1 w1 => DW K B G1 td fun G2 r2 => PW r2 fun w2 => ∃ i ks kvs, w1 = .d (.tuple (ks.map keyD)) ∧ w2 = .sl i ∧ G2[i]? = some (.t kvs) ∧ P G2 (.p (.d (.bool (lkD kvs ks).isSome)))) h I fun v1 F1 H1 G1 w1 e1 I1 a1 q1 => ?_
  refine dw_run (k' := fun G2 w2 => ∃ i ks kvs, w1 = .d (.tuple (ks.map keyD)) ∧ w2 = .sl i ∧ G2[i]? = some (.t kvs) ∧ P G2 (.p (.d (.bool (lkD kvs ks).isSome)))) q1 I1 fun v2 F2 H2 G2 w2 e2 I2 a2 ⟨i, ks, kvs, x1, x2, hi, q2⟩ => ?_
  subst x1 x2
  obtain ⟨b, rfl, hb⟩ := key_at (dp_mono e2 a1) I2.ex
  obtain ⟨p, kws, hS, hp, hk, hv⟩ := I2.dct hi
  have a2 : S[i]? = some (some v2) := a2
  rw [hS] at a2
  cases a2
  refine ⟨p, _, rfl, DGet.t hp hb, ?_⟩
  rw [(lk_val (k := ks) hk hv).1]
  exact ct_d (k.mono (e1.trans e2)) I2 (.bl _) q2
theorem dw_dNotIn (h : DW K B G ty fun G1 r1 => PW r1 fun w1 => DW K B G1 td fun G2 r2 => PW r2 fun w2 => ∃ i ks kvs, w1 = .d (.tuple (ks.map keyD)) ∧ w2 = .sl i ∧ G2[i]? = some (.t kvs) ∧ P G2 (.p (.d (.bool (!(lkD kvs ks).isSome))))) : DW K B G (tDNotIn ty td) P := fun S F H Q I k => by
  show ty S H fun y H1 => td S H1 fun x H2 => ∃ a o, x = .ref a ∧ DGet H2 a y o ∧ Q (.bl (!o.isSome)) H2
  refine dw_run (k' := fun G1 w1 => DW K B G1 td fun G2 r2 => PW r2 fun w2 => ∃ i ks kvs, w1 = .d (.tuple (ks.map keyD)) ∧ w2 = .sl i ∧ G2[i]? = some (.t kvs) ∧ P G2 (.p (.d (.bool (!(lkD kvs ks).isSome))))) h I fun v1 F1 H1 G1 w1 e1 I1 a1 q1 => ?_
  refine dw_run (k' := fun G2 w2 => ∃ i ks kvs, w1 = .d (.tuple (ks.map keyD)) ∧ w2 = .sl i ∧ G2[i]? = some (.t kvs) ∧ P G2 (.p (.d (.bool (!(lkD kvs ks).isSome))))) q1 I1 fun v2 F2 H2 G2 w2 e2 I2 a2 ⟨i, ks, kvs, x1, x2, hi, q2⟩ => ?_
  subst x1 x2
  obtain ⟨b, rfl, hb⟩ := key_at (dp_mono e2 a1) I2.ex
  obtain ⟨p, kws, hS, hp, hk, hv⟩ := I2.dct hi
  have a2 : S[i]? = some (some v2) := a2
  rw [hS] at a2
  cases a2
  refine ⟨p, _, rfl, DGet.t hp hb, ?_⟩
  rw [(lk_val (k := ks) hk hv).1]
  exact ct_d (k.mono (e1.trans e2)) I2 (.bl _) q2
theorem dw_dGet (h : DW K B G td fun G1 r1 => PW r1 fun w1 => DW K B G1 ty fun G2 r2 => PW r2 fun w2 => ∃ i ks kvs d, w1 = .sl i ∧ w2 = .d (.tuple (ks.map keyD)) ∧ G2[i]? = some (.t kvs) ∧ lkD kvs ks = some d ∧ P G2 (.p (.d d))) : DW K B G (tDGet td ty) P := fun S F H Q I k => by
  show td S H fun x H1 => ty S H1 fun y H2 => ∃ a v, x = .ref a ∧ DGet H2 a y (some v) ∧ Q v H2
  refine dw_run (k' := fun G1 w1 => DW K B G1 ty fun G2 r2 => PW r2 fun w2 => ∃ i ks kvs d, w1 = .sl i ∧ w2 = .d (.tuple (ks.map keyD)) ∧ G2[i]? = some (.t kvs) ∧ lkD kvs ks = some d ∧ P G2 (.p (.d d))) h I fun v1 F1 H1 G1 w1 e1 I1 a1 q1 => ?_
  refine dw_run (k' := fun G2 w2 => ∃ i ks kvs d, w1 = .sl i ∧ w2 = .d (.tuple (ks.map keyD)) ∧ G2[i]? = some (.t kvs) ∧ lkD kvs ks = some d ∧ P G2 (.p (.d d))) q1 I1 fun v2 F2 H2 G2 w2 e2 I2 a2 ⟨i, ks, kvs, d, x1, x2, hi, hd, q2⟩ => ?_
  subst x1 x2
  obtain ⟨b, rfl, hb⟩ := key_at a2 I2.ex
  obtain ⟨p, kws, hS, hp, hk, hv⟩ := I2.dct hi
  have a1 : S[i]? = some (some v1) := a1
  rw [hS] at a1
  cases a1
  obtain ⟨v, ev, hvd⟩ := (lk_val (k := ks) hk hv).2 d hd
  exact ⟨p, v, rfl, by rw [← ev]; exact DGet.t hp hb, ct_d (k.mono (e1.trans e2)) I2 hvd q2⟩
theorem ds_dPut (h : DW K B G tv fun G1 r1 => PW r1 fun w1 => DW K B G1 td fun G2 r2 => PW r2 fun w2 => DW K B G2 ty fun G3 r3 => PW r3 fun w3 => ∃ i ks kvs d, w1 = .d d ∧ w2 = .sl i ∧ w3 = .d (.tuple (ks.map keyD)) ∧ G3[i]? = some (.t kvs) ∧ kvs.length < sizeLine ∧ E.nx (G3.set i (.t (putD kvs ks d)))) : DS K B G (sDPut td ty tv) E := fun S F H D I c => by
  show tv S H fun v H1 => td S H1 fun x H2 => ty S H2 fun y H3 => ∃ a H4, x = .ref a ∧ DPut H3 a y v H4 ∧ D.nx S H4
  refine dw_run (k' := fun G1 w1 => DW K B G1 td fun G2 r2 => PW r2 fun w2 => DW K B G2 ty fun G3 r3 => PW r3 fun w3 => ∃ i ks kvs d, w1 = .d d ∧ w2 = .sl i ∧ w3 = .d (.tuple (ks.map keyD)) ∧ G3[i]? = some (.t kvs) ∧ kvs.length < sizeLine ∧ E.nx (G3.set i (.t (putD kvs ks d)))) h I fun v1 F1 H1 G1 w1 e1 I1 a1 q1 => ?_
  refine dw_run (k' := fun G2 w2 => DW K B G2 ty fun G3 r3 => PW r3 fun w3 => ∃ i ks kvs d, w1 = .d d ∧ w2 = .sl i ∧ w3 = .d (.tuple (ks.map keyD)) ∧ G3[i]? = some (.t kvs) ∧ kvs.length < sizeLine ∧ E.nx (G3.set i (.t (putD kvs ks d)))) q1 I1 fun v2 F2 H2 G2 w2 e2 I2 a2 q2 => ?_
  refine dw_run (k' := fun G3 w3 => ∃ i ks kvs d, w1 = .d d ∧ w2 = .sl i ∧ w3 = .d (.tuple (ks.map keyD)) ∧ G3[i]? = some (.t kvs) ∧ kvs.length < sizeLine ∧ E.nx (G3.set i (.t (putD kvs ks d)))) q2 I2 fun v3 F3 H3 G3 w3 e3 I3 a3 ⟨i, ks, kvs, d, x1, x2, x3, hi, hz, q3⟩ => ?_
  subst x1 x2 x3
  obtain ⟨b, rfl, hb⟩ := key_at a3 I3.ex
  obtain ⟨p, kws, hS, hp, hk, hv⟩ := I3.dct hi
  have a2 : S[i]? = some (some v2) := a2
  rw [hS] at a2
  cases a2
  have hl : kws.length = kvs.length := by
    have := congrArg List.length hk
    simpa using this
  refine ⟨p, _, rfl, DPut.t hp hb (by rw [hl]; exact hz), ?_⟩
  refine c.nx S F3 _ _ ((e1.trans e2).trans e3) (I3.mutG hi hS (fun A z => ?_) (fun z => nomatch z) fun A hA z => ?_) q3
  · obtain ⟨p', _, e, _, _, _, hA⟩ := z
    cases e
    exact hA
  · obtain ⟨z1, z2⟩ := put_keys (k := ks) hk hv (dp_mono (e2.trans e3) a1)
    exact ⟨p, _, rfl, upd_same, z1, z2, hA⟩
end
end DL
namespace DL
open PySem L2
/-! ### ''.join -/
theorem join0 : ∀ (cs : List Nat), Txt.join (mkS []) (cs.map fun c => mkS [c]) = mkS cs := by
  have f : ∀ (cs : List Nat) (acc : Array Nat), (cs.map fun c => mkS [c]).foldl (fun acc p => acc ++ (mkS []).cps ++ p.cps) acc = acc ++ cs.toArray := by
    intro cs
    induction cs with
    | nil => intro acc; simp
    | cons c cs ih =>
      intro acc
      rw [List.map_cons, List.foldl_cons, ih]
      simp [mkS]
  intro cs
  cases cs with
  | nil => rfl
  | cons c cs =>
    show (⟨(cs.map fun c => mkS [c]).foldl (fun acc p => acc ++ (mkS []).cps ++ p.cps) (mkS [c]).cps⟩ : Str) = mkS (c :: cs)
    rw [f]
    simp [mkS]
section
variable {K : Fr} {B : Bs} {G : En} {P : Po} {te tl tr : TE} {w1 w2 : W}
theorem rm_join0 {cs : List Nat} (e2 : wd G w2 = some (.list (cs.map fun c => .str (mkS [c])))) (hz : cs.length ≤ 16777216) (q : P G (.p (.d (.str (mkS cs))))) : RWm K B G (rJOIN K) (.d (.str (mkS []))) [w2] P := fun S F H Q v vs I hv hs k => by
  obtain ⟨y, rfl, hy⟩ := vws1 hs
  obtain rfl := dp_str hv
  obtain ⟨p, us, rfl, hp, ha⟩ := wd_list I hy e2
  have e : us = (cs.map fun c => mkS [c]).map V.str := da_strs_eq (by rw [List.map_map]; exact ha)
  subst e
  refine ⟨_, p, cs.map fun c => mkS [c], rfl, rfl, .inl (SqL.of hp), ?_, ?_⟩
  · rw [mkS_len]
    have : ((cs.map fun c => mkS [c]).map (·.length)).sum = cs.length := by
      clear ha hp e2 q hz
      induction cs with
      | nil => rfl
      | cons c cs ih =>
        simp only [List.map_cons, List.sum_cons, List.length_cons, List.length_nil, mkS_len, ih]
        omega
    rw [this, List.length_nil]
    omega
  · rw [join0]
    exact ct_d k I (.str _) q
end
/-! ### a letter times an int -/
def rRepS : R2 := fun x y H Q => ∃ c n, x = .str (mkS [c]) ∧ y = .int n ∧ 1 ≤ n ∧ n ≤ 1000 ∧ Q (.str (mkS (List.replicate n.toNat c))) H
section
open PySem.Spec PyProof.Rows
variable {X : Cx}
theorem rep_cps (c : Nat) : ∀ (n : Nat) (acc : Array Nat), (List.replicate n #[c]).foldl (· ++ ·) acc = acc ++ (List.replicate n c).toArray
  | 0, acc => by simp
  | n + 1, acc => by
    rw [List.replicate_succ, List.foldl_cons, rep_cps c n]
    apply Array.toList_inj.mp
    simp [List.replicate_succ]
theorem op_repS : OpR X (binaryOp .Mult) rRepS := by
  intro pins s σ H x y v u Q I rx ry h
  obtain ⟨c, n, rfl, rfl, h1, h2, q⟩ := h
  obtain ⟨t, rfl⟩ := rx
  obtain ⟨t', rfl⟩ := ry
  have hx : (mkS [c]).length = 1 := rfl
  refine PySem.P.mul_str ?_ ?_ ?_ ?_
  · rw [decide_eq_false (by omega), decide_eq_false (by omega)]
    rfl
  · intro _ _
    rw [hx]
    have : (1 : Int) ≤ (2 ^ 63 - 1) / n := by
      refine (Int.le_ediv_iff_mul_le (by omega)).mpr ?_
      omega
    show ¬ ((1 : Nat) : Int) > _
    omega
  · intro _ _
    rw [hx]
    exact decide_eq_false (by rw [sizeLine_eq]; omega)
  · rw [if_neg (by omega)]
    by_cases e : n = 1
    · subst e
      rw [if_pos (by rfl)]
      exact ⟨.str (mkS [c]), H, I, ⟨t, rfl⟩, q⟩
    · rw [if_neg (by simp [hx, e])]
      have e2 : (⟨(List.replicate n.toNat (mkS [c]).cps).foldl (· ++ ·) #[]⟩ : Str) = mkS (List.replicate n.toNat c) := by
        show (⟨(List.replicate n.toNat #[c]).foldl (· ++ ·) #[]⟩ : Str) = _
        rw [rep_cps]
        simp [mkS]
      rw [e2]
      refine ⟨?_, ?_⟩
      · show (mkS (List.replicate n.toNat c)).length ≤ sizeLine
        rw [mkS_len, List.length_replicate, sizeLine_eq]
        omega
      · exact ⟨.str (mkS (List.replicate n.toNat c)), H, I.tok _, ⟨_, rfl⟩, q⟩
end
section
variable {K : Fr} {B : Bs} {G : En} {P : Po}
theorem rw_repS {c : Nat} {n : Int} (h1 : 1 ≤ n) (h2 : n ≤ 1000) (q : P G (.p (.d (.str (mkS (List.replicate n.toNat c)))))) : RW2 K B G rRepS (.d (.str (mkS [c]))) (.d (.int n)) P := fun S F H Q v1 v2 I a1 a2 k => ⟨c, n, dp_str a1, dp_int a2, h1, h2, ct_d k I (.str _) q⟩
end

/-! ### [e for g in .. for g1 in ..] -/
section
variable {K : Fr} {B : Bs} {G : En} {te : TE} {P : Po} {tt tt1 : TT}
theorem dw_lc2 {wi wi1 : TI} {g g1 : TG} {ch ch1 : List Nat} {vs vs1 : List Nat} (J : List PyData → Nat → List PyData → En → Prop) (J1 : List PyData → Nat → List PyData → Nat → List PyData → En → Prop) (hsub : ∀ k ∈ ch, k ∈ vs) (hsub1 : ∀ k ∈ ch1, k ∈ vs1) (hv : ∀ k ∈ vs1, k ∈ vs)
    (h : DI K B G wi fun G1 ds => J ds 0 [] (wipeG G1 vs) ∧ (∀ (B' : Bs) i acc G2 d, ds[i]? = some d → J ds i acc G2 → DG K B' G2 g ch (.d d) fun G3 => DT K B' G3 tt fun G4 b => if b = true then
      DI K B' G4 wi1 fun G5 ds1 => J1 ds i ds1 0 acc (wipeG G5 vs1) ∧ (∀ (B'' : Bs) j acc G6 d1, ds1[j]? = some d1 → J1 ds i ds1 j acc G6 → DG K B'' G6 g1 ch1 (.d d1) fun G7 => DT K B'' G7 tt1 fun G8 b => if b = true then
        DW K B'' G8 te fun G9 r => PW r fun w => ∃ y, w = .d y ∧ acc.length < sizeLine ∧ J1 ds i ds1 (j + 1) (acc ++ [y]) (wipeG G9 vs1) else J1 ds i ds1 (j + 1) acc (wipeG G8 vs1)) ∧ (∀ acc G6, J1 ds i ds1 ds1.length acc G6 → J ds (i + 1) acc (wipeG G6 vs))
      else J ds (i + 1) acc (wipeG G4 vs)) ∧ ∀ acc G2, J ds ds.length acc G2 → P (wipeG G2 vs) (.fr (.o none acc))) :
    DW K B G (tLc2 wi g tt wi1 g1 tt1 te vs vs1) P := fun S F H Q I k => by
  refine h S F H _ I fun It F1 H1 G1 ds e1 I1 Y ⟨j0, hs, hd⟩ => ?_
  intro D hD
  refine ⟨fun i m H => m = ds.length - i ∧ i ≤ ds.length ∧ ∃ F2 G2 acc, Ex F1 F2 ∧ Iv K B (G2 ++ [.o none acc]) (L2.wipe S vs ++ [some (.ref D)]) F2 H ∧ J ds i acc G2, ⟨_, rfl, Nat.zero_le _, F1, _, [], Ex.refl _, (I1.wipe vs).newL hD .nil, j0⟩, ?_⟩
  rintro i m H2 ⟨rfl, hi, F2, G2, acc, e2, I2, j2⟩
  by_cases hlt : i < ds.length
  · obtain ⟨d, hd'⟩ : ∃ d, ds[i]? = some d := ⟨_, List.getElem?_eq_getElem hlt⟩
    refine .inr ⟨((Y i H2 F2 e2 I2.ex).1 d hd').1, fun H => ∃ F2 G2 acc, Ex F1 F2 ∧ Iv K B (G2 ++ [.o none acc]) (L2.wipe S vs ++ [some (.ref D)]) F2 H ∧ J ds (i + 1) acc G2, fun H' p => ⟨ds.length - (i + 1), by omega, rfl, hlt, p⟩, fun x H3 y => ?_⟩
    obtain ⟨F3, e3, I3, hx⟩ := Y.turn e2 I2 hd' y
    obtain ⟨D', accv, mu, eD, hD3, ha3, Ia, back⟩ := I3.aside
    cases eD
    refine hs _ i acc G2 d hd' j2 _ F3 H3 x _ Ia hx fun S4 F4 H4 G4 e4 I4 l4 u4 q => ?_
    have ew : L2.wipe S4 vs = L2.wipe S vs := by
      rw [wipe_ext l4 fun k hk => u4 k fun z => hk (hsub k z)]
      exact wipe_ext (wipe_length S vs) fun k hk => wipe_ne hk
    refine ⟨ew, q S4 F4 H4 _ I4 fun b F5 H5 G5 e5 I5 q5 => ?_⟩
    cases b with
    | false =>
      show ∃ F2 G2 acc, Ex F1 F2 ∧ Iv K B (G2 ++ [.o none acc]) (L2.wipe S vs ++ [some (.ref D)]) F2 H5 ∧ J ds (i + 1) acc G2
      obtain ⟨_, I6⟩ := back _ _ _ _ (I5.wipe vs)
      rw [ew] at I6
      exact ⟨F5, _, acc, ((e2.trans e3).trans e4).trans e5, I6, q5⟩
    | true =>
      show wi1 S4 H5 fun J1' H4 => ∃ W1 : Nat → Nat → Hp → Prop, _ ∧ _
      refine q5 S4 F5 H5 _ I5 fun It1 F6 H6 G6 ds1 e6 I6 Y1 ⟨k0, ks, kd⟩ => ?_
      obtain ⟨_, I7⟩ := back _ _ _ _ (I6.wipe vs1)
      have e06 : Ex F1 F6 := (((e2.trans e3).trans e4).trans e5).trans e6
      refine ⟨fun j m H => m = ds1.length - j ∧ j ≤ ds1.length ∧ ∃ F8 G8 acc, Ex F6 F8 ∧ Iv K B (G8 ++ [.o none acc]) (L2.wipe S4 vs1 ++ [some (.ref D)]) F8 H ∧ J1 ds i ds1 j acc G8, ⟨_, rfl, Nat.zero_le _, F6, _, acc, Ex.refl _, I7, k0⟩, ?_⟩
      rintro j m H8 ⟨rfl, hj, F8, G8, acc8, e8, I8, j8⟩
      by_cases hlt1 : j < ds1.length
      · obtain ⟨d1, hd1⟩ : ∃ d, ds1[j]? = some d := ⟨_, List.getElem?_eq_getElem hlt1⟩
        refine .inr ⟨((Y1 j H8 F8 e8 I8.ex).1 d1 hd1).1, fun H => ∃ F8 G8 acc, Ex F6 F8 ∧ Iv K B (G8 ++ [.o none acc]) (L2.wipe S4 vs1 ++ [some (.ref D)]) F8 H ∧ J1 ds i ds1 (j + 1) acc G8, fun H' p => ⟨ds1.length - (j + 1), by omega, rfl, hlt1, p⟩, fun x H9 y => ?_⟩
        obtain ⟨F9, e9, I9, hx9⟩ := Y1.turn e8 I8 hd1 y
        obtain ⟨D', accv9, mu9, eD, hD9, ha9, Ia9, back9⟩ := I9.aside
        cases eD
        refine ks _ j acc8 G8 d1 hd1 j8 _ F9 H9 x _ Ia9 hx9 fun Sa Fa Ha Ga ea Ja la ua qa => ?_
        have ew1 : L2.wipe Sa vs1 = L2.wipe S4 vs1 := by
          rw [wipe_ext la fun k hk => ua k fun z => hk (hsub1 k z)]
          exact wipe_ext (wipe_length S4 vs1) fun k hk => wipe_ne hk
        refine ⟨ew1, qa Sa Fa Ha _ Ja fun b Fb Hb Gb eb Ib qb => ?_⟩
        cases b with
        | false =>
          show ∃ F8 G8 acc, Ex F6 F8 ∧ Iv K B (G8 ++ [.o none acc]) (L2.wipe S4 vs1 ++ [some (.ref D)]) F8 Hb ∧ J1 ds i ds1 (j + 1) acc G8
          obtain ⟨_, Ic⟩ := back9 _ _ _ _ (Ib.wipe vs1)
          rw [ew1] at Ic
          exact ⟨Fb, _, acc8, ((e8.trans e9).trans ea).trans eb, Ic, qb⟩
        | true =>
          show te Sa Hb fun y H7 => ∃ acc, H7 D = some (.lst acc) ∧ acc.length < sizeLine ∧ (∃ F8 G8 acc', Ex F6 F8 ∧ Iv K B (G8 ++ [.o none acc']) (L2.wipe S4 vs1 ++ [some (.ref D)]) F8 (upd H7 D (.lst (acc ++ [y]))) ∧ J1 ds i ds1 (j + 1) acc' G8)
          refine dw_run (k' := fun G5 w => ∃ y, w = .d y ∧ acc8.length < sizeLine ∧ J1 ds i ds1 (j + 1) (acc8 ++ [y]) (wipeG G5 vs1)) qb Ib fun v Fc Hc Gc w ec Ic hv' qc => ?_
          obtain ⟨y, rfl, hz, jc⟩ := qc
          obtain ⟨hDc, Id⟩ := back9 _ _ _ _ (Ic.wipe vs1)
          rw [ew1] at Id
          refine ⟨accv9, hDc, by rw [da_len ha9]; exact hz, Fc, _, acc8 ++ [y], (((e8.trans e9).trans ea).trans eb).trans ec, ?_, jc⟩
          have hl : (L2.wipe S4 vs1).length = (wipeG Gc vs1).length := by
            have := Id.len
            simpa using this
          have Ie := Id.mut (i := (wipeG Gc vs1).length) (p := D) (q := none) (ds := acc8) (ds' := acc8 ++ [y]) (vs' := accv9 ++ [v]) (by simp) (by rw [← hl]; simp) (da_app (da_mono ((ea.trans eb).trans ec) ha9) (.cons hv' .nil))
          have eg : (wipeG Gc vs1 ++ [Sl.o none acc8]).set (wipeG Gc vs1).length (.o none (acc8 ++ [y])) = wipeG Gc vs1 ++ [.o none (acc8 ++ [y])] := by simp
          rw [eg] at Ie
          exact Ie
      · have e : j = ds1.length := by omega
        subst e
        refine .inl ⟨(Y1 _ H8 F8 e8 I8.ex).2 rfl, F8, _, acc8, e06.trans e8, ?_, kd acc8 G8 j8⟩
        obtain ⟨D', accv9, mu9, eD, hD9, ha9, Ia9, back9⟩ := I8.aside
        have I9 := (back9 _ _ _ _ (Ia9.wipe vs)).2
        have ew2 : L2.wipe (L2.wipe S4 vs1) vs = L2.wipe S vs := by
          rw [← ew]
          exact wipe_ext (wipe_length S4 vs1) fun k hk => wipe_ne fun z => hk (hv k z)
        rw [ew2] at I9
        exact I9
  · have e : i = ds.length := by omega
    subst e
    refine .inl ⟨(Y _ H2 F2 e2 I2.ex).2 rfl, ?_⟩
    have I3 : Iv K B (wipeG G2 vs ++ [.o none acc]) (S ++ [some (.ref D)]) F2 H2 := by
      obtain ⟨D', accv, mu, eD, hD3, ha3, Ia, back⟩ := I2.aside
      exact (back _ _ _ _ ((Ia.wipe vs).wiped (S := S) (by rw [wipe_length, wipe_length]) fun k hk => by rw [wipe_ne hk, wipe_ne hk])).2
    exact k (.ref D) F2 H2 (wipeG G2 vs) (.fr (.o none acc)) (e1.trans e2) I3 (hd acc G2 j2)
end
end DL
namespace DL
open PySem L2
/-! ### defs that raise -/
def spX (K : Fr) (pre : List PyData → Prop) (post : List PyData → Rs → Prop) (exc : List PyData → Value → Prop) : Sp := fun vs H Q E => ∃ F ds, Ex F H ∧ DqAll K F vs ds ∧ pre ds ∧
  (∀ v F' H' r, Ex F F' → Ex F' H' → Ex H H' → (∀ b o, F' b = some o → F b = none → H b = none) → Rr K (fun a => H a = none) F' H' v r → post ds r → Q v H') ∧
  ∀ cls F' H', Ex F F' → Ex F' H' → Ex H H' → (∀ b o, F' b = some o → F b = none → H b = none) → exc ds cls → E cls none H'
section
variable {K : Fr} {B : Bs} {G : En} {P : Po} {t : TA} {E : XK}
/-- what takes an exception of class cls, from the base B on -/
def Tk (K : Fr) (B : Bs) (exc : Value → Prop) (E : XK) : Prop := ∀ cls S F H G, Iv K B G S F H → exc cls → E cls none H
theorem dw_callX {pre : List PyData → Prop} {post : List PyData → Rs → Prop} {exc : List PyData → Value → Prop} {ex0 : Value → Prop} (hE : Tk K B ex0 E) (h : DA K B G t fun G1 ws => ∃ ds, allD ws = some ds ∧ pre ds ∧ (∀ r, post ds r → P G1 r) ∧ ∀ cls, exc ds cls → ex0 cls) : DW K B G (tCall (spX K pre post exc) [] E t) P := fun S F H Q I k => by
  show t S H fun vs H1 => spX K pre post exc (vs ++ []) H1 Q E
  refine h S F H _ I fun vs F1 H1 G1 ws e1 I1 hv ⟨ds, hd, hp, q, qx⟩ => ?_
  rw [List.append_nil]
  refine ⟨F1, ds, I1.ex, allD_ok hd hv, hp, fun v F2 H2 r a1 a2 a3 a4 a5 a6 => ?_, fun cls F2 H2 a1 a2 a3 a4 a5 => ?_⟩
  · match r, a5, a6 with
    | .p (.d d), a5, a6 => exact k v F2 H2 G1 (.p (.d d)) (e1.trans a1) ⟨I1.grow a1 a3 a2 a4, a5⟩ (q _ a6)
    | .fr s, ⟨A, b1, b2⟩, a6 =>
      refine k v F2 H2 G1 (.fr s) (e1.trans a1) ?_ (q _ a6)
      exact I1.add a1 a3 a2 a4 (some v) A (.inr ⟨v, rfl, b1⟩) fun a ha => ⟨(b2 a ha).2.2, (b2 a ha).1, (b2 a ha).2.1⟩
  · exact hE cls S F2 H2 G1 (I1.grow a1 a3 a2 a4) (qx cls a5)
/-- .. where nothing is raised -/
theorem dw_callN {pre : List PyData → Prop} {post : List PyData → Rs → Prop} {exc : List PyData → Value → Prop} (h : DA K B G t fun G1 ws => ∃ ds, allD ws = some ds ∧ pre ds ∧ (∀ r, post ds r → P G1 r) ∧ ∀ cls, ¬ exc ds cls) : DW K B G (tCall (spX K pre post exc) [] E t) P := by
  refine dw_callX (ex0 := fun _ => False) (fun _ _ _ _ _ _ z => z.elim) ?_
  exact h
/-- .. within try -/
def TkW (K : Fr) (B : Bs) (exc : Value → En → Prop) (W : WX) : Prop := ∀ cls S F H G, Iv K B G S F H → exc cls G → W cls none S H
theorem dw_callS {pre : List PyData → Prop} {post : List PyData → Rs → Prop} {exc : List PyData → Value → Prop} {W : WX} {ex0 : Value → En → Prop} (hE : TkW K B ex0 W) (h : DA K B G t fun G1 ws => ∃ ds, allD ws = some ds ∧ pre ds ∧ (∀ r, post ds r → P G1 r) ∧ ∀ cls, exc ds cls → ex0 cls G1) : DW K B G (tCallS (spX K pre post exc) (WE W) t) P := fun S F H Q I k => by
  show t S H fun vs H1 => spX K pre post exc vs H1 Q (fun cls d H => W cls d S H)
  refine h S F H _ I fun vs F1 H1 G1 ws e1 I1 hv ⟨ds, hd, hp, q, qx⟩ => ?_
  refine ⟨F1, ds, I1.ex, allD_ok hd hv, hp, fun v F2 H2 r a1 a2 a3 a4 a5 a6 => ?_, fun cls F2 H2 a1 a2 a3 a4 a5 => ?_⟩
  · match r, a5, a6 with
    | .p (.d d), a5, a6 => exact k v F2 H2 G1 (.p (.d d)) (e1.trans a1) ⟨I1.grow a1 a3 a2 a4, a5⟩ (q _ a6)
    | .fr s, ⟨A, b1, b2⟩, a6 =>
      refine k v F2 H2 G1 (.fr s) (e1.trans a1) ?_ (q _ a6)
      exact I1.add a1 a3 a2 a4 (some v) A (.inr ⟨v, rfl, b1⟩) fun a ha => ⟨(b2 a ha).2.2, (b2 a ha).1, (b2 a ha).2.1⟩
  · exact hE cls S F2 H2 G1 (I1.grow a1 a3 a2 a4) (qx cls a5)
variable {De0 : De}
/-- raise X(..), X without own fields -/
theorem ds_raise {W : WX} {cls : Value} {exc : Value → En → Prop} (hE : TkW K B exc W) (h : exc cls G) : DS K B G (fun _ σ H => (fun (_ : St) (H : Hp) (Q : XK) => Q cls none H) σ H fun cls d H' => W cls d σ H') De0 := fun S F H D I c => hE cls S F H G I h
/-- a caught exception -/
def exO (a : Addr) : Orel := { rel := fun _ _ v _ => v = .ref a, stab := fun h _ _ => h }
/-- try .. except c as n -/
theorem ds_tryAs {c : Value} {i : Nat} {tb : WX → TS} {ts : Addr → Value → Option Addr → TS} {Wout : WX} {exc : Value → En → Prop} {E : De} (hi : i < G.length)
    (hb : ∀ (B' : Bs) (W : WX), TkW K B' exc W → DS K B' G (tb W) E) (hx : ∀ cls G1, exc cls G1 → PySem.W.exmOne K cls c = some true ∧ ∀ (B' : Bs) a, DS K B' (G1.set i (.ow (exO a))) (ts a cls none) { nx := fun G => E.nx (G.set i .un), rt := E.rt, bk := fun G => E.bk (G.set i .un), ct := fun G => E.ct (G.set i .un) }) :
    DS K B G (fun D σ H => tb (wAs K c i ts Wout D) D σ H) E := fun S F H D I cv => by
  obtain ⟨mu, _, I0, back, _⟩ := I.rebase
  have cov : Cov K ⟨F, H, mu⟩ F E D := ⟨fun S1 F1 H1 G1 e J p => cv.nx S1 F1 H1 G1 e (back _ _ _ _ J) p, fun S1 F1 H1 G1 v r e J p => cv.rt S1 F1 H1 G1 v r e (by
      cases r with
      | p w => exact ⟨back _ _ _ _ J.1, J.2⟩
      | fr s => exact back _ _ _ _ J) p, fun S1 F1 H1 G1 e J p => cv.bk S1 F1 H1 G1 e (back _ _ _ _ J) p, fun S1 F1 H1 G1 e J p => cv.ct S1 F1 H1 G1 e (back _ _ _ _ J) p⟩
  refine hb ⟨F, H, mu⟩ (wAs K c i ts Wout D) (fun cls S1 F1 H1 G1 J hx1 => ?_) S F H D I0 cov
  obtain ⟨e1, e2⟩ := hx cls G1 hx1
  refine ⟨true, e1, fun _ a ha => ?_, fun z => Bool.noConfusion z⟩
  have J1 : Iv K ⟨F, H, mu⟩ (G1.set i (.ow (exO a))) (S1.set i (some (.ref a))) F1 H1 := by
    obtain ⟨A, a1, a2, a3⟩ := J.own
    refine ⟨J.ex, J.f0, J.fr, J.nw, J.st, by simpa using J.len, fun j b => j ≠ i ∧ A j b, fun j s hj => ?_, fun j k b x y => a2 j k b x.2 y.2, fun j b x => a3 j b x.2⟩
    by_cases e : i = j
    · subst e
      obtain ⟨rfl, hl⟩ := set_same hj
      exact .inr ⟨.ref a, List.getElem?_set_self (by rw [J.len]; exact hl), rfl⟩
    · rw [List.getElem?_set_ne e] at hj
      rw [List.getElem?_set_ne e]
      rcases a1 j s hj with z | ⟨u, x1, x2⟩
      · exact .inl z
      · refine .inr ⟨u, x1, ?_⟩
        have ea : (fun b => j ≠ i ∧ A j b) = A j := by
          funext b
          exact propext ⟨fun z => z.2, fun z => ⟨fun z => e z.symm, z⟩⟩
        show SvR K F1 H1 u (fun b => j ≠ i ∧ A j b) s
        rw [ea]
        exact x2
  have f0 : Ex F F1 := J.f0
  refine e2 _ a _ F1 H1 _ J1 ⟨fun S2 F2 H2 G2 e J2 p => ?_, fun S2 F2 H2 G2 v r e J2 p => cov.rt S2 F2 H2 G2 v r (f0.trans e) J2 p, fun S2 F2 H2 G2 e J2 p => ?_, fun S2 F2 H2 G2 e J2 p => ?_⟩
  · exact cov.nx _ F2 H2 _ (f0.trans e) (J2.set_un i none) p
  · exact cov.bk _ F2 H2 _ (f0.trans e) (J2.set_un i none) p
  · exact cov.ct _ F2 H2 _ (f0.trans e) (J2.set_un i none) p
/-- try .. except c -/
theorem ds_tryOnly {c : Value} {tb : WX → TS} {ts : Addr → Value → Option Addr → TS} {Wout : WX} {exc : Value → En → Prop} {E : De}
    (hb : ∀ (B' : Bs) (W : WX), TkW K B' exc W → DS K B' G (tb W) E) (hx : ∀ cls G1, exc cls G1 → PySem.W.exmOne K cls c = some true ∧ ∀ (B' : Bs) a, DS K B' G1 (ts a cls none) E) :
    DS K B G (fun D σ H => tb (wOnly K c ts Wout D) D σ H) E := fun S F H D I cv => by
  obtain ⟨mu, _, I0, back, _⟩ := I.rebase
  have cov : Cov K ⟨F, H, mu⟩ F E D := ⟨fun S1 F1 H1 G1 e J p => cv.nx S1 F1 H1 G1 e (back _ _ _ _ J) p, fun S1 F1 H1 G1 v r e J p => cv.rt S1 F1 H1 G1 v r e (by
      cases r with
      | p w => exact ⟨back _ _ _ _ J.1, J.2⟩
      | fr s => exact back _ _ _ _ J) p, fun S1 F1 H1 G1 e J p => cv.bk S1 F1 H1 G1 e (back _ _ _ _ J) p, fun S1 F1 H1 G1 e J p => cv.ct S1 F1 H1 G1 e (back _ _ _ _ J) p⟩
  refine hb ⟨F, H, mu⟩ (wOnly K c ts Wout D) (fun cls S1 F1 H1 G1 J hx1 => ?_) S F H D I0 cov
  obtain ⟨e1, e2⟩ := hx cls G1 hx1
  exact ⟨true, e1, fun _ a ha => e2 _ a S1 F1 H1 D J (cov.mono J.f0), fun z => Bool.noConfusion z⟩
/-- isinstance(e, T), e the caught exception -/
theorem dw_slE {i : Nat} {a : Addr} (h : G[i]? = some (.ow (exO a))) (q : P G (.p (.sl i))) : DW K B G (tVar i) P := fun S F H Q I k => by
  obtain ⟨A, a1, _, _⟩ := I.own
  rcases a1 i _ h with e | ⟨v, h1, _⟩
  · cases e
  · exact ⟨v, h1, k _ F H G (.p (.sl i)) (Ex.refl F) ⟨I, h1⟩ q⟩
theorem rn_isE {i : Nat} {a D : Addr} {T : String} {b : Bool} (h : G[i]? = some (.ow (exO a))) (e : PySem.W.kitOne K (.ref D) (.type T) = some b) (q : P G (.p (.d (.bool b)))) : RWn K B G (rIsE K D a) [.sl i, .ty T] P := fun S F H Q vs I hv k => by
  obtain ⟨v, v', rfl, h1, h2⟩ := vws2 hv
  have h2 : v' = .ty T := h2
  subst h2
  obtain ⟨A, a1, _, _⟩ := I.own
  rcases a1 i _ h with e' | ⟨u, z1, z2⟩
  · cases e'
  · have h1 : S[i]? = some (some v) := h1
    rw [h1] at z1
    cases z1
    have z2 : v = .ref a := z2
    subst z2
    exact ⟨.ty T, .type T, b, rfl, fun _ h => h, e, ct_d k I (.bl _) q⟩
end
section
variable {P : Program} {w : World} {K : Fr} {mg : Str → Option Value} {base : Heap} {x qual : Str} {st : Stmt} {f : Addr} {fd : FuncData} {N ps : List Str} {k : Nat}
theorem fnX {pre : List PyData → Prop} {post : List PyData → Rs → Prop} {exc : List PyData → Value → Prop} (F : Fun K x qual st f fd) (S : FnScope N ps (defScope st)) (hl : ∀ ds, pre ds → ds.length = ps.length ∧ ds.length ≤ N.length)
    (hb : ∀ (cdv : Value) (A : Around) (outer : List Env) (s : Shared) (H : Hp) (E : XK), Room k (A.deeper (PyProof.Rows.envOfC qual (defScope st) s.heap.objs.size f cdv)) → ∃ t, PSs (cxOf (L2.CX P w) P w K mg base N qual (defScope st) f cdv A outer s H E) (defBody st) t ∧
      ∀ ds, pre ds → ∀ B, Tk K B (exc ds) E → DS K B (G0 N ds) t (E0 (post ds))) : FnOk P w K mg base (L2.CX P w) (k + 1) f fd ps (spX K pre post exc) := by
  refine F.okX S (fun vs H Q E h => ?_) (fun cdv A outer s H vs Q E hr h => ?_)
  · obtain ⟨F, ds, _, h1, h2, _⟩ := h
    rw [da_len h1]
    exact (hl ds h2).1
  · obtain ⟨F0, ds, ex, h1, h2, q, qx⟩ := h
    obtain ⟨t, ht, hs⟩ := hb cdv A outer s H E hr
    refine ⟨t, ht, ?_⟩
    have I0 := start_iv (N := N) ex h1 (hl ds h2).2
    have out : ∀ {G' : En} {S' : St} {F' H' : Hp}, Iv K ⟨F0, H, fun _ => False⟩ G' S' F' H' → Ex H H' ∧ ∀ b o, F' b = some o → F0 b = none → H b = none := fun {G' S' F' H'} J => ⟨fun b o h => J.fr b o h id, fun b o h n => by
      cases z : H b with
      | none => rfl
      | some u =>
        rcases J.nw b o h (nn z) with y | y
        · exact absurd n y
        · exact y.elim⟩
    refine hs ds h2 _ (fun cls S F H' G J hx => qx cls F H' J.f0 J.ex (out J).1 (out J).2 hx) _ F0 H _ I0 ⟨fun S F H' G e J p => ?_, fun S F H' G v r e J p => ?_, fun _ _ _ _ _ _ z => z.elim, fun _ _ _ _ _ _ z => z.elim⟩
    · exact q .non F H' (.p (.d .none)) e J.ex (out J).1 (out J).2 .non p
    · match r, J, p with
      | .p (.d d), J, p => exact q v F H' (.p (.d d)) e J.1.ex (out J.1).1 (out J.1).2 J.2 p
      | .p (.sl i), J, ⟨a, ds', hi, p⟩ =>
        obtain ⟨A, a1, a2, a3⟩ := J.1.own
        obtain ⟨u, z1, c, vs', z2, z3, z4, z5, _⟩ : ∃ v, S[i]? = some (some v) ∧ SvR K F H' v (A i) (.o a ds') := (a1 i _ hi).elim (fun z => by cases z) id
        have hv : S[i]? = some (some v) := J.2
        rw [hv] at z1
        cases z1
        exact q v F H' (.fr (.o none ds')) e J.1.ex (out J.1).1 (out J.1).2 ⟨A i, ⟨c, vs', z2, z3, z4, z5, fun _ z => by cases z⟩, fun a ha => ⟨(a3 i a ha).1, (a3 i a ha).2.1, (a3 i a ha).2.2.elim id False.elim⟩⟩ p
      | .fr s, J, ⟨hu, p⟩ =>
        obtain ⟨A, a1, a2, a3⟩ := J.own
        have J' := Iv.drop J
        obtain ⟨u, z1, z2⟩ : ∃ v', (S ++ [some v])[G.length]? = some (some v') ∧ SvR K F H' v' (A G.length) s := (a1 G.length s (by simp)).elim (fun z => absurd z hu) id
        have hv : (S ++ [some v])[G.length]? = some (some v) := by
          rw [← J'.len]
          simp
        rw [hv] at z1
        cases z1
        exact q v F H' (.fr s) e J'.ex (out J').1 (out J').2 ⟨_, z2, fun a ha => ⟨(a3 _ a ha).1, (a3 _ a ha).2.1, (a3 _ a ha).2.2.elim id False.elim⟩⟩ p
end
end DL
namespace DL
open PySem L2
/-- {k: v}, k a tuple of ints and texts -/
def tDisp1T (tk tv : TE) : TE := fun S H Q => ∀ p, H p = none → tk S (upd H p (.dT [])) fun x H1 => tv S H1 fun v H2 => ∃ (b : Addr) (k : List Key), x = .ref b ∧ H2 p = some (.dT []) ∧ H2 b = some (.tup (k.map kV)) ∧ Q (.ref p) (upd H2 p (.dT [(k, v)]))
section
open PySem.Spec PyProof.Rows
variable {X : Cx}
theorem pe_disp1T {k v : Expr} {tk tv : TE} {pos : Pos} (hu : X.A.units + 1 < cLine) (hk : PE X k tk) (hv : PE X v tv) : PE X (.Dict [some k] [v] pos) (tDisp1T tk tv) := by
  refine ⟨fun pins s σ H Q I q => ?_⟩
  have hn := I.hok.fresh (Nat.le_refl s.heap.objs.size)
  have I1 := I.laid (a := s.heap.objs.size) (o := .dT []) (h' := s.heap.push { cls := .type "dict", data := .dict #[] }) (t' := s.toks) (fun _ _ q => Heap.get?_push_of_some _ q) (Nat.le_refl _) (dt_empty s.heap I.big)
  have q := q _ hn
  rw [arm_eval_Dict, zip_pairTrees [some k] [v] X.env pos rfl rfl, dictDisplay_pairs (pairTrees [some k] [v] X.env pos) (by simp [pairTrees]) (by simp [pairTrees])]
  refine wpAny_bind (wpAny_standAt (wpAny_bind ?_))
  refine wpAny_subDictH (knd := tupleKind (mixKind X.prog X.w)) (Nat.lt_of_succ_lt hu) (by simp [pairTrees]) ?_
  refine pairTrees_cons_walk (thn (hk.run pins _ σ _ _ I1 q) fun u s1 ⟨x, H1, I2, rx, q1⟩ => thn (hv.run pins s1 σ H1 _ I2 q1) fun u2 s2 ⟨y, H2, I3, ry, b, ks, ex, e0, eb, q2⟩ => pairTrees_nil_walk ?_)
  subst ex
  cases (show u = Value.ref b from rx)
  obtain ⟨z, hd, xs, rel, dd⟩ := dt_of I3.hok e0
  cases rel
  refine ⟨[(ks, b, u2)], ⟨rfl, rfl, key_of I3.hok eb, trivial⟩, dd, fun h' tk' dd' hs => wpAny_pure ⟨.ref s.heap.objs.size, _, ?_, rfl, q2⟩⟩
  obtain ⟨q', es, ep, hq, h2, h3, h4, h6, h5⟩ := dd'
  refine d_write I3 (by rw [e0]; exact True.intro) hs ⟨q', hq⟩ ⟨by rw [sizeLine_eq]; exact (by decide : 1 ≤ 16777216), hd, [(ks, b, u2)], .cons ⟨rfl, ?_, ry⟩ .nil, q', es, ep, hq, h2, h3, h4, h5⟩
  rw [upd_ne (ne_of eb e0 (fun z => nomatch z))]
  exact eb
end
/-- the last slot's own thing, aside while the rest runs -/
theorem Iv.asideG {K : Fr} {B : Bs} {G : En} {S : St} {F H : Hp} {s : Sl} {x : V} (I : Iv K B (G ++ [s]) (S ++ [some x]) F H) (hs : s ≠ .un) : ∃ (A0 mu : Addr → Prop), SvR K F H x A0 s ∧ (∀ a, A0 a → F a = none ∧ H a ≠ none) ∧ Iv K ⟨F, H, mu⟩ G S F H ∧
    ∀ G1 S1 F1 H1, Iv K ⟨F, H, mu⟩ G1 S1 F1 H1 → (∀ a, A0 a → H1 a = H a) ∧ Iv K B (G1 ++ [s]) (S1 ++ [some x]) F1 H1 := by
  obtain ⟨A, h1, h2, h3⟩ := I.own
  have hl : S.length = G.length := by
    have := I.len
    simpa using this
  obtain ⟨u, e1, e2⟩ : ∃ v, (S ++ [some x])[G.length]? = some (some v) ∧ SvR K F H v (A G.length) s := (h1 G.length s (by simp)).elim (fun z => absurd z hs) id
  have ex : x = u := by
    rw [← hl] at e1
    have : (S ++ [some x])[S.length]? = some (some x) := by simp
    rw [this] at e1
    exact Option.some.inj (Option.some.inj e1)
  subst ex
  have I0 := I.drop
  have hm : ∀ a, (∃ i, i < G.length ∧ A i a) → F a = none ∧ H a ≠ none ∧ (B.H0 a = none ∨ B.mu a) := fun a ⟨i, _, h⟩ => h3 i a h
  have nD : ∀ a, A G.length a → ¬ ∃ i, i < G.length ∧ A i a := fun a ha ⟨i, hi, h⟩ => by
    have := h2 _ _ _ h ha
    omega
  refine ⟨A G.length, fun a => ∃ i, i < G.length ∧ A i a, e2, fun a ha => ⟨(h3 _ _ ha).1, (h3 _ _ ha).2.1⟩, ⟨I.ex, Ex.refl _, fun b o h _ => h, fun b o h _ => .inl (nn h), fun b h => h, hl, fun i a => i < G.length ∧ A i a, fun i s hi => ?_, fun i j a p q => h2 i j a p.2 q.2, fun i a h => ⟨(h3 i a h.2).1, (h3 i a h.2).2.1, .inr ⟨i, h⟩⟩⟩, fun G1 S1 F1 H1 J => ?_⟩
  · have hlt := (List.getElem?_eq_some_iff.mp hi).1
    rcases h1 i s (by rw [List.getElem?_append_left hlt]; exact hi) with z | ⟨u, z1, z2⟩
    · exact .inl z
    · refine .inr ⟨u, by rw [List.getElem?_append_left (by omega)] at z1; exact z1, ?_⟩
      have ea : (fun a => i < G.length ∧ A i a) = A i := by
        funext a
        exact propext ⟨fun z => z.2, fun z => ⟨hlt, z⟩⟩
      show SvR K F H u (fun a => i < G.length ∧ A i a) s
      rw [ea]
      exact z2
  · have hD : ∀ a, A G.length a → H1 a = H a := fun a ha => by
      obtain ⟨o, ho⟩ : ∃ o, H a = some o := by
        cases q : H a with
        | none => exact absurd q (h3 _ _ ha).2.1
        | some o => exact ⟨o, rfl⟩
      rw [ho]
      exact J.fr a o ho (nD a ha)
    have fD : ∀ a, A G.length a → F1 a = none := fun a ha => by
      cases q : F1 a with
      | none => rfl
      | some o =>
        rcases J.nw a o q (h3 _ _ ha).2.1 with z | z
        · exact absurd (h3 _ _ ha).1 z
        · exact absurd z (nD a ha)
    obtain ⟨A', k1, k2, k3⟩ := J.own
    have nA : ∀ i a, A G.length a → ¬ A' i a := fun i a ha z => by
      rcases (k3 i a z).2.2 with q | q
      · exact (h3 _ _ ha).2.1 q
      · exact nD a ha q
    refine ⟨hD, J.ex, I.f0.trans J.f0, fun b o h m => ?_, fun b o h n => ?_, fun b h => J.st b (I.st b h), by simp [J.len], fun i a => (i < G1.length ∧ A' i a) ∨ (i = G1.length ∧ A G.length a), fun i s' hi => ?_, fun i j a p q => ?_, fun i a h => ?_⟩
    · refine J.fr b o (I.fr b o h m) fun ⟨i, _, z⟩ => ?_
      rcases (h3 i b z).2.2 with q | q
      · rw [h] at q
        cases q
      · exact m q
    · rcases J.nw b o h (I.st b n) with z | z
      · obtain ⟨u, hu⟩ : ∃ u, F b = some u := by
          cases q : F b with
          | none => exact absurd q z
          | some u => exact ⟨u, rfl⟩
        exact I.nw b u hu n
      · rcases (hm b z).2.2 with q | q
        · exact absurd q n
        · exact .inr q
    · rcases app_get hi with ⟨hlt, h⟩ | ⟨hlt, e⟩
      · rcases k1 i s' h with z | ⟨u, z1, z2⟩
        · exact .inl z
        · refine .inr ⟨u, by rw [List.getElem?_append_left (by rw [J.len]; exact hlt)]; exact z1, ?_⟩
          have ea : (fun a => (i < G1.length ∧ A' i a) ∨ (i = G1.length ∧ A G.length a)) = A' i := by
            funext a
            exact propext ⟨fun z => z.elim (fun z => z.2) fun z => by omega, fun z => .inl ⟨hlt, z⟩⟩
          show SvR K F1 H1 u (fun a => (i < G1.length ∧ A' i a) ∨ (i = G1.length ∧ A G.length a)) s'
          rw [ea]
          exact z2
      · subst e hlt
        refine .inr ⟨x, by rw [← J.len]; simp, ?_⟩
        have ea : (fun a => (G1.length < G1.length ∧ A' G1.length a) ∨ (G1.length = G1.length ∧ A G.length a)) = A G.length := by
          funext a
          exact propext ⟨fun z => z.elim (fun z => by omega) fun z => z.2, fun z => .inr ⟨rfl, z⟩⟩
        show SvR K F1 H1 x (fun a => (G1.length < G1.length ∧ A' G1.length a) ∨ (G1.length = G1.length ∧ A G.length a)) s'
        rw [ea]
        exact slr_stab e2 J.f0 hD
    · rcases p with ⟨p1, p2⟩ | ⟨p1, p2⟩ <;> rcases q with ⟨q1, q2⟩ | ⟨q1, q2⟩
      · exact k2 _ _ _ p2 q2
      · exact absurd p2 (nA i a q2)
      · exact absurd q2 (nA j a p2)
      · omega
    · rcases h with ⟨_, h⟩ | ⟨_, h⟩
      · refine ⟨(k3 i a h).1, (k3 i a h).2.1, ?_⟩
        rcases (k3 i a h).2.2 with q | q
        · exact .inl (I.new0 q)
        · exact (hm a q).2.2
      · refine ⟨fD a h, ?_, (h3 _ _ h).2.2⟩
        rw [hD a h]
        exact (h3 _ _ h).2.1
section
variable {K : Fr} {B : Bs} {G : En} {P : Po} {tk tv : TE}
theorem Iv.newT {S : St} {F H : Hp} {p : Addr} (I : Iv K B G S F H) (hp : H p = none) : Iv K B (G ++ [.t []]) (S ++ [some (.ref p)]) F (upd H p (.dT [])) := by
  refine I.add (Ex.refl F) (Ex.new hp) (I.ex.trans (Ex.new hp)) (fun b o h n => ?_) _ (fun a => a = p) (.inr ⟨_, rfl, p, [], rfl, upd_same, rfl, .nil, rfl⟩) fun a e => ?_
  · rw [h] at n
    cases n
  · have e : a = p := e
    subst e
    exact ⟨hp, I.fnone hp, by rw [upd_same]; exact fun z => (by cases z)⟩
theorem dw_disp1T (h : ∀ B', DW K B' G tk fun G1 r1 => PW r1 fun w1 => DW K B' G1 tv fun G2 r2 => PW r2 fun w2 => ∃ ks d, w1 = .d (.tuple (ks.map keyD)) ∧ w2 = .d d ∧ P G2 (.fr (.t [(ks, d)]))) : DW K B G (tDisp1T tk tv) P := fun S F H Q I k => by
  intro p hp
  obtain ⟨A0, mu, a0, _, I0, back⟩ := (I.newT hp).asideG (fun z => nomatch z)
  refine dw_run (k' := fun G1 w1 => DW K ⟨F, upd H p (.dT []), mu⟩ G1 tv fun G2 r2 => PW r2 fun w2 => ∃ ks d, w1 = .d (.tuple (ks.map keyD)) ∧ w2 = .d d ∧ P G2 (.fr (.t [(ks, d)]))) (h _) I0 fun v1 F1 H1 G1 w1 e1 I1 r1 q1 => ?_
  refine dw_run (k' := fun G2 w2 => ∃ ks d, w1 = .d (.tuple (ks.map keyD)) ∧ w2 = .d d ∧ P G2 (.fr (.t [(ks, d)]))) q1 I1 fun v2 F2 H2 G2 w2 e2 I2 r2 ⟨ks, d, x1, x2, q2⟩ => ?_
  subst x1 x2
  obtain ⟨b, rfl, hb⟩ := key_at (dp_mono e2 r1) I2.ex
  obtain ⟨hD, J⟩ := back _ _ _ _ I2
  have hi : (G2 ++ [Sl.t []])[G2.length]? = some (.t []) := by simp
  have hl : S.length = G2.length := I2.len
  have hS : (S ++ [some (V.ref p)])[G2.length]? = some (some (.ref p)) := by
    rw [← hl]
    simp
  obtain ⟨p', kws, eS, ep, ek, ev⟩ := J.dct hi
  rw [hS] at eS
  cases eS
  have e0 : H2 p = some (.dT []) := by
    cases kws with
    | nil => exact ep
    | cons _ _ => cases ek
  refine ⟨b, ks, rfl, e0, hb, ?_⟩
  have J2 := J.mutG (s' := .t [(ks, d)]) (ob := .dT [(ks, v2)]) hi hS (fun A z => by
    obtain ⟨p', _, e, _, _, _, hA⟩ := z
    cases e
    exact hA) (fun z => nomatch z) fun A hA z => ⟨p, _, rfl, upd_same, rfl, .cons r2 .nil, hA⟩
  have eg : (G2 ++ [Sl.t []]).set G2.length (.t [(ks, d)]) = G2 ++ [.t [(ks, d)]] := by simp
  rw [eg] at J2
  exact k (.ref p) F2 _ G2 (.fr (.t [(ks, d)])) (e1.trans e2) J2 q2
end
end DL
namespace DL
open PySem L2
/-- what the written part says of an own error class without own fields -/
structure ExcT (K : Fr) (mg : Str → Option Value) (x : Str) (C : Addr) : Prop where
  y : PySem.W.excIn K C [.type "ValueError", .type "Exception", .type "BaseException", .type "object"] "ValueError.__new__" = true
  g : mg x = some (.ref C)
  k : PySem.W.keepIn K (.ref C) = true
  b : PySem.W.subIn K (.ref C) (.type "BaseException") = some true
  t : PySem.W.typeIn K (.ref C) = some (.type "type")
  s : PySem.W.subIn K (.ref C) (.ref C) = some true
  e : ExcC K C
  v : PySem.W.kitOne K (.ref C) (.type "ValueError") = some true
theorem ExcT.exm {K : Fr} {mg : Str → Option Value} {x : Str} {C : Addr} (T : ExcT K mg x C) : PySem.W.exmOne K (.ref C) (.ref C) = some true := PySem.W.exm_ref T.b T.e.hd T.t T.s
section
open PySem.Spec PyProof.Rows
variable {X : Cx}
theorem pe_globI {x : Str} {i : Int} {pos : Pos} (hg : Gl X x) (h : ∃ t, X.mg x = some (.int i t)) (hd : (x == ("__debug__" : Str)) = false := by decide) : PE X (.Name x pos) (tC (.int i)) := by
  obtain ⟨t, h⟩ := h
  exact pe_glob hg h ⟨t, rfl⟩ hd
def rIsE' (K : Fr) (D a : Addr) (cls : Value) (d : Option Addr) : List V → Hp → VK → Prop := fun xs H Q => cls = .ref D ∧ d = none ∧ rIsE K D a xs H Q
theorem kISE (K : Fr) (h : X.K = K) {a D : Addr} {oe : Obj} {cls : Value} {d : Option Addr} {pn : List (Addr × Obj)} (C : ExcC K D) (hz : Zc cls d oe) (hf : ∃ vs, oe.data = .fields vs) : CallR (X.suite a ((a, oe) :: pn)) (.builtin "isinstance") (rIsE' K D a cls d) := by
  subst h
  intro pins s σ H xs us Q I r h
  obtain ⟨e1, e2, h⟩ := h
  subst e1 e2
  exact call_isE C hz hf pins s σ H xs us Q I r h
end
section
variable {K : Fr} {B : Bs} {G : En} {P : Po} {te : TE} {w : W} {k : W → Prop}
theorem rn_isE' {i : Nat} {a D : Addr} {T : String} {b : Bool} (h : G[i]? = some (.ow (exO a))) (e : PySem.W.kitOne K (.ref D) (.type T) = some b) (q : P G (.p (.d (.bool b)))) : RWn K B G (rIsE' K D a (.ref D) none) [.sl i, .ty T] P := fun S F H Q vs I hv k =>
  ⟨rfl, rfl, rn_isE h e q S F H Q vs I hv k⟩
theorem pw_p (h : k w) : PW (.p w) k := h
theorem pw_o {a : Option Addr} {ds : List PyData} (h : k (.d (.list ds))) : PW (.fr (.o a ds)) k := h
end
end DL
namespace DL
open PySem L2
section
variable {K : Fr} {B : Bs} {G : En} {te : TE} {P : Po} {tt : TT}
/-- as dw_lc, the invariant chosen where the items are known -/
theorem dw_lcE {wi : TI} {g : TG} {ch : List Nat} {vs : List Nat} (hsub : ∀ k ∈ ch, k ∈ vs)
    (h : DI K B G wi fun G1 ds => ∃ J : Nat → List PyData → En → Prop, J 0 [] (wipeG G1 vs) ∧ (∀ (B' : Bs) i acc G2 d, ds[i]? = some d → J i acc G2 → DG K B' G2 g ch (.d d) fun G3 => DT K B' G3 tt fun G4 b => if b = true then DW K B' G4 te fun G5 r => PW r fun w => ∃ y, w = .d y ∧ acc.length < sizeLine ∧ J (i + 1) (acc ++ [y]) (wipeG G5 vs) else J (i + 1) acc (wipeG G4 vs)) ∧ ∀ acc G2, J ds.length acc G2 → P (wipeG G2 vs) (.fr (.o none acc))) :
    DW K B G (tLc wi g tt te vs) P := fun S F H Q I k => by
  refine h S F H _ I fun It F1 H1 G1 ds e1 I1 Y ⟨J, j0, hs, hd⟩ => ?_
  intro D hD
  refine ⟨fun i m H => m = ds.length - i ∧ i ≤ ds.length ∧ ∃ F2 G2 acc, Ex F1 F2 ∧ Iv K B (G2 ++ [.o none acc]) (L2.wipe S vs ++ [some (.ref D)]) F2 H ∧ J i acc G2, ⟨_, rfl, Nat.zero_le _, F1, _, [], Ex.refl _, (I1.wipe vs).newL hD .nil, j0⟩, ?_⟩
  rintro i m H2 ⟨rfl, hi, F2, G2, acc, e2, I2, j2⟩
  by_cases hlt : i < ds.length
  · obtain ⟨d, hd'⟩ : ∃ d, ds[i]? = some d := ⟨_, List.getElem?_eq_getElem hlt⟩
    refine .inr ⟨((Y i H2 F2 e2 I2.ex).1 d hd').1, fun H => ∃ F2 G2 acc, Ex F1 F2 ∧ Iv K B (G2 ++ [.o none acc]) (L2.wipe S vs ++ [some (.ref D)]) F2 H ∧ J (i + 1) acc G2, fun H' p => ⟨ds.length - (i + 1), by omega, rfl, hlt, p⟩, fun x H3 y => ?_⟩
    obtain ⟨F3, e3, I3, hx⟩ := Y.turn e2 I2 hd' y
    obtain ⟨D', accv, mu, eD, hD3, ha3, Ia, back⟩ := I3.aside
    cases eD
    refine hs _ i acc G2 d hd' j2 _ F3 H3 x _ Ia hx fun S4 F4 H4 G4 e4 I4 l4 u4 q => ?_
    have ew : L2.wipe S4 vs = L2.wipe S vs := by
      rw [wipe_ext l4 fun k hk => u4 k fun z => hk (hsub k z)]
      exact wipe_ext (wipe_length S vs) fun k hk => wipe_ne hk
    refine ⟨ew, q S4 F4 H4 _ I4 fun b F5 H5 G5 e5 I5 q5 => ?_⟩
    cases b with
    | false =>
      show ∃ F2 G2 acc, Ex F1 F2 ∧ Iv K B (G2 ++ [.o none acc]) (L2.wipe S vs ++ [some (.ref D)]) F2 H5 ∧ J (i + 1) acc G2
      obtain ⟨_, I6⟩ := back _ _ _ _ (I5.wipe vs)
      rw [ew] at I6
      exact ⟨F5, _, acc, ((e2.trans e3).trans e4).trans e5, I6, q5⟩
    | true =>
      show te S4 H5 fun y H4 => ∃ acc, H4 D = some (.lst acc) ∧ acc.length < sizeLine ∧ (∃ F2 G2 acc', Ex F1 F2 ∧ Iv K B (G2 ++ [.o none acc']) (L2.wipe S vs ++ [some (.ref D)]) F2 (upd H4 D (.lst (acc ++ [y]))) ∧ J (i + 1) acc' G2)
      refine dw_run (k' := fun G5 w => ∃ y, w = .d y ∧ acc.length < sizeLine ∧ J (i + 1) (acc ++ [y]) (wipeG G5 vs)) q5 I5 fun v F6 H6 G6 w e6 I6 hv q6 => ?_
      obtain ⟨y, rfl, hz, j6⟩ := q6
      obtain ⟨hD6, I7⟩ := back _ _ _ _ (I6.wipe vs)
      rw [ew] at I7
      refine ⟨accv, hD6, by rw [da_len ha3]; exact hz, F6, _, acc ++ [y], (((e2.trans e3).trans e4).trans e5).trans e6, ?_, j6⟩
      have hl : (L2.wipe S vs).length = (wipeG G6 vs).length := by
        have := I7.len
        simpa using this
      have I8 := I7.mut (i := (wipeG G6 vs).length) (p := D) (q := none) (ds := acc) (ds' := acc ++ [y]) (vs' := accv ++ [v]) (by simp) (by rw [← hl]; simp) (da_app (da_mono ((e4.trans e5).trans e6) ha3) (.cons hv .nil))
      have eg : (wipeG G6 vs ++ [Sl.o none acc]).set (wipeG G6 vs).length (.o none (acc ++ [y])) = wipeG G6 vs ++ [.o none (acc ++ [y])] := by simp
      rw [eg] at I8
      exact I8
  · have e : i = ds.length := by omega
    subst e
    refine .inl ⟨(Y _ H2 F2 e2 I2.ex).2 rfl, ?_⟩
    have I3 : Iv K B (wipeG G2 vs ++ [.o none acc]) (S ++ [some (.ref D)]) F2 H2 := by
      obtain ⟨D', accv, mu, eD, hD3, ha3, Ia, back⟩ := I2.aside
      exact (back _ _ _ _ ((Ia.wipe vs).wiped (S := S) (by rw [wipe_length, wipe_length]) fun k hk => by rw [wipe_ne hk, wipe_ne hk])).2
    exact k (.ref D) F2 H2 (wipeG G2 vs) (.fr (.o none acc)) (e1.trans e2) I3 (hd acc G2 j2)

/-- [f x for x in xs if p x], nothing else changes -/
theorem dw_lcF {α : Type} (xs : List α) (enc : α → PyData) (p : α → Bool) (f : α → PyData) {wi : TI} {i : Nat}
    (h : DI K B G wi fun G1 ds => ds = xs.map enc ∧ xs.length ≤ sizeLine ∧ (∀ (B' : Bs) x, x ∈ xs → DT K B' ((G1.set i .un).set i (.d (enc x))) tt fun G4 b => b = p x ∧ G4.set i .un = G1.set i .un ∧ (p x = true → DW K B' G4 te fun G5 r => PW r fun w => w = .d (f x) ∧ G5.set i .un = G1.set i .un)) ∧
      P (G1.set i .un) (.fr (.o none ((xs.filter p).map f)))) : DW K B G (tLc wi (gName i) tt te [i]) P := by
  refine dw_lcE (ch := [i]) (fun k hk => hk) ?_
  refine fun S F H R I k => h S F H R I fun J F1 H1 G1 ds e I1 Y ⟨hds, hz, hs, hp⟩ => k J F1 H1 G1 ds e I1 Y ⟨fun n acc G2 => acc = ((xs.take n).filter p).map f ∧ G2 = G1.set i .un, ⟨rfl, rfl⟩, fun B' n acc G2 d hd ⟨ha, hG⟩ => ?_, fun acc G2 ⟨ha, hG⟩ => ?_⟩
  · subst hds hG
    rw [List.getElem?_map] at hd
    obtain ⟨x, hx, rfl⟩ := Option.map_eq_some_iff.mp hd
    have hn : n < xs.length := (List.getElem?_eq_some_iff.mp hx).1
    have et : xs.take (n + 1) = xs.take n ++ [x] := by
      rw [List.take_succ, hx]
      rfl
    have hl : acc.length < sizeLine := by
      rw [ha, List.length_map]
      have := List.length_filter_le p (xs.take n)
      rw [List.length_take] at this
      omega
    refine dg_name ?_
    refine fun S F H Q I k => hs B' x (List.mem_of_getElem? hx) S F H Q I fun b F2 H2 G4 e2 I2 ⟨hb, hG, hw⟩ => k b F2 H2 G4 e2 I2 ?_
    subst hb
    cases q : p x with
    | true =>
      rw [if_pos rfl]
      refine fun S F H Q I k => hw q S F H Q I fun v F' H' G' r e V pq => k v F' H' G' r e V ?_
      match r, pq with
      | .p w, ⟨hw, hG⟩ => exact ⟨f x, hw, hl, by rw [et, List.filter_append, List.map_append, ← ha]; simp [List.filter, q], hG⟩
      | .fr (.o _ _), ⟨hw, hG⟩ => exact ⟨f x, hw, hl, by rw [et, List.filter_append, List.map_append, ← ha]; simp [List.filter, q], hG⟩
    | false =>
      rw [if_neg (by simp)]
      exact ⟨by rw [et, List.filter_append, List.map_append, ← ha]; simp [List.filter, q], hG⟩
  · subst hds hG
    rw [List.length_map, List.take_length] at ha
    rw [ha]
    show P ((G1.set i .un).set i .un) _
    rw [List.set_set]
    exact hp
/-- [f x for x in xs] -/
theorem dw_lcM {α : Type} (xs : List α) (enc : α → PyData) (f : α → PyData) {wi : TI} {i : Nat}
    (h : DI K B G wi fun G1 ds => ds = xs.map enc ∧ xs.length ≤ sizeLine ∧ (∀ (B' : Bs) x, x ∈ xs → DW K B' ((G1.set i .un).set i (.d (enc x))) te fun G5 r => PW r fun w => w = .d (f x) ∧ G5.set i .un = G1.set i .un) ∧
      P (G1.set i .un) (.fr (.o none (xs.map f)))) : DW K B G (tLc wi (gName i) tYes te [i]) P := by
  refine dw_lcF xs enc (fun _ => true) f ?_
  refine fun S F H R I k => h S F H R I fun J F1 H1 G1 ds e I1 Y ⟨hds, hz, hs, hp⟩ => k J F1 H1 G1 ds e I1 Y ⟨hds, hz, fun B' x hx => dt_yes ⟨rfl, by rw [List.set_set, List.set_set], fun _ => hs B' x hx⟩, ?_⟩
  rw [List.filter_eq_self.mpr (fun _ _ => rfl)]
  exact hp
end
section
variable {K : Fr} {B : Bs} {G : En} {te : TE} {P : Po} {tt tt1 : TT}
theorem dw_lc2E {wi wi1 : TI} {g g1 : TG} {ch ch1 : List Nat} {vs vs1 : List Nat} (hsub : ∀ k ∈ ch, k ∈ vs) (hsub1 : ∀ k ∈ ch1, k ∈ vs1) (hv : ∀ k ∈ vs1, k ∈ vs)
    (h : DI K B G wi fun G1 ds => ∃ (J : Nat → List PyData → En → Prop) (J1 : Nat → List PyData → Nat → List PyData → En → Prop), J 0 [] (wipeG G1 vs) ∧ (∀ (B' : Bs) i acc G2 d, ds[i]? = some d → J i acc G2 → DG K B' G2 g ch (.d d) fun G3 => DT K B' G3 tt fun G4 b => if b = true then
      DI K B' G4 wi1 fun G5 ds1 => J1 i ds1 0 acc (wipeG G5 vs1) ∧ (∀ (B'' : Bs) j acc G6 d1, ds1[j]? = some d1 → J1 i ds1 j acc G6 → DG K B'' G6 g1 ch1 (.d d1) fun G7 => DT K B'' G7 tt1 fun G8 b => if b = true then
        DW K B'' G8 te fun G9 r => PW r fun w => ∃ y, w = .d y ∧ acc.length < sizeLine ∧ J1 i ds1 (j + 1) (acc ++ [y]) (wipeG G9 vs1) else J1 i ds1 (j + 1) acc (wipeG G8 vs1)) ∧ (∀ acc G6, J1 i ds1 ds1.length acc G6 → J (i + 1) acc (wipeG G6 vs))
      else J (i + 1) acc (wipeG G4 vs)) ∧ ∀ acc G2, J ds.length acc G2 → P (wipeG G2 vs) (.fr (.o none acc))) :
    DW K B G (tLc2 wi g tt wi1 g1 tt1 te vs vs1) P := fun S F H Q I k => by
  refine h S F H _ I fun It F1 H1 G1 ds e1 I1 Y ⟨J, J1, j0, hs, hd⟩ => ?_
  intro D hD
  refine ⟨fun i m H => m = ds.length - i ∧ i ≤ ds.length ∧ ∃ F2 G2 acc, Ex F1 F2 ∧ Iv K B (G2 ++ [.o none acc]) (L2.wipe S vs ++ [some (.ref D)]) F2 H ∧ J i acc G2, ⟨_, rfl, Nat.zero_le _, F1, _, [], Ex.refl _, (I1.wipe vs).newL hD .nil, j0⟩, ?_⟩
  rintro i m H2 ⟨rfl, hi, F2, G2, acc, e2, I2, j2⟩
  by_cases hlt : i < ds.length
  · obtain ⟨d, hd'⟩ : ∃ d, ds[i]? = some d := ⟨_, List.getElem?_eq_getElem hlt⟩
    refine .inr ⟨((Y i H2 F2 e2 I2.ex).1 d hd').1, fun H => ∃ F2 G2 acc, Ex F1 F2 ∧ Iv K B (G2 ++ [.o none acc]) (L2.wipe S vs ++ [some (.ref D)]) F2 H ∧ J (i + 1) acc G2, fun H' p => ⟨ds.length - (i + 1), by omega, rfl, hlt, p⟩, fun x H3 y => ?_⟩
    obtain ⟨F3, e3, I3, hx⟩ := Y.turn e2 I2 hd' y
    obtain ⟨D', accv, mu, eD, hD3, ha3, Ia, back⟩ := I3.aside
    cases eD
    refine hs _ i acc G2 d hd' j2 _ F3 H3 x _ Ia hx fun S4 F4 H4 G4 e4 I4 l4 u4 q => ?_
    have ew : L2.wipe S4 vs = L2.wipe S vs := by
      rw [wipe_ext l4 fun k hk => u4 k fun z => hk (hsub k z)]
      exact wipe_ext (wipe_length S vs) fun k hk => wipe_ne hk
    refine ⟨ew, q S4 F4 H4 _ I4 fun b F5 H5 G5 e5 I5 q5 => ?_⟩
    cases b with
    | false =>
      show ∃ F2 G2 acc, Ex F1 F2 ∧ Iv K B (G2 ++ [.o none acc]) (L2.wipe S vs ++ [some (.ref D)]) F2 H5 ∧ J (i + 1) acc G2
      obtain ⟨_, I6⟩ := back _ _ _ _ (I5.wipe vs)
      rw [ew] at I6
      exact ⟨F5, _, acc, ((e2.trans e3).trans e4).trans e5, I6, q5⟩
    | true =>
      show wi1 S4 H5 fun J1' H4 => ∃ W1 : Nat → Nat → Hp → Prop, _ ∧ _
      refine q5 S4 F5 H5 _ I5 fun It1 F6 H6 G6 ds1 e6 I6 Y1 ⟨k0, ks, kd⟩ => ?_
      obtain ⟨_, I7⟩ := back _ _ _ _ (I6.wipe vs1)
      have e06 : Ex F1 F6 := (((e2.trans e3).trans e4).trans e5).trans e6
      refine ⟨fun j m H => m = ds1.length - j ∧ j ≤ ds1.length ∧ ∃ F8 G8 acc, Ex F6 F8 ∧ Iv K B (G8 ++ [.o none acc]) (L2.wipe S4 vs1 ++ [some (.ref D)]) F8 H ∧ J1 i ds1 j acc G8, ⟨_, rfl, Nat.zero_le _, F6, _, acc, Ex.refl _, I7, k0⟩, ?_⟩
      rintro j m H8 ⟨rfl, hj, F8, G8, acc8, e8, I8, j8⟩
      by_cases hlt1 : j < ds1.length
      · obtain ⟨d1, hd1⟩ : ∃ d, ds1[j]? = some d := ⟨_, List.getElem?_eq_getElem hlt1⟩
        refine .inr ⟨((Y1 j H8 F8 e8 I8.ex).1 d1 hd1).1, fun H => ∃ F8 G8 acc, Ex F6 F8 ∧ Iv K B (G8 ++ [.o none acc]) (L2.wipe S4 vs1 ++ [some (.ref D)]) F8 H ∧ J1 i ds1 (j + 1) acc G8, fun H' p => ⟨ds1.length - (j + 1), by omega, rfl, hlt1, p⟩, fun x H9 y => ?_⟩
        obtain ⟨F9, e9, I9, hx9⟩ := Y1.turn e8 I8 hd1 y
        obtain ⟨D', accv9, mu9, eD, hD9, ha9, Ia9, back9⟩ := I9.aside
        cases eD
        refine ks _ j acc8 G8 d1 hd1 j8 _ F9 H9 x _ Ia9 hx9 fun Sa Fa Ha Ga ea Ja la ua qa => ?_
        have ew1 : L2.wipe Sa vs1 = L2.wipe S4 vs1 := by
          rw [wipe_ext la fun k hk => ua k fun z => hk (hsub1 k z)]
          exact wipe_ext (wipe_length S4 vs1) fun k hk => wipe_ne hk
        refine ⟨ew1, qa Sa Fa Ha _ Ja fun b Fb Hb Gb eb Ib qb => ?_⟩
        cases b with
        | false =>
          show ∃ F8 G8 acc, Ex F6 F8 ∧ Iv K B (G8 ++ [.o none acc]) (L2.wipe S4 vs1 ++ [some (.ref D)]) F8 Hb ∧ J1 i ds1 (j + 1) acc G8
          obtain ⟨_, Ic⟩ := back9 _ _ _ _ (Ib.wipe vs1)
          rw [ew1] at Ic
          exact ⟨Fb, _, acc8, ((e8.trans e9).trans ea).trans eb, Ic, qb⟩
        | true =>
          show te Sa Hb fun y H7 => ∃ acc, H7 D = some (.lst acc) ∧ acc.length < sizeLine ∧ (∃ F8 G8 acc', Ex F6 F8 ∧ Iv K B (G8 ++ [.o none acc']) (L2.wipe S4 vs1 ++ [some (.ref D)]) F8 (upd H7 D (.lst (acc ++ [y]))) ∧ J1 i ds1 (j + 1) acc' G8)
          refine dw_run (k' := fun G5 w => ∃ y, w = .d y ∧ acc8.length < sizeLine ∧ J1 i ds1 (j + 1) (acc8 ++ [y]) (wipeG G5 vs1)) qb Ib fun v Fc Hc Gc w ec Ic hv' qc => ?_
          obtain ⟨y, rfl, hz, jc⟩ := qc
          obtain ⟨hDc, Id⟩ := back9 _ _ _ _ (Ic.wipe vs1)
          rw [ew1] at Id
          refine ⟨accv9, hDc, by rw [da_len ha9]; exact hz, Fc, _, acc8 ++ [y], (((e8.trans e9).trans ea).trans eb).trans ec, ?_, jc⟩
          have hl : (L2.wipe S4 vs1).length = (wipeG Gc vs1).length := by
            have := Id.len
            simpa using this
          have Ie := Id.mut (i := (wipeG Gc vs1).length) (p := D) (q := none) (ds := acc8) (ds' := acc8 ++ [y]) (vs' := accv9 ++ [v]) (by simp) (by rw [← hl]; simp) (da_app (da_mono ((ea.trans eb).trans ec) ha9) (.cons hv' .nil))
          have eg : (wipeG Gc vs1 ++ [Sl.o none acc8]).set (wipeG Gc vs1).length (.o none (acc8 ++ [y])) = wipeG Gc vs1 ++ [.o none (acc8 ++ [y])] := by simp
          rw [eg] at Ie
          exact Ie
      · have e : j = ds1.length := by omega
        subst e
        refine .inl ⟨(Y1 _ H8 F8 e8 I8.ex).2 rfl, F8, _, acc8, e06.trans e8, ?_, kd acc8 G8 j8⟩
        obtain ⟨D', accv9, mu9, eD, hD9, ha9, Ia9, back9⟩ := I8.aside
        have I9 := (back9 _ _ _ _ (Ia9.wipe vs)).2
        have ew2 : L2.wipe (L2.wipe S4 vs1) vs = L2.wipe S vs := by
          rw [← ew]
          exact wipe_ext (wipe_length S4 vs1) fun k hk => wipe_ne fun z => hk (hv k z)
        rw [ew2] at I9
        exact I9
  · have e : i = ds.length := by omega
    subst e
    refine .inl ⟨(Y _ H2 F2 e2 I2.ex).2 rfl, ?_⟩
    have I3 : Iv K B (wipeG G2 vs ++ [.o none acc]) (S ++ [some (.ref D)]) F2 H2 := by
      obtain ⟨D', accv, mu, eD, hD3, ha3, Ia, back⟩ := I2.aside
      exact (back _ _ _ _ ((Ia.wipe vs).wiped (S := S) (by rw [wipe_length, wipe_length]) fun k hk => by rw [wipe_ne hk, wipe_ne hk])).2
    exact k (.ref D) F2 H2 (wipeG G2 vs) (.fr (.o none acc)) (e1.trans e2) I3 (hd acc G2 j2)

theorem set4 {α : Type} (G : List α) {i i1 : Nat} (u : α) (h : i ≠ i1) : ((((G.set i1 u).set i u).set i1 u).set i u) = (G.set i1 u).set i u := by
  have e := List.set_comm (l := G.set i1 u) u u h
  rw [e, List.set_set, List.set_set]
/-- [f x y for x in xs for y in ys x], nothing else changes -/
theorem dw_lc2M {α β : Type} (xs : List α) (enc : α → PyData) (ys : α → List β) (enc1 : β → PyData) (f : α → β → PyData) {wi wi1 : TI} {i i1 : Nat} (hne : i ≠ i1) (hz : (xs.flatMap fun x => (ys x).map (f x)).length ≤ sizeLine)
    (h : DI K B G wi fun G1 ds => ds = xs.map enc ∧ (∀ (B' : Bs) x, x ∈ xs → DI K B' (((G1.set i1 .un).set i .un).set i (.d (enc x))) wi1 fun G5 ds1 => ds1 = (ys x).map enc1 ∧ G5 = ((G1.set i1 .un).set i .un).set i (.d (enc x)) ∧
      ∀ (B'' : Bs) y, y ∈ ys x → DW K B'' ((((G1.set i1 .un).set i .un).set i (.d (enc x))).set i1 (.d (enc1 y))) te fun G9 r => PW r fun w => w = .d (f x y) ∧ G9.set i1 .un = ((((G1.set i1 .un).set i .un).set i (.d (enc x))).set i1 .un)) ∧
      P ((G1.set i1 .un).set i .un) (.fr (.o none (xs.flatMap fun x => (ys x).map (f x))))) : DW K B G (tLc2 wi (gName i) tYes wi1 (gName i1) tYes te [i, i1] [i1]) P := by
  refine dw_lc2E (ch := [i]) (ch1 := [i1]) (fun k hk => by simp at hk; simp [hk]) (fun k hk => hk) (fun k hk => by simp at hk; simp [hk]) ?_
  refine fun S F H R I k => h S F H R I fun J F1 H1 G1 ds e I1 Y ⟨hds, hs, hp⟩ => k J F1 H1 G1 ds e I1 Y ⟨fun n acc G2 => acc = ((xs.take n).flatMap fun x => (ys x).map (f x)) ∧ G2 = (G1.set i1 .un).set i .un,
    fun n ds1 m acc G6 => ∃ x, xs[n]? = some x ∧ ds1 = (ys x).map enc1 ∧ acc = ((xs.take n).flatMap fun x => (ys x).map (f x)) ++ ((ys x).take m).map (f x) ∧ G6 = ((((G1.set i1 .un).set i .un).set i (.d (enc x))).set i1 .un), ⟨rfl, rfl⟩, fun B' n acc G2 d hd ⟨ha, hG⟩ => ?_, fun acc G2 ⟨ha, hG⟩ => ?_⟩
  · subst hds hG
    rw [List.getElem?_map] at hd
    obtain ⟨x, hx, rfl⟩ := Option.map_eq_some_iff.mp hd
    have hn : n < xs.length := (List.getElem?_eq_some_iff.mp hx).1
    have et : xs.take (n + 1) = xs.take n ++ [x] := by
      rw [List.take_succ, hx]
      rfl
    refine dg_name (dt_yes ?_)
    rw [if_pos rfl]
    refine fun S F H R I k => hs B' x (List.mem_of_getElem? hx) S F H R I fun J2 F2 H2 G5 ds1 e2 I2 Y2 ⟨hds1, hG5, hw⟩ => k J2 F2 H2 G5 ds1 e2 I2 Y2 ⟨⟨x, hx, hds1, by rw [ha]; simp, by rw [hG5]; rfl⟩, fun B'' m acc2 G6 d1 hd1 ⟨x', hx', hds', ha', hG6⟩ => ?_, fun acc2 G6 ⟨x', hx', hds', ha', hG6⟩ => ?_⟩
    · rw [hx] at hx'
      obtain rfl := Option.some.inj hx'
      subst hds1 hG6
      rw [List.getElem?_map] at hd1
      obtain ⟨y, hy, rfl⟩ := Option.map_eq_some_iff.mp hd1
      have hm : m < (ys x).length := (List.getElem?_eq_some_iff.mp hy).1
      have et1 : (ys x).take (m + 1) = (ys x).take m ++ [y] := by
        rw [List.take_succ, hy]
        rfl
      have hl : acc2.length < sizeLine := by
        have e1 : xs = xs.take n ++ x :: xs.drop (n + 1) := by
          rw [List.getElem?_eq_getElem hn] at hx
          have := Option.some.inj hx
          rw [← this, ← List.drop_eq_getElem_cons hn, List.take_append_drop]
        rw [ha', List.length_append, List.length_map, List.length_take]
        have hz2 := hz
        rw [e1, List.flatMap_append, List.length_append, List.flatMap_cons, List.length_append, List.length_map] at hz2
        omega
      refine dg_name (dt_yes ?_)
      rw [if_pos rfl, List.set_set]
      refine fun S F H Q I k => hw B'' y (List.mem_of_getElem? hy) S F H Q I fun v F' H' G' r e V pq => k v F' H' G' r e V ?_
      match r, pq with
      | .p w, ⟨hw, hG⟩ => exact ⟨f x y, hw, hl, x, hx, rfl, by rw [et1, List.map_append, ← List.append_assoc, ← ha']; rfl, hG⟩
      | .fr (.o _ _), ⟨hw, hG⟩ => exact ⟨f x y, hw, hl, x, hx, rfl, by rw [et1, List.map_append, ← List.append_assoc, ← ha']; rfl, hG⟩
    · rw [hx] at hx'
      obtain rfl := Option.some.inj hx'
      subst hds1 hG6
      rw [List.length_map, List.take_length] at ha'
      refine ⟨by rw [ha', et, List.flatMap_append]; simp, ?_⟩
      show (((((((G1.set i1 .un).set i .un).set i (.d (enc x))).set i1 .un)).set i1 .un).set i .un) = _
      rw [List.set_set]
      have e := List.set_comm (l := ((G1.set i1 .un).set i .un).set i (.d (enc x))) Sl.un Sl.un hne.symm
      rw [e, List.set_set, List.set_set, List.set_comm (l := (G1.set i1 .un)) Sl.un Sl.un hne, List.set_set]
  · subst hds hG
    rw [List.length_map, List.take_length] at ha
    rw [ha]
    show P ((((G1.set i1 .un).set i .un).set i1 .un).set i .un) _
    rw [set4 _ _ hne]
    exact hp
end
/-! ### loops whose invariant is chosen where the items are known -/
section
variable {K : Fr} {B : Bs} {G : En} {te : TE} {P : Po} {tt : TT} {t : TS} {E : De}
theorem ds_forE {wi : TI} {g : TG} {ch : List Nat} (h : DI K B G wi fun G1 ds => ∃ J : Nat → En → Prop, J 0 G1 ∧ (∀ i G2 d, ds[i]? = some d → J i G2 → DG K B G2 g ch (.d d) fun G3 => DS K B G3 t { E with nx := J (i + 1), ct := J (i + 1), bk := E.nx }) ∧ ∀ G2, J ds.length G2 → E.nx G2) :
    DS K B G (tFor wi g t) E := fun S F H D I c => by
  refine h S F H _ I fun It F1 H1 G1 ds e1 I1 Y ⟨J, j0, hs, hd⟩ => ?_
  refine ⟨fun i m S H => m = ds.length - i ∧ i ≤ ds.length ∧ ∃ F2 G2, Ex F1 F2 ∧ Iv K B G2 S F2 H ∧ J i G2, ⟨_, rfl, Nat.zero_le _, F1, G1, Ex.refl _, I1, j0⟩, ?_⟩
  rintro i m S2 H2 ⟨rfl, hi, F2, G2, e2, I2, j2⟩
  by_cases hlt : i < ds.length
  · obtain ⟨d, hd'⟩ : ∃ d, ds[i]? = some d := ⟨_, List.getElem?_eq_getElem hlt⟩
    refine .inr ⟨((Y i H2 F2 e2 I2.ex).1 d hd').1, fun S H => ∃ F2 G2, Ex F1 F2 ∧ Iv K B G2 S F2 H ∧ J (i + 1) G2, fun S' H' p => ⟨ds.length - (i + 1), by omega, rfl, hlt, p⟩, fun x H3 y => ?_⟩
    obtain ⟨F3, e3, I3, hx⟩ := Y.turn e2 I2 hd' y
    refine hs i G2 d hd' j2 S2 F3 H3 x _ I3 hx fun S4 F4 H4 G4 e4 I4 _ _ q => ?_
    have e5 := (e2.trans e3).trans e4
    exact q S4 F4 H4 _ I4 ⟨fun S F H G e I j => ⟨F, G, e5.trans e, I, j⟩, fun S F H G v r e => c.rt S F H G v r ((e1.trans e5).trans e), fun S F H G e I p => c.nx S F H G ((e1.trans e5).trans e) I p, fun S F H G e I j => ⟨F, G, e5.trans e, I, j⟩⟩
  · have e : i = ds.length := by omega
    subst e
    exact .inl ⟨(Y _ H2 F2 e2 I2.ex).2 rfl, c.nx S2 F2 H2 G2 (e1.trans e2) I2 (hd G2 j2)⟩
end
end DL
namespace DL
open PySem L2
/-! ### specs by a parameter -/
def spI {ι : Type} (K : Fr) (args : ι → List PyData) (pre : ι → Prop) (res : ι → Rs → Prop) : Sp := fun vs H Q E => ∃ x, pre x ∧ sp0 K (fun ds => ds = args x) (fun _ r => res x r) vs H Q E
def spJ {ι : Type} (K : Fr) (ls args : ι → List PyData) (pre : ι → Prop) (res : ι → List PyData → PyData → Prop) : Sp := fun vs H Q E => ∃ x, pre x ∧ sp1 K (fun l ds => l = ls x ∧ ds = args x) (fun _ _ l' d => res x l' d) vs H Q E
def spXI {ι : Type} (K : Fr) (args : ι → List PyData) (pre : ι → Prop) (res : ι → Rs → Prop) (exc : ι → Value → Prop) : Sp := fun vs H Q E => ∃ x, pre x ∧ spX K (fun ds => ds = args x) (fun _ r => res x r) (fun _ c => exc x c) vs H Q E
section
variable {P : Program} {w : World} {K : Fr} {mg : Str → Option Value} {base : Heap} {CX : CXT} {k : Nat} {f : Addr} {fd : FuncData} {ps : List Str}
theorem fnEx {ι : Type} {pre : ι → Prop} {sp : ι → Sp} (h : ∀ x, pre x → FnOk P w K mg base CX k f fd ps (sp x)) : FnOk P w K mg base CX k f fd ps (fun vs H Q E => ∃ x, pre x ∧ sp x vs H Q E) where
  len := fun vs H Q E ⟨x, hp, hs⟩ => (h x hp).len vs H Q E hs
  run := fun A outer s H args us vs Q E hr h1 h2 h3 ⟨x, hp, hs⟩ => (h x hp).run A outer s H args us vs Q E hr h1 h2 h3 hs
variable {x qual : Str} {st : Stmt} {N : List Str}
theorem fnI {ι : Type} {args : ι → List PyData} {pre : ι → Prop} {res : ι → Rs → Prop} (F : Fun K x qual st f fd) (S : FnScope N ps (defScope st)) (hl : ∀ x, (args x).length = ps.length ∧ ps.length ≤ N.length)
    (hb : ∀ (cdv : Value) (A : Around) (outer : List Env) (s : Shared) (H : Hp) (E : XK), Room k (A.deeper (PyProof.Rows.envOfC qual (defScope st) s.heap.objs.size f cdv)) → ∃ t, PSs (cxOf CX0 P w K mg base N qual (defScope st) f cdv A outer s H E).nox (defBody st) t ∧
      ∀ x, pre x → ∀ B, DS K B (G0 N (args x)) t (E0 (res x))) : FnOk P w K mg base CX0 (k + 1) f fd ps (spI K args pre res) :=
  fnEx (sp := fun x => sp0 K (fun ds => ds = args x) (fun _ r => res x r)) fun x hp => fn0 F S (fun ds e => by
    subst e
    have := hl x
    exact ⟨this.1, by omega⟩) fun cdv A outer s H E hr => by
      obtain ⟨t, h1, h2⟩ := hb cdv A outer s H E hr
      exact ⟨t, h1, fun ds e B => by
        subst e
        exact h2 x hp B⟩
theorem fnJ {ι : Type} {ls args : ι → List PyData} {pre : ι → Prop} {res : ι → List PyData → PyData → Prop} (F : Fun K x qual st f fd) (S : FnScope N ps (defScope st)) (hl : ∀ x, (args x).length + 1 = ps.length ∧ ps.length ≤ N.length)
    (hb : ∀ (cdv : Value) (A : Around) (outer : List Env) (s : Shared) (H : Hp) (E : XK), Room k (A.deeper (PyProof.Rows.envOfC qual (defScope st) s.heap.objs.size f cdv)) → ∃ t, PSs (cxOf CX0 P w K mg base N qual (defScope st) f cdv A outer s H E).nox (defBody st) t ∧
      ∀ x, pre x → ∀ p B, DS K B (G1 N p (ls x) (args x)) t (E1 p (res x))) : FnOk P w K mg base CX0 (k + 1) f fd ps (spJ K ls args pre res) :=
  fnEx (sp := fun x => sp1 K (fun l ds => l = ls x ∧ ds = args x) (fun _ _ l' d => res x l' d)) fun x hp => fn1 F S (fun l ds e => by
    obtain ⟨e1, e2⟩ := e
    subst e1 e2
    have := hl x
    exact ⟨this.1, by omega⟩) fun cdv A outer s H E hr => by
      obtain ⟨t, h1, h2⟩ := hb cdv A outer s H E hr
      exact ⟨t, h1, fun p l ds e B => by
        obtain ⟨e1, e2⟩ := e
        subst e1 e2
        exact h2 x hp p B⟩
theorem fnXI {ι : Type} {args : ι → List PyData} {pre : ι → Prop} {res : ι → Rs → Prop} {exc : ι → Value → Prop} (F : Fun K x qual st f fd) (S : FnScope N ps (defScope st)) (hl : ∀ x, (args x).length = ps.length ∧ ps.length ≤ N.length)
    (hb : ∀ (cdv : Value) (A : Around) (outer : List Env) (s : Shared) (H : Hp) (E : XK), Room k (A.deeper (PyProof.Rows.envOfC qual (defScope st) s.heap.objs.size f cdv)) → ∃ t, PSs (cxOf (L2.CX P w) P w K mg base N qual (defScope st) f cdv A outer s H E) (defBody st) t ∧
      ∀ x, pre x → ∀ B, Tk K B (exc x) E → DS K B (G0 N (args x)) t (E0 (res x))) : FnOk P w K mg base (L2.CX P w) (k + 1) f fd ps (spXI K args pre res exc) :=
  fnEx (sp := fun x => spX K (fun ds => ds = args x) (fun _ r => res x r) (fun _ c => exc x c)) fun x hp => fnX F S (fun ds e => by
    subst e
    have := hl x
    exact ⟨this.1, by omega⟩) fun cdv A outer s H E hr => by
      obtain ⟨t, h1, h2⟩ := hb cdv A outer s H E hr
      exact ⟨t, h1, fun ds e B hE => by
        subst e
        exact h2 x hp B hE⟩
end
section
variable {K : Fr} {B : Bs} {G G1 : En} {P : Po} {t : TA} {E : XK} {S : St} {F F1 H1 : Hp} {Q : VK} {vs : List V} {ws : List W}
theorem core0 {pre : List PyData → Prop} {post : List PyData → Rs → Prop} {ds : List PyData} (k : Ct K B S F P Q) (e1 : Ex F F1) (I1 : Iv K B G1 S F1 H1) (hv : Vws K S F1 vs ws) (hd : allD ws = some ds) (hp : pre ds) (q : ∀ r, post ds r → P G1 r) : sp0 K pre post vs H1 Q E := by
  refine ⟨F1, ds, I1.ex, allD_ok hd hv, hp, fun v F2 H2 r a1 a2 a3 a4 a5 a6 => ?_⟩
  match r, a5, a6 with
  | .p (.d d), a5, a6 => exact k v F2 H2 G1 (.p (.d d)) (e1.trans a1) ⟨I1.grow a1 a3 a2 a4, a5⟩ (q _ a6)
  | .fr s, ⟨A, b1, b2⟩, a6 =>
    refine k v F2 H2 G1 (.fr s) (e1.trans a1) ?_ (q _ a6)
    exact I1.add a1 a3 a2 a4 (some v) A (.inr ⟨v, rfl, b1⟩) fun a ha => ⟨(b2 a ha).2.2, (b2 a ha).1, (b2 a ha).2.1⟩
theorem coreX {pre : List PyData → Prop} {post : List PyData → Rs → Prop} {exc : List PyData → Value → Prop} {ds : List PyData} (k : Ct K B S F P Q) (e1 : Ex F F1) (I1 : Iv K B G1 S F1 H1) (hv : Vws K S F1 vs ws) (hd : allD ws = some ds) (hp : pre ds) (q : ∀ r, post ds r → P G1 r)
    (hE : ∀ cls F2 H2, Iv K B G1 S F2 H2 → exc ds cls → E cls none H2) : spX K pre post exc vs H1 Q E := by
  refine ⟨F1, ds, I1.ex, allD_ok hd hv, hp, fun v F2 H2 r a1 a2 a3 a4 a5 a6 => ?_, fun cls F2 H2 a1 a2 a3 a4 a5 => hE cls F2 H2 (I1.grow a1 a3 a2 a4) a5⟩
  match r, a5, a6 with
  | .p (.d d), a5, a6 => exact k v F2 H2 G1 (.p (.d d)) (e1.trans a1) ⟨I1.grow a1 a3 a2 a4, a5⟩ (q _ a6)
  | .fr s, ⟨A, b1, b2⟩, a6 =>
    refine k v F2 H2 G1 (.fr s) (e1.trans a1) ?_ (q _ a6)
    exact I1.add a1 a3 a2 a4 (some v) A (.inr ⟨v, rfl, b1⟩) fun a ha => ⟨(b2 a ha).2.2, (b2 a ha).1, (b2 a ha).2.1⟩
theorem core1 {pre : List PyData → List PyData → Prop} {post : List PyData → List PyData → List PyData → PyData → Prop} {i : Nat} {a : Option Addr} {ls ds : List PyData} {wr : List W} (k : Ct K B S F P Q) (e1 : Ex F F1) (I1 : Iv K B G1 S F1 H1) (hv : Vws K S F1 vs (.sl i :: wr)) (hd : allD wr = some ds) (hi : G1[i]? = some (.o a ls)) (hp : pre ls ds) (q : ∀ ls' d, post ls ds ls' d → P (G1.set i (.o a ls')) (.p (.d d))) : sp1 K pre post vs H1 Q E := by
  cases hv with
  | @cons v0 _ vr _ hv0 hvr =>
  obtain ⟨A, h1, h2, h3⟩ := I1.own
  obtain ⟨u, z1, p, vs0, rfl, z2, z3, z4, z5⟩ : ∃ v, S[i]? = some (some v) ∧ SvR K F1 H1 v (A i) (.o a ls) := (h1 i _ hi).elim (fun z => by cases z) id
  have hv0 : S[i]? = some (some v0) := hv0
  rw [hv0] at z1
  cases z1
  obtain ⟨y1, y2, y3⟩ := h3 i p z4
  refine ⟨F1, p, vs0, vr, ls, ds, rfl, I1.ex, y1, z2, z3, allD_ok hd hvr, hp, fun v F2 H2 vs' ls' d a1 a2 a3 a4 a5 a6 a7 a8 a9 => ?_⟩
  refine k v F2 H2 (G1.set i (.o a ls')) (.p (.d d)) (e1.trans a1) ⟨?_, a8⟩ (q ls' d a9)
  have own : ∀ j b, A j b → F2 b = none ∧ H2 b ≠ none ∧ (j ≠ i → H2 b = H1 b) := fun j b hb => by
    obtain ⟨x, y, z⟩ := h3 j b hb
    refine ⟨?_, ?_, fun hj => ?_⟩
    · cases q : F2 b with
      | none => rfl
      | some o => exact absurd (a4 b o q x) y
    · by_cases hbp : b = p
      · rw [hbp, a6]
        exact fun z => by cases z
      · cases q : H1 b with
        | none => exact absurd q y
        | some o =>
          rw [a3 b o q hbp]
          exact fun z => by cases z
    · cases q : H1 b with
      | none => exact absurd q y
      | some o =>
        refine a3 b o q fun e => ?_
        subst e
        exact hj (h2 _ _ _ hb z4)
  refine ⟨a2, I1.f0.trans a1, fun b o hb hm => ?_, fun b o hb hn => ?_, fun b hb => ?_, by simpa using I1.len, A, fun j s2 hj => ?_, h2, fun j b hb => ⟨(own j b hb).1, (own j b hb).2.1, (h3 j b hb).2.2⟩⟩
  · refine a3 b o (I1.fr b o hb hm) fun e => ?_
    subst e
    rcases y3 with z | z
    · rw [hb] at z
      cases z
    · exact hm z
  · cases q : F1 b with
    | some u => exact I1.nw b u q hn
    | none => exact absurd (I1.new0 (a4 b o hb q)) hn
  · have := I1.st b hb
    by_cases hbp : b = p
    · rw [hbp, a6]
      exact fun z => by cases z
    · cases q : H1 b with
      | none => exact absurd q this
      | some o =>
        rw [a3 b o q hbp]
        exact fun z => by cases z
  · by_cases e : i = j
    · subst e
      obtain ⟨rfl, _⟩ := set_same hj
      exact .inr ⟨_, hv0, p, vs', rfl, a6, a7, z4, z5⟩
    · rw [List.getElem?_set_ne e] at hj
      rcases h1 j s2 hj with z | ⟨u, x1, x2⟩
      · exact .inl z
      · exact .inr ⟨u, x1, slr_stab x2 a1 fun b hb => (own j b hb).2.2 (Ne.symm e)⟩
theorem dw_callI {ι : Type} {args : ι → List PyData} {pre : ι → Prop} {res : ι → Rs → Prop} (h : DA K B G t fun G1 ws => ∃ x, pre x ∧ allD ws = some (args x) ∧ ∀ r, res x r → P G1 r) : DW K B G (tCall (spI K args pre res) [] E t) P := fun S F H Q I k => by
  show t S H fun vs H1 => ∃ x, pre x ∧ sp0 K (fun ds => ds = args x) (fun _ r => res x r) (vs ++ []) H1 Q E
  refine h S F H _ I fun vs F1 H1 G1 ws e1 I1 hv ⟨x, hp, hd, q⟩ => ⟨x, hp, ?_⟩
  rw [List.append_nil]
  exact core0 k e1 I1 hv hd rfl q
theorem dw_callJ {ι : Type} {ls args : ι → List PyData} {pre : ι → Prop} {res : ι → List PyData → PyData → Prop} (h : DA K B G t fun G1 ws => ∃ x i a wr, pre x ∧ ws = .sl i :: wr ∧ allD wr = some (args x) ∧ G1[i]? = some (.o a (ls x)) ∧ ∀ l' d, res x l' d → P (G1.set i (.o a l')) (.p (.d d))) : DW K B G (tCall (spJ K ls args pre res) [] E t) P := fun S F H Q I k => by
  show t S H fun vs H1 => ∃ x, pre x ∧ sp1 K (fun l ds => l = ls x ∧ ds = args x) (fun _ _ l' d => res x l' d) (vs ++ []) H1 Q E
  refine h S F H _ I fun vs F1 H1 G1 ws e1 I1 hv ⟨x, i, a, wr, hp, hw, hd, hi, q⟩ => ⟨x, hp, ?_⟩
  rw [List.append_nil]
  subst hw
  exact core1 k e1 I1 hv hd hi ⟨rfl, rfl⟩ q
theorem dw_callXI {ι : Type} {args : ι → List PyData} {pre : ι → Prop} {res : ι → Rs → Prop} {exc : ι → Value → Prop} {ex0 : Value → Prop} (hE : Tk K B ex0 E) (h : DA K B G t fun G1 ws => ∃ x, pre x ∧ allD ws = some (args x) ∧ (∀ r, res x r → P G1 r) ∧ ∀ c, exc x c → ex0 c) : DW K B G (tCall (spXI K args pre res exc) [] E t) P := fun S F H Q I k => by
  show t S H fun vs H1 => ∃ x, pre x ∧ spX K (fun ds => ds = args x) (fun _ r => res x r) (fun _ c => exc x c) (vs ++ []) H1 Q E
  refine h S F H _ I fun vs F1 H1 G1 ws e1 I1 hv ⟨x, hp, hd, q, qx⟩ => ⟨x, hp, ?_⟩
  rw [List.append_nil]
  exact coreX k e1 I1 hv hd rfl q fun cls F2 H2 J z => hE cls S F2 H2 G1 J (qx cls z)
theorem dw_callNI {ι : Type} {args : ι → List PyData} {pre : ι → Prop} {res : ι → Rs → Prop} {exc : ι → Value → Prop} (h : DA K B G t fun G1 ws => ∃ x, pre x ∧ allD ws = some (args x) ∧ (∀ r, res x r → P G1 r) ∧ ∀ c, ¬ exc x c) : DW K B G (tCall (spXI K args pre res exc) [] E t) P :=
  dw_callXI (ex0 := fun _ => False) (fun _ _ _ _ _ _ z => z.elim) h
theorem dw_callSI {ι : Type} {args : ι → List PyData} {pre : ι → Prop} {res : ι → Rs → Prop} {exc : ι → Value → Prop} {W : WX} {ex0 : Value → En → Prop} (hE : TkW K B ex0 W) (h : DA K B G t fun G1 ws => ∃ x, pre x ∧ allD ws = some (args x) ∧ (∀ r, res x r → P G1 r) ∧ ∀ c, exc x c → ex0 c G1) : DW K B G (tCallS (spXI K args pre res exc) (WE W) t) P := fun S F H Q I k => by
  show t S H fun vs H1 => ∃ x, pre x ∧ spX K (fun ds => ds = args x) (fun _ r => res x r) (fun _ c => exc x c) vs H1 Q (fun cls d H => W cls d S H)
  refine h S F H _ I fun vs F1 H1 G1 ws e1 I1 hv ⟨x, hp, hd, q, qx⟩ => ⟨x, hp, ?_⟩
  exact coreX k e1 I1 hv hd rfl q fun cls F2 H2 J z => hE cls S F2 H2 G1 J (qx cls z)
end
end DL
namespace DL
open PySem L2
section
variable {K : Fr} {B : Bs} {G : En} {t u : TS} {E : De}
/-- between two statements: what is known of the slots -/
theorem ds_mid (M : En → Prop) (h1 : DS K B G t { E with nx := M }) (h2 : ∀ G1, M G1 → DS K B G1 u E) : DS K B G (tSeq t u) E := fun S F H D I c => by
  show t { D with nx := u D } S H
  exact h1 S F H _ I ⟨fun S F H G1 e I1 q => h2 G1 q S F H D I1 (c.mono e), c.rt, c.bk, c.ct⟩
theorem ite_k {c : Bool} {X Y : Prop} (h1 : c = true → X) (h2 : c = false → Y) : if c = true then X else Y := by
  cases c with
  | true =>
    rw [if_pos rfl]
    exact h1 rfl
  | false =>
    rw [if_neg (by simp)]
    exact h2 rfl
theorem ati {α β : Type} {f : α → β} {xs : List α} {i : Nat} {x : α} (h : xs[i]? = some x) : atI (xs.map f) (i : Int) = some (f x) := by
  have hl := (List.getElem?_eq_some_iff.mp h).1
  have e : ixN (xs.map f).length (i : Int) = some i := by
    unfold ixN
    rw [if_pos (Int.natCast_nonneg i), if_pos (by rw [List.length_map]; exact_mod_cast hl)]
    rfl
  unfold atI
  rw [e]
  show (xs.map f)[i]? = _
  rw [List.getElem?_map, h]
  rfl
theorem atn {α : Type} {xs : List α} {i : Nat} {x : α} (h : xs[i]? = some x) : atI xs (i : Int) = some x := by
  have := ati (f := id) h
  simpa using this
end
end DL
namespace DL
open PySem L2
theorem szl {n : Nat} (h : n ≤ 1000000) : n ≤ sizeLine := by
  rw [sizeLine_eq]
  omega
theorem szlt {n : Nat} (h : n ≤ 1000000) : n < sizeLine := by
  rw [sizeLine_eq]
  omega
theorem ite_t {X Y : Prop} (h : X) : if true = true then X else Y := by rw [if_pos rfl]; exact h
theorem ite_f {X Y : Prop} (h : Y) : if false = true then X else Y := by rw [if_neg (by simp)]; exact h
section
variable {K : Fr} {B : Bs} {G : En} {P : Po} {d : PyData}
theorem isi_int (q : P G (.p (.d (.bool (isiD d "int"))))) : RWn K B G (rIsi K) [.d d, .ty "int"] P := rn_isi rfl (kit_int d) q
theorem isi_bool (q : P G (.p (.d (.bool (isiD d "bool"))))) : RWn K B G (rIsi K) [.d d, .ty "bool"] P := rn_isi rfl (kit_bool d) q
theorem isi_str (q : P G (.p (.d (.bool (isiD d "str"))))) : RWn K B G (rIsi K) [.d d, .ty "str"] P := rn_isi rfl (kit_str d) q
theorem isi_tuple (q : P G (.p (.d (.bool (isiD d "tuple"))))) : RWn K B G (rIsi K) [.d d, .ty "tuple"] P := rn_isi rfl (kit_tuple d) q
theorem isi_list (q : P G (.p (.d (.bool (isiD d "list"))))) : RWn K B G (rIsi K) [.d d, .ty "list"] P := rn_isi rfl (kit_list d) q
theorem rn_lenD {ds : List PyData} (q : P G (.p (.d (.int (ds.length : Int))))) : RWn K B G (rLEN K) [.d (.list ds)] P := rn_lenL rfl q
theorem isN_d (q : P G (.p (.d (.bool (isNone d))))) : RW2 K B G (fun x y H Q => y = .non ∧ Q (.bl (decide (x = .non))) H) (.d d) (.d .none) P := rw_isN rfl q
theorem notN_d (q : P G (.p (.d (.bool (!isNone d))))) : RW2 K B G (fun x y H Q => y = .non ∧ Q (.bl (!decide (x = .non))) H) (.d d) (.d .none) P := rw_notN rfl q
end
end DL
namespace DL
open PySem L2
section
variable {d : PyData}
theorem isi_t (h : isiD d "tuple" = true) : ∃ xs, d = .tuple xs := by
  cases d with
  | tuple xs => exact ⟨xs, rfl⟩
  | none => exact Bool.noConfusion h
  | bool _ => exact Bool.noConfusion h
  | int _ => exact Bool.noConfusion h
  | str _ => exact Bool.noConfusion h
  | list _ => exact Bool.noConfusion h
  | dict _ => exact Bool.noConfusion h
theorem isi_l (h : isiD d "list" = true) : ∃ xs, d = .list xs := by
  cases d with
  | list xs => exact ⟨xs, rfl⟩
  | none => exact Bool.noConfusion h
  | bool _ => exact Bool.noConfusion h
  | int _ => exact Bool.noConfusion h
  | str _ => exact Bool.noConfusion h
  | tuple _ => exact Bool.noConfusion h
  | dict _ => exact Bool.noConfusion h
theorem isi_s (h : isiD d "str" = true) : ∃ z, d = .str (mkS z) := by
  cases d with
  | str x => exact ⟨_, congrArg PyData.str (mkS_of x).symm⟩
  | none => exact Bool.noConfusion h
  | bool _ => exact Bool.noConfusion h
  | int _ => exact Bool.noConfusion h
  | list _ => exact Bool.noConfusion h
  | tuple _ => exact Bool.noConfusion h
  | dict _ => exact Bool.noConfusion h
theorem isi_b (h : isiD d "bool" = true) : ∃ b, d = .bool b := by
  cases d with
  | bool b => exact ⟨b, rfl⟩
  | none => exact Bool.noConfusion h
  | int _ => exact Bool.noConfusion h
  | str _ => exact Bool.noConfusion h
  | list _ => exact Bool.noConfusion h
  | tuple _ => exact Bool.noConfusion h
  | dict _ => exact Bool.noConfusion h
theorem isi_i (h : isiD d "int" = true) (h' : isiD d "bool" = false) : ∃ i, d = .int i := by
  cases d with
  | int i => exact ⟨i, rfl⟩
  | bool _ => exact Bool.noConfusion h'
  | none => exact Bool.noConfusion h
  | str _ => exact Bool.noConfusion h
  | list _ => exact Bool.noConfusion h
  | tuple _ => exact Bool.noConfusion h
  | dict _ => exact Bool.noConfusion h
theorem not_f {b : Bool} (h : (!b) = true) : b = false := by
  cases b
  · rfl
  · exact absurd h (by simp)
theorem not_t {b : Bool} (h : (!b) = false) : b = true := by
  cases b
  · exact absurd h (by simp)
  · rfl
end
end DL
namespace DL
open PySem L2
/-! ### the ends, so told that terms stay small -/
def De.nxt (E : De) (f : En → Prop) : De := ⟨f, E.rt, E.bk, E.ct⟩
def De.lp (E : De) (f : En → Prop) : De := ⟨f, E.rt, E.nx, f⟩
section
variable {K : Fr} {B : Bs} {G : En} {t u : TS} {E : De} {f : En → Prop} {r : Rs} {d : PyData} {s : Sl} {i : Nat}
theorem nx_nxt (h : f G) : (E.nxt f).nx G := h
theorem rt_nxt (h : E.rt G r) : (E.nxt f).rt G r := h
theorem bk_nxt (h : E.bk G) : (E.nxt f).bk G := h
theorem ct_nxt (h : E.ct G) : (E.nxt f).ct G := h
theorem nx_lp (h : f G) : (E.lp f).nx G := h
theorem rt_lp (h : E.rt G r) : (E.lp f).rt G r := h
theorem bk_lp (h : E.nx G) : (E.lp f).bk G := h
theorem ct_lp (h : f G) : (E.lp f).ct G := h
theorem asn_d (h : E.nx (G.set i (.d d))) : AsN E G i (.p (.d d)) := h
theorem asn_fr (h : E.nx (G.set i s)) : AsN E G i (.fr s) := h
theorem ds_seq' (h : DS K B G t (E.nxt fun G1 => DS K B G1 u E)) : DS K B G (tSeq t u) E := ds_seq h
theorem ds_mid' (M : En → Prop) (h1 : DS K B G t (E.nxt M)) (h2 : ∀ G1, M G1 → DS K B G1 u E) : DS K B G (tSeq t u) E := ds_mid M h1 h2
theorem ds_forE' {wi : TI} {g : TG} {ch : List Nat} (h : DI K B G wi fun G1 ds => ∃ J : Nat → En → Prop, J 0 G1 ∧ (∀ i G2 d, ds[i]? = some d → J i G2 → DG K B G2 g ch (.d d) fun G3 => DS K B G3 t (E.lp (J (i + 1)))) ∧ ∀ G2, J ds.length G2 → E.nx G2) :
    DS K B G (tFor wi g t) E := ds_forE h
theorem ds_while' {tt : TT} (J : Nat → En → Prop) (m : Nat) (h0 : J m G) (hs : ∀ m G1, J m G1 → DT K B G1 tt fun G2 b => if b = true then DS K B G2 t (E.lp fun G3 => ∃ m', m' < m ∧ J m' G3) else E.nx G2) : DS K B G (tWhile tt t) E := ds_while J m h0 hs
variable {p : Rs → Prop} {a : Addr} {q : List PyData → PyData → Prop} {ls : List PyData}
theorem rt_E0 (h : p (.p (.d d))) : (DL.E0 p).rt G (.p (.d d)) := h
theorem rt_E0o {o : Option Addr} {ds : List PyData} (h : p (.fr (.o o ds))) : (DL.E0 p).rt G (.fr (.o o ds)) := And.intro (fun z => Sl.noConfusion z) h
theorem rt_E0s {o : Option Addr} {ds : List PyData} (hi : G[i]? = some (.o o ds)) (h : p (.fr (.o none ds))) : (DL.E0 p).rt G (.p (.sl i)) := ⟨o, ds, hi, h⟩
theorem nx_E0 (h : p (.p (.d .none))) : (DL.E0 p).nx G := h
theorem rt_E1 (hi : G[0]? = some (.o (some a) ls)) (h : q ls d) : (DL.E1 a q).rt G (.p (.d d)) := ⟨d, ls, rfl, hi, h⟩
theorem rt_E1o {o : Option Addr} {ds : List PyData} (hi : G[0]? = some (.o (some a) ls)) (h : q ls (.list ds)) : (DL.E1 a q).rt G (.fr (.o o ds)) := ⟨.list ds, ls, rfl, hi, h⟩
end
end DL
namespace DL
open PySem L2
theorem ite_T {c : Bool} {X Y : Prop} (e : c = true) (h : X) : if c = true then X else Y := by rw [if_pos e]; exact h
theorem ite_F {c : Bool} {X Y : Prop} (e : c = false) (h : Y) : if c = true then X else Y := by rw [e, if_neg (by simp)]; exact h
section
variable {G : En} {PT : En → Bool → Prop} {b : Bool} {ds : List PyData} {i : Int} {j : Nat}
theorem tr_b (h : PT G b) : TrW G PT (.d (.bool b)) := ⟨b, rfl, h⟩
theorem tr_i (h : PT G (i != 0)) : TrW G PT (.d (.int i)) := ⟨_, rfl, h⟩
theorem tr_n (h : PT G false) : TrW G PT (.d .none) := ⟨_, rfl, h⟩
theorem tr_T (h : PT G (!ds.isEmpty)) : TrW G PT (.d (.tuple ds)) := ⟨_, rfl, h⟩
theorem tr_L (h : PT G (!ds.isEmpty)) : TrW G PT (.d (.list ds)) := ⟨_, rfl, h⟩
theorem tr_o {a : Option Addr} (hi : G[j]? = some (.o a ds)) (h : PT G (!ds.isEmpty)) : TrW G PT (.sl j) := ⟨a, ds, hi, h⟩
end
end DL
namespace DL
open PySem L2
/-! ### shapes of data, equality of data -/
def Shp (n : Nat) (d : PyData) : Prop := d.canLay0 = true ∧ d.depth ≤ n
theorem shp_all {n : Nat} : ∀ {xs : List PyData}, (∀ x ∈ xs, Shp n x) → PyData.canLayAll0 xs = true ∧ PyData.depthAll xs ≤ n
  | [], _ => ⟨by simp [PyData.canLayAll0], by simp [PyData.depthAll]⟩
  | x :: xs, h => by
    obtain ⟨a, b⟩ := h x List.mem_cons_self
    obtain ⟨c, d⟩ := shp_all fun y hy => h y (List.mem_cons_of_mem _ hy)
    refine ⟨by simp [PyData.canLayAll0, a, c], ?_⟩
    simp only [PyData.depthAll]
    omega
theorem shp_list {n : Nat} {xs : List PyData} (h : ∀ x ∈ xs, Shp n x) : Shp (n + 1) (.list xs) := by
  obtain ⟨a, b⟩ := shp_all h
  exact ⟨by simp [PyData.canLay0, a], by simp only [PyData.depth]; omega⟩
theorem shp_tup {n : Nat} {xs : List PyData} (h : ∀ x ∈ xs, Shp n x) : Shp (n + 1) (.tuple xs) := by
  obtain ⟨a, b⟩ := shp_all h
  exact ⟨by simp [PyData.canLay0, a], by simp only [PyData.depth]; omega⟩
theorem shp_int (n : Nat) (i : Int) : Shp n (.int i) := ⟨by simp [PyData.canLay0], by simp [PyData.depth]⟩
theorem shp_bool (n : Nat) (b : Bool) : Shp n (.bool b) := ⟨by simp [PyData.canLay0], by simp [PyData.depth]⟩
theorem shp_none (n : Nat) : Shp n .none := ⟨by simp [PyData.canLay0], by simp [PyData.depth]⟩
theorem shp_str (n : Nat) {z : List Nat} (h : ∀ c ∈ z, c < 0x110000) : Shp n (.str (mkS z)) := by
  refine ⟨?_, by simp [PyData.depth]⟩
  simp only [PyData.canLay0, PyData.strOk, mkS]
  simpa using h
theorem shp_mono {n k : Nat} {d : PyData} (h : Shp n d) (hk : n ≤ k) : Shp k d := ⟨h.1, Nat.le_trans h.2 hk⟩
theorem shp_ok {n : Nat} {d : PyData} (h : Shp n d) (hn : n ≤ 64) : SeqAt.shaped d = true := by
  unfold SeqAt.shaped
  rw [h.1, decide_eq_true (Nat.le_trans h.2 hn)]
  rfl
theorem eqv_nil (xs : List PyData) : PyData.eqv (.list xs) (.list []) = xs.isEmpty := by
  cases xs <;> simp [PyData.eqv, PyData.eqvAll]
theorem eqv_nilT (xs : List PyData) : PyData.eqv (.tuple xs) (.tuple []) = xs.isEmpty := by
  cases xs <;> simp [PyData.eqv, PyData.eqvAll]
theorem any_inj {α : Type} [DecidableEq α] {f : α → PyData} (h : ∀ a b, PyData.eqv (f a) (f b) = decide (a = b)) (xs : List α) (x : α) : ((xs.map f).any fun z => PyData.eqv z (f x)) = decide (x ∈ xs) := by
  rw [List.any_map]
  induction xs with
  | nil => rfl
  | cons y ys ih =>
    rw [List.any_cons, ih]
    show (PyData.eqv (f y) (f x) || decide (x ∈ ys)) = decide (x ∈ y :: ys)
    rw [h]
    by_cases e : y = x
    · subst e
      simp
    · have e' : ¬ x = y := fun z => e z.symm
      simp [e, e']
theorem any_true {α : Type} (b : α → Bool) (xs : List α) : ((xs.map fun x => PyData.bool (b x)).any fun z => PyData.eqv z (.bool true)) = xs.any b := by
  rw [List.any_map]
  congr 1
  funext x
  show (PyData.eqv (.bool (b x)) (.bool true)) = b x
  simp [PyData.eqv]
theorem any_false {α : Type} (b : α → Bool) (xs : List α) : ((xs.map fun x => PyData.bool (b x)).any fun z => PyData.eqv z (.bool false)) = xs.any fun x => !b x := by
  rw [List.any_map]
  congr 1
  funext x
  show (PyData.eqv (.bool (b x)) (.bool false)) = !b x
  simp [PyData.eqv]
abbrev iD (n : Nat) : PyData := .int (n : Int)
theorem rng_nD (n : Nat) : rngD 0 ((n : Nat) : Int).toNat = (List.range n).map iD := by
  unfold rngD
  rw [Int.toNat_natCast]
  congr 1
  funext i
  show PyData.int (0 + (i : Int)) = PyData.int (i : Int)
  rw [Int.zero_add]
theorem eqv_iD (a b : Nat) : PyData.eqv (iD a) (iD b) = decide (a = b) := by
  simp only [PyData.eqv]
  by_cases h : a = b
  · subst h
    simp
  · rw [decide_eq_false h]
    have : ¬ ((a : Int) = (b : Int)) := fun e => h (Int.ofNat.inj e)
    simpa using this
theorem filter_isEmpty {α : Type} (p : α → Bool) (f : α → PyData) (xs : List α) : (((xs.filter p).map f).isEmpty) = !xs.any p := by
  induction xs with
  | nil => rfl
  | cons x xs ih =>
    rw [List.filter_cons, List.any_cons]
    cases p x with
    | true => simp
    | false => simpa using ih
end DL
namespace DL
open PySem L2
section
variable {K : Fr} {B : Bs} {G : En} {P : Po}
/-- [..] != [] -/
theorem rw_neF {α : Type} {xs : List α} {p : α → Bool} {f : α → PyData} (h : ∀ x ∈ xs, Shp 60 (f x)) (q : P G (.p (.d (.bool (xs.any p))))) : RW2 K B G (rNE K) (.d (.list ((xs.filter p).map f))) (.d (.list [])) P := by
  refine rw_neD rfl rfl (shp_ok (shp_list (n := 60) fun x hx => ?_) (by decide)) (shp_ok (shp_list (n := 0) fun x hx => nomatch hx) (by decide)) ?_
  · obtain ⟨y, hy, rfl⟩ := List.mem_map.mp hx
    exact h y (List.mem_filter.mp hy).1
  · rw [eqv_nil, filter_isEmpty, Bool.not_not]
    exact q
end
end DL
namespace DL
open PySem L2
/-! ### the law itself: its script stands as it came -/
def scr (K : Fr) (ns : List Int) : Orel := { rel := fun F _ v _ => ∃ p, v = .ref p ∧ SqL K F p (ns.map V.int), stab := fun ⟨p, e, h⟩ ex _ => ⟨p, e, sl_mono ex h⟩ }
def spLaw (K : Fr) (n : Nat) : Sp := fun vs H Q _ => ∃ (a : Addr) (ns : List Int), vs = [.ref a] ∧ ns.length ≤ n ∧ SqL K H a (ns.map V.int) ∧ ∀ H', Q (.bl true) H'
def GL (K : Fr) (N : List Str) (ns : List Int) : En := .ow (scr K ns) :: List.replicate (N.length - 1) .un
section
variable {P : Program} {w : World} {K : Fr} {mg : Str → Option Value} {base : Heap} {x qual : Str} {st : Stmt} {f : Addr} {fd : FuncData} {N : List Str} {p : Str} {k n : Nat}
theorem fnLaw (F : Fun K x qual st f fd) (S : FnScope N [p] (defScope st)) (hN : 1 ≤ N.length)
    (hb : ∀ (cdv : Value) (A : Around) (outer : List Env) (s : Shared) (H : Hp) (E : XK), Room k (A.deeper (PyProof.Rows.envOfC qual (defScope st) s.heap.objs.size f cdv)) → ∃ t, PSs (cxOf CX0 P w K mg base N qual (defScope st) f cdv A outer s H E).nox (defBody st) t ∧
      ∀ ns : List Int, ns.length ≤ n → ∀ B, DS K B (GL K N ns) t (DL.E0 fun r => r = .p (.d (.bool true)))) : FnOk P w K mg base CX0 (k + 1) f fd [p] (spLaw K n) := by
  refine F.ok S (fun vs H Q E h => ?_) (fun cdv A outer s H vs Q E hr h => ?_)
  · obtain ⟨a, ns, rfl, _⟩ := h
    rfl
  · obtain ⟨a, ns, rfl, hl, hs, q⟩ := h
    obtain ⟨t, ht, hd⟩ := hb cdv A outer s H E hr
    refine ⟨t, ht, ?_⟩
    have I0 : Iv K ⟨H, H, fun _ => False⟩ (GL K N ns) (L2.start N [.ref a]) H H := by
      refine ⟨Ex.refl _, Ex.refl _, fun b o h _ => h, fun b o h _ => .inl (nn h), fun b h => h, by simp [L2.start, GL], fun _ _ => False, fun i s' hi => ?_, fun _ _ _ z => z.elim, fun _ _ z => z.elim⟩
      cases i with
      | zero =>
        have e : s' = .ow (scr K ns) := by
          simp [GL] at hi
          exact hi.symm
        subst e
        exact .inr ⟨.ref a, rfl, a, rfl, hs⟩
      | succ i =>
        left
        unfold GL at hi
        rw [List.getElem?_cons_succ, List.getElem?_replicate] at hi
        split at hi
        · exact (Option.some.inj hi).symm
        · cases hi
    refine hd ns hl _ _ H H _ I0 ⟨fun S F H' G e J p => ?_, fun S F H' G v r e J p => ?_, fun _ _ _ _ _ _ z => z.elim, fun _ _ _ _ _ _ z => z.elim⟩
    · cases p
    · match r, J, p with
      | .p (.d d), J, p =>
        have p : Rs.p (.d d) = .p (.d (.bool true)) := p
        cases p
        rw [dp_bl J.2]
        exact q H'
      | .p (.sl i), J, ⟨a, ds', hi, p⟩ => cases p
      | .fr s, J, ⟨hu, p⟩ => cases p
end
section
variable {K : Fr} {B : Bs} {G : En} {P : Po}
theorem dw_scr {i : Nat} {ns : List Int} (h : G[i]? = some (.ow (scr K ns))) (q : P G (.p (.sl i))) : DW K B G (tVar i) P := fun S F H Q I k => by
  obtain ⟨A, a1, _, _⟩ := I.own
  rcases a1 i _ h with e | ⟨v, h1, _⟩
  · cases e
  · exact ⟨v, h1, k _ F H G (.p (.sl i)) (Ex.refl F) ⟨I, h1⟩ q⟩
theorem rn_listScr {i : Nat} {ns : List Int} (h : G[i]? = some (.ow (scr K ns))) (q : P G (.fr (.o none (ns.map .int)))) : RWn K B G (rLIST K) [.sl i] P := fun S F H Q vs I hv k => by
  obtain ⟨v, rfl, h1⟩ := vws1 hv
  obtain ⟨A, a1, _, _⟩ := I.own
  rcases a1 i _ h with e | ⟨u, z1, p, rfl, hs⟩
  · cases e
  · have h1 : S[i]? = some (some v) := h1
    rw [h1] at z1
    cases z1
    exact ⟨p, _, rfl, .inl (sl_mono I.ex hs), fun c hc => ct_L k I hc (da_ints _) q⟩
end
end DL
/-! sets of texts: the library's proofs for sets of ints, turned to texts -/
namespace L2
open PySem PySem.Spec PyProof.Rows
def keyT (e : Int × Value) : Str := match e.2 with | .str k _ => k | _ => ⟨#[]⟩
def GoodT (w : World) (e : Int × Value) : Prop := ∃ k tk, e.2 = Value.str k tk ∧ e.1 = hashStr w k

/-- the set of texts at a: S its members, n their number; its table rises and can be walked -/
def SetT (w : World) (h : Heap) (a : Addr) (S : Str → Bool) (n : Nat) : Prop :=
  ∃ o es ep t, h.get? a = some o ∧ o.ExactSet ∧ o.data = .set es ep t ∧ (∀ e ∈ es.toList, GoodT w e) ∧ (es.toList.map keyT).Nodup ∧ (∀ k, S k = true ↔ k ∈ es.toList.map keyT) ∧
    es.size < scanBound ∧ t.fits es.size = true ∧ es.size = n ∧ Ris t.place.toList ∧ (w.params.followText "set-order" = true ∨ t.led = true)

section
variable {P : Program} {w : World} {h h' : Heap} {a : Addr} {S : Str → Bool} {n : Nat}

theorem SetT.at (R : SetT w h a S n) (k : ∀ o, h.get? a = some o → h'.get? a = some o) : SetT w h' a S n := by
  obtain ⟨o, es, ep, t, ho, r⟩ := R
  exact ⟨o, es, ep, t, k o ho, r⟩
theorem SetT.lt (R : SetT w h a S n) : a < h.objs.size := by
  obtain ⟨o, es, ep, t, ho, r⟩ := R
  exact Heap.lt_size ho
theorem SetT.congr {S' : Str → Bool} (R : SetT w h a S n) (e : ∀ k, S' k = S k) : SetT w h a S' n := by
  have q : S' = S := funext e
  rw [q]; exact R
theorem goodT_elems {l : List (Int × Value)} (g : ∀ e ∈ l, GoodT w e) : ElemsOf (PySem.strKind P w) l := fun e he => by
  obtain ⟨k, tk, h1, h2⟩ := g e he
  exact ⟨⟨k, by rw [h1]; exact strKind_is P w k tk, h2⟩, by rw [h1] <;> rfl⟩
theorem goodT_is {e : Int × Value} (g : GoodT w e) (k : Str) : (PySem.strKind P w).is k e.2 = true ↔ keyT e = k := by
  obtain ⟨k0, tk, h1, _⟩ := g
  unfold keyT
  rw [h1]
  show ((k0 == k) = true) ↔ k0 = k
  exact beq_iff_eq
theorem goodT_mem {l : List (Int × Value)} (g : ∀ e ∈ l, GoodT w e) (k : Str) : k ∈ l.map keyT ↔ ∃ e ∈ l, (PySem.strKind P w).is k e.2 = true := by
  rw [List.mem_map]
  constructor
  · rintro ⟨e, he, q⟩
    exact ⟨e, he, (goodT_is (g e he) k).2 q⟩
  · rintro ⟨e, he, q⟩
    exact ⟨e, he, (goodT_is (g e he) k).1 q⟩
theorem SetT.setOf (R : SetT w h a S n) : h.SetOf (PySem.strKind P w) a S n := by
  obtain ⟨o, es, ep, t, ho, hx, hd, g, nd, hm, hb, hf, hn, _⟩ := R
  exact ⟨o, es, ep, t, ho, hx, hd, goodT_elems g, fun k => (hm k).trans (goodT_mem g k), hb, hf, hn⟩
end

section
variable {P : Program} {w : World} {A : Around} {E : Value → Shared → Prop} {s : Shared} {a : Addr} {S : Str → Bool} {n : Nat}

/-! ### add -/
theorem setT_add_tail {g : Bool → Sem Unit} (hg : ∀ (b : Bool) (s₁ : Shared) (Q' : Unit → Shared → Prop), Q' () s₁ → wpAny (model P w) A (g b) Q' E s₁)
    {o : Obj} {es : Array (Int × Value)} {ep : Nat} {t : SetTable} (ho : s.heap.get? a = some o) (hex : o.ExactSet) (hd : o.data = .set es ep t)
    {es1 : Array (Int × Value)} {t2 : SetTable} {S' : Str → Bool} (g1 : ∀ e ∈ es1.toList, GoodT w e) (nd1 : (es1.toList.map keyT).Nodup) (m1 : ∀ k, S' k = true ↔ k ∈ es1.toList.map keyT)
    (hb1 : es1.size < scanBound) (hf2 : t2.fits es1.size = true) (hr : Ris t2.place.toList) (hl : w.params.followText "set-order" = true ∨ t2.led = true) {wasDummy : Bool} {R : Option Bool → Shared → Prop}
    (hR : ∀ h', Heap.SameBut a s.heap h' → SetT w h' a S' es1.size → R (some true) { s with heap := h' }) :
    wpAny (model P w) A (do
        storeSet a es1 t2
        if (!wasDummy && t2.tooFull) = true then do
            g (relayAll t2 es1 (SetTable.grown es1.size)).2.2
            storeSet a (relayAll t2 es1 (SetTable.grown es1.size)).1 (relayAll t2 es1 (SetTable.grown es1.size)).2.1
            pure (some true)
          else pure (some true)) R E s := by
  refine wpAny_bind (wpAny_storeSet_of ho hd ?_ (fits_of_scanBound hb1))
  have ho1 := store_at (es' := es1) (t' := t2) ho hd
  have sb1 := Heap.SameBut.update s.heap a (Obj.putSet es1 t2)
  split
  · have pm := relayAll_perm t2 es1 (SetTable.grown es1.size)
    have hf3 := relayAll_fits t2 es1 (SetTable.grown es1.size)
    have hr3 := relayAll_ris t2 es1 (SetTable.grown es1.size)
    have hl3 := relayAll_led t2 es1 (SetTable.grown es1.size)
    generalize relayAll t2 es1 (SetTable.grown es1.size) = Z at pm hf3 hr3 hl3 ⊢
    obtain ⟨es2, t3, gave⟩ := Z
    dsimp only at pm hf3 hr3 hl3 ⊢
    have hsz : es2.size = es1.size := by rw [← Array.length_toList, pm.length_eq, Array.length_toList]
    have hb2 : es2.size < scanBound := by rw [hsz]; exact hb1
    refine wpAny_bind (hg _ _ _ ?_)
    refine wpAny_bind (wpAny_storeSet_of ho1 rfl ?_ (fits_of_scanBound hb2))
    have ho2 := store_at (es' := es2) (t' := t3) ho1 rfl
    refine wpAny_pure (hR _ (sb1.trans (Heap.SameBut.update _ a _)) ?_)
    exact ⟨_, es2, _, t3, ho2, hex, rfl, fun e he => g1 e (pm.mem_iff.mp he), (pm.map keyT).nodup_iff.mpr nd1, fun k => (m1 k).trans (pm.map keyT).mem_iff.symm, hb2, hf3, hsz, hr3,
      hl.imp id fun z => by rw [hl3]; exact z⟩
  · exact wpAny_pure (hR _ sb1 ⟨_, es1, _, t2, ho1, hex, rfl, g1, nd1, m1, hb1, hf2, rfl, hr, hl⟩)

theorem setT_add_hashed {k : Str} {tk : Tok} {Q : Bool → Shared → Prop} (R : SetT w s.heap a S n) (room : n + 1 < scanBound)
    (hQ : ∀ h', Heap.SameBut a s.heap h' → SetT w h' a (fun j => S j || decide (j = k)) (if S k = true then n else n + 1) → Q (!S k) { s with heap := h' }) :
    wpAny (model P w) A (setAddHashed a (.str k tk) ((PySem.strKind P w).hash k)) Q E s := by
  obtain ⟨o, es, ep, t, ho, hex, hd, g, nd, hm, hb, hf, hn, hr, hl⟩ := R
  have hkey : (PySem.strKind P w).is k (.str k tk) = true := strKind_is P w k tk
  have hsc : (Value.str k tk).scannable = true := rfl
  have hel : ElemsOf (PySem.strKind P w) es.toList := goodT_elems g
  unfold setAddHashed setAddHashedIn
  refine wpAny_holding (wpAny_bind (wpAny_setState_of ho hd hf ?_))
  dsimp only
  rw [byScan_of hsc hb hel]
  simp only [↓reduceIte]
  unfold setAddByScan
  refine wpAny_bind ?_
  refine wpAny_bind (wpAny_rule ?_)
  refine wpAny_bind (wpAny_setScan_of hkey ho hd hf hel ?_)
  cases hfi : List.findIdx? (fun e => (PySem.strKind P w).is k e.2) es.toList with
  | some j =>
    dsimp only
    obtain ⟨hj, pj, _⟩ := List.findIdx?_eq_some_iff_getElem.mp hfi
    have hSk : S k = true := (hm k).2 ((goodT_mem (P := P) (w := w) g k).2 ⟨es.toList[j], List.getElem_mem hj, pj⟩)
    refine wpAny_pure (wpAny_pure ?_)
    have q := hQ s.heap (Heap.SameBut.refl a s.heap) ⟨o, es, ep, t, ho, hex, hd, g, nd, fun i => by
      rw [Bool.or_eq_true, decide_eq_true_eq, ← hm i]
      exact ⟨fun z => z.elim id (fun e => e ▸ hSk), .inl⟩, hb, hf, by rw [if_pos hSk]; exact hn, hr, hl⟩
    rw [hSk] at q
    exact q
  | none =>
    dsimp only
    have hnk : k ∉ es.toList.map keyT := fun z => by
      obtain ⟨e, he, q⟩ := (goodT_mem (P := P) (w := w) g k).1 z
      have c := List.findIdx?_eq_none_iff.mp hfi e he
      rw [q] at c
      cases c
    have hSk : S k = false := by
      cases q : S k with
      | false => rfl
      | true => exact absurd ((hm k).1 q) hnk
    have hgw : ∀ (b : Bool) {s₁ : Shared} {Q' : Unit → Shared → Prop}, Q' () s₁ → wpAny (model P w) A (match b with | true => rule "set.scan.the-table-gave-way" | false => pure ()) Q' E s₁ :=
      fun b s₁ Q' q => by cases b <;> first | exact wpAny_pure q | exact wpAny_rule q
    have pm := layNew_perm t es ((PySem.strKind P w).hash k) (.str k tk)
    have hf1 := layNew_fits t es ((PySem.strKind P w).hash k) (.str k tk)
    have hr1 := layNew_ris t es ((PySem.strKind P w).hash k) (.str k tk) hr
    have hl1 := layNew_led t es ((PySem.strKind P w).hash k) (.str k tk)
    generalize layNew t es ((PySem.strKind P w).hash k) (.str k tk) = Z at pm hf1 hr1 hl1 ⊢
    obtain ⟨es1, t1, wasDummy, gave⟩ := Z
    dsimp only at pm hf1 hr1 hl1 ⊢
    rw [Array.toList_push] at pm
    have pc : es1.toList.Perm (((PySem.strKind P w).hash k, Value.str k tk) :: es.toList) := pm.trans (List.perm_append_singleton _ _)
    have pk : (es1.toList.map keyT).Perm (k :: es.toList.map keyT) := pc.map keyT
    have g1 : ∀ e ∈ es1.toList, GoodT w e := fun e he => by
      rcases List.mem_cons.mp (pc.mem_iff.mp he) with z | z
      · rw [z]; exact ⟨k, tk, rfl, rfl⟩
      · exact g e z
    have nd1 : (es1.toList.map keyT).Nodup := pk.nodup_iff.mpr (List.nodup_cons.mpr ⟨hnk, nd⟩)
    have m1 : ∀ i, (S i || decide (i = k)) = true ↔ i ∈ es1.toList.map keyT := fun i => by
      rw [Bool.or_eq_true, decide_eq_true_eq, hm i, pk.mem_iff, List.mem_cons]
      exact Or.comm
    have hsz : es1.size = n + 1 := by rw [← Array.length_toList, pc.length_eq, List.length_cons, Array.length_toList, hn]
    have hb1 : es1.size < scanBound := by rw [hsz]; exact room
    have hled : w.params.followText "set-order" = true ∨ t1.led = true := hl.imp id fun z => by rw [hl1]; exact z
    have fin : ∀ h', Heap.SameBut a s.heap h' → SetT w h' a (fun j => S j || decide (j = k)) es1.size → Q true { s with heap := h' } := fun h' sb r => by
      have q := hQ h' sb
      rw [hSk] at q
      rw [hsz] at r
      exact q r
    refine wpAny_bind (hgw _ ?_)
    split
    · refine wpAny_bind ?_
      rw [hashByValue_scannable 8 hsc]
      refine wpAny_pure ?_
      refine setT_add_tail ?_ ho hex hd g1 nd1 m1 hb1 ?_ ?_ ?_ ?_
      · intro b s₁ Q' q; cases b <;> first | exact wpAny_pure q | exact wpAny_rule q
      · first | (split <;> first | exact hf1 | exact SetTable.fits_plain_off hf1) | exact hf1
      · first | (split <;> exact hr1) | exact hr1
      · first | (split <;> exact hled) | exact hled
      · intro h' sb r; dsimp only; exact wpAny_pure (fin h' sb r)
    · refine wpAny_bind (wpAny_pure ?_)
      simp only [↓reduceIte]
      refine setT_add_tail ?_ ho hex hd g1 nd1 m1 hb1 hf1 hr1 hled ?_
      · intro b s₁ Q' q; cases b <;> first | exact wpAny_pure q | exact wpAny_rule q
      · intro h' sb r; dsimp only; exact wpAny_pure (fin h' sb r)

/-- found.add(k) -/
theorem setT_add {k : Str} {tk : Tok} {Q : Value → Shared → Prop} (R : SetT w s.heap a S n) (room : n + 1 < scanBound)
    (hQ : ∀ h', Heap.SameBut a s.heap h' → SetT w h' a (fun j => S j || decide (j = k)) (if S k = true then n else n + 1) → Q .none { s with heap := h', toks := s.toks + 1 }) :
    wpAny (model P w) A (call (.builtin "set.add") [.ref a, .str k tk]) Q E s := by
  have hS : s.heap.SetOf (PySem.strKind P w) a S n := R.setOf
  refine wpAny_call_entry F.slot_set_add hS.typeIs F.entry_set_add ?_ (F.args_set_add_2 _ _)
  unfold Builtin.«set.add» Builtin.Frozenset.oneOther
  simp only [List.isEmpty_nil, bind_assoc]
  unfold Builtin.Frozenset.addrOf setAdd
  refine wpAny_bind (wpAny_pure ?_)
  try dsimp only
  refine wpAny_bind (wpAny_pure ?_)
  try dsimp only
  refine wpAny_bind ?_
  refine wpAny_holding ?_
  refine wpAny_bind ((PySem.strKind P w).pyHash (strKind_is P w k tk) ?_)
  refine setT_add_hashed (s := { s with toks := s.toks + 1 }) R room fun h' sb r => ?_
  show wpAny _ _ (ret Value.none) _ _ _
  exact wpAny_pure ⟨_, rfl, hQ h' sb r⟩
end
theorem setT_new_at {w : World} {h : Heap} {a : Addr} {ns : List Str} (ho : h.get? a = some { cls := .type "set", dict := none, data := .set #[] 0 (.fresh 0 0 (!w.params.followText "set-order")) }) : SetT w h a (fun j => decide (j ∈ ns.take 0)) 0 :=
  ⟨_, #[], 0, _, ho, ⟨rfl, rfl, rfl⟩, rfl, (fun e he => by simp at he), (by simp), (fun k => by simp), (by decide), (by rfl), rfl, List.Pairwise.nil, by
    show _ ∨ (!w.params.followText "set-order") = true
    cases w.params.followText "set-order"
    · exact .inr rfl
    · exact .inl rfl⟩
section
variable {P : Program} {w : World} {A : Around} {E : Value → Shared → Prop} {s : Shared}
theorem setT_update {I : Addr} {fp wr : List Addr} {G : Array GenState → Array GenState → Prop} {n : Nat} {Pv : Nat → Value → Prop} {St : Nat → Shared → Prop} {R : Result → Shared → Prop}
    (W : WalksS P w A.in1 I fp wr G n Pv St) (S : Addr) (hSf : S ∉ fp) (ns : List Str) (hn : n = ns.length) (hb : ns.length + 1 < scanBound) (hval : ∀ i v, Pv i v → ∃ k t, ns[i]? = some k ∧ v = .str k t) :
    ∀ (k i : Nat) (s : Shared), n - i = k → i ≤ n → St i s → (∃ c, c ≤ i ∧ SetT w s.heap S (fun j => decide (j ∈ ns.take i)) c) →
      (∀ s' c, Moved (S :: wr) G s s' → c ≤ n → SetT w s'.heap S (fun j => decide (j ∈ ns)) c → R (.ok (.ret .none)) s') →
      codeAny (model P w) A (.builtin "set.update.loop" ⟨[.ref S, .ref I], []⟩) R s := by
  have hSw : S ∉ wr := fun h => hSf (W.sub _ h)
  have hsub : ∀ b ∈ wr, b ∈ S :: wr := fun b hb => List.mem_cons_of_mem _ hb
  intro k
  induction k with
  | zero =>
    intro i s hk' hi hst ⟨c, hc, hS⟩ hR
    have hin : i = n := by omega
    subst hin
    refine codeAny_builtin F.entry_set_update_loop ?_
    rw [Around.under_plainId F.plain_set_update_loop _]
    show wpAny _ A.in1 (pyNext (.ref I) >>= _) _ _ s
    refine wpAny_bind (W.done s _ _ hst fun s' hm => ?_)
    show wpAny _ A.in1 (ret Value.none) _ _ s'
    have e : ns.take i = ns := List.take_of_length_le (by omega)
    rw [e] at hS
    exact wpAny_pure (hR s' c (hm.mono hsub) hc (hS.at fun o e => hm.heap S o hSw e))
  | succ k ih =>
    intro i s hk' hi hst ⟨c, hc, hS⟩ hR
    have hlt : i < n := by omega
    refine codeAny_builtin F.entry_set_update_loop ?_
    rw [Around.under_plainId F.plain_set_update_loop _]
    show wpAny _ A.in1 (pyNext (.ref I) >>= _) _ _ s
    refine wpAny_bind (W.item i s _ _ hlt hst fun v s' hP hst' hm => ?_)
    obtain ⟨z, t, hz, rfl⟩ := hval i v hP
    have hS' : SetT w s'.heap S (fun j => decide (j ∈ ns.take i)) c := hS.at fun o e => hm.heap S o hSw e
    show wpAny _ A.in1 (holding [Value.str z t] (setAdd S (.str z t)) >>= _) _ _ s'
    refine wpAny_bind (wpAny_holding ?_)
    unfold setAdd
    refine wpAny_holding ?_
    refine wpAny_bind ((PySem.strKind P w).pyHash (k := z) (strKind_is _ _ _ _) ?_)
    refine setT_add_hashed (s := { s' with toks := s'.toks + 1 }) hS' (by omega) fun h' hsb hS2 => ?_
    have hS3 : SetT w h' S (fun j => decide (j ∈ ns.take (i + 1))) (if decide (z ∈ ns.take i) = true then c else c + 1) := hS2.congr fun j => by
      rw [List.take_add_one, hz]
      simp [List.mem_append]
    have hc3 : (if decide (z ∈ ns.take i) = true then c else c + 1) ≤ i + 1 := by
      split <;> omega
    refine wpAny_pure ⟨plainId_quiet F.plain_set_update_loop _, ih (i + 1) _ (by omega) hlt (W.frame _ s' _ _ hst' (Nat.le_succ _) fun b hb o e => ?_) ⟨_, hc3, hS3⟩ fun s'' c2 hm'' hc'' hS'' => ?_⟩
    · rw [hsb.2 b (fun h : b = S => hSf (by rw [← h]; exact hb))]; exact e
    · refine hR s'' c2 (Moved.trans W.gtrans ((hm.mono hsub).then_heap (Nat.le_succ _) fun b o hb e => ?_) hm'') hc'' hS''
      rw [hsb.2 b (fun h : b = S => hb (by rw [h]; exact List.mem_cons_self))]; exact e

theorem strsT_at : ∀ {vs : List Value} {ns : List Str}, StrsAre vs ns → ∀ (i : Nat) (v : Value), vs[i]? = some v → ∃ t, v = .str (ns.getD i ⟨#[]⟩) t
  | _, _, .nil, _, _, e => by simp at e
  | _, _, .cons y t _, 0, _, e => by
    cases e
    exact ⟨t, rfl⟩
  | _, _, .cons _ _ h, i + 1, v, e => by
    obtain ⟨t, q⟩ := strsT_at h i v (by simpa using e)
    exact ⟨t, by simpa using q⟩
theorem call_set_lstS {l : Addr} {items : Array Value} (ns : List Str) {Q : Value → Shared → Prop} (hh : A.handled = none) (hl : s.heap.IsList l items) (hit : StrsAre items.toList ns) (hb : ns.length + 1 < scanBound)
    (h : ∀ (h' : Heap) (tk c : Nat), SetT w h' s.heap.objs.size (fun j => decide (j ∈ ns)) c → c ≤ ns.length → (∀ b o, s.heap.get? b = some o → h'.get? b = some o) → Q (.ref s.heap.objs.size) { s with heap := h', toks := tk }) :
    wpAny (model P w) A (call (.type "set") [.ref l]) Q E s := by
  have hisz : items.size = ns.length := by
    have q := StrsAre.length hit
    rw [Array.length_toList] at q
    exact q
  obtain ⟨c, tl, hmro⟩ := F.called_set.mro
  have hmade := F.called_set.made
  have hsub := F.called_set.sub
  refine wpAny_call (codeAny_of_tree ?_)
  show wpAny _ _ (callAny (.type "set") _) _ _ _
  refine wpAny_pure ⟨Code.quiet_builtin _ (by decide +kernel), codeAny_builtin F.entry_type_call ?_⟩
  rw [Around.under_plain (weight_type_call_type "set" [.ref l] []) rfl]
  have h1 := F.called_set.notType
  have h2 := F.called_set.canCreate
  have hct := F.typeCall_set_1 (.ref l)
  repeat (any_goals (first | assumption | wp_step))

  refine codeAny_mono (code_set_led1 (.ref l) (E := E) (Q₁ := fun obj s₁ => obj = .ref s.heap.objs.size ∧ s₁ = { s with heap := s.heap.push { cls := .type "set", dict := none, data := .set #[] 0 (.fresh 0 0 (!w.params.followText "set-order")) } }) ⟨rfl, rfl⟩) fun r s₁ hr => ?_
  cases r with
  | error e => exact hr
  | ok fl =>
    cases fl with
    | ret obj =>
      obtain ⟨rfl, rfl⟩ := hr
      have hS : (s.heap.push { cls := .type "set", dict := none, data := .set #[] 0 (.fresh 0 0 (!w.params.followText "set-order")) }).get? s.heap.objs.size = some { cls := .type "set", dict := none, data := .set #[] 0 (.fresh 0 0 (!w.params.followText "set-order")) } := Heap.get?_push_size _ rfl
      have hT : Shared.TypeIs { s with heap := s.heap.push { cls := .type "set", dict := none, data := .set #[] 0 (.fresh 0 0 (!w.params.followText "set-order")) } } (.ref s.heap.objs.size) "set" := ⟨_, hS, rfl⟩
      have hli := F.called_set.init.lookup
      have hbi := F.called_set.init.bind (.ref s.heap.objs.size)
      repeat (any_goals (first | assumption | wp_step))

      refine codeAny_mono (codeAny_call_builtin (R := wants (fun r s₂ => r = .none ∧ ∃ h' tk c, s₂ = { s with heap := h', toks := tk } ∧ SetT w h' s.heap.objs.size (fun j => decide (j ∈ ns)) c ∧ c ≤ ns.length ∧
          (∀ b o, s.heap.get? b = some o → h'.get? b = some o)) E) F.called_set.init.plain F.entry_set_init (check_set_init_1 hT ?_)) fun r₂ s₂ hr₂ => ?_
      · obtain ⟨ol, hol, hcl, nl, hdl⟩ := hl
        obtain ⟨ocls, odict, odata, oslots⟩ := ol
        simp only at hcl hdl
        subst hcl; subst hdl
        have hol' : (s.heap.push { cls := .type "set", dict := none, data := .set #[] 0 (.fresh 0 0 (!w.params.followText "set-order")) }).get? l = some { cls := .type "list", dict := odict, data := .seq items nl, slots := oslots } := Heap.get?_push_of_some _ hol
        have hsls := F.sub_list_set
        have hslf := F.sub_list_frozenset
        have hne : (Value.type "list" == Value.type "dict") = false := by decide
        have hl1 : (s.heap.push { cls := .type "set", dict := none, data := .set #[] 0 (.fresh 0 0 (!w.params.followText "set-order")) }).IsList l items := ⟨_, hol', rfl, nl, rfl⟩
        unfold Builtin.«set.__init__» noKeywords Builtin.Frozenset.updateFrom
        generalize hPI : pyIter = PI
        wp_walk
        subst hPI

        refine wpAny_pyIter_list hl1 ?_
        refine wpAny_bind (wpAny_runValue ?_)
        have hlS : l < s.heap.objs.size := Heap.lt_size hol
        have hh3 : A.in1.in1.in1.handled = none := by simp [hh]
        have hz1 : (s.heap.push { cls := .type "set", dict := none, data := .set #[] 0 (.fresh 0 0 (!w.params.followText "set-order")) }).objs.size = s.heap.objs.size + 1 := Heap.size_push ..
        have hneI : l ≠ (s.heap.push { cls := .type "set", dict := none, data := .set #[] 0 (.fresh 0 0 (!w.params.followText "set-order")) }).objs.size := by
          rw [Heap.size_push]; exact Nat.ne_of_lt (Nat.lt_succ_of_lt hlS)
        have hSf : s.heap.objs.size ∉ [(s.heap.push { cls := .type "set", dict := none, data := .set #[] 0 (.fresh 0 0 (!w.params.followText "set-order")) }).objs.size, l] := by
          rw [Heap.size_push]; simp only [List.mem_cons, List.mem_singleton, List.not_mem_nil, or_false, not_or]
          exact ⟨Nat.ne_of_lt (Nat.lt_succ_self _), Nat.ne_of_gt hlS⟩
        have hval : ∀ (i : Nat) (v : Value), items[i]? = some v → ∃ k t, ns[i]? = some k ∧ v = .str k t := fun i v hv => by
          have hi : i < ns.length := by rw [← hisz]; exact (Array.getElem?_eq_some_iff.mp hv).1
          obtain ⟨t, e⟩ := strsT_at hit i v (by rw [Array.getElem?_toList]; exact hv)
          refine ⟨ns[i], t, List.getElem?_eq_getElem hi, ?_⟩
          rw [e, List.getD_eq_getElem?_getD, List.getElem?_eq_getElem hi] <;> rfl
        refine setT_update ((Walks.list hh3 _ l hneI items).toS) s.heap.objs.size
          hSf ns hisz hb hval (items.size - 0) 0 _ (by omega) (Nat.zero_le _)
          ⟨⟨_, Heap.get?_push_size _ rfl, rfl, rfl⟩, (hl1.push _)⟩ ?hS0 ?hR
        case hS0 =>
          have hget : ((s.heap.push { cls := .type "set", dict := none, data := .set #[] 0 (.fresh 0 0 (!w.params.followText "set-order")) }).push { cls := .type "list_iterator", data := .fields #[.ref l, .int 0 0] }).get? s.heap.objs.size
              = some { cls := .type "set", dict := none, data := .set #[] 0 (.fresh 0 0 (!w.params.followText "set-order")) } := Heap.get?_push_of_some _ hS
          exact ⟨0, Nat.le_refl 0, setT_new_at hget⟩
        case hR =>
          intro s' c' hm hc' hS'
          obtain ⟨h', g2, d', tk', os'⟩ := s'
          have eg : g2 = s.gens := hm.gens
          have ed : d' = s.drawn := hm.drawn
          have eo : os' = s.os := hm.os
          subst eg; subst ed; subst eo
          show wpAny _ _ _ _ _ _
          refine wpAny_pure ?_
          show wpAny _ _ (ret Value.none) _ _ _
          rw [hisz] at hc'
          refine wpAny_pure ⟨rfl, h', tk', c', rfl, hS', hc', fun b o e => ?_⟩
          have hb0 : b < s.heap.objs.size := Heap.lt_size e
          have hb1 : b ≠ s.heap.objs.size := Nat.ne_of_lt hb0
          have hb2 : b ≠ (s.heap.push { cls := .type "set", dict := none, data := .set #[] 0 (.fresh 0 0 (!w.params.followText "set-order")) }).objs.size := by
            rw [Heap.size_push]; exact Nat.ne_of_lt (Nat.lt_succ_of_lt hb0)
          exact hm.heap b o (by simp only [List.mem_cons, List.mem_singleton, List.not_mem_nil, or_false, not_or]; exact ⟨hb1, hb2⟩) (Heap.get?_push_of_some _ (Heap.get?_push_of_some _ e))

      · cases r₂ with
        | error e => exact hr₂
        | ok fl₂ =>
          cases fl₂ with
          | ret r =>
            obtain ⟨rfl, h', tk, c', rfl, hS', hc', hk'⟩ := hr₂
            repeat (any_goals (first | assumption | wp_step))
            exact h _ _ _ hS' hc' hk'
          | _ => exact hr₂.elim
    | _ => exact hr.elim

end
section
variable {P : Program} {w : World} {A : Around} {E : Value → Shared → Prop} {s : Shared} {a : Addr}
theorem strs_of : ∀ (l : List Value), (∀ v ∈ l, ∃ k tk, v = Value.str k tk) → PySem.W.EachIs (fun v z => ∃ t, v = Value.str z t) l (l.map fun v => keyT (0, v))
  | [], _ => .nil
  | v :: l, h => by
    obtain ⟨k, tk, rfl⟩ := h v List.mem_cons_self
    exact .cons ⟨tk, rfl⟩ (strs_of l fun u hu => h u (List.mem_cons_of_mem _ hu))
theorem sorted_setT {S : Str → Bool} {n : Nat} {Q : Value → Shared → Prop} (R : SetT w s.heap a S n) (hh : A.handled = none) (h64 : n ≤ 1000) (hu : A.units + 4 < cLine)
    (hQ : ∀ s' p (out : List Value) (c : Nat) (ns : List Str), (∀ b o, s.heap.get? b = some o → s'.heap.get? b = some o) → s'.gens = s.gens → s'.os = s.os → s.heap.objs.size ≤ p →
      s'.heap.get? p = some (seqObj "list" out.toArray c) → PySem.W.EachIs (fun v z => ∃ t, v = Value.str z t) out ns → (∃ ms : List Str, ns = ms.mergeSort (PySem.W.dataLe false PyData.str) ∧ ms.Nodup ∧ (∀ k, k ∈ ms ↔ S k = true)) → ns.length = n → Q (.ref p) s') :
    wpAny (model P w) A (call (.builtin "sorted") [.ref a]) Q E s := by
  obtain ⟨o, es, ep, t, ho, hex, hd, g, nd, hm, hb, hf, hn, hr, hl⟩ := R
  refine Calls.call_function_entry kind_sorted plain_sorted entry_sorted (args_sorted1 _) ?_
  unfold Builtin.«sorted»
  refine wpAny_bind (m := checkCount "sorted" 1 1 _) (wpAny_pure ?_)
  refine wpAny_bind (collect_set (A := A.in1) hh ⟨o, ho, hex.1, hd⟩ hf hb hr hl fun s1 vs k1 hz g1 o1 pm => ?_)
  have hvl : vs.length = n := by rw [pm.length_eq, List.length_map, Array.length_toList]; exact hn
  have hI := strs_of vs fun v hv => by
    obtain ⟨e, he, q⟩ := List.mem_map.mp (pm.mem_iff.mp hv)
    obtain ⟨k, tk, h1, _⟩ := g e he
    exact ⟨k, tk, by rw [← q]; exact h1⟩
  have pk : (vs.map fun v => keyT (0, v)).Perm (es.toList.map keyT) := by
    have q := pm.map fun v => keyT (0, v)
    rw [List.map_map] at q
    exact q
  refine wpAny_bind (wpAny_newList ?_ (by rw [hvl, sizeLine_eq]; omega))
  have hoL : (s1.heap.push (seqObj "list" vs.toArray 0)).get? s1.heap.objs.size = some (seqObj "list" vs.toArray 0) := Heap.get?_push_size _ rfl
  refine wpAny_bind (wpAny_holding (PySem.W.list_sort_data (enc := PyData.str) (bs := vs.map fun v => keyT (0, v)) hoL hI (hI.mono fun v z q => ?_) (PySem.W.AllAlike.of fun b b' => ?_) (PySem.W.Sortable.others fun b => ⟨(nomatch ·), fun xs => (nomatch ·)⟩) (by rw [List.length_map, hvl, sizeLine_eq]; omega) (fun b hb => ?_) fun out ho1 ho2 => ?_))
  · obtain ⟨t, rfl⟩ := q
    exact ⟨[], .str _ _, by simp⟩
  · simp [PySem.W.alike]
  · simp [PyData.depth]
    show A.in1.units + 1 < cLine
    simp
    omega
  obtain ⟨c, hc⟩ := sortedHeap_at (vs := vs) (out := out.toArray) hoL
  refine wpAny_pure ⟨_, rfl, hQ _ s1.heap.objs.size out c _ (fun b u e => ?_) g1 o1 hz hc ho2 ⟨_, rfl, pk.nodup_iff.mpr nd, fun k => by rw [pk.mem_iff, ← hm k]⟩ ?_⟩
  · have q := k1 b u e
    have hlt := Heap.lt_size q
    show (sortedHeap (s1.heap.push (seqObj "list" vs.toArray 0)) s1.heap.objs.size vs out.toArray).get? b = some u
    rw [sortedHeap_old (Nat.ne_of_lt hlt) (by rw [size_push']; exact Nat.lt_succ_of_lt hlt)]
    exact Heap.get?_push_of_some _ q
  · rw [List.length_mergeSort, List.length_map]; exact hvl
end
end L2
namespace DL
open PySem L2
/-! ### a def of which one argument is an own thing of the caller's, which it may change -/
def Sl.q : Sl → Option Addr
  | .o q _ => q
  | .k q _ => q
  | .ow R => R.adr
  | _ => none
def Sl.re : Sl → Option Addr → Sl
  | .o _ ds, q => .o q ds
  | .k _ kvs, q => .k q kvs
  | .ow R, q => if h : R.ptr = true then .ow (R.at_ h q) else .ow R
  | s, _ => s
def Sl.tr : Sl → Bool
  | .o _ _ => true
  | .k _ _ => true
  | .ow R => R.ptr
  | _ => false
section
variable {K : Fr} {F H : Hp} {v : V} {A : Addr → Prop} {s : Sl}
theorem svr_ref (h : SvR K F H v A s) (ht : s.tr = true) : ∃ p, v = .ref p ∧ A p ∧ H p ≠ none ∧ ∀ a, s.q = some a → p = a := by
  cases s with
  | o q ds =>
    obtain ⟨p, vs, h1, h2, h3, h4, h5⟩ := h
    exact ⟨p, h1, h4, nn h2, h5⟩
  | k q ds =>
    obtain ⟨p, vs, h1, h2, h3, h4, h5, h6⟩ := h
    exact ⟨p, h1, h5, nn h2, h6⟩
  | ow R =>
    have ht : R.ptr = true := ht
    obtain ⟨h1, h2⟩ := R.hcore ht h
    obtain ⟨p, rfl, h3, h4⟩ := R.cptr ht h1
    exact ⟨p, rfl, h3, h4, fun a e => by cases h2 a e; rfl⟩
  | _ => cases ht
theorem svr_re {p : Addr} (h : SvR K F H (.ref p) A s) (q : Option Addr) (hq : ∀ a, q = some a → p = a) : SvR K F H (.ref p) A (s.re q) := by
  cases s with
  | o q' ds =>
    obtain ⟨p', vs, h1, h2, h3, h4, h5⟩ := h
    cases h1
    exact ⟨p, vs, rfl, h2, h3, h4, hq⟩
  | k q' ds =>
    obtain ⟨p', vs, h1, h2, h3, h4, h5, h6⟩ := h
    cases h1
    exact ⟨p, vs, rfl, h2, h3, h4, h5, hq⟩
  | ow R =>
    show SvR K F H (.ref p) A (if h : R.ptr = true then .ow (R.at_ h q) else .ow R)
    by_cases ht : R.ptr = true
    · rw [dif_pos ht]
      exact ⟨(R.hcore ht h).1, fun a e => by rw [hq a e]⟩
    · rw [dif_neg ht]
      exact h
  | _ => exact h
theorem re_tr (q : Option Addr) : (s.re q).tr = s.tr := by
  cases s with
  | ow R =>
    show Sl.tr (if h : R.ptr = true then .ow (R.at_ h q) else .ow R) = R.ptr
    by_cases ht : R.ptr = true
    · rw [dif_pos ht, ht]
      rfl
    · rw [dif_neg ht]
      rfl
  | _ => rfl
theorem re_un (q : Option Addr) (ht : s.tr = true) : s.re q ≠ .un := by
  cases s with
  | ow R =>
    have ht : R.ptr = true := ht
    show (if h : R.ptr = true then Sl.ow (R.at_ h q) else Sl.ow R) ≠ .un
    rw [dif_pos ht]
    exact fun z => by cases z
  | _ => simp [Sl.tr, Sl.re] at *
theorem tr_un (ht : s.tr = true) : s ≠ .un := by
  cases s <;> simp [Sl.tr] at *
end
/-- what a call leaves: ok tells the addresses that a result's own thing may have -/
def spG (K : Fr) (pre : List PyData → Sl → List PyData → Prop) (post : List PyData → Sl → List PyData → Sl → Rs → Prop) (exc : List PyData → Sl → List PyData → Sl → Value → Prop) : Sp := fun vs H Q E =>
  ∃ F p A vs1 vs2 ds1 s ds2, vs = vs1 ++ .ref p :: vs2 ∧ Ex F H ∧ s.tr = true ∧ SvR K F H (.ref p) A s ∧ (∀ a, A a → F a = none ∧ H a ≠ none) ∧ DqAll K F vs1 ds1 ∧ DqAll K F vs2 ds2 ∧ pre ds1 s ds2 ∧
  (∀ v F' H' A' s' r, Ex F F' → Ex F' H' → (∀ b o, H b = some o → ¬ A b → H' b = some o) → (∀ b, H b ≠ none → H' b ≠ none) → (∀ b o, F' b = some o → F b = none → H b = none ∨ A b) → s'.tr = true → SvR K F' H' (.ref p) A' s' →
    (∀ a, A' a → F' a = none ∧ H' a ≠ none ∧ (A a ∨ H a = none)) → Rr K (fun a => (H a = none ∨ A a) ∧ ¬ A' a) F' H' v r → post ds1 s ds2 s' r → Q v H') ∧
  ∀ cls F' H' A' s', Ex F F' → Ex F' H' → (∀ b o, H b = some o → ¬ A b → H' b = some o) → (∀ b, H b ≠ none → H' b ≠ none) → (∀ b o, F' b = some o → F b = none → H b = none ∨ A b) → s'.tr = true → SvR K F' H' (.ref p) A' s' →
    (∀ a, A' a → F' a = none ∧ H' a ≠ none ∧ (A a ∨ H a = none)) → exc ds1 s ds2 s' cls → E cls none H'
section
variable {K : Fr} {B : Bs} {G : En} {S : St} {F H F' H' : Hp}
/-- slot i's own thing was changed by a call -/
theorem Iv.called {i : Nat} {s s' : Sl} {p : Addr} {A A' : Addr → Prop} {An : Nat → Addr → Prop} (I : Iv K B G S F H) (hi : G[i]? = some s) (hS : S[i]? = some (some (.ref p))) (hA : A = An i)
    (h1 : ∀ i s, G[i]? = some s → s = .un ∨ ∃ v, S[i]? = some (some v) ∧ SvR K F H v (An i) s) (h2 : ∀ i j a, An i a → An j a → i = j) (h3 : ∀ i a, An i a → F a = none ∧ H a ≠ none ∧ (B.H0 a = none ∨ B.mu a))
    (a1 : Ex F F') (a2 : Ex F' H') (a3 : ∀ b o, H b = some o → ¬ A b → H' b = some o) (a4 : ∀ b, H b ≠ none → H' b ≠ none) (a5 : ∀ b o, F' b = some o → F b = none → H b = none ∨ A b) (a6 : SvR K F' H' (.ref p) A' s')
    (a7 : ∀ a, A' a → F' a = none ∧ H' a ≠ none ∧ (A a ∨ H a = none)) : Iv K B (G.set i s') S F' H' ∧ ∀ j b, An j b → j ≠ i → F' b = none ∧ H' b ≠ none ∧ ¬ A' b := by
  subst hA
  have own : ∀ j b, An j b → j ≠ i → F' b = none ∧ H' b = H b ∧ H' b ≠ none ∧ ¬ A' b := fun j b hb hj => by
    obtain ⟨x, y, z⟩ := h3 j b hb
    have nA : ¬ An i b := fun z => hj (h2 _ _ _ hb z)
    refine ⟨?_, ?_, a4 b y, fun w => ?_⟩
    · cases q : F' b with
      | none => rfl
      | some o =>
        rcases a5 b o q x with z | z
        · exact absurd z y
        · exact absurd z nA
    · cases q : H b with
      | none => exact absurd q y
      | some o => exact a3 b o q nA
    · rcases (a7 b w).2.2 with z | z
      · exact nA z
      · exact y z
  refine ⟨⟨a2, I.f0.trans a1, fun b o hb hm => ?_, fun b o hb hn => ?_, fun b hb => a4 b (I.st b hb), by simpa using I.len, fun j b => if j = i then A' b else An j b, fun j s2 hj => ?_, fun j k b x y => ?_, fun j b x => ?_⟩, fun j b hb hj => ⟨(own j b hb hj).1, (own j b hb hj).2.2.1, (own j b hb hj).2.2.2⟩⟩
  · refine a3 b o (I.fr b o hb hm) fun z => ?_
    rcases (h3 i b z).2.2 with y | y
    · rw [hb] at y
      cases y
    · exact hm y
  · cases q : F b with
    | some u => exact I.nw b u q hn
    | none =>
      rcases a5 b o hb q with z | z
      · exact absurd (I.new0 z) hn
      · rcases (h3 i b z).2.2 with y | y
        · exact absurd y hn
        · exact .inr y
  · by_cases e : i = j
    · subst e
      obtain ⟨rfl, _⟩ := set_same hj
      refine .inr ⟨_, hS, ?_⟩
      simpa using a6
    · rw [List.getElem?_set_ne e] at hj
      have e' : ¬ j = i := fun z => e z.symm
      rcases h1 j s2 hj with z | ⟨u, x1, x2⟩
      · exact .inl z
      · refine .inr ⟨u, x1, ?_⟩
        simp only [e', if_false]
        exact slr_stab x2 a1 fun b hb => (own j b hb e').2.1
  · by_cases ej : j = i <;> by_cases ek : k = i
    · rw [ej, ek]
    · simp only [ej, ek, if_true, if_false] at x y
      exact absurd x (own k b y ek).2.2.2
    · simp only [ej, ek, if_true, if_false] at x y
      exact absurd y (own j b x ej).2.2.2
    · simp only [ej, ek, if_false] at x y
      exact h2 _ _ _ x y
  · by_cases ej : j = i
    · simp only [ej, if_true] at x
      obtain ⟨y1, y2, y3⟩ := a7 b x
      refine ⟨y1, y2, ?_⟩
      rcases y3 with y | y
      · exact (h3 i b y).2.2
      · exact .inl (I.new0 y)
    · simp only [ej, if_false] at x
      exact ⟨(own j b x ej).1, (own j b x ej).2.2.1, (h3 j b x).2.2⟩
/-- .. and gave an own thing besides -/
theorem Iv.addO {s : Sl} {v : V} {A0 : Addr → Prop} (I : Iv K B G S F H) (hs : SvR K F H v A0 s) (hn : ∀ a, A0 a → F a = none ∧ H a ≠ none ∧ (B.H0 a = none ∨ B.mu a))
    (own : ∃ An : Nat → Addr → Prop, (∀ i s, G[i]? = some s → s = .un ∨ ∃ v, S[i]? = some (some v) ∧ SvR K F H v (An i) s) ∧ (∀ i j a, An i a → An j a → i = j) ∧ (∀ i a, An i a → F a = none ∧ H a ≠ none ∧ (B.H0 a = none ∨ B.mu a)) ∧ ∀ i a, An i a → ¬ A0 a) :
    Iv K B (G ++ [s]) (S ++ [some v]) F H := by
  obtain ⟨An, b1, b2, b3, b4⟩ := own
  have hl := I.len
  refine ⟨I.ex, I.f0, I.fr, I.nw, I.st, by simp [hl], fun j b => if j = G.length then A0 b else An j b ∧ j < G.length, fun j s2 hj => ?_, fun j k b x y => ?_, fun j b x => ?_⟩
  · rcases app_get hj with ⟨hlt, h⟩ | ⟨rfl, rfl⟩
    · have e : ¬ j = G.length := by omega
      rcases b1 j s2 h with z | ⟨u, x1, x2⟩
      · exact .inl z
      · refine .inr ⟨u, by rw [List.getElem?_append_left (by omega)]; exact x1, ?_⟩
        simp only [e, if_false]
        have ea : (fun b => An j b ∧ j < G.length) = An j := by
          funext b
          exact propext ⟨fun z => z.1, fun z => ⟨z, hlt⟩⟩
        rw [ea]
        exact x2
    · refine .inr ⟨v, by rw [List.getElem?_append_right (by omega), hl]; simp, ?_⟩
      simpa using hs
  · by_cases ej : j = G.length <;> by_cases ek : k = G.length
    · rw [ej, ek]
    · simp only [ej, ek, if_true, if_false] at x y
      exact absurd x (b4 _ _ y.1)
    · simp only [ej, ek, if_true, if_false] at x y
      exact absurd y (b4 _ _ x.1)
    · simp only [ej, ek, if_false] at x y
      exact b2 _ _ _ x.1 y.1
  · by_cases ej : j = G.length
    · simp only [ej, if_true] at x
      exact hn b x
    · simp only [ej, if_false] at x
      exact b3 j b x.1
end
/-- the arguments: one own thing among data -/
def splitW : List W → Option (List PyData × Nat × List PyData)
  | [] => none
  | .d d :: r => (splitW r).map fun x => (d :: x.1, x.2)
  | .sl i :: r => (allD r).map fun ds => ([], i, ds)
  | .ty _ :: _ => none
theorem splitW_ok {K : Fr} {S : St} {F : Hp} : ∀ {ws : List W} {ds1 : List PyData} {i : Nat} {ds2 : List PyData} {vs : List V}, splitW ws = some (ds1, i, ds2) → Vws K S F vs ws → ∃ vs1 v vs2, vs = vs1 ++ v :: vs2 ∧ S[i]? = some (some v) ∧ DqAll K F vs1 ds1 ∧ DqAll K F vs2 ds2
  | .d d :: r, ds1, i, ds2, _, e, .cons h t => by
    simp only [splitW, Option.map_eq_some_iff] at e
    obtain ⟨⟨a, b, c⟩, e1, e2⟩ := e
    cases e2
    obtain ⟨vs1, v, vs2, rfl, h2, h3, h4⟩ := splitW_ok e1 t
    exact ⟨_ :: vs1, v, vs2, rfl, h2, .cons h h3, h4⟩
  | .sl i :: r, ds1, _, ds2, _, e, .cons h t => by
    simp only [splitW, Option.map_eq_some_iff] at e
    obtain ⟨ds, e1, e2⟩ := e
    cases e2
    exact ⟨[], _, _, rfl, h, .nil, allD_ok e1 t⟩
  | [], _, _, _, _, e, _ => by cases e
  | .ty _ :: _, _, _, _, _, e, _ => by cases e
section
variable {K : Fr} {B : Bs} {G : En} {P : Po} {t : TA} {E : XK} {S : St} {F H F1 H1 : Hp} {Q : VK} {vs : List V} {ws : List W}
variable {pre : List PyData → Sl → List PyData → Prop} {post : List PyData → Sl → List PyData → Sl → Rs → Prop} {exc : List PyData → Sl → List PyData → Sl → Value → Prop}
theorem coreG {ds1 ds2 : List PyData} {i : Nat} {s : Sl} {G1 : En} (k : Ct K B S F P Q) (e1 : Ex F F1) (I1 : Iv K B G1 S F1 H1) (hv : Vws K S F1 vs ws) (hd : splitW ws = some (ds1, i, ds2)) (hi : G1[i]? = some s) (ht : s.tr = true) (hp : pre ds1 (s.re none) ds2)
    (q : ∀ s' r, s'.tr = true → post ds1 (s.re none) ds2 s' r → P (G1.set i (s'.re s.q)) r) (qx : ∀ cls F' H' s', s'.tr = true → Iv K B (G1.set i (s'.re s.q)) S F' H' → exc ds1 (s.re none) ds2 s' cls → E cls none H') : spG K pre post exc vs H1 Q E := by
  obtain ⟨vs1, v, vs2, rfl, hS, m1, m2⟩ := splitW_ok hd hv
  obtain ⟨An, h1, h2, h3⟩ := I1.own
  obtain ⟨u, z1, z2⟩ : ∃ v, S[i]? = some (some v) ∧ SvR K F1 H1 v (An i) s := (h1 i _ hi).elim (fun z => absurd z (tr_un ht)) id
  rw [hS] at z1
  cases z1
  obtain ⟨p, rfl, hAp, _, hq⟩ := svr_ref z2 ht
  refine ⟨F1, p, An i, vs1, vs2, ds1, s.re none, ds2, rfl, I1.ex, by rw [re_tr]; exact ht, svr_re z2 none (fun _ z => nomatch z), fun a ha => ⟨(h3 i a ha).1, (h3 i a ha).2.1⟩, m1, m2, hp, fun v F2 H2 A' s' r a1 a2 a3 a4 a5 a6 a7 a8 a9 b0 => ?_, fun cls F2 H2 A' s' a1 a2 a3 a4 a5 a6 a7 a8 b0 => ?_⟩
  · obtain ⟨J, own⟩ := I1.called hi hS rfl h1 h2 h3 a1 a2 a3 a4 a5 (svr_re a7 s.q hq) a8
    match r, a9, b0 with
    | .p (.d d), a9, b0 => exact k v F2 H2 _ (.p (.d d)) (e1.trans a1) ⟨J, a9⟩ (q _ _ a6 b0)
    | .fr s2, ⟨A2, c1, c2⟩, b0 =>
      refine k v F2 H2 _ (.fr s2) (e1.trans a1) ?_ (q _ _ a6 b0)
      refine J.addO c1 (fun a ha => ⟨(c2 a ha).1, (c2 a ha).2.1, (c2 a ha).2.2.1.elim (fun z => .inl (I1.new0 z)) fun z => (h3 i a z).2.2⟩) ⟨fun j b => if j = i then A' b else An j b, fun j s3 hj => ?_, fun j l b x y => ?_, fun j b x => ?_, fun j b x => ?_⟩
      · by_cases e : i = j
        · subst e
          obtain ⟨rfl, _⟩ := set_same hj
          refine .inr ⟨_, hS, ?_⟩
          simpa using svr_re a7 s.q hq
        · rw [List.getElem?_set_ne e] at hj
          have e' : ¬ j = i := fun z => e z.symm
          rcases h1 j s3 hj with z | ⟨u, x1, x2⟩
          · exact .inl z
          · refine .inr ⟨u, x1, ?_⟩
            simp only [e', if_false]
            refine slr_stab x2 a1 fun b hb => ?_
            cases y : H1 b with
            | none => exact absurd y (h3 j b hb).2.1
            | some o => exact a3 b o y fun z => e' (h2 _ _ _ hb z)
      · by_cases ej : j = i <;> by_cases el : l = i
        · rw [ej, el]
        · simp only [ej, el, if_true, if_false] at x y
          exact absurd x (own l b y el).2.2
        · simp only [ej, el, if_true, if_false] at x y
          exact absurd y (own j b x ej).2.2
        · simp only [ej, el, if_false] at x y
          exact h2 _ _ _ x y
      · by_cases ej : j = i
        · simp only [ej, if_true] at x
          obtain ⟨y1, y2, y3⟩ := a8 b x
          refine ⟨y1, y2, ?_⟩
          rcases y3 with y | y
          · exact (h3 i b y).2.2
          · exact .inl (I1.new0 y)
        · simp only [ej, if_false] at x
          exact ⟨(own j b x ej).1, (own j b x ej).2.1, (h3 j b x).2.2⟩
      · by_cases ej : j = i
        · simp only [ej, if_true] at x
          exact fun z => (c2 b z).2.2.2 x
        · simp only [ej, if_false] at x
          exact fun z => (c2 b z).2.2.1.elim (h3 j b x).2.1 fun y => ej (h2 _ _ _ x y)
  · obtain ⟨J, _⟩ := I1.called hi hS rfl h1 h2 h3 a1 a2 a3 a4 a5 (svr_re a7 s.q hq) a8
    exact qx cls F2 H2 s' a6 J b0
end
/-! .. by a parameter -/
def spH {ι : Type} (K : Fr) (args1 : ι → List PyData) (own : ι → Sl) (args2 : ι → List PyData) (pre : ι → Prop) (res : ι → Sl → Rs → Prop) (exc : ι → Sl → Value → Prop) : Sp := fun vs H Q E =>
  ∃ x, pre x ∧ spG K (fun a s b => a = args1 x ∧ s.re none = (own x).re none ∧ b = args2 x) (fun _ _ _ s' r => res x (s'.re none) r) (fun _ _ _ s' c => exc x (s'.re none) c) vs H Q E
section
variable {K : Fr} {B : Bs} {G : En} {P : Po} {t : TA} {E : XK} {ι : Type} {args1 args2 : ι → List PyData} {own : ι → Sl} {pre : ι → Prop} {res : ι → Sl → Rs → Prop} {exc : ι → Sl → Value → Prop}
theorem re_re {s : Sl} {q q' : Option Addr} : (s.re q).re q' = s.re q' := by
  cases s with
  | ow R =>
    show Sl.re (if h : R.ptr = true then .ow (R.at_ h q) else .ow R) q' = (if h : R.ptr = true then Sl.ow (R.at_ h q') else Sl.ow R)
    by_cases ht : R.ptr = true
    · rw [dif_pos ht, dif_pos ht]
      rfl
    · rw [dif_neg ht, dif_neg ht]
      show (if h : R.ptr = true then Sl.ow (R.at_ h q') else Sl.ow R) = _
      rw [dif_neg ht]
  | _ => rfl
theorem dw_callHX {ex0 : Value → Prop} (hE : Tk K B ex0 E) (h : DA K B G t fun G1 ws => ∃ x i s, pre x ∧ splitW ws = some (args1 x, i, args2 x) ∧ G1[i]? = some s ∧ s.tr = true ∧ s.re none = (own x).re none ∧ (∀ s' r, s'.tr = true → res x s' r → P (G1.set i (s'.re s.q)) r) ∧ ∀ s' c, exc x s' c → ex0 c) :
    DW K B G (tCall (spH K args1 own args2 pre res exc) [] E t) P := fun S F H Q I k => by
  show t S H fun vs H1 => spH K args1 own args2 pre res exc (vs ++ []) H1 Q E
  refine h S F H _ I fun vs F1 H1 G1 ws e1 I1 hv ⟨x, i, s, hp, hd, hi, ht, ho, q, qx⟩ => ?_
  rw [List.append_nil]
  refine ⟨x, hp, coreG k e1 I1 hv hd hi ht ⟨rfl, by rw [re_re]; exact ho, rfl⟩ (fun s' r ht' a => ?_) (fun cls F' H' s' ht' J a => hE cls _ _ _ _ J (qx _ _ a))⟩
  have := q (s'.re none) r (by rw [re_tr]; exact ht') a
  rw [re_re] at this
  exact this
theorem dw_callH (h : DA K B G t fun G1 ws => ∃ x i s, pre x ∧ splitW ws = some (args1 x, i, args2 x) ∧ G1[i]? = some s ∧ s.tr = true ∧ s.re none = (own x).re none ∧ (∀ s' r, s'.tr = true → res x s' r → P (G1.set i (s'.re s.q)) r) ∧ ∀ s' c, ¬ exc x s' c) :
    DW K B G (tCall (spH K args1 own args2 pre res exc) [] E t) P := dw_callHX (ex0 := fun _ => False) (fun _ _ _ _ _ _ z => z.elim) h
theorem dw_callHS {W : WX} {ex0 : Value → En → Prop} (hE : TkW K B ex0 W) (h : DA K B G t fun G1 ws => ∃ x i s, pre x ∧ splitW ws = some (args1 x, i, args2 x) ∧ G1[i]? = some s ∧ s.tr = true ∧ s.re none = (own x).re none ∧ (∀ s' r, s'.tr = true → res x s' r → P (G1.set i (s'.re s.q)) r) ∧ ∀ s' c, s'.tr = true → exc x s' c → ex0 c (G1.set i (s'.re s.q))) :
    DW K B G (tCallS (spH K args1 own args2 pre res exc) (WE W) t) P := fun S F H Q I k => by
  show t S H fun vs H1 => spH K args1 own args2 pre res exc vs H1 Q (fun cls d H => W cls d S H)
  refine h S F H _ I fun vs F1 H1 G1 ws e1 I1 hv ⟨x, i, s, hp, hd, hi, ht, ho, q, qx⟩ => ?_
  refine ⟨x, hp, coreG k e1 I1 hv hd hi ht ⟨rfl, by rw [re_re]; exact ho, rfl⟩ (fun s' r ht' a => ?_) (fun cls F' H' s' ht' J a => ?_)⟩
  · have := q (s'.re none) r (by rw [re_tr]; exact ht') a
    rw [re_re] at this
    exact this
  · have := qx (s'.re none) cls (by rw [re_tr]; exact ht') a
    rw [re_re] at this
    exact hE cls _ _ _ _ J this
end
/-! the def's body -/
def GH (N : List Str) (p : Addr) (ds1 : List PyData) (s : Sl) (ds2 : List PyData) : En := ds1.map Sl.d ++ s.re (some p) :: (ds2.map Sl.d ++ List.replicate (N.length - (ds1.length + 1 + ds2.length)) .un)
def OwnH (j : Nat) (p : Addr) (post : Sl → Prop) (G : En) : Prop := ∃ s, G[j]? = some s ∧ s.tr = true ∧ s.q = some p ∧ post (s.re none)
def RetH (j : Nat) (p : Addr) (post : Sl → Rs → Prop) (G : En) : Rs → Prop
  | .p (.d d) => OwnH j p (fun s => post s (.p (.d d))) G
  | .p (.sl i) => i ≠ j ∧ ∃ a ds, G[i]? = some (.o a ds) ∧ OwnH j p (fun s => post s (.fr (.o none ds))) G
  | .p (.ty _) => False
  | .fr s2 => s2 ≠ .un ∧ OwnH j p (fun s => post s (.fr s2)) G
def EH (j : Nat) (p : Addr) (post : Sl → Rs → Prop) : De := { nx := fun G => OwnH j p (fun s => post s (.p (.d .none))) G, rt := fun G r => RetH j p post G r }
theorem start_ivH {K : Fr} {F H : Hp} {N : List Str} {vs1 vs2 : List V} {ds1 ds2 : List PyData} {p : Addr} {A : Addr → Prop} {s : Sl} (ex : Ex F H) (h1 : DqAll K F vs1 ds1) (h2 : DqAll K F vs2 ds2) (hs : SvR K F H (.ref p) A s) (hA : ∀ a, A a → F a = none ∧ H a ≠ none) (hl : ds1.length + 1 + ds2.length ≤ N.length) :
    Iv K ⟨F, H, A⟩ (GH N p ds1 s ds2) (L2.start N (vs1 ++ .ref p :: vs2)) F H := by
  have l1 := da_len h1
  have l2 := da_len h2
  refine ⟨ex, Ex.refl _, fun b o h _ => h, fun b o h _ => .inl (nn h), fun b h => h, by simp [L2.start, GH, l1, l2]; omega, fun j a => j = ds1.length ∧ A a, fun i s2 hi => ?_, fun i j a x y => by rw [x.1, y.1], fun i a x => ⟨(hA a x.2).1, (hA a x.2).2, .inr x.2⟩⟩
  unfold GH at hi
  unfold L2.start
  rw [List.map_append, List.append_assoc]
  by_cases c1 : i < ds1.length
  · rw [List.getElem?_append_left (by simpa using c1), List.getElem?_map, List.getElem?_eq_getElem c1] at hi
    cases hi
    obtain ⟨v, y1, y2⟩ := da_get h1 (List.getElem?_eq_getElem c1)
    refine .inr ⟨v, ?_, y2⟩
    rw [List.getElem?_append_left (by rw [List.length_map, l1]; exact c1), List.getElem?_map, y1]
    rfl
  · rw [List.getElem?_append_right (by simpa using Nat.le_of_not_lt c1), List.length_map] at hi
    by_cases c2 : i = ds1.length
    · subst c2
      rw [Nat.sub_self] at hi
      cases hi
      refine .inr ⟨.ref p, ?_, ?_⟩
      · rw [List.getElem?_append_right (by rw [List.length_map, l1]; exact Nat.le_refl _), List.length_map, l1, Nat.sub_self]
        rfl
      · have ea : (fun a => ds1.length = ds1.length ∧ A a) = A := by
          funext a
          simp
        show SvR K F H (.ref p) (fun a => ds1.length = ds1.length ∧ A a) (s.re (some p))
        rw [ea]
        exact svr_re hs _ fun a z => Option.some.inj z
    · obtain ⟨m, rfl⟩ : ∃ m, i = ds1.length + (m + 1) := ⟨i - ds1.length - 1, by omega⟩
      rw [Nat.add_sub_cancel_left, List.getElem?_cons_succ] at hi
      rw [List.getElem?_append_right (by rw [List.length_map, l1]; omega), List.length_map, l1, Nat.add_sub_cancel_left, List.map_cons, List.cons_append, List.getElem?_cons_succ]
      by_cases c3 : m < ds2.length
      · rw [List.getElem?_append_left (by simpa using c3), List.getElem?_map, List.getElem?_eq_getElem c3] at hi
        cases hi
        obtain ⟨v, y1, y2⟩ := da_get h2 (List.getElem?_eq_getElem c3)
        refine .inr ⟨v, ?_, y2⟩
        rw [List.getElem?_append_left (by rw [List.length_map, l2]; exact c3), List.getElem?_map, y1]
        rfl
      · refine .inl ?_
        rw [List.getElem?_append_right (by simpa using Nat.le_of_not_lt c3)] at hi
        simp only [List.getElem?_replicate] at hi
        split at hi
        · exact (Option.some.inj hi).symm
        · cases hi
section
variable {P : Program} {w : World} {K : Fr} {mg : Str → Option Value} {base : Heap} {x qual : Str} {st : Stmt} {f : Addr} {fd : FuncData} {N ps : List Str} {k : Nat}
variable {ι : Type} {args1 args2 : ι → List PyData} {own : ι → Sl} {pre : ι → Prop} {res : ι → Sl → Rs → Prop} {exc : ι → Sl → Value → Prop}
/-- what a body leaves, told to the caller -/
theorem endH {F0 H : Hp} {p : Addr} {A : Addr → Prop} {j : Nat} {G' : En} {S' : St} {F' H' : Hp} {post : Sl → Prop} (J : Iv K ⟨F0, H, A⟩ G' S' F' H') (hA : ∀ a, A a → F0 a = none ∧ H a ≠ none) (ho : OwnH j p post G') :
    ∃ An : Nat → Addr → Prop, ∃ s, G'[j]? = some s ∧ (∀ i s, G'[i]? = some s → s = .un ∨ ∃ v, S'[i]? = some (some v) ∧ SvR K F' H' v (An i) s) ∧ (∀ i j a, An i a → An j a → i = j) ∧ (∀ i a, An i a → F' a = none ∧ H' a ≠ none ∧ (H a = none ∨ A a)) ∧
      (∀ b o, H b = some o → ¬ A b → H' b = some o) ∧ (∀ b, H b ≠ none → H' b ≠ none) ∧ (∀ b o, F' b = some o → F0 b = none → H b = none ∨ A b) ∧ (s.re none).tr = true ∧ SvR K F' H' (.ref p) (An j) (s.re none) ∧ (∀ a, An j a → F' a = none ∧ H' a ≠ none ∧ (A a ∨ H a = none)) ∧ post (s.re none) := by
  obtain ⟨s, hj, ht, hq, hp⟩ := ho
  obtain ⟨An, h1, h2, h3⟩ := J.own
  obtain ⟨u, z1, z2⟩ : ∃ v, S'[j]? = some (some v) ∧ SvR K F' H' v (An j) s := (h1 j _ hj).elim (fun z => absurd z (tr_un ht)) id
  obtain ⟨p', rfl, _, _, y⟩ := svr_ref z2 ht
  have e : p' = p := y _ hq
  subst e
  refine ⟨An, s, hj, h1, h2, h3, fun b o a1 a2 => J.fr b o a1 a2, fun b h => J.st b h, fun b o a1 a2 => ?_, by rw [re_tr]; exact ht, svr_re z2 none (fun _ z => nomatch z), fun a ha => ?_, hp⟩
  · cases z : H b with
    | none => exact .inl rfl
    | some u =>
      rcases J.nw b o a1 (nn z) with y | y
      · exact absurd a2 y
      · exact .inr y
  · obtain ⟨x1, x2, x3⟩ := h3 j a ha
    exact ⟨x1, x2, x3.elim .inr .inl⟩
theorem retH {F0 H : Hp} {p : Addr} {A : Addr → Prop} {Q : VK} {post : Sl → Rs → Prop} {j : Nat} (hA : ∀ a, A a → F0 a = none ∧ H a ≠ none)
    (q : ∀ v F' H' A' s' r, Ex F0 F' → Ex F' H' → (∀ b o, H b = some o → ¬ A b → H' b = some o) → (∀ b, H b ≠ none → H' b ≠ none) → (∀ b o, F' b = some o → F0 b = none → H b = none ∨ A b) → s'.tr = true → SvR K F' H' (.ref p) A' s' →
      (∀ a, A' a → F' a = none ∧ H' a ≠ none ∧ (A a ∨ H a = none)) → Rr K (fun a => (H a = none ∨ A a) ∧ ¬ A' a) F' H' v r → post s' r → Q v H') {G : En} {S : St} {F H' : Hp} {v : V} {r : Rs} (e : Ex F0 F) (J : Vr K ⟨F0, H, A⟩ G S F H' v r) (pr : RetH j p post G r) : Q v H' := by
  match r, J, pr with
  | .p (.d d), J, pr =>
    have pr : OwnH j p (fun s => post s (.p (.d d))) G := pr
    obtain ⟨An, s', hj, h1, h2, h3, b1, b2, b3, b4, b5, b6, b7⟩ := endH J.1 hA pr
    exact q v F H' (An j) _ (.p (.d d)) e J.1.ex b1 b2 b3 b4 b5 b6 J.2 b7
  | .p (.sl i), J, ⟨hij, a, ds, hi, pr⟩ =>
    obtain ⟨An, s', hj, h1, h2, h3, b1, b2, b3, b4, b5, b6, b7⟩ := endH J.1 hA pr
    obtain ⟨u, z1, c, vs', z2, z3, z4, z5, _⟩ : ∃ v, S[i]? = some (some v) ∧ SvR K F H' v (An i) (.o a ds) := (h1 i _ hi).elim (fun z => by cases z) id
    have hv : S[i]? = some (some v) := J.2
    rw [hv] at z1
    cases z1
    exact q v F H' (An j) _ (.fr (.o none ds)) e J.1.ex b1 b2 b3 b4 b5 b6 ⟨An i, ⟨c, vs', z2, z3, z4, z5, fun _ z => by cases z⟩, fun a ha => ⟨(h3 i a ha).1, (h3 i a ha).2.1, (h3 i a ha).2.2, fun z => hij (h2 _ _ _ ha z)⟩⟩ b7
  | .fr s2, J, ⟨hu, pr⟩ =>
    have J' := Iv.drop J
    have lj : j < G.length := by
      obtain ⟨s, hj, _⟩ := pr
      exact (List.getElem?_eq_some_iff.mp hj).1
    have pr' : OwnH j p (fun s => post s (.fr s2)) (G ++ [s2]) := by
      obtain ⟨s, hj, y⟩ := pr
      exact ⟨s, by rw [List.getElem?_append_left lj]; exact hj, y⟩
    obtain ⟨An, s', hj, h1, h2, h3, b1, b2, b3, b4, b5, b6, b7⟩ := endH J hA pr'
    obtain ⟨u, z1, z2⟩ : ∃ v', (S ++ [some v])[G.length]? = some (some v') ∧ SvR K F H' v' (An G.length) s2 := (h1 G.length s2 (by simp)).elim (fun z => absurd z hu) id
    have hv : (S ++ [some v])[G.length]? = some (some v) := by
      rw [← J'.len]
      simp
    rw [hv] at z1
    cases z1
    exact q v F H' (An j) _ (.fr s2) e J.ex b1 b2 b3 b4 b5 b6 ⟨_, z2, fun a ha => ⟨(h3 _ a ha).1, (h3 _ a ha).2.1, (h3 _ a ha).2.2, fun z => absurd (h2 _ _ _ ha z) (by omega)⟩⟩ b7
theorem reO {j : Nat} {p : Addr} {post : Sl → Prop} {G : En} (h : OwnH j p post G) : OwnH j p (fun s => post (s.re none)) G := by
  obtain ⟨s, a, b, c, d⟩ := h
  exact ⟨s, a, b, c, by show post ((s.re none).re none); rw [re_re]; exact d⟩
theorem reR {j : Nat} {p : Addr} {post : Sl → Rs → Prop} {G : En} : ∀ {r : Rs}, RetH j p post G r → RetH j p (fun s r => post (s.re none) r) G r
  | .p (.d _), h => reO (post := fun s => post s _) h
  | .p (.sl _), ⟨h1, a, ds, h2, h3⟩ => ⟨h1, a, ds, h2, reO (post := fun s => post s _) h3⟩
  | .p (.ty _), h => h.elim
  | .fr _, ⟨h1, h2⟩ => ⟨h1, reO (post := fun s => post s _) h2⟩
/-- what takes an exception, the own thing at slot j -/
def TkH (K : Fr) (B : Bs) (j : Nat) (p : Addr) (exc : Sl → Value → Prop) (E : XK) : Prop := ∀ cls S F H G, Iv K B G S F H → OwnH j p (fun s => exc s cls) G → E cls none H
theorem fnH {j : Nat} (F : Fun K x qual st f fd) (S : FnScope N ps (defScope st)) (hl : ∀ x, (args1 x).length = j ∧ j + 1 + (args2 x).length = ps.length ∧ ps.length ≤ N.length)
    (hb : ∀ (cdv : Value) (A : Around) (outer : List Env) (s : Shared) (H : Hp) (E : XK), Room k (A.deeper (PyProof.Rows.envOfC qual (defScope st) s.heap.objs.size f cdv)) → ∃ t, PSs (cxOf CX0 P w K mg base N qual (defScope st) f cdv A outer s H E).nox (defBody st) t ∧
      ∀ x, pre x → ∀ p B, DS K B (GH N p (args1 x) (own x) (args2 x)) t (EH j p (res x))) : FnOk P w K mg base CX0 (k + 1) f fd ps (spH K args1 own args2 pre res (fun _ _ _ => False)) := by
  refine F.ok S (fun vs H Q E h => ?_) (fun cdv A outer s H vs Q E hr h => ?_)
  · obtain ⟨x, hp, F, p, A, vs1, vs2, ds1, s, ds2, rfl, _, _, _, _, m1, m2, ⟨rfl, _, rfl⟩, _⟩ := h
    rw [List.length_append, List.length_cons, da_len m1, da_len m2, ← (hl x).2.1, (hl x).1]
    omega
  · obtain ⟨x, hp, F0, p, A0, vs1, vs2, ds1, so, ds2, rfl, ex, ht, hs, hA, m1, m2, ⟨rfl, ho, rfl⟩, q, _⟩ := h
    obtain ⟨t, ht', hS⟩ := hb cdv A outer s H E hr
    refine ⟨t, ht', ?_⟩
    obtain ⟨l1, l2, l3⟩ := hl x
    have eg : so.re (some p) = (own x).re (some p) := by rw [← re_re (s := so) (q := none), ho, re_re]
    have I0 : Iv K ⟨F0, H, A0⟩ (GH N p (args1 x) (own x) (args2 x)) (L2.start N (vs1 ++ .ref p :: vs2)) F0 H := by
      have J := start_ivH (N := N) ex m1 m2 hs hA (by omega)
      unfold GH at J ⊢
      rw [← eg]
      exact J
    have q' : ∀ v F' H' A' s' r, Ex F0 F' → Ex F' H' → (∀ b o, H b = some o → ¬ A0 b → H' b = some o) → (∀ b, H b ≠ none → H' b ≠ none) → (∀ b o, F' b = some o → F0 b = none → H b = none ∨ A0 b) → s'.tr = true → SvR K F' H' (.ref p) A' s' →
      (∀ a, A' a → F' a = none ∧ H' a ≠ none ∧ (A0 a ∨ H a = none)) → Rr K (fun a => (H a = none ∨ A0 a) ∧ ¬ A' a) F' H' v r → res x (s'.re none) r → Q v H' := fun v F' H' A' s' r b1 b2 b3 b4 b5 b6 b7 b8 b9 c => q v F' H' A' s' r b1 b2 b3 b4 b5 b6 b7 b8 b9 c
    refine hS x hp p _ _ F0 H _ I0 ⟨fun S F H' G e J pr => ?_, fun S F H' G v r e J pr => ?_, fun _ _ _ _ _ _ z => z.elim, fun _ _ _ _ _ _ z => z.elim⟩
    · exact retH (post := fun s r => res x (s.re none) r) (j := j) hA q' (v := .non) (r := .p (.d .none)) e ⟨J, Dq.non⟩ (reO (post := fun s => res x s (.p (.d .none))) pr)
    · exact retH (post := fun s r => res x (s.re none) r) (j := j) hA q' e J (reR pr)
theorem fnHX {j : Nat} (F : Fun K x qual st f fd) (S : FnScope N ps (defScope st)) (hl : ∀ x, (args1 x).length = j ∧ j + 1 + (args2 x).length = ps.length ∧ ps.length ≤ N.length)
    (hb : ∀ (cdv : Value) (A : Around) (outer : List Env) (s : Shared) (H : Hp) (E : XK), Room k (A.deeper (PyProof.Rows.envOfC qual (defScope st) s.heap.objs.size f cdv)) → ∃ t, PSs (cxOf (L2.CX P w) P w K mg base N qual (defScope st) f cdv A outer s H E) (defBody st) t ∧
      ∀ x, pre x → ∀ p B, TkH K B j p (exc x) E → DS K B (GH N p (args1 x) (own x) (args2 x)) t (EH j p (res x))) : FnOk P w K mg base (L2.CX P w) (k + 1) f fd ps (spH K args1 own args2 pre res exc) := by
  refine F.okX S (fun vs H Q E h => ?_) (fun cdv A outer s H vs Q E hr h => ?_)
  · obtain ⟨x, hp, F, p, A, vs1, vs2, ds1, s, ds2, rfl, _, _, _, _, m1, m2, ⟨rfl, _, rfl⟩, _⟩ := h
    rw [List.length_append, List.length_cons, da_len m1, da_len m2, ← (hl x).2.1, (hl x).1]
    omega
  · obtain ⟨x, hp, F0, p, A0, vs1, vs2, ds1, so, ds2, rfl, ex, ht, hs, hA, m1, m2, ⟨rfl, ho, rfl⟩, q, qx⟩ := h
    obtain ⟨t, ht', hS⟩ := hb cdv A outer s H E hr
    refine ⟨t, ht', ?_⟩
    obtain ⟨l1, l2, l3⟩ := hl x
    have eg : so.re (some p) = (own x).re (some p) := by rw [← re_re (s := so) (q := none), ho, re_re]
    have I0 : Iv K ⟨F0, H, A0⟩ (GH N p (args1 x) (own x) (args2 x)) (L2.start N (vs1 ++ .ref p :: vs2)) F0 H := by
      have J := start_ivH (N := N) ex m1 m2 hs hA (by omega)
      unfold GH at J ⊢
      rw [← eg]
      exact J
    have q' : ∀ v F' H' A' s' r, Ex F0 F' → Ex F' H' → (∀ b o, H b = some o → ¬ A0 b → H' b = some o) → (∀ b, H b ≠ none → H' b ≠ none) → (∀ b o, F' b = some o → F0 b = none → H b = none ∨ A0 b) → s'.tr = true → SvR K F' H' (.ref p) A' s' →
      (∀ a, A' a → F' a = none ∧ H' a ≠ none ∧ (A0 a ∨ H a = none)) → Rr K (fun a => (H a = none ∨ A0 a) ∧ ¬ A' a) F' H' v r → res x (s'.re none) r → Q v H' := fun v F' H' A' s' r b1 b2 b3 b4 b5 b6 b7 b8 b9 c => q v F' H' A' s' r b1 b2 b3 b4 b5 b6 b7 b8 b9 c
    refine hS x hp p ⟨F0, H, A0⟩ (fun cls S F H' G J hx => ?_) _ F0 H _ I0 ⟨fun S F H' G e J pr => ?_, fun S F H' G v r e J pr => ?_, fun _ _ _ _ _ _ z => z.elim, fun _ _ _ _ _ _ z => z.elim⟩
    · obtain ⟨An, s', hj, h1, h2, h3, b1, b2, b3, b4, b5, b6, b7⟩ := endH J hA hx
      exact qx cls F H' (An j) _ J.f0 J.ex b1 b2 b3 b4 b5 b6 (by show exc x ((s'.re none).re none) cls; rw [re_re]; exact b7)
    · exact retH (post := fun s r => res x (s.re none) r) (j := j) hA q' (v := .non) (r := .p (.d .none)) e ⟨J, Dq.non⟩ (reO (post := fun s => res x s (.p (.d .none))) pr)
    · exact retH (post := fun s r => res x (s.re none) r) (j := j) hA q' e J (reR pr)
end
end DL
/-! ### the library's data orders, as rules of the hand layer -/
namespace L2
open PySem PySem.Spec PyProof.Rows PySem.W
/-- two lists side by side -/
theorem ei_of_vals {α : Type} {R : V → α → Prop} : ∀ {xs : List V} {us : List Value} {bs : List α}, Vals xs us → EachIs R xs bs → EachIs (fun u b => ∃ v, RelV v u ∧ R v b) us bs
  | _, _, _, .nil, .nil => .nil
  | _, _, _, .cons r rs, .cons h hs => .cons ⟨_, r, h⟩ (ei_of_vals rs hs)
theorem vals_of_ei {α : Type} {R : V → α → Prop} : ∀ {us : List Value} {bs : List α}, EachIs (fun u b => ∃ v, RelV v u ∧ R v b) us bs → ∃ xs, Vals xs us ∧ EachIs R xs bs
  | _, _, .nil => ⟨[], .nil, .nil⟩
  | _, _, .cons ⟨v, h1, h2⟩ hs => by
    obtain ⟨xs, a, b⟩ := vals_of_ei hs
    exact ⟨v :: xs, .cons h1 a, .cons h2 b⟩
def rSortedD (K : PySem.W.Frag) : List V → Hp → VK → Prop := fun vs H Q => ∃ (β : Type) (a : Addr) (xs : List V) (bs : List β) (enc : β → PyData) (R : V → β → Prop), vs = [V.ref a] ∧ SqL K H a xs ∧ EachIs R xs bs ∧ (∀ v b, R v b → Dp K H v (enc b)) ∧
  AllAlike (bs.map enc) ∧ Sortable (bs.map enc) ∧ (∀ b ∈ bs, (enc b).depth ≤ 60) ∧ ∀ ys p, EachIs R ys (bs.mergeSort (dataLe false enc)) → H p = none → Q (.ref p) (upd H p (.lst ys))
/-! data without lists -/
mutual
def noL : PyData → Bool
  | .none => true
  | .bool _ => true
  | .int _ => true
  | .str _ => true
  | .tuple xs => noLs xs
  | .list _ => false
  | .dict _ => false
def noLs : List PyData → Bool
  | [] => true
  | x :: r => noL x && noLs r
end
theorem noLs_iff : ∀ {xs : List PyData}, noLs xs = true ↔ ∀ x ∈ xs, noL x = true
  | [] => by simp [noLs]
  | x :: r => by simp [noLs, noLs_iff (xs := r)]
mutual
theorem reads_noL {h : Heap} : ∀ {v : Value} {d : PyData} {as : List Addr}, Reads h v d as → noL d = true → as = []
  | _, _, _, .none, _ => rfl
  | _, _, _, .bool _, _ => rfl
  | _, _, _, .int _ _, _ => rfl
  | _, _, _, .str _ _, _ => rfl
  | _, _, _, .tuple _ _ _ r, h => readsAll_noL r (noLs_iff.mp h)
  | _, _, _, .list _ _ _ r, h => by rw [noL] at h; cases h
  | _, _, _, .dict _ _ _ r1 r2, h => by rw [noL] at h; cases h
theorem readsAll_noL {h : Heap} : ∀ {v : List Value} {d : List PyData} {as : List Addr}, ReadsAll h v d as → (∀ x ∈ d, noL x = true) → as = []
  | _, _, _, .nil, _ => rfl
  | _, _, _, .cons r rs, h => by
    rw [reads_noL r (h _ List.mem_cons_self), readsAll_noL rs fun x hx => h x (List.mem_cons_of_mem _ hx)]
    rfl
end
def rSortD (K : PySem.W.Frag) : V → List V → Hp → VK → Prop := fun x vs H Q => ∃ (β : Type) (a : Addr) (xs : List V) (bs : List β) (enc : β → PyData) (R : V → β → Prop), x = V.ref a ∧ vs = [] ∧ H a = some (.lst xs) ∧ EachIs R xs bs ∧ (∀ v b, R v b → Dp K H v (enc b)) ∧
  AllAlike (bs.map enc) ∧ Sortable (bs.map enc) ∧ (∀ b ∈ bs, (enc b).depth ≤ 60 ∧ noL (enc b) = true) ∧ ∀ ys, EachIs R ys (bs.mergeSort (dataLe false enc)) → Q .non (upd H a (.lst ys))
def rMinD (K : PySem.W.Frag) : List V → Hp → VK → Prop := fun vs H Q => ∃ (a : Addr) (xs : List V) (d : PyData) (ds : List PyData), vs = [V.ref a] ∧ SqL K H a xs ∧ DpAll K H xs (d :: ds) ∧ AlikeAll (d :: ds) ∧ PyData.depthAll (d :: ds) ≤ 60 ∧
  ∀ (i : Nat) (x : V), xs[i]? = some x → (d :: ds)[i]? = some (minD d ds) → Q x H
def rLtD (K : PySem.W.Frag) : R2 := fun x y H Q => ∃ d e, Dp K H x d ∧ Dp K H y e ∧ alike d e = true ∧ d ≠ .none ∧ d.depth ≤ 60 ∧ Q (.bl (dataLt d e)) H
def rGtD (K : PySem.W.Frag) : R2 := fun x y H Q => ∃ d e, Dp K H x d ∧ Dp K H y e ∧ alike d e = true ∧ d ≠ .none ∧ d.depth ≤ 60 ∧ Q (.bl (dataLt e d)) H
section
variable {X : Cx}
theorem ei_mem {α β : Type} {R : α → β → Prop} : ∀ {as : List α} {bs : List β}, EachIs R as bs → EachIs (fun a b => R a b ∧ b ∈ bs) as bs := PySem.W.each_mem
theorem cr_sortedD (hu : X.A.units + 65 < cLine) : CallR X (.builtin "sorted") (rSortedD X.K) := by
  intro pins s σ H vs us Q I r h
  obtain ⟨β, a, xs, bs, enc, R, rfl, hs, he, hd, h1, h2, h3, q⟩ := h
  obtain ⟨its, rv, hl, hz⟩ := I.list hs
  rw [Vals.ref1 r]
  have e1 := ei_of_vals rv he
  have hlen : its.length = bs.length := e1.length
  refine sorted_data (R := fun u b => ∃ v, RelV v u ∧ R v b) (bs := bs) (enc := enc) hl.isList e1 (e1.mono fun u b ⟨v, r1, r2⟩ => Dp.reads I _ v u (hd v b r2) r1) h1 h2 (by rw [← hlen, ← rv.length]; exact hz) (fun b hb => by have := h3 b hb; omega) fun out o1 o2 => ?_
  obtain ⟨ep, he'⟩ := PyProof.Rows.sortedAll_at s.heap its out.toArray
  obtain ⟨ys, y1, y2⟩ := vals_of_ei o2
  have hy : ys.length ≤ sizeLine := by rw [y1.length, o1, ← hlen, ← rv.length]; exact hz
  exact ⟨.ref _, upd H (s.heap.objs.size + 1) (.lst ys), I.laid (t' := s.toks) (fun _ _ => PyProof.Rows.sortedAll_old) (Nat.le_succ _) ⟨hy, out, ep, y1, he'⟩, rfl, q _ _ y2 (I.hok.fresh (Nat.le_succ _))⟩
theorem mt_sortD (hu : X.A.units + 65 < cLine) : MtR X "list.sort" (rSortD X.K) := by
  intro pins s σ H x xs v us Q I rx rxs h
  obtain ⟨β, a, xs, bs, enc, R, rfl, rfl, ha, he, hd, h1, h2, h3, q⟩ := h
  cases rx
  cases rxs
  obtain ⟨hz, its, n, rv, hob⟩ := I.hok a _ ha
  have e1 := ei_of_vals rv he
  have hlen : its.length = bs.length := e1.length
  refine list_sort_data (R := fun u b => ∃ v, RelV v u ∧ R v b) (bs := bs) (enc := enc) hob e1 ((ei_mem e1).mono fun u b z => ?_) h1 h2 (by rw [← hlen, ← rv.length]; exact hz) (fun b hb => by have := (h3 b hb).1; omega) fun out o1 o2 => ?_
  · obtain ⟨⟨v, r1, r2⟩, hb⟩ := z
    obtain ⟨as, hr⟩ := Dp.reads I _ v u (hd v b r2) r1
    exact ⟨as, hr, by rw [reads_noL hr (h3 b hb).2]; simp⟩
  · obtain ⟨ys, y1, y2⟩ := vals_of_ei o2
    obtain ⟨ep, he'⟩ := PyProof.Rows.sortedHeap_at (vs := its) (out := out.toArray) hob
    have hy : ys.length ≤ sizeLine := by rw [y1.length, o1, ← hlen, ← rv.length]; exact hz
    refine ⟨.non, upd H a (.lst ys), I.write (e := a) (t' := s.toks) (by rw [ha]; trivial) (.inl rfl) (fun b u hb hu => ?_) ⟨_, he'⟩ ⟨hy, out, ep, y1, he'⟩, rfl, q _ y2⟩
    rw [PyProof.Rows.sortedHeap_old hb (Heap.lt_size hu)]
    exact hu
theorem dp_all_at {K : PySem.W.Frag} {H : Hp} : ∀ {xs : List V} {ds : List PyData} {i : Nat} {x : V}, DpAll K H xs ds → xs[i]? = some x → ∃ d, ds[i]? = some d ∧ Dp K H x d
  | _, _, _, _, .nil, e => by simp at e
  | _, _, 0, _, .cons h _, e => by
    simp at e
    subst e
    exact ⟨_, rfl, h⟩
  | _, _, i + 1, _, .cons _ a, e => by
    obtain ⟨d, h1, h2⟩ := dp_all_at a (i := i) (by simpa using e)
    exact ⟨d, by simpa using h1, h2⟩
theorem cr_minD (hc : X.calm = true) (hu : X.A.units + 65 < cLine) : CallR X (.builtin "min") (rMinD X.K) := by
  intro pins s σ H vs us Q I r h
  obtain ⟨a, xs, d, ds, rfl, hs, hd, ha, h3, q⟩ := h
  obtain ⟨its, rv, hl, hz⟩ := I.list hs
  rw [Vals.ref1 r]
  obtain ⟨as, hr⟩ := Dp.readsAll I _ xs its hd rv
  refine min_list_data (I.ok.hd hc) hl.isList (by simpa using hr) ha (by omega) fun i v h' tk bs hv hrd hk => ?_
  have hv' : its[i]? = some v := by simpa using hv
  have hi : i < xs.length := by
    rw [rv.length]
    exact (List.getElem?_eq_some_iff.mp hv').1
  have hx : xs[i]? = some xs[i] := List.getElem?_eq_getElem hi
  obtain ⟨u, hu1, hu2⟩ := rv.get hx
  rw [hv'] at hu1
  cases hu1
  obtain ⟨e, he1, he2⟩ := dp_all_at hd hx
  have I' : Inv X pins σ H { s with heap := h', toks := tk } := I.kept hk
  obtain ⟨as2, hr2⟩ := Dp.reads I' e xs[i] v he2 hu2
  have hm : minD d ds ∈ d :: ds := by
    unfold minD
    have : ∀ (l : List PyData) (a : PyData), l.foldl (fun a y => if dataLt y a then y else a) a ∈ a :: l := by
      intro l
      induction l with
      | nil => intro a; simp
      | cons y l ih =>
        intro a
        rw [List.foldl_cons]
        have := ih (if dataLt y a then y else a)
        rcases List.mem_cons.mp this with z | z
        · rw [z]
          split <;> simp
        · exact List.mem_cons_of_mem _ (List.mem_cons_of_mem _ z)
    exact this ds d
  have em : e = minD d ds := alike_unique e (minD d ds) v as2 bs (ha.1 e (List.mem_of_getElem? he1) _ hm) hr2 hrd
  exact ⟨xs[i], H, I', hu2, q i xs[i] hx (by rw [he1, em])⟩
theorem op_ltD (hu : X.A.units + 65 < cLine) : OpR X (compareOp .Lt) (rLtD X.K) := by
  intro pins s σ H x y v u Q I rx ry h
  obtain ⟨d, e, hd, he, ha, hn, hdp, q⟩ := h
  obtain ⟨as, r1⟩ := Dp.reads I d x v hd rx
  obtain ⟨bs, r2⟩ := Dp.reads I e y u he ry
  exact lt_data r1 r2 ha hn (by omega) ⟨.bl _, H, I, rfl, q⟩
theorem op_gtD (hu : X.A.units + 65 < cLine) : OpR X (compareOp .Gt) (rGtD X.K) := by
  intro pins s σ H x y v u Q I rx ry h
  obtain ⟨d, e, hd, he, ha, hn, hdp, q⟩ := h
  obtain ⟨as, r1⟩ := Dp.reads I d x v hd rx
  obtain ⟨bs, r2⟩ := Dp.reads I e y u he ry
  exact gt_data r1 r2 ha hn (by omega) ⟨.bl _, H, I, rfl, q⟩
end
end L2
namespace DL
open PySem L2
/-! ### an own dict whose keys are ints, texts -/
section
variable {K : Fr} {F H : Hp} {κ : Type} [DecidableEq κ]
def lkG (kvs : List (κ × PyData)) (k : κ) : Option PyData := (kvs.find? fun kv => decide (kv.1 = k)).map (·.2)
def putG (kvs : List (κ × PyData)) (k : κ) (d : PyData) : List (κ × PyData) :=
  if (kvs.any fun kv => decide (kv.1 = k)) = true then kvs.map fun kv => if kv.1 = k then (kv.1, d) else kv else kvs ++ [(k, d)]
theorem lkG_val {k : κ} : ∀ {kws : List (κ × V)} {kvs : List (κ × PyData)}, kws.map (·.1) = kvs.map (·.1) → DqAll K F (kws.map (·.2)) (kvs.map (·.2)) → (valV kws k).isSome = (lkG kvs k).isSome ∧ ∀ d, lkG kvs k = some d → ∃ v, valV kws k = some v ∧ Dq K F v d
  | [], [], _, _ => ⟨rfl, fun d h => nomatch h⟩
  | (a, v) :: kws, (b, e) :: kvs, h1, h2 => by
    cases h2 with
    | cons u1 u2 =>
      have h3 := List.cons.inj h1
      obtain ⟨i1, i2⟩ := lkG_val (k := k) h3.2 u2
      have ea : a = b := h3.1
      subst ea
      by_cases hk : a = k
      · subst hk
        refine ⟨by rw [valV_pos rfl]; simp [lkG], fun d hd => ⟨v, valV_pos rfl, ?_⟩⟩
        have : d = e := by
          simp [lkG] at hd
          exact hd.symm
        rw [this]
        exact u1
      · have e1 : lkG ((a, e) :: kvs) k = lkG kvs k := by simp [lkG, List.find?_cons, hk]
        rw [valV_neg hk, e1]
        exact ⟨i1, i2⟩
theorem putG_keys {k : κ} {v : V} {d : PyData} : ∀ {kws : List (κ × V)} {kvs : List (κ × PyData)}, kws.map (·.1) = kvs.map (·.1) → DqAll K F (kws.map (·.2)) (kvs.map (·.2)) → Dq K F v d →
    (putK kws k v).map (·.1) = (putG kvs k d).map (·.1) ∧ DqAll K F ((putK kws k v).map (·.2)) ((putG kvs k d).map (·.2)) := by
  intro kws kvs h1 h2 hd
  have hany : ∀ {kws : List (κ × V)} {kvs : List (κ × PyData)}, kws.map (·.1) = kvs.map (·.1) → (kws.any fun kv => decide (kv.1 = k)) = (kvs.any fun kv => decide (kv.1 = k)) := by
    intro kws kvs h
    have e1 : (kws.any fun kv => decide (kv.1 = k)) = (kws.map (·.1)).any fun x => decide (x = k) := by rw [List.any_map]; rfl
    have e2 : (kvs.any fun kv => decide (kv.1 = k)) = (kvs.map (·.1)).any fun x => decide (x = k) := by rw [List.any_map]; rfl
    rw [e1, e2, h]
  have hrep : ∀ {kws : List (κ × V)} {kvs : List (κ × PyData)}, kws.map (·.1) = kvs.map (·.1) → DqAll K F (kws.map (·.2)) (kvs.map (·.2)) →
      (kws.map fun kv => if kv.1 = k then (kv.1, v) else kv).map (·.1) = (kvs.map fun kv => if kv.1 = k then (kv.1, d) else kv).map (·.1) ∧ DqAll K F ((kws.map fun kv => if kv.1 = k then (kv.1, v) else kv).map (·.2)) ((kvs.map fun kv => if kv.1 = k then (kv.1, d) else kv).map (·.2)) := by
    intro kws
    induction kws with
    | nil =>
      intro kvs h1 h2
      cases kvs with
      | nil => exact ⟨rfl, .nil⟩
      | cons _ _ => cases h1
    | cons a kws ih =>
      intro kvs h1 h2
      cases kvs with
      | nil => cases h1
      | cons b kvs =>
        have h3 := List.cons.inj h1
        have h31 : a.1 = b.1 := h3.1
        cases h2 with
        | cons u1 u2 =>
          obtain ⟨i1, i2⟩ := ih h3.2 u2
          simp only [List.map_cons]
          by_cases hk : a.1 = k
          · rw [if_pos hk, if_pos (h31 ▸ hk)]
            exact ⟨by rw [i1, h31], .cons hd i2⟩
          · rw [if_neg hk, if_neg (h31 ▸ hk)]
            exact ⟨by rw [i1, h31], .cons u1 i2⟩
  unfold putK putG
  rw [hany h1]
  split
  · exact hrep h1 h2
  · refine ⟨by rw [List.map_append, List.map_append, h1]; rfl, ?_⟩
    rw [List.map_append, List.map_append]
    exact da_app h2 (.cons hd .nil)
end
section
variable {K : Fr} {B : Bs} {G : En} {P : Po} {td ty tv te : TE} {E : De} {S : St} {F H : Hp}
theorem keyK_at {v : V} {k : Key} (h : Dq K F v (keyD k)) : v = kV k := by
  cases k with
  | inl i => exact dp_int h
  | inr s => exact dp_str h
theorem Iv.dctK (I : Iv K B G S F H) {i : Nat} {qq : Option Addr} {kvs : List (Key × PyData)} (h : G[i]? = some (.k qq kvs)) : ∃ p kws, S[i]? = some (some (.ref p)) ∧ H p = some (.dK kws) ∧ kws.map (·.1) = kvs.map (·.1) ∧ DqAll K F (kws.map (·.2)) (kvs.map (·.2)) := by
  obtain ⟨A, h1, _, _⟩ := I.own
  rcases h1 i _ h with e | ⟨v, h1, p, kws, rfl, h5, h6, h7, _⟩
  · cases e
  · exact ⟨p, kws, h1, h5, h6, h7⟩
theorem dw_slK {i : Nat} {qq : Option Addr} {kvs : List (Key × PyData)} (h : G[i]? = some (.k qq kvs)) (q : P G (.p (.sl i))) : DW K B G (tVar i) P := fun S F H Q I k => by
  obtain ⟨p, kws, e, _⟩ := I.dctK h
  exact ⟨_, e, k _ F H G (.p (.sl i)) (Ex.refl F) ⟨I, e⟩ q⟩
theorem Iv.newK {S : St} {F H : Hp} {p : Addr} (I : Iv K B G S F H) (hp : H p = none) : Iv K B (G ++ [.k none []]) (S ++ [some (.ref p)]) F (upd H p (.dK [])) := by
  refine I.add (Ex.refl F) (Ex.new hp) (I.ex.trans (Ex.new hp)) (fun b o h n => ?_) _ (fun a => a = p) (.inr ⟨_, rfl, p, [], rfl, upd_same, rfl, .nil, rfl, fun _ z => nomatch z⟩) fun a e => ?_
  · rw [h] at n
    cases n
  · have e : a = p := e
    subst e
    exact ⟨hp, I.fnone hp, by rw [upd_same]; exact fun z => (by cases z)⟩
theorem dw_newK (q : P G (.fr (.k none []))) : DW K B G tDNewK P := fun S F H Q I k => by
  intro p hp
  exact k (.ref p) F _ G (.fr (.k none [])) (Ex.refl F) (I.newK hp) q
theorem dw_dInK (h : DW K B G ty fun G1 r1 => PW r1 fun w1 => DW K B G1 td fun G2 r2 => PW r2 fun w2 => ∃ i qq ks kvs, w1 = .d (keyD ks) ∧ w2 = .sl i ∧ G2[i]? = some (.k qq kvs) ∧ P G2 (.p (.d (.bool (lkG kvs ks).isSome)))) : DW K B G (tDIn ty td) P := fun S F H Q I k => by
  show ty S H fun y H1 => td S H1 fun x H2 => ∃ a o, x = .ref a ∧ DGet H2 a y o ∧ Q (.bl o.isSome) H2
  refine dw_run (k' := fun G1 w1 => DW K B G1 td fun G2 r2 => PW r2 fun w2 => ∃ i qq ks kvs, w1 = .d (keyD ks) ∧ w2 = .sl i ∧ G2[i]? = some (.k qq kvs) ∧ P G2 (.p (.d (.bool (lkG kvs ks).isSome)))) h I fun v1 F1 H1 G1 w1 e1 I1 a1 q1 => ?_
  refine dw_run (k' := fun G2 w2 => ∃ i qq ks kvs, w1 = .d (keyD ks) ∧ w2 = .sl i ∧ G2[i]? = some (.k qq kvs) ∧ P G2 (.p (.d (.bool (lkG kvs ks).isSome)))) q1 I1 fun v2 F2 H2 G2 w2 e2 I2 a2 ⟨i, qq, ks, kvs, x1, x2, hi, q2⟩ => ?_
  subst x1 x2
  obtain rfl := keyK_at (dp_mono e2 a1)
  obtain ⟨p, kws, hS, hp, hk, hv⟩ := I2.dctK hi
  have a2 : S[i]? = some (some v2) := a2
  rw [hS] at a2
  cases a2
  refine ⟨p, _, rfl, DGet.k hp, ?_⟩
  rw [(lkG_val (k := ks) hk hv).1]
  exact ct_d (k.mono (e1.trans e2)) I2 (.bl _) q2
theorem dw_dNotInK (h : DW K B G ty fun G1 r1 => PW r1 fun w1 => DW K B G1 td fun G2 r2 => PW r2 fun w2 => ∃ i qq ks kvs, w1 = .d (keyD ks) ∧ w2 = .sl i ∧ G2[i]? = some (.k qq kvs) ∧ P G2 (.p (.d (.bool (!(lkG kvs ks).isSome))))) : DW K B G (tDNotIn ty td) P := fun S F H Q I k => by
  show ty S H fun y H1 => td S H1 fun x H2 => ∃ a o, x = .ref a ∧ DGet H2 a y o ∧ Q (.bl (!o.isSome)) H2
  refine dw_run (k' := fun G1 w1 => DW K B G1 td fun G2 r2 => PW r2 fun w2 => ∃ i qq ks kvs, w1 = .d (keyD ks) ∧ w2 = .sl i ∧ G2[i]? = some (.k qq kvs) ∧ P G2 (.p (.d (.bool (!(lkG kvs ks).isSome))))) h I fun v1 F1 H1 G1 w1 e1 I1 a1 q1 => ?_
  refine dw_run (k' := fun G2 w2 => ∃ i qq ks kvs, w1 = .d (keyD ks) ∧ w2 = .sl i ∧ G2[i]? = some (.k qq kvs) ∧ P G2 (.p (.d (.bool (!(lkG kvs ks).isSome))))) q1 I1 fun v2 F2 H2 G2 w2 e2 I2 a2 ⟨i, qq, ks, kvs, x1, x2, hi, q2⟩ => ?_
  subst x1 x2
  obtain rfl := keyK_at (dp_mono e2 a1)
  obtain ⟨p, kws, hS, hp, hk, hv⟩ := I2.dctK hi
  have a2 : S[i]? = some (some v2) := a2
  rw [hS] at a2
  cases a2
  refine ⟨p, _, rfl, DGet.k hp, ?_⟩
  rw [(lkG_val (k := ks) hk hv).1]
  exact ct_d (k.mono (e1.trans e2)) I2 (.bl _) q2
theorem dw_dGetK (h : DW K B G td fun G1 r1 => PW r1 fun w1 => DW K B G1 ty fun G2 r2 => PW r2 fun w2 => ∃ i qq ks kvs d, w1 = .sl i ∧ w2 = .d (keyD ks) ∧ G2[i]? = some (.k qq kvs) ∧ lkG kvs ks = some d ∧ P G2 (.p (.d d))) : DW K B G (tDGet td ty) P := fun S F H Q I k => by
  show td S H fun x H1 => ty S H1 fun y H2 => ∃ a v, x = .ref a ∧ DGet H2 a y (some v) ∧ Q v H2
  refine dw_run (k' := fun G1 w1 => DW K B G1 ty fun G2 r2 => PW r2 fun w2 => ∃ i qq ks kvs d, w1 = .sl i ∧ w2 = .d (keyD ks) ∧ G2[i]? = some (.k qq kvs) ∧ lkG kvs ks = some d ∧ P G2 (.p (.d d))) h I fun v1 F1 H1 G1 w1 e1 I1 a1 q1 => ?_
  refine dw_run (k' := fun G2 w2 => ∃ i qq ks kvs d, w1 = .sl i ∧ w2 = .d (keyD ks) ∧ G2[i]? = some (.k qq kvs) ∧ lkG kvs ks = some d ∧ P G2 (.p (.d d))) q1 I1 fun v2 F2 H2 G2 w2 e2 I2 a2 ⟨i, qq, ks, kvs, d, x1, x2, hi, hd, q2⟩ => ?_
  subst x1 x2
  obtain rfl := keyK_at a2
  obtain ⟨p, kws, hS, hp, hk, hv⟩ := I2.dctK hi
  have a1 : S[i]? = some (some v1) := a1
  rw [hS] at a1
  cases a1
  obtain ⟨v, ev, hvd⟩ := (lkG_val (k := ks) hk hv).2 d hd
  exact ⟨p, v, rfl, by rw [← ev]; exact DGet.k hp, ct_d (k.mono (e1.trans e2)) I2 hvd q2⟩
theorem ds_dPutK (h : DW K B G tv fun G1 r1 => PW r1 fun w1 => DW K B G1 td fun G2 r2 => PW r2 fun w2 => DW K B G2 ty fun G3 r3 => PW r3 fun w3 => ∃ i qq ks kvs d, w1 = .d d ∧ w2 = .sl i ∧ w3 = .d (keyD ks) ∧ G3[i]? = some (.k qq kvs) ∧ kvs.length < sizeLine ∧ E.nx (G3.set i (.k qq (putG kvs ks d)))) : DS K B G (sDPut td ty tv) E := fun S F H D I c => by
  show tv S H fun v H1 => td S H1 fun x H2 => ty S H2 fun y H3 => ∃ a H4, x = .ref a ∧ DPut H3 a y v H4 ∧ D.nx S H4
  refine dw_run (k' := fun G1 w1 => DW K B G1 td fun G2 r2 => PW r2 fun w2 => DW K B G2 ty fun G3 r3 => PW r3 fun w3 => ∃ i qq ks kvs d, w1 = .d d ∧ w2 = .sl i ∧ w3 = .d (keyD ks) ∧ G3[i]? = some (.k qq kvs) ∧ kvs.length < sizeLine ∧ E.nx (G3.set i (.k qq (putG kvs ks d)))) h I fun v1 F1 H1 G1 w1 e1 I1 a1 q1 => ?_
  refine dw_run (k' := fun G2 w2 => DW K B G2 ty fun G3 r3 => PW r3 fun w3 => ∃ i qq ks kvs d, w1 = .d d ∧ w2 = .sl i ∧ w3 = .d (keyD ks) ∧ G3[i]? = some (.k qq kvs) ∧ kvs.length < sizeLine ∧ E.nx (G3.set i (.k qq (putG kvs ks d)))) q1 I1 fun v2 F2 H2 G2 w2 e2 I2 a2 q2 => ?_
  refine dw_run (k' := fun G3 w3 => ∃ i qq ks kvs d, w1 = .d d ∧ w2 = .sl i ∧ w3 = .d (keyD ks) ∧ G3[i]? = some (.k qq kvs) ∧ kvs.length < sizeLine ∧ E.nx (G3.set i (.k qq (putG kvs ks d)))) q2 I2 fun v3 F3 H3 G3 w3 e3 I3 a3 ⟨i, qq, ks, kvs, d, x1, x2, x3, hi, hz, q3⟩ => ?_
  subst x1 x2 x3
  obtain rfl := keyK_at a3
  obtain ⟨p, kws, hS, hp, hk, hv⟩ := I3.dctK hi
  have a2 : S[i]? = some (some v2) := a2
  rw [hS] at a2
  cases a2
  have hl : kws.length = kvs.length := by
    have := congrArg List.length hk
    simpa using this
  refine ⟨p, _, rfl, DPut.k hp (by rw [hl]; exact hz), ?_⟩
  refine c.nx S F3 _ _ ((e1.trans e2).trans e3) (I3.mutG hi hS (fun A z => ?_) (fun z => nomatch z) fun A hA z => ?_) q3
  · obtain ⟨p', _, e, _, _, _, hA, _⟩ := z
    cases e
    exact hA
  · obtain ⟨z1, z2⟩ := putG_keys (k := ks) hk hv (dp_mono (e2.trans e3) a1)
    exact ⟨p, _, rfl, upd_same, z1, z2, hA, by obtain ⟨p', _, e, _, _, _, _, y⟩ := z; cases e; exact y⟩
end
end DL
namespace DL
open PySem L2
section
variable {X : Cx}
theorem kSORTD (K : Fr) (h : X.K = K) (hu : X.A.units + 65 < cLine) : CallR X (.builtin "sorted") (rSortedD K) := h ▸ cr_sortedD hu
theorem kLSORTD (K : Fr) (h : X.K = K) (hu : X.A.units + 65 < cLine) : MtR X "list.sort" (rSortD K) := h ▸ mt_sortD hu
theorem kMIND (K : Fr) (h : X.K = K) (hc : X.calm = true) (hu : X.A.units + 65 < cLine) : CallR X (.builtin "min") (rMinD K) := h ▸ cr_minD hc hu
theorem kLTD (K : Fr) (h : X.K = K) (hu : X.A.units + 65 < cLine) : OpR X (compareOp .Lt) (rLtD K) := h ▸ op_ltD hu
theorem kGTD (K : Fr) (h : X.K = K) (hu : X.A.units + 65 < cLine) : OpR X (compareOp .Gt) (rGtD K) := h ▸ op_gtD hu
theorem kTGL (K : Fr) (h : X.K = K) {es : List Expr} {j : Nat} {t : TGs} {n : Nat} {pos : Pos} (hc : X.calm = true) (ht : PGs X es t)
    (hn : (assignEach es X.env).length = n := by rfl) (hst : (assignEach es X.env).findIdx? (·.1) = none := by rfl) : PG X (.Tuple es j pos) (gLst K n t) := h ▸ pg_lst hc ht hn hst
end
section
variable {K : Fr} {B : Bs} {G : En} {P : Po} {w1 w2 : W}
open PySem.W (EachIs dataLe dataLt alike AllAlike Sortable)
theorem ei_da {F : Hp} {β : Type} {enc : β → PyData} : ∀ {vs : List V} {bs : List β}, DqAll K F vs (bs.map enc) → EachIs (fun v b => Dq K F v (enc b)) vs bs
  | _, [], .nil => .nil
  | _, b :: bs, .cons h t => .cons h (ei_da t)
theorem da_ei {F : Hp} {β : Type} {enc : β → PyData} : ∀ {vs : List V} {bs : List β}, EachIs (fun v b => Dq K F v (enc b)) vs bs → DqAll K F vs (bs.map enc)
  | _, _, .nil => .nil
  | _, _, .cons h t => .cons h (da_ei t)
/-- sorted(xs) -/
def srtD {β : Type} (enc : β → PyData) (bs : List β) : List β := bs.mergeSort (dataLe false enc)
theorem rn_sortD {β : Type} {bs : List β} {enc : β → PyData} (e1 : wd G w1 = some (.list (bs.map enc))) (h1 : AllAlike (bs.map enc)) (h2 : Sortable (bs.map enc)) (h3 : ∀ b ∈ bs, (enc b).depth ≤ 60)
    (q : P G (.fr (.o none ((srtD enc bs).map enc)))) : RWn K B G (rSortedD K) [w1] P := fun S F H Q vs I hv k => by
  obtain ⟨v, rfl, h⟩ := vws1 hv
  obtain ⟨p, us, rfl, hp, ha⟩ := wd_list I h e1
  exact ⟨β, p, us, bs, enc, fun v b => Dq K F v (enc b), rfl, SqL.of hp, ei_da ha, fun v b z => dq_dp (dp_mono I.ex z), h1, h2, h3, fun ys c hy hc => ct_L k I hc (da_ei hy) q⟩
/-- xs.sort() -/
theorem rm_sortD {β : Type} {bs : List β} {enc : β → PyData} {i : Nat} {a : Option Addr} (hi : G[i]? = some (.o a (bs.map enc))) (h1 : AllAlike (bs.map enc)) (h2 : Sortable (bs.map enc)) (h3 : ∀ b ∈ bs, (enc b).depth ≤ 60 ∧ noL (enc b) = true)
    (q : P (G.set i (.o a ((srtD enc bs).map enc))) (.p (.d .none))) : RWm K B G (rSortD K) (.sl i) [] P := fun S F H Q v vs I hv hs k => by
  cases hs
  obtain ⟨p, us, e, hp, hF, ha⟩ := I.lst hi
  have hv : S[i]? = some (some v) := hv
  rw [e] at hv
  cases hv
  exact ⟨β, p, us, bs, enc, fun v b => Dq K F v (enc b), rfl, rfl, hp, ei_da ha, fun v b z => dq_dp (dp_mono I.ex z), h1, h2, h3, fun ys hy => k .non F _ _ (.p (.d .none)) (Ex.refl F) ⟨I.mut hi e (da_ei hy), .non⟩ q⟩
/-- min(xs) -/
theorem rn_minD {d : PyData} {ds : List PyData} (e1 : wd G w1 = some (.list (d :: ds))) (h1 : PySem.W.AlikeAll (d :: ds)) (h2 : PyData.depthAll (d :: ds) ≤ 60) (q : P G (.p (.d (PySem.W.minD d ds)))) : RWn K B G (rMinD K) [w1] P := fun S F H Q vs I hv k => by
  obtain ⟨v, rfl, h⟩ := vws1 hv
  obtain ⟨p, us, rfl, hp, ha⟩ := wd_list I h e1
  refine ⟨p, us, d, ds, rfl, SqL.of hp, dqa_dp (da_mono I.ex ha), h1, h2, fun i x hx hd => ?_⟩
  obtain ⟨e, he, hx'⟩ := da_get' ha hx
  rw [hd] at he
  cases he
  exact ct_d k I hx' q
theorem rw_ltD {d e : PyData} (e1 : wd G w1 = some d) (e2 : wd G w2 = some e) (ha : alike d e = true) (hn : d ≠ .none) (hd : d.depth ≤ 60) (q : P G (.p (.d (.bool (dataLt d e))))) : RW2 K B G (rLtD K) w1 w2 P := fun S F H Q v1 v2 I h1 h2 k =>
  ⟨d, e, dq_dp (wd_dq I h1 e1), dq_dp (wd_dq I h2 e2), ha, hn, hd, ct_d k I (.bl _) q⟩
theorem rw_gtD {d e : PyData} (e1 : wd G w1 = some d) (e2 : wd G w2 = some e) (ha : alike d e = true) (hn : d ≠ .none) (hd : d.depth ≤ 60) (q : P G (.p (.d (.bool (dataLt e d))))) : RW2 K B G (rGtD K) w1 w2 P := fun S F H Q v1 v2 I h1 h2 k =>
  ⟨d, e, dq_dp (wd_dq I h1 e1), dq_dp (wd_dq I h2 e2), ha, hn, hd, ct_d k I (.bl _) q⟩
/-- a, b = [..] -/
theorem dg_lst {n : Nat} {gs : TGs} {cs : List Nat} {ds : List PyData} {Pe : En → Prop} (hn : ds.length = n) (h : DGs K B G gs cs ds Pe) : DG K B G (gLst K n gs) cs (.d (.list ds)) Pe := fun S F H v Q I hv k => by
  obtain ⟨a, vs, rfl, hs, ha⟩ := dp_lst hv
  exact ⟨a, vs, rfl, SqL.of (I.ex _ _ hs), by rw [da_len ha]; exact hn, h S F H vs Q I ha k⟩
/-! ### texts -/
theorem sub_at (a b : List Nat) (i : Nat) (h : i ≤ a.length) : (decide (i + (mkS b).length ≤ (mkS a).length) && Builtin.Str.subAt (mkS a) (mkS b) i) = decide ((a.drop i).take b.length = b) := by
  have e : Builtin.Str.subAt (mkS a) (mkS b) i = decide ((a.drop i).take b.length = b) := by
    unfold Builtin.Str.subAt mkS
    rw [Bool.eq_iff_iff, beq_iff_eq, decide_eq_true_eq]
    show (a.toArray.extract i (i + b.toArray.size)) = b.toArray ↔ _
    rw [← Array.toList_inj]
    simp [List.take_drop, Nat.add_sub_cancel_left]
  rw [e, mkS_len, mkS_len]
  by_cases c : (a.drop i).take b.length = b
  · have := congrArg List.length c
    rw [List.length_take, List.length_drop] at this
    rw [decide_eq_true c, Bool.and_true]
    exact decide_eq_true (by omega)
  · rw [decide_eq_false c, Bool.and_false]
theorem sw_eq (a b : List Nat) : Txt.startswith (mkS a) (mkS b) = decide (a.take b.length = b) := by
  have := sub_at a b 0 (Nat.zero_le _)
  rw [List.drop_zero] at this
  exact this
theorem sw3_eq (a b : List Nat) (i : Nat) (h : i ≤ a.length) : Txt.startswith3 (mkS a) (mkS b) (i : Int) = decide ((a.drop i).take b.length = b) := by
  have e : fromIndex (mkS a).length (i : Int) = i := by
    unfold fromIndex
    omega
  unfold Txt.startswith3
  rw [e]
  exact sub_at a b i h
/-- t.startswith(u) -/
theorem rm_sw {a b : List Nat} (q : P G (.p (.d (.bool (decide (a.take b.length = b)))))) : RWm K B G (fun x xs H Q => ∃ a b, x = .str a ∧ xs = [.str b] ∧ Q (.bl (Txt.startswith a b)) H) (.d (.str (mkS a))) [.d (.str (mkS b))] P := fun S F H Q v vs I hv hs k => by
  obtain ⟨y, rfl, hy⟩ := vws1 hs
  obtain rfl := dp_str hv
  obtain rfl := dp_str hy
  refine ⟨_, _, rfl, rfl, ?_⟩
  rw [sw_eq]
  exact ct_d k I (.bl _) q
theorem rm_sw3 {a b : List Nat} {i : Nat} (h : i ≤ a.length) (q : P G (.p (.d (.bool (decide ((a.drop i).take b.length = b)))))) : RWm K B G (fun x xs H Q => ∃ (a b : Str) (i : Int), x = .str a ∧ xs = [.str b, .int i] ∧ Q (.bl (Txt.startswith3 a b i)) H) (.d (.str (mkS a))) [.d (.str (mkS b)), .d (.int (i : Int))] P := fun S F H Q v vs I hv hs k => by
  obtain ⟨y, z, rfl, hy, hz⟩ := vws2 hs
  obtain rfl := dp_str hv
  obtain rfl := dp_str hy
  obtain rfl := dp_int hz
  refine ⟨_, _, _, rfl, rfl, ?_⟩
  rw [sw3_eq a b i h]
  exact ct_d k I (.bl _) q
end
/-! ### reversed(range(n)), enumerate(list) -/
section
variable {K : Fr} {B : Bs} {G : En} {P : Po} {te : TE} {ta : TA} {PI : En → List PyData → Prop}
def rngR (n : Nat) : List PyData := (List.range n).map fun (i : Nat) => PyData.int (((n - 1 - i : Nat)) : Int)
theorem rngR_get {n i : Nat} {d : PyData} (h : (rngR n)[i]? = some d) : i < n ∧ d = .int ((n - 1 - i : Nat) : Int) := by
  unfold rngR at h
  rw [List.getElem?_map] at h
  by_cases hi : i < n
  · rw [List.getElem?_range hi] at h
    exact ⟨hi, (Option.some.inj h).symm⟩
  · rw [List.getElem?_eq_none (by simpa using hi)] at h
    cases h
theorem rngR_len (n : Nat) : (rngR n).length = n := by simp [rngR]
theorem di_revR1 (h : DW K B G te fun G1 r1 => PW r1 fun w => ∃ n : Nat, w = .d (.int (n : Int)) ∧ n ≤ 1000000 ∧ PI G1 (rngR n)) : DI K B G (iRevR (tRg1 te)) PI := fun S F H R I k => by
  show te S H fun x H1 => ∃ n : Int, x = .int n ∧ _
  refine dw_run (k' := fun G1 w => ∃ n : Nat, w = .d (.int (n : Int)) ∧ n ≤ 1000000 ∧ PI G1 (rngR n)) h I fun v F1 H1 G1 w e1 I1 hv ⟨n, hw, hz, q⟩ => ?_
  subst hw
  refine ⟨(n : Int), dp_int hv, by omega, by omega, by omega, by omega, k _ F1 H1 G1 _ e1 I1 (fun i H2 F2 eF eH => ⟨fun d hd => ?_, fun e => ?_⟩) q⟩
  · obtain ⟨hi, rfl⟩ := rngR_get hd
    refine ⟨?_, fun x H' y => ?_⟩
    · show i < ((n : Int) - 0).toNat
      omega
    · obtain ⟨e, y⟩ := y
      subst e y
      have e2 : (0 : Int) + (((((n : Int) - 0).toNat : Nat)) : Int) - 1 + (i : Int) * (-1) = ((n - 1 - i : Nat) : Int) := by omega
      rw [e2]
      exact ⟨F2, Ex.refl _, Ex.refl _, eH, (fun b o z n => by rw [z] at n; cases n), .int _⟩
  · rw [rngR_len] at e
    show ((n : Int) - 0).toNat ≤ i
    omega
theorem di_enumL (h : DA K B G ta fun G1 ws => ∃ ds, ws = [.d (.list ds)] ∧ PI G1 (enD ds)) : DI K B G (iENUM K ta) PI := fun S F H R I k => by
  refine .inl ?_
  show ta S H fun vs H1 => ∃ a xs, vs = [.ref a] ∧ SqL K H1 a xs ∧ R (Ite K a) H1
  refine h S F H _ I fun vs F1 H1 G1 ws e1 I1 hv ⟨ds, hw, q⟩ => ?_
  subst hw
  obtain ⟨v, rfl, hv1⟩ := vws1 hv
  obtain ⟨a, xs, rfl, hp, ha⟩ := dp_lst hv1
  refine ⟨a, xs, rfl, SqL.of (I1.ex _ _ hp), k _ F1 H1 G1 _ e1 I1 (fun i H2 F2 eF eH => ⟨fun d hd => ?_, fun e => ?_⟩) q⟩
  · obtain ⟨x, hx, rfl⟩ := enD_get hd
    obtain ⟨u, hu, hd2⟩ := da_get ha hx
    have sq : SqL K H2 a xs := SqL.of (eH _ _ (eF _ _ hp))
    refine ⟨⟨xs, u, sq, hu⟩, fun v H' y => ?_⟩
    obtain ⟨T, x', rfl, hT, rfl, hx'⟩ := y
    have e3 := hx' xs sq
    rw [hu] at e3
    cases e3
    refine ⟨upd F2 T (.tup [.int (i : Nat), u]), Ex.new (eH.free hT), Ex.new hT, eH.both _ _, fun b o h1 h2 => ?_, .tup upd_same (.cons (.int _) (.cons (dp_mono (eF.trans (Ex.new (eH.free hT))) hd2) .nil))⟩
    by_cases hb : b = T
    · rw [hb]
      exact hT
    · rw [upd_ne hb] at h1
      rw [h1] at h2
      cases h2
  · rw [enD_len] at e
    exact ⟨xs, SqL.of (eH _ _ (eF _ _ hp)), by rw [da_len ha, e]; exact Nat.le_refl _⟩
/-! ### {k: v}, k an int or a text -/
theorem dw_disp1K {tk tv : TE} (h : ∀ B', DW K B' G tk fun G1 r1 => PW r1 fun w1 => DW K B' G1 tv fun G2 r2 => PW r2 fun w2 => ∃ k d, w1 = .d (keyD k) ∧ w2 = .d d ∧ P G2 (.fr (.k none [(k, d)]))) : DW K B G (tDisp [(tk, tv)]) P := fun S F H Q I k => by
  intro p hp
  obtain ⟨A0, mu, a0, _, I0, back⟩ := (I.newK hp).asideG (fun z => nomatch z)
  show tk S (upd H p (.dK [])) fun x H1 => tv S H1 fun y H2 => _
  refine dw_run (k' := fun G1 w1 => DW K ⟨F, upd H p (.dK []), mu⟩ G1 tv fun G2 r2 => PW r2 fun w2 => ∃ k d, w1 = .d (keyD k) ∧ w2 = .d d ∧ P G2 (.fr (.k none [(k, d)]))) (h _) I0 fun v1 F1 H1 G1 w1 e1 I1 r1 q1 => ?_
  refine dw_run (k' := fun G2 w2 => ∃ k d, w1 = .d (keyD k) ∧ w2 = .d d ∧ P G2 (.fr (.k none [(k, d)]))) q1 I1 fun v2 F2 H2 G2 w2 e2 I2 r2 ⟨ks, d, x1, x2, q2⟩ => ?_
  subst x1 x2
  obtain rfl := keyK_at (dp_mono e2 r1)
  obtain ⟨hD, J⟩ := back _ _ _ _ I2
  have hi : (G2 ++ [Sl.k none []])[G2.length]? = some (.k none []) := by simp
  have hl : S.length = G2.length := I2.len
  have hS : (S ++ [some (V.ref p)])[G2.length]? = some (some (.ref p)) := by
    rw [← hl]
    simp
  obtain ⟨p', kws, z1, z2, z3, z4⟩ := J.dctK hi
  rw [hS] at z1
  cases z1
  have ek : kws = [] := by simpa using z3
  subst ek
  refine ⟨z2, [(ks, v2)], rfl, by simp, ?_⟩
  have J2 : Iv K B ((G2 ++ [Sl.k none []]).set G2.length (.k none [(ks, d)])) (S ++ [some (.ref p)]) F2 (upd H2 p (.dK [(ks, v2)])) := J.mutG hi hS (fun A z => by
    obtain ⟨p', _, e, _, _, _, hA, _⟩ := z
    cases e
    exact hA) (fun z => nomatch z) fun A hA z => ⟨p, [(ks, v2)], rfl, upd_same, rfl, .cons r2 .nil, hA, fun _ z => nomatch z⟩
  have eG : (G2 ++ [Sl.k none []]).set G2.length (.k none [(ks, d)]) = G2 ++ [.k none [(ks, d)]] := by simp
  rw [eG] at J2
  have em : mergeK [] [(ks, v2)] = [(ks, v2)] := rfl
  rw [em]
  exact k (.ref p) F2 _ G2 (.fr (.k none [(ks, d)])) (e1.trans e2) J2 q2
end
/-! ### sorted(set(texts)) -/
end DL
namespace L2
open PySem PySem.Spec PyProof.Rows
/-- the set of texts at a -/
def SetTO (w : World) (a : Addr) (S : Str → Bool) (n : Nat) : HO := .ext fun h => SetT w h a S n
def rMkSetT (w : World) (K : PySem.W.Frag) : List V → Hp → VK → Prop := fun xs H Q => ∃ (l : Addr) (ns : List Str), xs = [.ref l] ∧ SqL K H l (ns.map V.str) ∧ ns.length ≤ 2000 ∧ ∀ p n, H p = none → n ≤ ns.length → Q (.ref p) (upd H p (SetTO w p (fun j => decide (j ∈ ns)) n))
def rSortSetT (w : World) : List V → Hp → VK → Prop := fun vs H Q => ∃ (a : Addr) (S : Str → Bool) (n : Nat), vs = [V.ref a] ∧ H a = some (SetTO w a S n) ∧ n ≤ 1000 ∧
  ∀ (ms : List Str) (p : Addr), ms.Nodup → (∀ k, k ∈ ms ↔ S k = true) → H p = none → Q (.ref p) (upd H p (.lst ((ms.mergeSort (PySem.W.dataLe false PyData.str)).map V.str)))
section
variable {X : Cx}
theorem setT_new {w : World} {P : Program} {H : Hp} {h : Heap} {a : Addr} {S : Str → Bool} {n : Nat} (R : SetT w h a S n) : ObjOk P w H h a (SetTO w a S n) := by
  have ⟨o, _, _, _, ho, _⟩ := R
  exact ⟨R, ⟨o, ho⟩, fun h1 h2 p k => SetT.at p k⟩
theorem setT_get {pins : List (Addr × Obj)} {σ : St} {H : Hp} {s : Shared} {a : Addr} {S : Str → Bool} {n : Nat} (I : Inv X pins σ H s) (ha : H a = some (SetTO X.w a S n)) : SetT X.w s.heap a S n := (I.hok a _ ha).1
theorem cr_setT (hc : X.calm = true) : CallR X (.type "set") (rMkSetT X.w X.K) := by
  intro pins s σ H xs us Q I r h
  obtain ⟨l, ns, rfl, hs, hl, q⟩ := h
  rw [Vals.ref1 r]
  obtain ⟨its, rv, pl, hz⟩ := I.list hs
  refine call_set_lstS ns (I.ok.hd hc) pl.isList (by simpa using strsAre_of rv) (by unfold scanBound; omega) fun h' tk c R hcl hk => ?_
  exact ⟨.ref _, upd H s.heap.objs.size (SetTO X.w s.heap.objs.size (fun j => decide (j ∈ ns)) c), I.laid (t' := tk) hk (Nat.le_refl _) (setT_new R), rfl, q _ _ (I.hok.fresh (Nat.le_refl _)) hcl⟩
theorem strs_vals : ∀ {us : List Value} {zs : List Str}, PySem.W.EachIs (fun v z => ∃ t, v = Value.str z t) us zs → Vals (zs.map V.str) us
  | _, _, .nil => .nil
  | _, _, .cons h t => .cons (by obtain ⟨t, rfl⟩ := h; exact ⟨t, rfl⟩) (strs_vals t)
theorem cr_sortSetT (hc : X.calm = true) (hu : X.A.units + 65 < cLine) : CallR X (.builtin "sorted") (rSortSetT X.w) := by
  intro pins s σ H vs us Q I r h
  obtain ⟨a, S, n, rfl, ha, h64, q⟩ := h
  have R := setT_get I ha
  rw [Vals.ref1 r]
  refine sorted_setT R (I.ok.hd hc) h64 (by omega) fun s' p out c ns k g o hp hg hi hm hl => ?_
  obtain ⟨ms, rfl, hnd, hm⟩ := hm
  have hlen : ((ms.mergeSort (PySem.W.dataLe false PyData.str)).map V.str).length ≤ sizeLine := by rw [List.length_map, hl, sizeLine_eq]; omega
  have hn : H p = none := I.hok.fresh hp
  have J : Inv X pins σ (upd H p (.lst ((ms.mergeSort (PySem.W.dataLe false PyData.str)).map V.str))) { s with heap := s'.heap, gens := s'.gens, drawn := s'.drawn, toks := s'.toks } :=
    I.call (ch := []) (Un.laid k hp hn) (I.hok.laid k hp ⟨hlen, out, c, strs_vals hi, hg⟩) (by rw [g]; exact I.bare) (fun _ z => nomatch z)
  have e : s' = { s with heap := s'.heap, gens := s'.gens, drawn := s'.drawn, toks := s'.toks } := by
    cases s'
    cases s
    cases o
    rfl
  rw [e]
  exact ⟨.ref p, _, J, rfl, q ms p hnd hm hn⟩
end
end L2
namespace DL
open PySem L2
theorem kSETT {X : Cx} (w : World) (K : Fr) (hw : X.w = w) (h : X.K = K) (hc : X.calm = true) : CallR X (.type "set") (rMkSetT w K) := hw ▸ h ▸ cr_setT hc
theorem kSORTSETT {X : Cx} (w : World) (hw : X.w = w) (hc : X.calm = true) (hu : X.A.units + 65 < cLine) : CallR X (.builtin "sorted") (rSortSetT w) := hw ▸ cr_sortSetT hc hu
section
variable {K : Fr} {B : Bs} {G : En} {P : Po} {te : TE} {w : World}
/-- sorted(set(xs)): the different texts of xs, sorted -/
theorem dw_sortSetT (h : DW K B G te fun G1 r1 => PW r1 fun w1 => ∃ ns : List Str, wd G1 w1 = some (.list (ns.map .str)) ∧ ns.length ≤ 1000 ∧ ∀ ms : List Str, ms.Nodup → (∀ k, k ∈ ms ↔ k ∈ ns) → P G1 (.fr (.o none ((srtD PyData.str ms).map .str)))) : DW K B G (tCB (rSortSetT w) (tCons (tCB (rMkSetT w K) (tCons te tNil)) tNil)) P := fun S F H Q I k => by
  show te S H fun x H1 => rMkSetT w K [x] H1 fun y H2 => rSortSetT w [y] H2 Q
  refine dw_run (k' := fun G1 w1 => ∃ ns : List Str, wd G1 w1 = some (.list (ns.map .str)) ∧ ns.length ≤ 1000 ∧ ∀ ms : List Str, ms.Nodup → (∀ k, k ∈ ms ↔ k ∈ ns) → P G1 (.fr (.o none ((srtD PyData.str ms).map .str)))) h I fun v1 F1 H1 G1 w1 e1 I1 r1 ⟨ns, hd, hl, q⟩ => ?_
  obtain ⟨l, us, rfl, hp, ha⟩ := wd_list I1 r1 hd
  obtain rfl := da_strs_eq ha
  refine ⟨l, ns, rfl, SqL.of hp, by omega, fun p n hp hn => ⟨p, _, n, rfl, upd_same, by omega, fun ms c hnd hm hc => ?_⟩⟩
  have J := I1.newH hp (SetTO w p (fun j => decide (j ∈ ns)) n)
  exact ct_L (k.mono e1) J hc (da_strs _) (q ms hnd fun k => by rw [hm k]; simp)
end
end DL
namespace DL
open PySem L2
/-! ### texts as lists of code points -/
abbrev zD (z : List Nat) : PyData := .str (mkS z)
abbrev nD (n : Nat) : PyData := .int (n : Int)
theorem eqv_zD (s t : List Nat) : PyData.eqv (zD s) (zD t) = decide (s = t) := by
  have : PyData.eqv (zD s) (zD t) = (mkS s == mkS t) := by simp only [PyData.eqv]
  rw [this]
  by_cases h : s = t
  · simp [h]
  · have : mkS s ≠ mkS t := fun e => h (mkS_inj.mp e)
    simp [h, this]
theorem mkS_dec (a b : List Nat) : decide (mkS a = mkS b) = decide (a = b) := decide_eq_decide.mpr mkS_inj
theorem mkS_cps (a : List Nat) : (mkS a).cps.toList = a := by simp [mkS]
section
variable {K : Fr} {B : Bs} {G : En} {P : Po} {w1 w2 : W}
theorem rw_eqZ {a b : List Nat} (q : P G (.p (.d (.bool (decide (a = b)))))) : RW2 K B G (rEQ K) (.d (.str (mkS a))) (.d (.str (mkS b))) P := rw_eqS (by rw [mkS_dec]; exact q)
theorem rw_neZ {a b : List Nat} (q : P G (.p (.d (.bool (!decide (a = b)))))) : RW2 K B G (rNE K) (.d (.str (mkS a))) (.d (.str (mkS b))) P := rw_neS (by rw [mkS_dec]; exact q)
theorem sIx_nat (len n lo : Nat) (h : lo ≤ len) : HT.sIx len lo (some (n : Int)) = min n len := by
  unfold HT.sIx
  simp only []
  rw [if_neg (by omega)]
  rfl
theorem cut_from {α : Type} (z : List α) (n : Nat) : cutD z (some (n : Int)) none = z.drop n := by
  unfold cutD
  rw [sIx_nat _ _ _ (Nat.zero_le _)]
  have : HT.sIx z.length z.length none = z.length := rfl
  rw [this]
  by_cases h : n ≤ z.length
  · rw [Nat.min_eq_left h, List.take_of_length_le (by rw [List.length_drop]; exact Nat.le_refl _)]
  · rw [Nat.min_eq_right (by omega), List.drop_length, List.drop_of_length_le (by omega)]
    simp
theorem cut_to {α : Type} (z : List α) (n : Nat) : cutD z none (some (n : Int)) = z.take n := by
  unfold cutD
  rw [sIx_nat _ _ _ (Nat.le_refl _)]
  have : HT.sIx z.length 0 none = 0 := rfl
  rw [this, List.drop_zero, Nat.sub_zero]
  by_cases h : n ≤ z.length
  · rw [Nat.min_eq_left h]
  · rw [Nat.min_eq_right (by omega), List.take_of_length_le (Nat.le_refl _), List.take_of_length_le (by omega)]
theorem cut_mid {α : Type} (z : List α) (a n : Nat) : cutD z (some (a : Int)) (some ((a + n : Nat) : Int)) = (z.drop a).take n := by
  unfold cutD
  rw [sIx_nat _ _ _ (Nat.zero_le _), sIx_nat _ _ _ (Nat.le_refl _)]
  by_cases h : a ≤ z.length
  · rw [Nat.min_eq_left h]
    by_cases h2 : a + n ≤ z.length
    · rw [Nat.min_eq_left h2, Nat.add_sub_cancel_left]
    · rw [Nat.min_eq_right (by omega), List.take_of_length_le (by rw [List.length_drop]; omega), List.take_of_length_le (by rw [List.length_drop]; omega)]
  · rw [Nat.min_eq_right (by omega), Nat.min_eq_right (by omega), List.drop_length, List.drop_of_length_le (by omega)]
    simp
theorem rs_from {z : List Nat} {n : Nat} (hz : z.length ≤ 1000000) (q : P G (.p (.d (.str (mkS (z.drop n)))))) : RWs K B G (rSLC K) (.d (.str (mkS z))) (some (n : Int)) none P := rs_S (szl hz) (by rw [cut_from]; exact q)
theorem rs_to {z : List Nat} {n : Nat} (hz : z.length ≤ 1000000) (q : P G (.p (.d (.str (mkS (z.take n)))))) : RWs K B G (rSLC K) (.d (.str (mkS z))) none (some (n : Int)) P := rs_S (szl hz) (by rw [cut_to]; exact q)
theorem rs_mid {z : List Nat} {a n : Nat} {e : Int} (he : e = ((a + n : Nat) : Int)) (hz : z.length ≤ 1000000) (q : P G (.p (.d (.str (mkS ((z.drop a).take n)))))) : RWs K B G (rSLC K) (.d (.str (mkS z))) (some (a : Int)) (some e) P := by
  subst he
  exact rs_S (szl hz) (by rw [cut_mid]; exact q)
theorem rs_Lto {ds : List PyData} {n : Nat} (e1 : wd G w1 = some (.list ds)) (q : P G (.fr (.o none (ds.take n)))) : RWs K B G (rSLC K) w1 none (some (n : Int)) P := rs_L e1 (by rw [cut_to]; exact q)
theorem rs_Tto {ds : List PyData} {n : Nat} (q : P G (.p (.d (.tuple (ds.take n))))) : RWs K B G (rSLC K) (.d (.tuple ds)) none (some (n : Int)) P := rs_T (by rw [cut_to]; exact q)
theorem rs_Tfrom {ds : List PyData} {n : Nat} (q : P G (.p (.d (.tuple (ds.drop n))))) : RWs K B G (rSLC K) (.d (.tuple ds)) (some (n : Int)) none P := rs_T (by rw [cut_from]; exact q)
theorem rn_lenZ {z : List Nat} (hz : z.length ≤ 1000000) (q : P G (.p (.d (.int (z.length : Int))))) : RWn K B G (rLEN K) [.d (.str (mkS z))] P := rn_lenS (szl hz) q
theorem rw_addZ {a b : List Nat} (hz : a.length + b.length ≤ 1000000) (q : P G (.p (.d (.str (mkS (a ++ b)))))) : RW2 K B G (rADD K) (.d (.str (mkS a))) (.d (.str (mkS b))) P := rw_addS (szl hz) q
/-- x in xs, xs a list of encoded things -/
theorem rw_inLE {α : Type} [DecidableEq α] {f : α → PyData} {xs : List α} {x : α} {d : PyData} (hf : ∀ a b, PyData.eqv (f a) (f b) = decide (a = b)) (hd : wd G w1 = some (f x)) (e2 : wd G w2 = some (.list (xs.map f))) (s1 : Shp 50 (f x)) (s2 : ∀ y ∈ xs, Shp 50 (f y)) (q : P G (.p (.d (.bool (decide (x ∈ xs)))))) : RW2 K B G (rIN K) w1 w2 P :=
  rw_inL hd e2 (shp_ok s1 (by decide)) (shp_ok (shp_list fun y hy => by
    obtain ⟨a, ha, rfl⟩ := List.mem_map.mp hy
    exact s2 a ha) (by decide)) (by rw [any_inj hf]; exact q)
theorem rw_niLE {α : Type} [DecidableEq α] {f : α → PyData} {xs : List α} {x : α} (hf : ∀ a b, PyData.eqv (f a) (f b) = decide (a = b)) (hd : wd G w1 = some (f x)) (e2 : wd G w2 = some (.list (xs.map f))) (s1 : Shp 50 (f x)) (s2 : ∀ y ∈ xs, Shp 50 (f y)) (q : P G (.p (.d (.bool (!decide (x ∈ xs)))))) : RW2 K B G (rNI K) w1 w2 P :=
  rw_niL hd e2 (shp_ok s1 (by decide)) (shp_ok (shp_list fun y hy => by
    obtain ⟨a, ha, rfl⟩ := List.mem_map.mp hy
    exact s2 a ha) (by decide)) (by rw [any_inj hf]; exact q)
/-- xs != [] -/
theorem rw_neNil {xs : List PyData} (e1 : wd G w1 = some (.list xs)) (h : ∀ x ∈ xs, Shp 60 x) (q : P G (.p (.d (.bool (!xs.isEmpty))))) : RW2 K B G (rNE K) w1 (.d (.list [])) P :=
  rw_neD e1 rfl (shp_ok (shp_list h) (by decide)) (shp_ok (n := 1) (shp_list (by simp)) (by decide)) (by rw [eqv_nil]; exact q)
theorem rw_eqNil {xs : List PyData} (e1 : wd G w1 = some (.list xs)) (h : ∀ x ∈ xs, Shp 60 x) (q : P G (.p (.d (.bool xs.isEmpty)))) : RW2 K B G (rEQ K) w1 (.d (.list [])) P :=
  rw_eqD e1 rfl (shp_ok (shp_list h) (by decide)) (shp_ok (n := 1) (shp_list (by simp)) (by decide)) (by rw [eqv_nil]; exact q)
/-- ''.join of texts -/
theorem join0_rows : ∀ cs : List (List Nat), Txt.join (mkS []) (cs.map mkS) = mkS cs.flatten := by
  have f : ∀ (cs : List (List Nat)) (acc : Array Nat), (cs.map mkS).foldl (fun acc p => acc ++ (mkS []).cps ++ p.cps) acc = acc ++ cs.flatten.toArray := by
    intro cs
    induction cs with
    | nil => intro acc; simp
    | cons c cs ih =>
      intro acc
      rw [List.map_cons, List.foldl_cons, ih]
      simp [mkS]
  intro cs
  cases cs with
  | nil => rfl
  | cons c cs =>
    show (⟨(cs.map mkS).foldl (fun acc p => acc ++ (mkS []).cps ++ p.cps) (mkS c).cps⟩ : Str) = mkS (c :: cs).flatten
    rw [f]
    simp [mkS]
theorem rm_joinR {cs : List (List Nat)} (e2 : wd G w2 = some (.list (cs.map zD))) (hz : (cs.map List.length).sum ≤ 16777216) (q : P G (.p (.d (.str (mkS cs.flatten))))) : RWm K B G (rJOIN K) (.d (.str (mkS []))) [w2] P := fun S F H Q v vs I hv hs k => by
  obtain ⟨y, rfl, hy⟩ := vws1 hs
  obtain rfl := dp_str hv
  obtain ⟨p, us, rfl, hp, ha⟩ := wd_list I hy e2
  have e : us = (cs.map mkS).map V.str := da_strs_eq (by rw [List.map_map]; exact ha)
  subst e
  refine ⟨_, p, cs.map mkS, rfl, rfl, .inl (SqL.of hp), ?_, ?_⟩
  · rw [mkS_len, List.map_map]
    have : (List.map ((fun x => x.length) ∘ mkS) cs) = cs.map List.length := List.map_congr_left fun c _ => mkS_len c
    show (List.map ((fun x => x.length) ∘ mkS) cs).sum + _ ≤ _
    rw [this]
    simpa using hz
  · rw [join0_rows]
    exact ct_d k I (.str _) q
end
end DL
namespace L2
open PySem PySem.Spec PyProof.Rows
/-- sorted(xs), xs of at most one item -/
def rSorted1 (K : PySem.W.Frag) : List V → Hp → VK → Prop := fun vs H Q => ∃ (a : Addr) (xs : List V), vs = [V.ref a] ∧ SqL K H a xs ∧ xs.length ≤ 1 ∧ ∀ p, H p = none → Q (.ref p) (upd H p (.lst xs))
def rSortedU (K : PySem.W.Frag) : List V → Hp → VK → Prop := fun vs H Q => rSortedD K vs H Q ∨ rSorted1 K vs H Q
section
variable {X : Cx}
theorem perm_le1 {α : Type} {l m : List α} (h : l.Perm m) (hl : m.length ≤ 1) : l = m := by
  match m, hl with
  | [], _ => exact h.eq_nil
  | [x], _ => exact List.perm_singleton.mp h
theorem cr_sorted1 : CallR X (.builtin "sorted") (rSorted1 X.K) := by
  intro pins s σ H vs us Q I r h
  obtain ⟨a, xs, rfl, hs, h1, q⟩ := h
  obtain ⟨its, rv, hl, hz⟩ := I.list hs
  rw [Vals.ref1 r]
  have hlen : its.length ≤ 1 := by rw [← rv.length]; exact h1
  refine SrtO.sorted_ord (ltv := fun _ _ => false) ⟨fun _ _ _ => rfl, fun _ _ _ _ _ => rfl⟩ hl.isList (by rw [← rv.length]; exact hz) (fun h2 h₁ a' _ _ => absurd h2 (by omega)) fun out o1 o2 => ?_
  obtain ⟨ep, he'⟩ := PyProof.Rows.sortedAll_at s.heap its out.toArray
  have e := perm_le1 o2.perm hlen
  subst e
  exact ⟨.ref _, upd H (s.heap.objs.size + 1) (.lst xs), I.laid (t' := s.toks) (fun _ _ => PyProof.Rows.sortedAll_old) (Nat.le_succ _) ⟨hz, out, ep, rv, he'⟩, rfl, q _ (I.hok.fresh (Nat.le_succ _))⟩
theorem cr_sortedU (hu : X.A.units + 65 < cLine) : CallR X (.builtin "sorted") (rSortedU X.K) := by
  intro pins s σ H vs us Q I r h
  rcases h with h | h
  · exact cr_sortedD hu pins s σ H vs us Q I r h
  · exact cr_sorted1 pins s σ H vs us Q I r h
end
end L2
namespace DL
open PySem L2
theorem kSORTU {X : Cx} (K : Fr) (h : X.K = K) (hu : X.A.units + 65 < cLine) : CallR X (.builtin "sorted") (rSortedU K) := h ▸ cr_sortedU hu
section
variable {K : Fr} {B : Bs} {G : En} {P : Po} {w1 w2 : W}
theorem rn_sortU {β : Type} {bs : List β} {enc : β → PyData} (e1 : wd G w1 = some (.list (bs.map enc))) (h1 : PySem.W.AllAlike (bs.map enc)) (h2 : PySem.W.Sortable (bs.map enc)) (h3 : ∀ b ∈ bs, (enc b).depth ≤ 60)
    (q : P G (.fr (.o none ((srtD enc bs).map enc)))) : RWn K B G (rSortedU K) [w1] P := fun S F H Q vs I hv k => .inl (rn_sortD e1 h1 h2 h3 q S F H Q vs I hv k)
theorem rn_sortU1 {ds : List PyData} (e1 : wd G w1 = some (.list ds)) (h : ds.length ≤ 1) (q : P G (.fr (.o none ds))) : RWn K B G (rSortedU K) [w1] P := fun S F H Q vs I hv k => .inr (by
  obtain ⟨v, rfl, h'⟩ := vws1 hv
  obtain ⟨p, us, rfl, hp, ha⟩ := wd_list I h' e1
  exact ⟨p, us, rfl, SqL.of hp, by rw [da_len ha]; exact h, fun c hc => ct_L k I hc ha q⟩)
end
/-! tuples of numbers -/
abbrev wD (way : List Nat) : PyData := .tuple (way.map nD)
theorem cast_lt : ∀ {a b : List Nat}, (a.map fun n : Nat => (n : Int)) < (b.map fun n : Nat => (n : Int)) ↔ a < b
  | [], [] => by simp
  | [], _ :: _ => by simp
  | _ :: _, [] => by simp
  | x :: a, y :: b => by
    rw [List.map_cons, List.map_cons, List.cons_lt_cons_iff, List.cons_lt_cons_iff, cast_lt (a := a) (b := b)]
    constructor
    · rintro (h | ⟨h1, h2⟩)
      · exact .inl (by omega)
      · exact .inr ⟨by omega, h2⟩
    · rintro (h | ⟨h1, h2⟩)
      · exact .inl (by omega)
      · exact .inr ⟨by omega, h2⟩
theorem wD_int (way : List Nat) : way.map nD = (way.map fun n : Nat => (n : Int)).map PyData.int := by
  rw [List.map_map]
  rfl
theorem lt_wD (a b : List Nat) : PySem.W.dataLt (wD a) (wD b) = decide (a < b) := by
  rw [PySem.W.dataLt_tuple, wD_int, wD_int]
  refine (PySem.W.dataLt_ints _ _).trans ?_
  exact decide_eq_decide.mpr cast_lt
theorem alike_wD (a b : List Nat) : PySem.W.alike (wD a) (wD b) = true := by
  have : PySem.W.alike (wD a) (wD b) = PySem.W.alikeAll (a.map nD) (b.map nD) := by simp [PySem.W.alike]
  rw [this, wD_int, wD_int]
  exact PySem.W.alike_ints _ _
theorem srt_wD {l : List (List Nat)} (h : l.Pairwise (· < ·)) : srtD wD l = l := by
  refine List.mergeSort_of_pairwise (h.imp fun {a b} z => ?_)
  show (!PySem.W.dataLt (wD b) (wD a)) = true
  rw [lt_wD, decide_eq_false (List.lt_asymm z)]
  rfl
theorem shp_wD (a : List Nat) : Shp 1 (wD a) := shp_tup fun x hx => by
  obtain ⟨n, _, rfl⟩ := List.mem_map.mp hx
  exact shp_int 0 _
end DL
namespace DL
open PySem L2
/-! ### a call whose last argument is a new own thing -/
def DAF (K : Fr) (B : Bs) (G : En) (ta : TA) (P : En → List W → Sl → Prop) : Prop := ∀ S F H (Q : List V → Hp → Prop), Iv K B G S F H → (∀ vs v F' H' G' ws s, Ex F F' → Iv K B (G' ++ [s]) (S ++ [some v]) F' H' → Vws K S F' vs ws → P G' ws s → Q (vs ++ [v]) H') → ta S H Q
section
variable {K : Fr} {B : Bs} {G : En} {te : TE} {tr t : TA}
theorem daf_last {P : En → List W → Sl → Prop} (h : DW K B G te fun G1 r => ∃ s, r = .fr s ∧ P G1 [] s) : DAF K B G (tCons te tNil) P := fun S F H Q I k => by
  show te S H fun x H1 => Q [x] H1
  refine h S F H _ I fun v F1 H1 G1 r e1 hv ⟨s, hr, q⟩ => ?_
  subst hr
  exact k [] v F1 H1 G1 [] s e1 hv .nil q
theorem daf_cons {P : En → List W → Sl → Prop} (h : DW K B G te fun G1 r1 => PW r1 fun w1 => DAF K B G1 tr fun G2 ws s => P G2 (w1 :: ws) s) : DAF K B G (tCons te tr) P := fun S F H Q I k => by
  show te S H fun x H1 => tr S H1 fun xs H2 => Q (x :: xs) H2
  refine dw_run (k' := fun G1 w1 => DAF K B G1 tr fun G2 ws s => P G2 (w1 :: ws) s) h I fun v F1 H1 G1 w e1 I1 hv q => ?_
  exact q S F1 H1 _ I1 fun vs u F2 H2 G2 ws s e2 I2 hvs q2 => k (v :: vs) u F2 H2 G2 (w :: ws) s (e1.trans e2) I2 (.cons (hv.mono e2) hvs) q2
variable {P : Po} {E : XK} {ι : Type} {args1 args2 : ι → List PyData} {own : ι → Sl} {pre : ι → Prop} {res : ι → Sl → Rs → Prop} {exc : ι → Sl → Value → Prop}
theorem splitW_last : ∀ {ws : List W} {ds : List PyData} {i : Nat}, allD ws = some ds → splitW (ws ++ [.sl i]) = some (ds, i, [])
  | [], _, _, e => by
    cases e
    rfl
  | .d d :: r, _, i, e => by
    simp only [allD, Option.map_eq_some_iff] at e
    obtain ⟨es, e1, rfl⟩ := e
    show (splitW (r ++ [.sl i])).map _ = _
    rw [splitW_last e1]
    rfl
theorem vws_snoc {S : St} {F : Hp} {v : V} {n : Nat} (hn : S.length = n) : ∀ {vs : List V} {ws : List W} {ds : List PyData}, allD ws = some ds → Vws K S F vs ws → Vws K (S ++ [some v]) F (vs ++ [v]) (ws ++ [.sl n])
  | _, [], _, _, .nil => .cons (by show (S ++ [some v])[n]? = _; rw [← hn]; simp) .nil
  | _, .d d :: r, _, e, .cons h t => by
    simp only [allD, Option.map_eq_some_iff] at e
    obtain ⟨es, e1, rfl⟩ := e
    exact .cons h (vws_snoc hn e1 t)
theorem dw_callHL (h : DAF K B G t fun G1 ws s => ∃ x, pre x ∧ allD ws = some (args1 x) ∧ args2 x = [] ∧ s.tr = true ∧ s.re none = (own x).re none ∧ (∀ s' r, s'.tr = true → res x s' r → ∃ d, r = .p (.d d) ∧ P G1 (.p (.d d))) ∧ ∀ s' c, ¬ exc x s' c) :
    DW K B G (tCall (spH K args1 own args2 pre res exc) [] E t) P := fun S F H Q I k => by
  show t S H fun vs H1 => spH K args1 own args2 pre res exc (vs ++ []) H1 Q E
  refine h S F H _ I fun vs v F1 H1 G1 ws s e1 I1 hv ⟨x, hp, hd, h2, ht, ho, q, qx⟩ => ?_
  rw [List.append_nil]
  have hl : S.length = G1.length := by
    have := I1.len
    simpa using this
  have hi : (G1 ++ [s])[G1.length]? = some s := by simp
  refine ⟨x, hp, coreG (S := S ++ [some v]) (P := fun G' r => ∃ s' d, G' = G1 ++ [s'] ∧ r = .p (.d d) ∧ P G1 (.p (.d d))) (fun u F' H' G' r e2 J pq => ?_) e1 I1 (vws_snoc hl hd hv) (splitW_last hd) hi ht ⟨rfl, by rw [re_re]; exact ho, h2.symm⟩ (fun s' r ht' a => ?_) (fun cls F' H' s' ht' J a => absurd a (qx _ _))⟩
  · obtain ⟨s', d, rfl, rfl, p⟩ := pq
    exact k u F' H' G1 (.p (.d d)) e2 ⟨J.1.drop, J.2⟩ p
  · obtain ⟨d, rfl, p⟩ := q (s'.re none) r (by rw [re_tr]; exact ht') a
    exact ⟨s'.re s.q, d, by simp, rfl, p⟩
end
end DL
/-! own lists of own lists of data -/
namespace DL
open PySem L2
noncomputable def mixH (X : Addr → Prop) (H F : Hp) : Hp := fun a => @ite _ (X a) (Classical.propDecidable _) (H a) (F a)
theorem mix_in {X : Addr → Prop} {H F : Hp} {a : Addr} (h : X a) : mixH X H F a = H a := if_pos h
theorem mix_out {X : Addr → Prop} {H F : Hp} {a : Addr} (h : ¬ X a) : mixH X H F a = F a := if_neg h
def LLs (K : Fr) (F H : Hp) : List Addr → List (List PyData) → Prop
  | [], [] => True
  | q :: qs, ds :: dss => (∃ vs, H q = some (.lst vs) ∧ DqAll K F vs ds) ∧ LLs K F H qs dss
  | _, _ => False
section
variable {K : Fr} {F F' H H' : Hp}
theorem lls_stab : ∀ {qs : List Addr} {dss : List (List PyData)}, LLs K F H qs dss → Ex F F' → (∀ q ∈ qs, H' q = H q) → LLs K F' H' qs dss
  | [], [], _, _, _ => trivial
  | q :: qs, ds :: dss, ⟨⟨vs, h1, h2⟩, h3⟩, e, k => ⟨⟨vs, by rw [k q (by simp)]; exact h1, da_mono e h2⟩, lls_stab h3 e fun q hq => k q (List.mem_cons_of_mem _ hq)⟩
theorem lls_len : ∀ {qs : List Addr} {dss : List (List PyData)}, LLs K F H qs dss → qs.length = dss.length
  | [], [], _ => rfl
  | _ :: _, _ :: _, ⟨_, h⟩ => congrArg (· + 1) (lls_len h)
theorem lls_get : ∀ {qs : List Addr} {dss : List (List PyData)} {i : Nat} {ds : List PyData}, LLs K F H qs dss → dss[i]? = some ds → ∃ q vs, qs[i]? = some q ∧ H q = some (.lst vs) ∧ DqAll K F vs ds
  | [], [], _, _, _, e => by simp at e
  | q :: qs, ds :: dss, 0, _, ⟨⟨vs, h1, h2⟩, _⟩, e => by
    simp at e
    subst e
    exact ⟨q, vs, rfl, h1, h2⟩
  | q :: qs, ds :: dss, i + 1, _, ⟨_, h3⟩, e => by
    obtain ⟨q', vs, a, b, c⟩ := lls_get (i := i) h3 (by simpa using e)
    exact ⟨q', vs, by simpa using a, b, c⟩
theorem lls_set : ∀ {qs : List Addr} {dss : List (List PyData)} {i : Nat} {q : Addr} {vs : List V} {ds : List PyData}, qs.Nodup → LLs K F H qs dss → qs[i]? = some q → DqAll K F vs ds → LLs K F (upd H q (.lst vs)) qs (dss.set i ds)
  | [], [], _, _, _, _, _, _, e, _ => by simp at e
  | q :: qs, ds :: dss, 0, _, vs, _, hn, ⟨_, h3⟩, e, hv => by
    simp at e
    subst e
    refine ⟨⟨vs, upd_same, hv⟩, lls_stab h3 (Ex.refl F) fun a ha => upd_ne fun z => ?_⟩
    subst z
    exact (List.nodup_cons.mp hn).1 ha
  | q :: qs, ds :: dss, i + 1, q', vs, _, hn, ⟨⟨us, h1, h2⟩, h3⟩, e, hv => by
    have e : qs[i]? = some q' := by simpa using e
    refine ⟨⟨us, ?_, h2⟩, lls_set (i := i) (List.nodup_cons.mp hn).2 h3 e hv⟩
    rw [upd_ne]
    · exact h1
    · intro z
      subst z
      exact (List.nodup_cons.mp hn).1 (List.mem_of_getElem? e)
theorem lls_snoc : ∀ {qs : List Addr} {dss : List (List PyData)} {q : Addr} {vs : List V} {ds : List PyData}, LLs K F H qs dss → H q = some (.lst vs) → DqAll K F vs ds → LLs K F H (qs ++ [q]) (dss ++ [ds])
  | [], [], _, vs, _, _, h1, h2 => ⟨⟨vs, h1, h2⟩, trivial⟩
  | _ :: _, _ :: _, _, _, _, ⟨a, b⟩, h1, h2 => ⟨a, lls_snoc b h1 h2⟩
end
/-- p: the outer list's address, qs: the inner ones' -/
def LLr (K : Fr) (p : Addr) (qs : List Addr) (dss : List (List PyData)) : Orel where
  rel F H v A := v = .ref p ∧ H p = some (.lst (qs.map V.ref)) ∧ LLs K F H qs dss ∧ A p ∧ (∀ q ∈ qs, A q) ∧ (p :: qs).Nodup
  stab := fun ⟨h1, h2, h3, h4, h5, h6⟩ e k => ⟨h1, by rw [k _ h4]; exact h2, lls_stab h3 e fun q hq => k q (h5 q hq), h4, h5, h6⟩
section
variable {K : Fr} {B : Bs} {G : En} {S : St} {F H : Hp} {s s' : Sl} {v : V} {d : PyData} {p : Addr} {qs : List Addr} {dss : List (List PyData)} {te ta tb : TE} {P : Po} {E : De} {t : TS}
theorem Iv.ll (I : Iv K B G S F H) {i : Nat} (h : G[i]? = some (.ow (LLr K p qs dss))) : S[i]? = some (some (.ref p)) ∧ H p = some (.lst (qs.map V.ref)) ∧ LLs K F H qs dss ∧ (p :: qs).Nodup ∧ F p = none ∧ ∀ q ∈ qs, F q = none := by
  obtain ⟨A, h1, _, h3⟩ := I.own
  rcases h1 i _ h with e | ⟨v, k1, rfl, k2, k3, k4, k5, k6⟩
  · cases e
  · exact ⟨k1, k2, k3, k6, (h3 i p k4).1, fun q hq => (h3 i q (k5 q hq)).1⟩
/-- slot i's own thing changes at the place x -/
theorem Iv.mutW (I : Iv K B G S F H) {i : Nat} (hi : G[i]? = some s) (hs : s ≠ .un) (x : Addr) (o : HO) (hx : ∀ A v, SvR K F H v A s → A x ∧ SvR K F (upd H x o) v A s') : Iv K B (G.set i s') S F (upd H x o) := by
  obtain ⟨A, h1, h2, h3⟩ := I.own
  obtain ⟨u, e1, e2⟩ : ∃ v, S[i]? = some (some v) ∧ SvR K F H v (A i) s := (h1 i _ hi).elim (fun z => absurd z hs) id
  obtain ⟨e5, e6⟩ := hx _ _ e2
  obtain ⟨k1, k2, k3⟩ := h3 i x e5
  refine ⟨I.ex.mut k1 _, I.f0, fun b o hb hm => ?_, I.nw, fun b hb => ?_, by simpa using I.len, A, fun j s hj => ?_, h2, fun j a ha => ?_⟩
  · have nb : b ≠ x := fun z => by
      subst z
      rcases k3 with z | z
      · rw [hb] at z
        cases z
      · exact hm z
    rw [upd_ne nb]
    exact I.fr b o hb hm
  · by_cases nb : b = x
    · rw [nb, upd_same]
      exact fun z => by cases z
    · rw [upd_ne nb]
      exact I.st b hb
  · by_cases e : i = j
    · subst e
      obtain ⟨rfl, _⟩ := set_same hj
      exact .inr ⟨_, e1, e6⟩
    · rw [List.getElem?_set_ne e] at hj
      rcases h1 j s hj with z | ⟨u, z1, z2⟩
      · exact .inl z
      · refine .inr ⟨u, z1, slr_stab z2 (Ex.refl F) fun a ha => ?_⟩
        rw [upd_ne]
        intro z
        subst z
        exact e (h2 _ _ _ e5 ha)
  · obtain ⟨x1, y, z⟩ := h3 j a ha
    refine ⟨x1, ?_, z⟩
    by_cases na : a = x
    · rw [na, upd_same]
      exact fun z => by cases z
    · rw [upd_ne na]
      exact y
/-- slot i's own thing is frozen: the places X of it are data from now on -/
theorem Iv.frzW (I : Iv K B G S F H) {i : Nat} (hi : G[i]? = some s) (hs : s ≠ .un) (h : ∀ A v, SvR K F H v A s → (∀ a, A a → F a = none) → ∃ X : Addr → Prop, (∀ a, X a → A a) ∧ Dq K (mixH X H F) v d) : ∃ F', Ex F F' ∧ Iv K B (G.set i (.d d)) S F' H := by
  obtain ⟨A, h1, h2, h3⟩ := I.own
  obtain ⟨u, e1, e2⟩ : ∃ v, S[i]? = some (some v) ∧ SvR K F H v (A i) s := (h1 i _ hi).elim (fun z => absurd z hs) id
  obtain ⟨X, x1, x2⟩ := h _ _ e2 fun a ha => (h3 i a ha).1
  have eF : Ex F (mixH X H F) := fun b o hb => by
    by_cases hX : X b
    · rw [(h3 i b (x1 b hX)).1] at hb
      cases hb
    · rw [mix_out hX]
      exact hb
  refine ⟨mixH X H F, eF, ⟨fun b o hb => ?_, I.f0.trans eF, I.fr, fun b o hb hn => ?_, I.st, by simpa using I.len, fun j a => j ≠ i ∧ A j a, fun j s hj => ?_, fun j k a ha hb => h2 j k a ha.2 hb.2, fun j a ha => ?_⟩⟩
  · have hb : mixH X H F b = some o := hb
    by_cases hX : X b
    · rw [mix_in hX] at hb
      exact hb
    · rw [mix_out hX] at hb
      exact I.ex b o hb
  · have hb : mixH X H F b = some o := hb
    by_cases hX : X b
    · rcases (h3 i b (x1 b hX)).2.2 with z | z
      · exact absurd z hn
      · exact .inr z
    · rw [mix_out hX] at hb
      exact I.nw b o hb hn
  · by_cases e : i = j
    · subst e
      obtain ⟨rfl, _⟩ := set_same hj
      exact .inr ⟨_, e1, x2⟩
    · rw [List.getElem?_set_ne e] at hj
      rcases h1 j s hj with z | ⟨u, z1, z2⟩
      · exact .inl z
      · refine .inr ⟨u, z1, ?_⟩
        have ea : (fun a => j ≠ i ∧ A j a) = A j := by
          funext a
          exact propext ⟨fun z => z.2, fun z => ⟨Ne.symm e, z⟩⟩
        show SvR K _ H u (fun a => j ≠ i ∧ A j a) s
        rw [ea]
        exact slr_stab z2 eF fun _ _ => rfl
  · obtain ⟨x, y, z⟩ := h3 j a ha.2
    refine ⟨?_, y, z⟩
    rw [mix_out fun q => ha.1 (h2 _ _ _ ha.2 (x1 a q))]
    exact x
theorem lls_dq {F' : Hp} : ∀ {qs : List Addr} {dss : List (List PyData)}, LLs K F H qs dss → Ex F F' → (∀ q ∈ qs, F' q = H q) → DqAll K F' (qs.map V.ref) (dss.map .list)
  | [], [], _, _, _ => .nil
  | q :: qs, ds :: dss, ⟨⟨vs, h1, h2⟩, h3⟩, e, k => .cons (.lst (by rw [k q (by simp)]; exact h1) (da_mono e h2)) (lls_dq h3 e fun q hq => k q (List.mem_cons_of_mem _ hq))
theorem Iv.frzLL (I : Iv K B G S F H) {i : Nat} (hi : G[i]? = some (.ow (LLr K p qs dss))) : ∃ F', Ex F F' ∧ Iv K B (G.set i (.d (.list (dss.map .list)))) S F' H := by
  refine I.frzW hi (fun z => by cases z) fun A v ⟨h1, h2, h3, h4, h5, h6⟩ hF => ⟨fun a => a = p ∨ a ∈ qs, fun a ha => ?_, ?_⟩
  · rcases ha with rfl | ha
    · exact h4
    · exact h5 a ha
  · subst h1
    refine .lst (xs := qs.map V.ref) (by rw [mix_in (.inl rfl)]; exact h2) (lls_dq h3 (fun b o hb => ?_) fun q hq => mix_in (.inr hq))
    rw [mix_out]
    · exact hb
    · rintro (rfl | hb2)
      · rw [hF _ h4] at hb
        cases hb
      · rw [hF _ (h5 _ hb2)] at hb
        cases hb
theorem ds_freezeLL (i : Nat) (hi : G[i]? = some (.ow (LLr K p qs dss))) (h : DS K B (G.set i (.d (.list (dss.map .list)))) t E) : DS K B G t E := fun S F H D I c => by
  obtain ⟨F', e, I2⟩ := I.frzLL hi
  exact h S _ H D I2 (c.mono e)
/-- m[a][b] -/
theorem ixN_nat {n a : Nat} (h : a < n) : ixN n (a : Int) = some a := by
  unfold ixN
  rw [if_pos (by omega), if_pos (by omega)]
  simp
theorem atI_nat {α : Type} {xs : List α} {a : Nat} {x : α} (h : xs[a]? = some x) : atI xs (a : Int) = some x := atn h
theorem dw_ixx {i : Nat} (h0 : G[i]? = some (.ow (LLr K p qs dss))) (h : DW K B G ta fun G1 r1 => PW r1 fun w1 => ∃ (a : Nat) (ds : List PyData), w1 = .d (.int (a : Int)) ∧ G1[i]? = some (.ow (LLr K p qs dss)) ∧ dss[a]? = some ds ∧ DW K B G1 tb fun G2 r2 => PW r2 fun w2 => ∃ (b : Nat) (d : PyData), w2 = .d (.int (b : Int)) ∧ G2[i]? = some (.ow (LLr K p qs dss)) ∧ ds[b]? = some d ∧ P G2 (.p (.d d))) :
    DW K B G (tOp (rIx K) (tOp (rIx K) (tVar i) ta) tb) P := fun S F H Q I k => by
  show (tVar i) S H fun x0 H0 => ta S H0 fun y0 H1 => rIx K x0 y0 H1 fun x H2 => tb S H2 fun y H3 => rIx K x y H3 Q
  obtain ⟨k1, _⟩ := I.ll h0
  refine ⟨_, k1, ?_⟩
  refine dw_run (k' := fun G1 w1 => ∃ (a : Nat) (ds : List PyData), w1 = .d (.int (a : Int)) ∧ G1[i]? = some (.ow (LLr K p qs dss)) ∧ dss[a]? = some ds ∧ DW K B G1 tb fun G2 r2 => PW r2 fun w2 => ∃ (b : Nat) (d : PyData), w2 = .d (.int (b : Int)) ∧ G2[i]? = some (.ow (LLr K p qs dss)) ∧ ds[b]? = some d ∧ P G2 (.p (.d d))) h I fun v1 F1 H1 G1 w1 e1 I1 r1 ⟨a, ds, hw1, g1, ga, q1⟩ => ?_
  subst hw1
  obtain rfl := dp_int r1
  obtain ⟨_, m1, m2, _, _, _⟩ := I1.ll g1
  obtain ⟨q, vs, n1, n2, n3⟩ := lls_get m2 ga
  refine .inl ⟨p, _, _, .ref q, rfl, rfl, SqL.of m1, atn (by rw [List.getElem?_map, n1]; rfl), ?_⟩
  refine dw_run (k' := fun G2 w2 => ∃ (b : Nat) (d : PyData), w2 = .d (.int (b : Int)) ∧ G2[i]? = some (.ow (LLr K p qs dss)) ∧ ds[b]? = some d ∧ P G2 (.p (.d d))) q1 I1 fun v2 F2 H2 G2 w2 e2 I2 r2 ⟨b, d, hw2, g2, gb, q2⟩ => ?_
  subst hw2
  obtain rfl := dp_int r2
  obtain ⟨_, m1, m2, _, _, _⟩ := I2.ll g2
  obtain ⟨q', vs', n1', n2', n3'⟩ := lls_get m2 ga
  rw [n1] at n1'
  cases n1'
  obtain ⟨v, z1, z2⟩ := da_get n3' gb
  exact .inl ⟨q, _, _, v, rfl, rfl, SqL.of n2', atn z1, ct_d (k.mono (e1.trans e2)) I2 z2 q2⟩
/-- m[a][b] = d -/
theorem ds_setxx {i : Nat} (h : DW K B G te fun G1 r1 => PW r1 fun w => ∃ d, w = .d d ∧ ∃ (p : Addr) (qs : List Addr) (dss : List (List PyData)), G1[i]? = some (.ow (LLr K p qs dss)) ∧ DW K B G1 ta fun G2 r2 => PW r2 fun w2 => ∃ (a : Nat) (ds : List PyData), w2 = .d (.int (a : Int)) ∧ G2[i]? = some (.ow (LLr K p qs dss)) ∧ dss[a]? = some ds ∧ DW K B G2 tb fun G3 r3 => PW r3 fun w3 => ∃ b : Nat, w3 = .d (.int (b : Int)) ∧ G3[i]? = some (.ow (LLr K p qs dss)) ∧ b < ds.length ∧ E.nx (G3.set i (.ow (LLr K p qs (dss.set a (ds.set b d)))))) :
    DS K B G (tAsg te (gSub (tOp (rIx K) (tVar i) ta) tb rSetL)) E := fun S F H D I c => by
  show te S H fun v H0 => (tVar i) S H0 fun x0 H0 => ta S H0 fun y0 H1 => rIx K x0 y0 H1 fun o H1 => tb S H1 fun i H2 => rSetL o i v H2 fun H3 => D.nx S H3
  refine dw_run (k' := fun G1 w => ∃ d, w = .d d ∧ ∃ (p : Addr) (qs : List Addr) (dss : List (List PyData)), G1[i]? = some (.ow (LLr K p qs dss)) ∧ DW K B G1 ta fun G2 r2 => PW r2 fun w2 => ∃ (a : Nat) (ds : List PyData), w2 = .d (.int (a : Int)) ∧ G2[i]? = some (.ow (LLr K p qs dss)) ∧ dss[a]? = some ds ∧ DW K B G2 tb fun G3 r3 => PW r3 fun w3 => ∃ b : Nat, w3 = .d (.int (b : Int)) ∧ G3[i]? = some (.ow (LLr K p qs dss)) ∧ b < ds.length ∧ E.nx (G3.set i (.ow (LLr K p qs (dss.set a (ds.set b d)))))) h I fun v1 F1 H1 G1 w1 e1 I1 hv1 ⟨d, hw1, p, qs, dss, g1, q1⟩ => ?_
  subst hw1
  obtain ⟨k1, _⟩ := I1.ll g1
  refine ⟨_, k1, ?_⟩
  refine dw_run (k' := fun G2 w2 => ∃ (a : Nat) (ds : List PyData), w2 = .d (.int (a : Int)) ∧ G2[i]? = some (.ow (LLr K p qs dss)) ∧ dss[a]? = some ds ∧ DW K B G2 tb fun G3 r3 => PW r3 fun w3 => ∃ b : Nat, w3 = .d (.int (b : Int)) ∧ G3[i]? = some (.ow (LLr K p qs dss)) ∧ b < ds.length ∧ E.nx (G3.set i (.ow (LLr K p qs (dss.set a (ds.set b d)))))) q1 I1 fun v2 F2 H2 G2 w2 e2 I2 hv2 ⟨a, ds, hw2, g2, ga, q2⟩ => ?_
  subst hw2
  obtain rfl := dp_int hv2
  obtain ⟨_, m1, m2, _, _, _⟩ := I2.ll g2
  obtain ⟨q, vs, n1, n2, n3⟩ := lls_get m2 ga
  refine .inl ⟨p, _, _, .ref q, rfl, rfl, SqL.of m1, atn (by rw [List.getElem?_map, n1]; rfl), ?_⟩
  refine dw_run (k' := fun G3 w3 => ∃ b : Nat, w3 = .d (.int (b : Int)) ∧ G3[i]? = some (.ow (LLr K p qs dss)) ∧ b < ds.length ∧ E.nx (G3.set i (.ow (LLr K p qs (dss.set a (ds.set b d)))))) q2 I2 fun v3 F3 H3 G3 w3 e3 I3 hv3 ⟨b, hw3, g3, hl, q3⟩ => ?_
  subst hw3
  obtain rfl := dp_int hv3
  obtain ⟨_, m1', m2', hnd, _, _⟩ := I3.ll g3
  obtain ⟨q', vs', n1', n2', n3'⟩ := lls_get m2' ga
  rw [n1] at n1'
  cases n1'
  have hq : q ∈ qs := List.mem_of_getElem? n1
  have hqp : p ≠ q := fun z => (List.nodup_cons.mp hnd).1 (z ▸ hq)
  refine ⟨q, vs', (b : Int), b, rfl, rfl, n2', ixN_nat (by rw [da_len n3']; exact hl), ?_⟩
  refine c.nx S F3 _ _ ((e1.trans e2).trans e3) (I3.mutW (s' := .ow (LLr K p qs (dss.set a (ds.set b d)))) g3 (fun z => by cases z) q _ fun A v ⟨h1, h2, h3, h4, h5, h6⟩ => ⟨h5 q hq, ?_⟩) q3
  refine ⟨h1, ?_, lls_set (List.nodup_cons.mp hnd).2 h3 n1 (da_set b n3' (dp_mono (e2.trans e3) hv1)), h4, h5, h6⟩
  rw [upd_ne hqp]
  exact h2
end
end DL
namespace DL
open PySem L2
section
variable {K : Fr} {B : Bs} {G : En} {S : St} {F H : Hp} {v x : V} {p : Addr} {qs : List Addr} {dss : List (List PyData)} {ds : List PyData} {te : TE} {tt : TT} {P : Po}
theorem get_n {α : Type} {G : List α} {a b : α} : (G ++ [a] ++ [b])[G.length]? = some a := by simp
theorem get_n1 {α : Type} {G : List α} {a b : α} : (G ++ [a] ++ [b])[G.length + 1]? = some b := by
  rw [List.append_assoc, List.getElem?_append_right (by omega)]
  simp
theorem get_lt {α : Type} {G r : List α} {i : Nat} (h : i < G.length) : (G ++ r)[i]? = G[i]? := List.getElem?_append_left h
/-- the last but one slot's list goes behind the last slot's lists -/
theorem Iv.mergeLL (I : Iv K B (G ++ [.o none ds] ++ [.ow (LLr K p qs dss)]) (S ++ [some v] ++ [some x]) F H) : ∃ q, v = .ref q ∧ x = .ref p ∧ H p = some (.lst (qs.map V.ref)) ∧ Iv K B (G ++ [.ow (LLr K p (qs ++ [q]) (dss ++ [ds]))]) (S ++ [some x]) F (upd H p (.lst (qs.map V.ref ++ [v]))) := by
  obtain ⟨A, h1, h2, h3⟩ := I.own
  have hl : S.length = G.length := by
    have := I.len
    simpa using this
  obtain ⟨u, e1, q, vs, rfl, e3, e4, e5, _⟩ : ∃ u, (S ++ [some v] ++ [some x])[G.length]? = some (some u) ∧ SvR K F H u (A G.length) (.o none ds) := (h1 G.length _ get_n).elim (fun z => by cases z) id
  rw [← hl, get_n] at e1
  cases e1
  obtain ⟨u, e1, rfl, m2, m3, m4, m5, m6⟩ : ∃ u, (S ++ [some (V.ref q)] ++ [some x])[G.length + 1]? = some (some u) ∧ SvR K F H u (A (G.length + 1)) (.ow (LLr K p qs dss)) := (h1 (G.length + 1) _ get_n1).elim (fun z => by cases z) id
  rw [← hl, get_n1] at e1
  cases e1
  have hqp : p ≠ q := fun z => by
    subst z
    have := h2 _ _ _ e5 m4
    omega
  have hqq : q ∉ qs := fun z => by
    have := h2 _ _ _ e5 (m5 q z)
    omega
  obtain ⟨k1, k2, k3⟩ := h3 _ p m4
  refine ⟨q, rfl, rfl, m2, ⟨I.ex.mut k1 _, I.f0, fun b o hb hm => ?_, I.nw, fun b hb => ?_, by simp [hl], fun j a => (j < G.length ∧ A j a) ∨ (j = G.length ∧ (A G.length a ∨ A (G.length + 1) a)), fun j s hj => ?_, fun i j a ha hb => ?_, fun j a ha => ?_⟩⟩
  · have nb : b ≠ p := fun z => by
      subst z
      rcases k3 with z | z
      · rw [hb] at z
        cases z
      · exact hm z
    rw [upd_ne nb]
    exact I.fr b o hb hm
  · by_cases nb : b = p
    · rw [nb, upd_same]
      exact fun z => by cases z
    · rw [upd_ne nb]
      exact I.st b hb
  · rcases app_get hj with ⟨hlt, h⟩ | ⟨hlt, e⟩
    · rcases h1 j s (by rw [List.append_assoc, get_lt hlt]; exact h) with z | ⟨u, z1, z2⟩
      · exact .inl z
      · refine .inr ⟨u, ?_, ?_⟩
        · rw [List.append_assoc, get_lt (by omega)] at z1
          rw [get_lt (by omega)]
          exact z1
        · have ea : (fun a => (j < G.length ∧ A j a) ∨ (j = G.length ∧ (A G.length a ∨ A (G.length + 1) a))) = A j := by
            funext a
            exact propext ⟨fun z => z.elim (fun z => z.2) fun z => by omega, fun z => .inl ⟨hlt, z⟩⟩
          show SvR K F _ u (fun a => (j < G.length ∧ A j a) ∨ (j = G.length ∧ (A G.length a ∨ A (G.length + 1) a))) s
          rw [ea]
          refine slr_stab z2 (Ex.refl F) fun a ha => upd_ne fun z => ?_
          subst z
          have := h2 _ _ _ ha m4
          omega
    · subst e hlt
      refine .inr ⟨.ref p, by rw [← hl]; simp, rfl, ?_, ?_, .inr ⟨rfl, .inr m4⟩, fun a ha => .inr ⟨rfl, ?_⟩, ?_⟩
      · rw [upd_same, List.map_append]
        rfl
      · refine lls_stab (lls_snoc m3 e3 e4) (Ex.refl F) fun a ha => upd_ne fun z => ?_
        subst z
        rcases List.mem_append.mp ha with ha | ha
        · exact (List.nodup_cons.mp m6).1 ha
        · exact hqp (List.mem_singleton.mp ha)
      · rcases List.mem_append.mp ha with ha | ha
        · exact .inr (m5 a ha)
        · rw [List.mem_singleton.mp ha]
          exact .inl e5
      · rw [List.nodup_cons] at m6 ⊢
        refine ⟨fun z => ?_, List.nodup_append.mpr ⟨m6.2, by simp, fun a ha b hb z => ?_⟩⟩
        · rcases List.mem_append.mp z with z | z
          · exact m6.1 z
          · exact hqp (List.mem_singleton.mp z)
        · rw [List.mem_singleton.mp hb] at z
          exact hqq (z ▸ ha)
  · have key : ∀ i, ((i < G.length ∧ A i a) ∨ (i = G.length ∧ (A G.length a ∨ A (G.length + 1) a))) → ∃ k, A k a ∧ (i < G.length → k = i) ∧ (i = G.length → G.length ≤ k) ∧ i ≤ G.length := fun i z => by
      rcases z with ⟨z1, z2⟩ | ⟨z1, z2 | z2⟩
      · exact ⟨i, z2, fun _ => rfl, fun z => by omega, by omega⟩
      · exact ⟨_, z2, fun z => by omega, fun _ => Nat.le_refl _, by omega⟩
      · exact ⟨_, z2, fun z => by omega, fun _ => by omega, by omega⟩
    obtain ⟨k1, a1, b1, c1, d1⟩ := key i ha
    obtain ⟨k2, a2, b2, c2, d2⟩ := key j hb
    have := h2 _ _ _ a1 a2
    rcases Nat.lt_or_eq_of_le d1 with q1 | q1 <;> rcases Nat.lt_or_eq_of_le d2 with q2 | q2
    · rw [← b1 q1, ← b2 q2, this]
    · have := b1 q1
      have := c2 q2
      omega
    · have := c1 q1
      have := b2 q2
      omega
    · omega
  · have fin : ∀ k, A k a → F a = none ∧ upd H p (.lst (qs.map V.ref ++ [V.ref q])) a ≠ none ∧ (B.H0 a = none ∨ B.mu a) := fun k hk => by
      obtain ⟨x, y, z⟩ := h3 k a hk
      refine ⟨x, ?_, z⟩
      by_cases na : a = p
      · rw [na, upd_same]
        exact fun z => by cases z
      · rw [upd_ne na]
        exact y
    rcases ha with ⟨_, ha⟩ | ⟨_, ha | ha⟩
    · exact fin _ ha
    · exact fin _ ha
    · exact fin _ ha
theorem Iv.newLL (I : Iv K B G S F H) (hp : H p = none) : Iv K B (G ++ [.ow (LLr K p [] [])]) (S ++ [some (.ref p)]) F (upd H p (.lst [])) := by
  refine I.add (Ex.refl F) (Ex.new hp) (I.ex.trans (Ex.new hp)) (fun b o h n => ?_) _ (fun a => a = p) (.inr ⟨_, rfl, ⟨rfl, upd_same, trivial, rfl, ⟨fun q hq => (nomatch hq), List.nodup_cons.mpr ⟨fun h => (nomatch h), .nil⟩⟩⟩⟩) fun a e => ?_
  · rw [h] at n
    cases n
  · have e : a = p := e
    subst e
    exact ⟨hp, I.fnone hp, by rw [upd_same]; exact fun z => (by cases z)⟩
/-- [[..] for ..]: a new list of new lists -/
theorem dw_lcLL {wi : TI} {g : TG} {ch : List Nat} {vs : List Nat} (hsub : ∀ k ∈ ch, k ∈ vs)
    (h : DI K B G wi fun G1 ds => ∃ J : Nat → List (List PyData) → En → Prop, J 0 [] (wipeG G1 vs) ∧ ds.length ≤ sizeLine ∧ (∀ (B' : Bs) i acc G2 d, ds[i]? = some d → J i acc G2 → DG K B' G2 g ch (.d d) fun G3 => DW K B' G3 te fun G5 r => ∃ es, r = .fr (.o none es) ∧ acc.length < sizeLine ∧ J (i + 1) (acc ++ [es]) (wipeG G5 vs)) ∧ ∀ acc G2, J ds.length acc G2 → ∀ p qs, P (wipeG G2 vs) (.fr (.ow (LLr K p qs acc)))) :
    DW K B G (tLc wi g tYes te vs) P := fun S F H Q I k => by
  refine h S F H _ I fun It F1 H1 G1 ds e1 I1 Y ⟨J, j0, hz, hs, hd⟩ => ?_
  intro D hD
  refine ⟨fun i m H => m = ds.length - i ∧ i ≤ ds.length ∧ ∃ F2 G2 acc qs, Ex F1 F2 ∧ Iv K B (G2 ++ [.ow (LLr K D qs acc)]) (L2.wipe S vs ++ [some (.ref D)]) F2 H ∧ J i acc G2, ⟨_, rfl, Nat.zero_le _, F1, _, [], [], Ex.refl _, (I1.wipe vs).newLL hD, j0⟩, ?_⟩
  rintro i m H2 ⟨rfl, hi, F2, G2, acc, qs, e2, I2, j2⟩
  by_cases hlt : i < ds.length
  · obtain ⟨d, hd'⟩ : ∃ d, ds[i]? = some d := ⟨_, List.getElem?_eq_getElem hlt⟩
    refine .inr ⟨((Y i H2 F2 e2 I2.ex).1 d hd').1, fun H => ∃ F2 G2 acc qs, Ex F1 F2 ∧ Iv K B (G2 ++ [.ow (LLr K D qs acc)]) (L2.wipe S vs ++ [some (.ref D)]) F2 H ∧ J (i + 1) acc G2, fun H' p => ⟨ds.length - (i + 1), by omega, rfl, hlt, p⟩, fun x H3 y => ?_⟩
    obtain ⟨F3, e3, I3, hx⟩ := Y.turn e2 I2 hd' y
    obtain ⟨A0, mu, _, _, Ia, back⟩ := I3.asideG (fun z => by cases z)
    refine hs _ i acc G2 d hd' j2 _ F3 H3 x _ Ia hx fun S4 F4 H4 G4 e4 I4 l4 u4 q => ?_
    have ew : L2.wipe S4 vs = L2.wipe S vs := by
      rw [wipe_ext l4 fun k hk => u4 k fun z => hk (hsub k z)]
      exact wipe_ext (wipe_length S vs) fun k hk => wipe_ne hk
    refine ⟨ew, ?_⟩
    show te S4 H4 fun y H4 => ∃ acc, H4 D = some (.lst acc) ∧ acc.length < sizeLine ∧ (∃ F2 G2 acc' qs, Ex F1 F2 ∧ Iv K B (G2 ++ [.ow (LLr K D qs acc')]) (L2.wipe S vs ++ [some (.ref D)]) F2 (upd H4 D (.lst (acc ++ [y]))) ∧ J (i + 1) acc' G2)
    refine q S4 F4 H4 _ I4 fun v F6 H6 G6 r e6 hr hq => ?_
    obtain ⟨es, rfl, hz6, j6⟩ := hq
    have hr : Iv K _ (G6 ++ [.o none es]) (S4 ++ [some v]) F6 H6 := hr
    obtain ⟨_, I7⟩ := back _ _ _ _ hr
    obtain ⟨q', rfl, hx, hD6, I8⟩ := I7.mergeLL
    obtain ⟨_, hm1, hm2, _, _, _⟩ := I7.ll get_n1
    refine ⟨qs.map V.ref, hD6, by rw [List.length_map, lls_len hm2]; exact hz6, F6, _, acc ++ [es], qs ++ [q'], ((e2.trans e3).trans e4).trans e6, ?_, j6⟩
    obtain ⟨A1, mu1, _, _, Ib, back1⟩ := I8.asideG (fun z => by cases z)
    have := (back1 _ _ _ _ (Ib.wipe vs)).2
    rw [ew] at this
    exact this
  · have e : i = ds.length := by omega
    subst e
    refine .inl ⟨(Y _ H2 F2 e2 I2.ex).2 rfl, ?_⟩
    have I3 : Iv K B (wipeG G2 vs ++ [.ow (LLr K D qs acc)]) (S ++ [some (.ref D)]) F2 H2 := by
      obtain ⟨A0, mu, _, _, Ia, back⟩ := I2.asideG (fun z => by cases z)
      exact (back _ _ _ _ ((Ia.wipe vs).wiped (S := S) (by rw [wipe_length, wipe_length]) fun k hk => by rw [wipe_ne hk, wipe_ne hk])).2
    exact k (.ref D) F2 H2 (wipeG G2 vs) (.fr (.ow (LLr K D qs acc))) (e1.trans e2) I3 (hd acc G2 j2 D qs)
end
end DL
/-! zip(text, tuple); list(zip(text, tuple)) -/
namespace DL
open PySem PySem.Spec PyProof.Rows L2
open PySem.Sem (wp)
section
variable {prog : Program} {w : World} {A : Around} {E : Value → Shared → Prop} {s : Shared}
theorem alive_ {a : Addr} {Q : Option Obj → Shared → Prop} (h : Q (s.heap.get? a) s) : wpAny (model prog w) A (loadIfAlive a) Q E s := fun Γ p hΓ => by
  unfold loadIfAlive
  rw [Sem.wp_loadIfAlive]
  exact h
/-- a zip, whatever its tuple is -/
abbrev IsZipA (h : Heap) (z TI TO : Addr) (old b : Value) : Prop := h.get? z = some { cls := .type "zip", dict := none, data := .fields #[old, b, .bool false, .ref TI, .ref TO], slots := #[] }
variable {z TI TO i1 i2 : Addr} {fp1 fp2 : List Addr} {n1 n2 i : Nat} {P1 P2 : Nat → Value → Prop} {St1 St2 : Nat → Heap → Prop} {a1 a2 : Value}
theorem free_no {b : Value} {a : Int} {ta : Tok} {ob : Obj} {Q : Bool → Shared → Prop} (hz : IsZipA s.heap z TI TO (.int a ta) b) (hal : s.heap.get? a.toNat = some ob)
    (h : ∀ h0, IsZipA h0 z TI TO (.int a ta) (.bool true) → Heap.SameBut z s.heap h0 → Q false { s with heap := h0 }) : wpAny (model prog w) A (Builtin.SmallTypes.ownedTupleIsFree (.ref z)) Q E s := by
  unfold Builtin.SmallTypes.ownedTupleIsFree
  refine wpAny_bind (wpAny_field hz rfl (x := .int a ta) rfl ?_)
  refine wpAny_bind (alive_ ?_)
  rw [hal, if_neg (by simp)]
  refine wpAny_bind (wpAny_field hz rfl (x := b) rfl ?_)
  by_cases hb : (b != Value.bool true) = true
  · rw [if_pos hb]
    refine wpAny_bind (wpAny_setField_rec hz (by simp) fun h0 hz0 hs0 => ?_)
    exact wpAny_pure (h h0 hz0 hs0)
  · rw [if_neg hb]
    have e : b = .bool true := by
      have : (b == Value.bool true) = true := by simpa [bne] using hb
      exact eq_of_beq this
    subst e
    exact wpAny_pure (h s.heap hz ⟨rfl, fun _ _ => rfl⟩)
theorem zipN_item {b : Value} {a : Int} {ta : Tok} {ob : Obj} {Q : Value → Shared → Prop} (S : ZipSep2 z TI TO i1 i2 fp1 fp2) (D1 : Draws prog w A i1 fp1 n1 P1 St1) (D2 : Draws prog w A i2 fp2 n2 P2 St2)
    (hz : IsZipA s.heap z TI TO (.int a ta) b) (hal : s.heap.get? a.toNat = some ob) (hTI : IsTupOf2 s.heap TI (.ref i1) (.ref i2)) (st1 : St1 i s.heap) (st2 : St2 i s.heap) (hlt1 : i < n1) (hlt2 : i < n2)
    (hQ : ∀ x1 x2 h' tk, P1 i x1 → P2 i x2 → IsZipA h' z TI TO (.int a ta) (.bool true) → St1 (i + 1) h' → St2 (i + 1) h' → IsTupOf2 h' s.heap.objs.size x1 x2 → h'.objs.size = s.heap.objs.size + 1 →
      (∀ c o, c ≠ z → c ≠ i1 → c ≠ i2 → s.heap.get? c = some o → h'.get? c = some o) → Q (.ref s.heap.objs.size) { s with heap := h', toks := tk }) :
    wpAny (model prog w) A (Builtin.«zip.__next__» ⟨[.ref z], []⟩) (fun fin s' => ∃ v, fin = .done (.ret v) ∧ Q v s') E s := by
  obtain ⟨hp, g, d, tk0, os⟩ := s
  show wpAny _ _ (field (.ref z) 2 >>= _) _ _ _
  refine wpAny_bind (wpAny_field hz rfl (x := .bool false) rfl ?_)
  show wpAny _ _ (field (.ref z) 3 >>= _) _ _ _
  refine wpAny_bind (wpAny_field hz rfl (x := .ref TI) rfl ?_)
  refine wpAny_bind (wpAny_seqItems hTI rfl ?_)
  show wpAny _ _ (Builtin.SmallTypes.ownedTupleIsFree (.ref z) >>= _) _ _ _
  refine wpAny_bind (free_no hz hal fun h0 hz0 hs0 => ?_)
  rw [if_neg (by decide)]
  show wpAny _ _ (forIn #[Value.ref i1, Value.ref i2] _ _ >>= _) _ _ _
  refine wpAny_bind ?_
  rw [← Array.forIn_toList]
  simp only [List.forIn_cons, List.forIn_nil]
  refine wpAny_bind (wpAny_bind (wpAny_holding ?_))
  show wpAny _ _ (Builtin.SmallTypes.nextOf (.ref i1) >>= _) _ _ ⟨h0, g, d, tk0, os⟩
  refine wpAny_bind (D1.item i _ _ _ hlt1 (D1.over st1 hs0 S.zf1) fun x1 p1 tk1 hx1 sn1 hp1 => wpAny_pure ?_)
  replace hp1 : Heap.SameBut i1 h0 p1 := hp1
  refine wpAny_pure ?_
  refine wpAny_bind (wpAny_bind (wpAny_holding ?_))
  show wpAny _ _ (Builtin.SmallTypes.nextOf (.ref i2) >>= _) _ _ ⟨p1, g, d, tk1, os⟩
  refine wpAny_bind (D2.item i _ _ _ hlt2 (D2.over (D2.over st2 hs0 S.zf2) hp1 S.sep1_2) fun x2 p2 tk2 hx2 sn2 hp2 => wpAny_pure ?_)
  replace hp2 : Heap.SameBut i2 p1 p2 := hp2
  refine wpAny_pure (wpAny_pure ?_)
  refine wpAny_bind (wpAny_newTuple (hsz := by show 2 ≤ sizeLine; decide) ?_)
  have hsz : p2.objs.size = hp.objs.size := by rw [hp2.1, hp1.1, hs0.1]
  refine wpAny_pure ⟨_, rfl, ?_⟩
  show Q (.ref p2.objs.size) ⟨p2.push { cls := .type "tuple", data := .seq #[x1, x2] }, g, d, tk2, os⟩
  have up : ∀ c o, p2.get? c = some o → (p2.push { cls := .type "tuple", data := .seq #[x1, x2] }).get? c = some o := fun c o e => Heap.get?_push_of_some _ e
  have hk : ∀ c o, c ≠ z → c ≠ i1 → c ≠ i2 → hp.get? c = some o → p2.get? c = some o := fun c o cz c1 c2 e => hp2.extBut _ _ c2 (hp1.extBut _ _ c1 (hs0.extBut _ _ cz e))
  have hT : IsTupOf2 (p2.push { cls := .type "tuple", data := .seq #[x1, x2] }) hp.objs.size x1 x2 := by
    rw [← hsz]
    exact Heap.get?_push_size _ rfl
  have hzz := up _ _ (hp2.extBut _ _ S.zi2 (hp1.extBut _ _ S.zi1 hz0))
  rw [hsz]
  exact hQ x1 x2 _ tk2 hx1 hx2 hzz (D1.frame _ _ _ (D1.over sn1 hp2 S.sep2_1) fun b _ o e => up b o e) (D2.frame _ _ _ sn2 fun b _ o e => up b o e) hT (by rw [Heap.size_push, hsz]) fun c o cz c1 c2 e => up c o (hk c o cz c1 c2 e)
theorem zipN_end {b : Value} {a : Int} {ta : Tok} {ob : Obj} {Q : PySem.Fin → Shared → Prop} (S : ZipSep2 z TI TO i1 i2 fp1 fp2) (D1 : Draws prog w A i1 fp1 n1 P1 St1) (D2 : Draws prog w A i2 fp2 n2 P2 St2)
    (hz : IsZipA s.heap z TI TO (.int a ta) b) (hal : s.heap.get? a.toNat = some ob) (hTI : IsTupOf2 s.heap TI (.ref i1) (.ref i2)) (st1 : St1 i s.heap) (st2 : St2 i s.heap) (hle1 : i ≤ n1) (hle2 : i ≤ n2) (hend : i = n1 ∨ i = n2)
    (hE : ∀ h' tk e, (∀ c o, c ≠ z → c ≠ TO → c ≠ i1 → c ≠ i2 → s.heap.get? c = some o → h'.get? c = some o) → (∃ o, h'.get? e = some o ∧ o.cls = .type "StopIteration") → E (.ref e) { s with heap := h', toks := tk }) :
    wpAny (model prog w) A (Builtin.«zip.__next__» ⟨[.ref z], []⟩) Q E s := by
  obtain ⟨hp, g, d, tk0, os⟩ := s
  show wpAny _ _ (field (.ref z) 2 >>= _) _ _ _
  refine wpAny_bind (wpAny_field hz rfl (x := .bool false) rfl ?_)
  show wpAny _ _ (field (.ref z) 3 >>= _) _ _ _
  refine wpAny_bind (wpAny_field hz rfl (x := .ref TI) rfl ?_)
  refine wpAny_bind (wpAny_seqItems hTI rfl ?_)
  show wpAny _ _ (Builtin.SmallTypes.ownedTupleIsFree (.ref z) >>= _) _ _ _
  refine wpAny_bind (free_no hz hal fun h0 hz0 hs0 => ?_)
  rw [if_neg (by decide)]
  show wpAny _ _ (forIn #[Value.ref i1, Value.ref i2] _ _ >>= _) _ _ _
  refine wpAny_bind ?_
  rw [← Array.forIn_toList]
  simp only [List.forIn_cons, List.forIn_nil]
  refine wpAny_bind (wpAny_bind (wpAny_holding ?_))
  show wpAny _ _ (Builtin.SmallTypes.nextOf (.ref i1) >>= _) _ _ ⟨h0, g, d, tk0, os⟩
  by_cases hlt1 : i < n1
  · refine wpAny_bind (D1.item i _ _ _ hlt1 (D1.over st1 hs0 S.zf1) fun x1 p1 tk1 hx1 sn1 hp1 => wpAny_pure ?_)
    replace hp1 : Heap.SameBut i1 h0 p1 := hp1
    refine wpAny_pure ?_
    have hi2 : i = n2 := by omega
    refine wpAny_bind (wpAny_bind (wpAny_holding ?_))
    show wpAny _ _ (Builtin.SmallTypes.nextOf (.ref i2) >>= _) _ _ ⟨p1, g, d, tk1, os⟩
    refine wpAny_bind (D2.done ⟨p1, g, d, tk1, os⟩ _ _ (by rw [← hi2]; exact (D2.over (D2.over st2 hs0 S.zf2) hp1 S.sep1_2)) fun q e hq he => ?_)
    replace hq : Heap.ExtBut i2 p1 q := hq
    exact hE q tk1 e (fun c o cz _ c1 c2 x => hq _ _ c2 (hp1.extBut _ _ c1 (hs0.extBut _ _ cz x))) he
  · have hi1 : i = n1 := by omega
    refine wpAny_bind (D1.done ⟨h0, g, d, tk0, os⟩ _ _ (by rw [← hi1]; exact (D1.over st1 hs0 S.zf1)) fun q e hq he => ?_)
    replace hq : Heap.ExtBut i1 h0 q := hq
    exact hE q tk0 e (fun c o cz _ c1 c2 x => hq _ _ c1 (hs0.extBut _ _ cz x)) he
end
section
variable {prog : Program} {w : World} {A : Around} {E : Value → Shared → Prop} {s : Shared} {z TI TO i1 i2 : Addr} {fp1 fp2 : List Addr} {n1 n2 i : Nat} {P1 P2 : Nat → Value → Prop} {St1 St2 : Nat → Heap → Prop}
/-- a zip that list() walks -/
structure ZL (z TI TO i1 i2 : Addr) (St1 St2 : Nat → Heap → Prop) (i : Nat) (h : Heap) : Prop where
  zz : IsZip h z TI TO .none ∨ ∃ (a : Int) (ta : Tok) (b : Value) (ob : Obj), IsZipA h z TI TO (.int a ta) b ∧ h.get? a.toNat = some ob ∧ a.toNat ≠ z ∧ a.toNat ≠ TO ∧ a.toNat ≠ i1 ∧ a.toNat ≠ i2
  ti : IsTupOf2 h TI (.ref i1) (.ref i2)
  to : ∃ a1 a2, IsTupOf2 h TO a1 a2
  s1 : St1 i h
  s2 : St2 i h
theorem zl_item {Q : Option Value → Shared → Prop} (S : ZipSep2 z TI TO i1 i2 fp1 fp2) (D1 : Draws prog w A.in1 i1 fp1 n1 P1 St1) (D2 : Draws prog w A.in1 i2 fp2 n2 P2 St2)
    (L : ZL z TI TO i1 i2 St1 St2 i s.heap) (hlt1 : i < n1) (hlt2 : i < n2)
    (hQ : ∀ x1 x2 h' tk, P1 i x1 → P2 i x2 → ZL z TI TO i1 i2 St1 St2 (i + 1) h' → IsTupOf2 h' s.heap.objs.size x1 x2 → h'.objs.size = s.heap.objs.size + 1 →
      (∀ c o, c ≠ z → c ≠ TO → c ≠ i1 → c ≠ i2 → s.heap.get? c = some o → h'.get? c = some o) → Q (some (.ref s.heap.objs.size)) { s with heap := h', toks := tk }) :
    wpAny (model prog w) A (pyNext (.ref z)) Q E s := by
  obtain ⟨zz, ti, ⟨a1, a2, to⟩, s1, s2⟩ := L
  rcases zz with hz | ⟨a, ta, b, ob, hz, hal, n1', n2', n3', n4'⟩
  · have lt : ∀ {c o}, s.heap.get? c = some o → s.heap.objs.size ≠ c := fun e => Nat.ne_of_gt (Heap.lt_size e)
    have l1 : s.heap.objs.size ≠ i1 := by obtain ⟨_, e⟩ := D1.live _ _ s1; exact lt e
    have l2 : s.heap.objs.size ≠ i2 := by obtain ⟨_, e⟩ := D2.live _ _ s2; exact lt e
    refine wpAny_pyNext_zipD2_item S D1 D2 hz ti to s1 s2 hlt1 hlt2 fun x1 x2 h' tk y1 y2 b1 b2 d1 d2 b5 b6 b7 => ?_
    refine hQ x1 x2 h' tk y1 y2 ⟨.inr ⟨_, _, _, _, b1, b5, lt hz, lt to, l1, l2⟩, b7 _ _ S.TIz S.TITO S.TIi1 S.TIi2 ti, ⟨_, _, b2⟩, d1, d2⟩ b5 b6 b7
  · have hT : s.TypeIs (.ref z) "zip" := ⟨_, hz, rfl⟩
    unfold pyNext
    exact wpAny_bind (wpAny_attempt (wpAny_callSpecial?_slot (name := Str.ofString "__next__") hT F.slot_zip_next
      (wpAny_call_entry F.slot_zip_next hT F.entry_zip_next
        (zipN_item S D1 D2 hz hal ti s1 s2 hlt1 hlt2 fun x1 x2 h' tk y1 y2 b1 d1 d2 b5 b6 b7 => wpAny_pure (hQ x1 x2 h' tk y1 y2 ⟨.inr ⟨a, ta, _, ob, b1, b7 _ _ n1' n3' n4' hal, n1', n2', n3', n4'⟩, b7 _ _ S.TIz S.TIi1 S.TIi2 ti, ⟨_, _, b7 _ _ S.TOz S.Ti1 S.Ti2 to⟩, d1, d2⟩ b5 b6 fun c o cz _ c1 c2 x => b7 c o cz c1 c2 x)) (F.args_zip_next_1 _))))
theorem zl_end {Q : Option Value → Shared → Prop} (S : ZipSep2 z TI TO i1 i2 fp1 fp2) (D1 : Draws prog w A.in1 i1 fp1 n1 P1 St1) (D2 : Draws prog w A.in1 i2 fp2 n2 P2 St2)
    (L : ZL z TI TO i1 i2 St1 St2 i s.heap) (hle1 : i ≤ n1) (hle2 : i ≤ n2) (hend : i = n1 ∨ i = n2)
    (hQ : ∀ h' tk, (∀ c o, c ≠ z → c ≠ TO → c ≠ i1 → c ≠ i2 → s.heap.get? c = some o → h'.get? c = some o) → Q none { s with heap := h', toks := tk }) :
    wpAny (model prog w) A (pyNext (.ref z)) Q E s := by
  obtain ⟨zz, ti, ⟨a1, a2, to⟩, s1, s2⟩ := L
  rcases zz with hz | ⟨a, ta, b, ob, hz, hal, n1', n2', n3', n4'⟩
  · exact wpAny_pyNext_zipD2_end S D1 D2 hz ti to s1 s2 hle1 hle2 hend hQ
  · have hT : s.TypeIs (.ref z) "zip" := ⟨_, hz, rfl⟩
    unfold pyNext
    refine wpAny_bind (wpAny_attempt (wpAny_callSpecial?_slot (name := Str.ofString "__next__") hT F.slot_zip_next
      (wpAny_call_entry F.slot_zip_next hT F.entry_zip_next (zipN_end S D1 D2 hz hal ti s1 s2 hle1 hle2 hend fun h' tk e hk he => ?_) (F.args_zip_next_1 _))))
    obtain ⟨o, ho, hc⟩ := he
    refine wpAny_bind (wpAny_isInstance (T := "StopIteration") (b := true) ⟨o, ho, hc⟩ isSubtype_stop ?_)
    exact wpAny_pure (hQ _ _ hk)
end
end DL
namespace DL
open PySem PySem.Spec PyProof.Rows L2
open PySem.Sem (wp)
section
variable {prog : Program} {w : World} {A : Around} {E : Value → Shared → Prop} {s : Shared} {z TI TO i1 i2 : Addr} {fp1 fp2 : List Addr} {n1 n2 n i : Nat} {P1 P2 : Nat → Value → Prop} {St1 St2 : Nat → Heap → Prop} {R : Result → Shared → Prop}
/-- the pairs that were made -/
def TsOk (P1 P2 : Nat → Value → Prop) (h : Heap) (Ts : List Addr) : Prop := ∀ j T, Ts[j]? = some T → ∃ x y, P1 j x ∧ P2 j y ∧ IsTupOf2 h T x y
theorem TsOk.kept {h h' : Heap} {Ts : List Addr} (t : TsOk P1 P2 h Ts) (k : ∀ T ∈ Ts, ∀ o, h.get? T = some o → h'.get? T = some o) : TsOk P1 P2 h' Ts := fun j T e => by
  obtain ⟨x, y, a, b, c⟩ := t j T e
  exact ⟨x, y, a, b, k T (List.mem_of_getElem? e) _ c⟩
theorem ZL.kept {h h' : Heap} (S : ZipSep2 z TI TO i1 i2 fp1 fp2) (D1 : Draws prog w A i1 fp1 n1 P1 St1) (D2 : Draws prog w A i2 fp2 n2 P2 St2) (L : ZL z TI TO i1 i2 St1 St2 i h) (k : ∀ c o, h.get? c = some o → h'.get? c = some o) : ZL z TI TO i1 i2 St1 St2 i h' := by
  obtain ⟨zz, ti, ⟨a1, a2, to⟩, s1, s2⟩ := L
  refine ⟨?_, k _ _ ti, ⟨a1, a2, k _ _ to⟩, D1.frame _ _ _ s1 fun b _ o e => k b o e, D2.frame _ _ _ s2 fun b _ o e => k b o e⟩
  rcases zz with hz | ⟨a, ta, b, ob, hz, hal, r⟩
  · exact .inl (k _ _ hz)
  · exact .inr ⟨a, ta, b, ob, k _ _ hz, k _ _ hal, r⟩
theorem ZL.upd {h h' : Heap} {l : Addr} (S : ZipSep2 z TI TO i1 i2 fp1 fp2) (D1 : Draws prog w A i1 fp1 n1 P1 St1) (D2 : Draws prog w A i2 fp2 n2 P2 St2) (L : ZL z TI TO i1 i2 St1 St2 i h) (hb : Heap.SameBut l h h') (lz : l ≠ z) (lI : l ≠ TI) (lO : l ≠ TO) (l1 : l ∉ fp1) (l2 : l ∉ fp2) (la : ∀ a o, h.get? a = some o → o.cls = .type "list" → True)
    (hl : ∃ xs c, h.get? l = some { cls := .type "list", dict := none, data := .seq xs c, slots := #[] }) (hl' : ∃ o, h'.get? l = some o) : ZL z TI TO i1 i2 St1 St2 i h' := by
  obtain ⟨zz, ti, ⟨a1, a2, to⟩, s1, s2⟩ := L
  refine ⟨?_, hb.extBut _ _ (Ne.symm lI) ti, ⟨a1, a2, hb.extBut _ _ (Ne.symm lO) to⟩, D1.frame _ _ _ s1 fun b hbb o e => hb.extBut _ _ (fun q => l1 (q ▸ hbb)) e, D2.frame _ _ _ s2 fun b hbb o e => hb.extBut _ _ (fun q => l2 (q ▸ hbb)) e⟩
  rcases zz with hz | ⟨a, ta, b, ob, hz, hal, r⟩
  · exact .inl (hb.extBut _ _ (Ne.symm lz) hz)
  · by_cases e : a.toNat = l
    · obtain ⟨o, ho⟩ := hl'
      exact .inr ⟨a, ta, b, o, hb.extBut _ _ (Ne.symm lz) hz, by rw [e]; exact ho, r⟩
    · exact .inr ⟨a, ta, b, ob, hb.extBut _ _ (Ne.symm lz) hz, hb.extBut _ _ e hal, r⟩
theorem zl_loop (S : ZipSep2 z TI TO i1 i2 fp1 fp2) (D1 : Draws prog w A.in1.in1 i1 fp1 n1 P1 St1) (D2 : Draws prog w A.in1.in1 i2 fp2 n2 P2 St2) (hn1 : n ≤ n1) (hn2 : n ≤ n2) (hend : n = n1 ∨ n = n2) (hn : n ≤ sizeLine) (l : Addr) (res : Value) (base : Nat)
    (lz : l ≠ z) (lI : l ≠ TI) (lO : l ≠ TO) (l1 : l ∉ fp1) (l2 : l ∉ fp2) (h0 : Heap) (hz0 : z < base) (hO0 : TO < base) (h10 : i1 < base) (h20 : i2 < base) (hl0 : l < base) :
    ∀ (k i : Nat) (s : Shared) (acc : Array Value) (c : Nat) (Ts : List Addr), n - i = k → i ≤ n → ZL z TI TO i1 i2 St1 St2 i s.heap → s.heap.get? l = some { cls := .type "list", dict := none, data := .seq acc c, slots := #[] } →
    acc.toList = Ts.map Value.ref → Ts.length = i → TsOk P1 P2 s.heap Ts → Ts.Nodup → (∀ T ∈ Ts, base ≤ T ∧ T < s.heap.objs.size) → base ≤ s.heap.objs.size → (∀ c o, c ≠ z → c ≠ TO → c ≠ i1 → c ≠ i2 → c ≠ l → h0.get? c = some o → s.heap.get? c = some o) →
    (∀ h' tk acc' c' Ts', h'.get? l = some { cls := .type "list", dict := none, data := .seq acc' c', slots := #[] } → acc'.toList = Ts'.map Value.ref → Ts'.length = n → TsOk P1 P2 h' Ts' → Ts'.Nodup → (∀ T ∈ Ts', base ≤ T) →
      (∀ c o, c ≠ z → c ≠ TO → c ≠ i1 → c ≠ i2 → c ≠ l → h0.get? c = some o → h'.get? c = some o) → R (.ok (.ret res)) { s with heap := h', toks := tk }) →
    codeAny (model prog w) A (.builtin "list.extend.loop" ⟨[.ref l, .ref z, res], []⟩) R s := by
  have hls : ∀ {c : Addr}, base ≤ c → c ≠ z ∧ c ≠ TO ∧ c ≠ i1 ∧ c ≠ i2 ∧ c ≠ l := fun h => ⟨Nat.ne_of_gt (Nat.lt_of_lt_of_le hz0 h), Nat.ne_of_gt (Nat.lt_of_lt_of_le hO0 h), Nat.ne_of_gt (Nat.lt_of_lt_of_le h10 h), Nat.ne_of_gt (Nat.lt_of_lt_of_le h20 h), Nat.ne_of_gt (Nat.lt_of_lt_of_le hl0 h)⟩
  have l1' : l ≠ i1 := fun e => l1 (e ▸ S.mem1)
  have l2' : l ≠ i2 := fun e => l2 (e ▸ S.mem2)
  intro k
  induction k with
  | zero =>
    intro i s acc c Ts hk hi L hS ha ht hT hnd hb hbs hkp hR
    have hin : i = n := by omega
    subst hin
    refine codeAny_builtin F.entry_extend_loop ?_
    rw [Around.under_plainId F.plain_extend_loop _]
    show wpAny _ A.in1 (pyNext (.ref z) >>= _) _ _ s
    refine wpAny_bind (zl_end S D1 D2 L hn1 hn2 hend fun h' tk hk' => ?_)
    refine wpAny_pure (hR h' tk acc c Ts (hk' l _ lz lO l1' l2' hS) ha ht (hT.kept fun T hT o e => ?_) hnd (fun T hT => (hb T hT).1) fun c o a b d e f g => hk' c o a b d e (hkp c o a b d e f g))
    obtain ⟨a, b, d, e', _⟩ := hls (hb T hT).1
    exact hk' T o a b d e' e
  | succ k ih =>
    intro i s acc c Ts hk hi L hS ha ht hT hnd hb hbs hkp hR
    have hlt : i < n := by omega
    refine codeAny_builtin F.entry_extend_loop ?_
    rw [Around.under_plainId F.plain_extend_loop _]
    show wpAny _ A.in1 (pyNext (.ref z) >>= _) _ _ s
    refine wpAny_bind (zl_item S D1 D2 L (by omega) (by omega) fun x1 x2 h' tk y1 y2 L' hT' hsz hk' => ?_)
    have hS' := hk' l _ lz lO l1' l2' hS
    show wpAny _ A.in1 (updateSeq l (·.push _) >>= _) _ _ _
    refine wpAny_bind ?_
    have hasz : acc.size = i := by
      rw [← Array.length_toList, ha, List.length_map, ht]
    refine wpAny_updateSeq hS' rfl (wpAny_pure ⟨plainId_quiet F.plain_extend_loop _, ?_⟩) (by rw [hasz]; omega) (by show (acc.push _).size ≤ sizeLine + 1; rw [Array.size_push, hasz]; omega)
    have sb : Heap.SameBut l h' (h'.update l (Obj.mapSeq (·.push (Value.ref s.heap.objs.size)))) := Heap.SameBut.update ..
    have hnew := Heap.get?_update_self (Obj.mapSeq (·.push (Value.ref s.heap.objs.size))) hS' rfl
    have hTl := hls hbs
    refine ih (i + 1) _ (acc.push (.ref s.heap.objs.size)) _ (Ts ++ [s.heap.objs.size]) (by omega) hlt (L'.upd S D1 D2 sb lz lI lO l1 l2 (fun _ _ _ _ => trivial) ⟨_, _, hS'⟩ ⟨_, hnew⟩) hnew ?_ ?_ (fun j T e => ?_) ?_ (fun T hTm => ?_) ?_ (fun c o a b d e f g => ?_) fun h'' tk' acc' c' Ts' a b d e f g k' => hR h'' tk' acc' c' Ts' a b d e f g k'
    · rw [Array.toList_push, ha, List.map_append]
      rfl
    · rw [List.length_append, ht]
      rfl
    · by_cases hj : j < Ts.length
      · rw [List.getElem?_append_left hj] at e
        obtain ⟨x, y, a, b, c⟩ := hT j T e
        obtain ⟨q1, q2, q3, q4, q5⟩ := hls (hb T (List.mem_of_getElem? e)).1
        exact ⟨x, y, a, b, sb.extBut _ _ q5 (hk' _ _ q1 q2 q3 q4 c)⟩
      · rw [List.getElem?_append_right (by omega)] at e
        have hj1 : j = Ts.length := by
          have := (List.getElem?_eq_some_iff.mp e).1
          simp at this
          omega
        subst hj1
        simp at e
        subst e
        rw [ht]
        exact ⟨x1, x2, y1, y2, sb.extBut _ _ hTl.2.2.2.2 hT'⟩
    · refine List.nodup_append.mpr ⟨hnd, by simp, fun a ha' b hb' e => ?_⟩
      rw [List.mem_singleton.mp hb'] at e
      have := (hb a ha').2
      rw [e] at this
      exact Nat.lt_irrefl _ this
    · show base ≤ T ∧ T < (h'.update l _).objs.size
      rw [sb.1, hsz]
      rcases List.mem_append.mp hTm with q | q
      · exact ⟨(hb T q).1, Nat.lt_succ_of_lt (hb T q).2⟩
      · rw [List.mem_singleton.mp q]
        exact ⟨hbs, Nat.lt_succ_self _⟩
    · show base ≤ (h'.update l _).objs.size
      rw [sb.1, hsz]
      exact Nat.le_succ_of_le hbs
    · exact sb.extBut _ _ f (hk' _ _ a b d e (hkp c o a b d e f g))
theorem zip_no_len : typeLookup (.type "zip") "__len__" = pure none := by rw [typeLookup_type, builtinLookup_eq_fast]; kernel_rfl
theorem zip_no_hint : typeLookup (.type "zip") "__length_hint__" = pure none := by rw [typeLookup_type, builtinLookup_eq_fast]; kernel_rfl
theorem ZL.ty (L : ZL z TI TO i1 i2 St1 St2 i s.heap) : s.TypeIs (.ref z) "zip" := by
  rcases L.zz with hz | ⟨a, ta, b, ob, hz, _⟩
  · exact ⟨_, hz, rfl⟩
  · exact ⟨_, hz, rfl⟩
theorem ZL.iter {Q : Value → Shared → Prop} (L : ZL z TI TO i1 i2 St1 St2 i s.heap) (h : Q (.ref z) s) : wpAny (model prog w) A (pyIter (.ref z)) Q E s := by
  have hT := L.ty
  refine wpAny_pyIter_slot hT F.slot_zip_iter (wpAny_call_entry F.slot_zip_iter hT F.entry_zip_iter ?_ (F.args_zip_iter_1 _))
  show wpAny _ _ (ret (.ref z)) _ _ s
  exact wpAny_pure ⟨_, rfl, "zip", _, hT, F.slot_zip_next.lookup, h⟩
theorem list_of_zip {Q : Value → Shared → Prop} (S : ZipSep2 z TI TO i1 i2 fp1 fp2) (D1 : Draws prog w A.in1.in1.in1 i1 fp1 n1 P1 St1) (D2 : Draws prog w A.in1.in1.in1 i2 fp2 n2 P2 St2) (hn1 : n ≤ n1) (hn2 : n ≤ n2) (hend : n = n1 ∨ n = n2) (hn : n ≤ sizeLine)
    (L : ZL z TI TO i1 i2 St1 St2 0 s.heap) (hf : ∀ b, b ∈ z :: TI :: TO :: (fp1 ++ fp2) → b < s.heap.objs.size)
    (hQ : ∀ h' tk acc' c' Ts', h'.get? s.heap.objs.size = some { cls := .type "list", dict := none, data := .seq acc' c', slots := #[] } → acc'.toList = Ts'.map Value.ref → Ts'.length = n → TsOk P1 P2 h' Ts' → Ts'.Nodup → (∀ T ∈ Ts', s.heap.objs.size < T) →
      (∀ c o, c ≠ z → c ≠ TO → c ≠ i1 → c ≠ i2 → s.heap.get? c = some o → h'.get? c = some o) → Q (.ref s.heap.objs.size) { s with heap := h', toks := tk }) :
    wpAny (model prog w) A (call (.type "list") [.ref z]) Q E s := by
  have lt : ∀ b, b ∈ z :: TI :: TO :: (fp1 ++ fp2) → s.heap.objs.size ≠ b := fun b hb => Nat.ne_of_gt (hf b hb)
  have lz := lt z (by simp)
  have lI := lt TI (by simp)
  have lO := lt TO (by simp)
  have l1 : s.heap.objs.size ∉ fp1 := fun h => lt _ (by simp [h]) rfl
  have l2 : s.heap.objs.size ∉ fp2 := fun h => lt _ (by simp [h]) rfl
  refine callType_codes (Q₁ := fun obj s₁ => obj = .ref s.heap.objs.size ∧ s₁ = { s with heap := s.heap.push { cls := .type "list", data := .seq #[] } }) F.called_list (F.typeCall_list_1 _) F.entry_list_init
    (code_list_new _ ⟨rfl, rfl⟩) fun obj s₁ h₁ => ?_
  obtain ⟨rfl, rfl⟩ := h₁
  have hS : (s.heap.push { cls := .type "list", data := .seq #[] }).get? s.heap.objs.size = some { cls := .type "list", data := .seq #[] } := Heap.get?_push_size _ rfl
  refine ⟨⟨_, hS, rfl⟩, F.args_list_init_2 _ _, ?_⟩
  have L0 : ZL z TI TO i1 i2 St1 St2 0 (s.heap.push { cls := .type "list", data := .seq #[] }) := L.kept S D1 D2 fun c o e => Heap.get?_push_of_some _ e
  have hsz0 : (s.heap.push { cls := .type "list", data := .seq #[] }).objs.size = s.heap.objs.size + 1 := Heap.size_push ..
  generalize hl : s.heap.objs.size = l at *
  generalize hh : s.heap.push { cls := .type "list", data := .seq #[] } = h0 at *
  have k0 : ∀ c o, s.heap.get? c = some o → h0.get? c = some o := fun c o e => by
    rw [← hh]
    exact Heap.get?_push_of_some _ e
  show wpAny _ A.in1.in1 (do let old ← Builtin.List.listItems (.ref l); Builtin.List.listUpdate (.ref l) (fun _ => #[]); letGo old.toList.reverse; Builtin.List.listExtendWith (.ref l) (.ref z) .none) _ _ { s with heap := h0 }
  refine wpAny_bind ?_
  unfold Builtin.List.listItems
  refine wpAny_bind (wpAny_seqItems hS rfl (wpAny_pure ?_))
  show wpAny _ A.in1.in1 (updateSeq l (fun _ => #[]) >>= fun _ => letGo (#[] : Array Value).toList.reverse >>= fun _ => Builtin.List.listExtendWith (.ref l) (.ref z) .none) _ _ { s with heap := h0 }
  refine wpAny_bind (wpAny_updateSeq hS rfl ?_)
  have hS₂ := Heap.get?_update_self (Obj.mapSeq (fun _ => (#[] : Array Value))) hS rfl
  have sb1 : Heap.SameBut l h0 (h0.update l (Obj.mapSeq (fun _ => (#[] : Array Value)))) := Heap.SameBut.update ..
  have L1 := L0.upd S D1 D2 sb1 lz lI lO l1 l2 (fun _ _ _ _ => trivial) ⟨_, _, hS⟩ ⟨_, hS₂⟩
  generalize h0.update l (Obj.mapSeq (fun _ => (#[] : Array Value))) = hA at *
  refine wpAny_bind (wpAny_letGo ?_)
  unfold Builtin.List.listExtendWith
  have hT : Shared.TypeIs { s with heap := hA } (.ref z) "zip" := L1.ty
  refine wpAny_bind (wpAny_typeOf hT ?_)
  have e1 : Builtin.List.listSameRef (.ref l) (.ref z) = false := by simp [Builtin.List.listSameRef, lz]
  have e2 : (Value.type "zip" == Value.type "list") = false := by decide
  have e3 : (Value.type "zip" == Value.type "tuple") = false := by decide
  simp only [e1, e2, e3, Bool.or_false, Bool.false_eq_true, if_false]
  refine wpAny_bind (ZL.iter (s := { s with heap := hA }) L1 ?_)
  refine wpAny_bind (wpAny_holding ?_)
  unfold Builtin.List.listLengthHint
  refine wpAny_bind (wpAny_specialOf hT zip_no_len ?_)
  show wpAny _ A.in1.in1 (specialOf (Value.ref z) (Str.ofString "__length_hint__") >>= _) _ _ _
  refine wpAny_bind (wpAny_specialOf hT zip_no_hint ?_)
  refine wpAny_pure ?_
  show wpAny _ A.in1.in1 (rule "list.extend.makes-room" >>= fun _ => Builtin.List.listTouch (.ref l) >>= fun _ =>
    again (.builtin "list.extend.loop" ⟨[.ref l, .ref z, .none], []⟩)) _ _ _
  refine wpAny_bind (wpAny_rule ?_)
  refine wpAny_bind ?_
  show wpAny _ A.in1.in1 (updateSeq l (·.push .none) >>= fun _ => updateSeq l (·.pop)) _ _ _
  refine wpAny_bind (wpAny_updateSeq hS₂ rfl ?_)
  have hS₃ := Heap.get?_update_self (Obj.mapSeq (·.push Value.none)) hS₂ rfl
  have sb2 : Heap.SameBut l hA (hA.update l (Obj.mapSeq (·.push Value.none))) := Heap.SameBut.update ..
  have L2 := L1.upd S D1 D2 sb2 lz lI lO l1 l2 (fun _ _ _ _ => trivial) ⟨_, _, hS₂⟩ ⟨_, hS₃⟩
  generalize hA.update l (Obj.mapSeq (·.push Value.none)) = hB at *
  refine wpAny_updateSeq (hz := by seq_fits) hS₃ rfl ?_
  have hS₄ := Heap.get?_update_self (Obj.mapSeq (·.pop)) hS₃ rfl
  have sb3 : Heap.SameBut l hB (hB.update l (Obj.mapSeq (·.pop))) := Heap.SameBut.update ..
  have L3 := L2.upd S D1 D2 sb3 lz lI lO l1 l2 (fun _ _ _ _ => trivial) ⟨_, _, hS₃⟩ ⟨_, hS₄⟩
  generalize hB.update l (Obj.mapSeq (·.pop)) = hC at *
  have hszC : hC.objs.size = l + 1 := by rw [sb3.1, sb2.1, sb1.1]; exact hsz0
  have kC : ∀ c o, c ≠ l → h0.get? c = some o → hC.get? c = some o := fun c o e x => sb3.extBut _ _ e (sb2.extBut _ _ e (sb1.extBut _ _ e x))
  refine wpAny_pure ⟨plainId_quiet F.plain_extend_loop _, zl_loop S D1 D2 hn1 hn2 hend hn l .none (l + 1) lz lI lO l1 l2 h0 ?_ ?_ ?_ ?_ ?_ n 0 { s with heap := hC } #[] _ [] rfl (Nat.zero_le _) L3 hS₄ rfl rfl (fun j T e => by simp at e) .nil (fun T h => nomatch h) (by show l + 1 ≤ hC.objs.size; rw [hszC]; exact Nat.le_refl _) (fun c o _ _ _ _ e x => kC c o e x) fun h' tk acc' c' Ts' a1 a2 a3 a4 a5 a6 a7 => ?_⟩
  · exact Nat.lt_succ_of_lt (hf z (by simp))
  · exact Nat.lt_succ_of_lt (hf TO (by simp))
  · exact Nat.lt_succ_of_lt (hf i1 (by simp [S.mem1]))
  · exact Nat.lt_succ_of_lt (hf i2 (by simp [S.mem2]))
  · exact Nat.lt_succ_self _
  · refine ⟨rfl, hQ h' tk acc' c' Ts' a1 a2 a3 a4 a5 a6 fun c o b1 b2 b3 b4 e => a7 c o b1 b2 b3 b4 (fun q => ?_) (k0 c o e)⟩
    have := Heap.lt_size e
    rw [hl, q] at this
    exact Nat.lt_irrefl _ this
end
end DL
namespace DL
open PySem PySem.Spec PyProof.Rows L2
open PySem.Sem (wp)
/-- pairs laid at Ts -/
def addT (H : Hp) : List Addr → List (Nat × V) → Hp
  | T :: Ts, (c, y) :: r => addT (upd H T (.tup [.str ⟨#[c]⟩, y])) Ts r
  | _, _ => H
section
variable {X : Cx} {pins : List (Addr × Obj)} {σ : L2.St} {s : Shared}
theorem addT_inv {h' : Heap} : ∀ {Ts : List Addr} {zs : List (Nat × V)} {H : Hp} {G : Heap}, Inv X pins σ H { s with heap := G } → (∀ b o, G.get? b = some o → h'.get? b = some o) → Ts.Nodup → Ts.length = zs.length → (∀ T ∈ Ts, G.get? T = none ∧ H T = none) →
    (∀ (j : Nat) (T : Addr) (z : Nat × V), Ts[j]? = some T → zs[j]? = some z → ∃ t u, RelV z.2 u ∧ IsTupOf2 h' T (.str ⟨#[z.1]⟩ t) u) →
    ∃ G' : Heap, Inv X pins σ (addT H Ts zs) { s with heap := G' } ∧ (∀ b o, G'.get? b = some o → h'.get? b = some o) ∧ (∀ b, b ∉ Ts → (G.get? b = none → G'.get? b = none) ∧ addT H Ts zs b = H b)
  | [], [], H, G, I, k, _, _, _, _ => ⟨G, I, k, fun b _ => ⟨id, rfl⟩⟩
  | T :: Ts, (c, y) :: zs, H, G, I, k, hn, hl, hf, hv => by
    obtain ⟨t, u, ru, hT⟩ := hv 0 T (c, y) rfl rfl
    obtain ⟨f1, f2⟩ := hf T List.mem_cons_self
    classical
    obtain ⟨G1, g1, g2⟩ := restrict h' fun b => decide ((∃ o, G.get? b = some o) ∨ b = T)
    have k1 : ∀ b o, G.get? b = some o → G1.get? b = some o := fun b o e => by
      rw [g1 b (decide_eq_true (.inl ⟨o, e⟩))]
      exact k b o e
    have kT : IsTupOf2 G1 T (.str ⟨#[c]⟩ t) u := by
      show G1.get? T = _
      rw [g1 T (decide_eq_true (.inr rfl))]
      exact hT
    have k2 : ∀ b o, G1.get? b = some o → h'.get? b = some o := fun b o e => by
      by_cases q : (∃ o, G.get? b = some o) ∨ b = T
      · rw [g1 b (decide_eq_true q)] at e
        exact e
      · rw [g2 b (decide_eq_false q)] at e
        cases e
    have I1 : Inv X pins σ (upd H T (.tup [.str ⟨#[c]⟩, y])) { s with heap := G1 } :=
      Inv.laidN (s := { s with heap := G }) (t' := s.toks) I k1 f1 f2 ⟨by show 2 ≤ sizeLine; decide, [.str ⟨#[c]⟩ t, u], .cons ⟨t, rfl⟩ (.cons ru .nil), ⟨_, kT, rfl, _, rfl⟩⟩
    have hn' := List.nodup_cons.mp hn
    have nT : ∀ T' ∈ Ts, T' ≠ T := fun T' h e => hn'.1 (e ▸ h)
    have hfr : ∀ T' ∈ Ts, G1.get? T' = none ∧ upd H T (.tup [.str ⟨#[c]⟩, y]) T' = none := fun T' h => by
      refine ⟨g2 T' (decide_eq_false fun z => ?_), ?_⟩
      · rcases z with ⟨o, z⟩ | z
        · rw [(hf T' (List.mem_cons_of_mem _ h)).1] at z
          cases z
        · exact nT T' h z
      · rw [upd_ne (nT T' h)]
        exact (hf T' (List.mem_cons_of_mem _ h)).2
    obtain ⟨G', a, b, d⟩ := addT_inv I1 k2 hn'.2 (by simpa using hl) hfr fun j T' z e1 e2 => hv (j + 1) T' z (by simpa using e1) (by simpa using e2)
    refine ⟨G', a, b, fun q hq => ?_⟩
    have q1 : q ≠ T := fun e => hq (by simp [e])
    have q2 : q ∉ Ts := fun e => hq (List.mem_cons_of_mem _ e)
    obtain ⟨d1, d2⟩ := d q q2
    refine ⟨fun e => d1 (g2 q (decide_eq_false fun z => ?_)), ?_⟩
    · rcases z with ⟨o, z⟩ | z
      · rw [e] at z
        cases z
      · exact q1 z
    · show addT (upd H T (.tup [.str ⟨#[c]⟩, y])) Ts zs q = H q
      rw [d2, upd_ne q1]
  | [], _ :: _, _, _, _, _, _, hl, _, _ => by cases hl
  | _ :: _, [], _, _, _, _, _, hl, _, _ => by cases hl
theorem vals_refs : ∀ Ts : List Addr, Vals (Ts.map V.ref) (Ts.map Value.ref)
  | [] => .nil
  | _ :: Ts => .cons rfl (vals_refs Ts)
theorem lt5 (m b q : Nat) (hb : b < m) (h : q = m + 4 ∨ q = m + 2 ∨ q = m + 3 ∨ q = m ∨ q = m + 1 ∨ q = b) : q < m + 5 := by omega
theorem ne4 (m q : Nat) (h : q < m) : q ≠ m + 4 ∧ q ≠ m + 3 ∧ q ≠ m ∧ q ≠ m + 1 := by omega
theorem sepN (m b : Nat) (h : b < m) : ZipSep2 (m + 4) (m + 2) (m + 3) m (m + 1) [m] [m + 1, b] where
  TIz := Nat.ne_of_lt (by omega : m + 2 < m + 4)
  TOz := Nat.ne_of_lt (by omega : m + 3 < m + 4)
  TITO := Nat.ne_of_lt (by omega : m + 2 < m + 3)
  TIi1 := Nat.ne_of_gt (by omega : m < m + 2)
  mem1 := by simp
  zf1 := fun e => Nat.ne_of_gt (by omega : m < m + 4) (List.mem_singleton.mp e)
  Tf1 := fun e => Nat.ne_of_gt (by omega : m < m + 3) (List.mem_singleton.mp e)
  TIi2 := Nat.ne_of_gt (by omega : m + 1 < m + 2)
  mem2 := by simp
  zf2 := fun e => by
    rcases List.mem_cons.mp e with e | e
    · exact Nat.ne_of_gt (by omega : m + 1 < m + 4) e
    · exact Nat.ne_of_gt (by omega : b < m + 4) (List.mem_singleton.mp e)
  Tf2 := fun e => by
    rcases List.mem_cons.mp e with e | e
    · exact Nat.ne_of_gt (by omega : m + 1 < m + 3) e
    · exact Nat.ne_of_gt (by omega : b < m + 3) (List.mem_singleton.mp e)
  sep1_2 := fun e => by
    rcases List.mem_cons.mp e with e | e
    · exact Nat.ne_of_lt (by omega : m < m + 1) e
    · exact Nat.ne_of_gt (by omega : b < m) (List.mem_singleton.mp e)
  sep2_1 := fun e => Nat.ne_of_gt (by omega : m < m + 1) (List.mem_singleton.mp e)
def tListZip (K : PySem.W.Frag) (ta : TA) : TE := fun σ H Q => ta σ H fun vs H1 => ∃ (x : Str) (b : Addr) (ys : List V), vs = [.str x, .ref b] ∧ SqT K H1 b ys ∧ ys.length ≤ sizeLine ∧
  ∀ (L : Addr) (Ts : List Addr), Ts.length = (x.cps.toList.zip ys).length → Ts.Nodup → (∀ T ∈ Ts, H1 T = none) → L ∉ Ts → H1 L = none → Q (.ref L) (upd (addT H1 Ts (x.cps.toList.zip ys)) L (.lst (Ts.map .ref)))
theorem pe_listZip {e e2 : Expr} {ta : TA} {p0 p pos pos2 : Pos} (hc : X.calm = true) (hgl : Gl X "list") (hml : X.mg "list" = none) (hg : Gl X "zip") (hm : X.mg "zip" = none) (ha : PA X [e, e2] ta)
    (hs1 : starEach [.Call (.Name "zip" p) [e, e2] [] pos2] X.env = (false, eval (.Call (.Name "zip" p) [e, e2] [] pos2) X.env) :: starEach [] X.env := by rfl)
    (hp1 : (backTo pos (starEach [] X.env)).any (·.1) = false := by rfl) (hs : starEach [e, e2] X.env = (false, eval e X.env) :: starEach [e2] X.env := by rfl) (hpl : (backTo pos2 (starEach [e2] X.env)).any (·.1) = false := by rfl) :
    PE X (.Call (.Name "list" p0) [.Call (.Name "zip" p) [e, e2] [] pos2] [] pos) (tListZip X.K ta) := by
  refine ⟨fun pins s σ H Q I h => ?_⟩
  refine wpAny_Call_Name_kw (ld_blt I hgl hml boot_list ?_)
  refine PyProof.Rows.callWith_type1 ?_ hs1 hp1
  rw [hs1]
  show wpAny _ _ (spliced ((false, eval (.Call (.Name "zip" p) [e, e2] [] pos2) X.env) :: backTo pos (starEach [] X.env))) _ _ s
  refine Calls.spliced_cons ?_
  refine wpAny_Call_Name_kw (ld_blt I hg hm boot_zip ?_)
  refine PyProof.Rows.callWith_type1 (thn (ha.run pos2 pins s σ H _ I h) fun us s1 ⟨vs, H1, I1, r1, q1⟩ => ?_) hs hpl
  obtain ⟨x, b, ys, ex, hqy, hz, q1⟩ := q1
  subst ex
  cases r1 with
  | cons r rr =>
    cases rr with
    | cons r' rr =>
      cases rr
      obtain ⟨tk0, rfl⟩ := r
      cases r'
      obtain ⟨its, rv, p1, _⟩ := I1.tuple hqy
      have hb : b < s1.heap.objs.size := by
        obtain ⟨o, ho, _⟩ := p1
        exact Heap.lt_size ho
      refine zip_begins2 (begins_text x tk0) (begins_tuple b its.toArray) trivial p1 fun h' hZ hTI hTO h1 h2 hsz hk => ?_
      refine Calls.spliced_nil ?_
      have hlen : its.length = ys.length := rv.length.symm
      have hh : X.A.in1.in1.in1.handled = none := I1.ok.hd hc
      have S := sepN s1.heap.objs.size b hb
      have hxs : x.cps.toList.length = x.cps.size := Array.length_toList
      have hI : Heap.IsStrIter h' s1.heap.objs.size (strIterType x) x tk0 0 := ⟨_, h1, rfl, rfl⟩
      have hT2 : Heap.IsTupleIter h' (s1.heap.objs.size + 1) b 0 := ⟨_, h2, rfl, rfl⟩
      have p2 : Heap.IsTuple h' b its.toArray := let ⟨o, ho, r⟩ := p1; ⟨o, hk b o ho, r⟩
      have nb : (b : Addr) ≠ (s1.heap.objs.size + 1 : Nat) := Nat.ne_of_lt (Nat.lt_succ_of_lt hb)
      refine list_of_zip (s := { s1 with heap := h' }) (n := min x.cps.size its.toArray.size) S (.text hh _ x tk0) (.tuple hh _ b nb its.toArray) (Nat.min_le_left _ _) (Nat.min_le_right _ _) (by omega) ?_ ⟨.inl hZ, hTI, ⟨_, _, hTO⟩, hI, hT2, p2⟩ (fun c hcm => ?_) fun hF tk acc c Ts a1 a2 a3 a4 a5 a6 a7 => ?_
      · have : its.toArray.size = ys.length := by simp [hlen]
        omega
      · show c < h'.objs.size
        rw [hsz]
        exact lt5 s1.heap.objs.size b c hb (by simpa using hcm)
      · have kF : ∀ q o, s1.heap.get? q = some o → hF.get? q = some o := fun q o e => by
          obtain ⟨b1, b2, b3, b4⟩ := ne4 s1.heap.objs.size q (Heap.lt_size e)
          exact a7 q o b1 b2 b3 b4 (hk q o e)
        have hTs : ∀ T ∈ Ts, s1.heap.objs.size ≤ T := fun T hT => by
          have := a6 T hT
          have this : h'.objs.size < T := this
          rw [hsz] at this
          exact Nat.le_of_lt (Nat.lt_of_le_of_lt (Nat.le_add_right _ _) this)
        have fr : ∀ q : Addr, s1.heap.objs.size ≤ q → s1.heap.get? q = none := fun q hq => by
          cases e : s1.heap.get? q with
          | none => rfl
          | some o => exact absurd (Heap.lt_size e) (Nat.not_lt.mpr hq)
        have hzl : Ts.length = (x.cps.toList.zip ys).length := by
          rw [a3, List.length_zip, hxs]
          simp [hlen]
        have hLs : s1.heap.objs.size ≤ h'.objs.size := by
          rw [hsz]
          exact Nat.le_add_right _ _
        have hLT : h'.objs.size ∉ Ts := fun q => Nat.lt_irrefl _ (a6 _ q)
        obtain ⟨G', g1, g2, g3⟩ := addT_inv (X := X) (pins := pins) (σ := σ) (s := s1) (h' := hF) (Ts := Ts) (zs := x.cps.toList.zip ys) (H := H1) (G := s1.heap) I1 kF a5 hzl (fun T hT => ⟨fr T (hTs T hT), I1.hok.fresh (hTs T hT)⟩) fun j T z e1 e2 => by
          obtain ⟨u1, u2, ⟨c1, t1, f1, rfl⟩, f2, f3⟩ := a4 j T e1
          rw [List.getElem?_zip_eq_some] at e2
          obtain ⟨e3, e4⟩ := e2
          obtain ⟨u, hu, ru⟩ := rv.get e4
          have eu : u2 = u := by
            have f2 : its.toArray[j]? = some u2 := f2
            rw [List.getElem?_toArray, hu] at f2
            exact (Option.some.inj f2).symm
          have ec : c1 = z.1 := by
            have f1 : x.cps[j]? = some c1 := f1
            rw [← Array.getElem?_toList, e3] at f1
            exact (Option.some.inj f1).symm
          subst eu ec
          exact ⟨t1, u2, ru, f3⟩
        obtain ⟨d1, d2⟩ := g3 h'.objs.size hLT
        have I2 := Inv.laidN (s := { s1 with heap := G' }) (h' := hF) (t' := tk) (a := h'.objs.size) (o := .lst (Ts.map .ref)) g1 g2 (d1 (fr _ hLs)) (by rw [d2]; exact I1.hok.fresh hLs) ⟨?_, Ts.map Value.ref, c, ?_, ?_⟩
        · exact ⟨.ref h'.objs.size, _, I2, rfl, q1 h'.objs.size Ts hzl a5 (fun T hT => I1.hok.fresh (hTs T hT)) hLT (I1.hok.fresh hLs)⟩
        · rw [List.length_map, hzl, List.length_zip]
          exact Nat.le_trans (Nat.min_le_right _ _) hz
        · exact vals_refs Ts
        · rw [← a2]
          exact a1
end
end DL
namespace DL
open PySem L2
section
variable {K : Fr} {B : Bs} {G : En} {S : St} {F H : Hp} {P : Po} {ta : TA}
def pairD (p : Nat × PyData) : PyData := .tuple [zD [p.1], p.2]
theorem addT_ne : ∀ {Ts : List Addr} {zs : List (Nat × V)} {H : Hp} {b : Addr}, b ∉ Ts → addT H Ts zs b = H b
  | [], _, _, _, _ => by unfold addT; rfl
  | _ :: _, [], _, _, _ => by unfold addT; rfl
  | T :: Ts, (c, y) :: zs, H, b, h => by
    show addT (upd H T (.tup [.str ⟨#[c]⟩, y])) Ts zs b = H b
    rw [addT_ne fun q => h (List.mem_cons_of_mem _ q), upd_ne fun q => h (by simp [q])]
theorem Iv.addT : ∀ {Ts : List Addr} {cs : List Nat} {ys : List V} {ds : List PyData} {F H : Hp}, Iv K B G S F H → DqAll K F ys ds → Ts.Nodup → Ts.length = (cs.zip ys).length → (∀ T ∈ Ts, H T = none) →
    Iv K B G S (addT F Ts (cs.zip ys)) (addT H Ts (cs.zip ys)) ∧ Ex F (addT F Ts (cs.zip ys)) ∧ DqAll K (addT F Ts (cs.zip ys)) (Ts.map .ref) ((cs.zip ds).map pairD)
  | [], [], _, _, F, H, I, _, _, _, _ => by
    simp only [List.zip_nil_left, List.map_nil]
    exact ⟨I, Ex.refl F, .nil⟩
  | [], c :: cs, [], _, F, H, I, .nil, _, _, _ => by
    simp only [List.zip_nil_right, List.map_nil]
    exact ⟨I, Ex.refl F, .nil⟩
  | T :: Ts, c :: cs, _, _, F, H, I, .cons (v := y) (vs := ys) (d := d) (ds := ds) hy hys, hn, hl, hf => by
    have hn' := List.nodup_cons.mp hn
    have fT := hf T List.mem_cons_self
    have I1 := I.newF fT (.tup [.str ⟨#[c]⟩, y])
    have e1 : Ex F (upd F T (.tup [.str ⟨#[c]⟩, y])) := Ex.new (I.fnone fT)
    obtain ⟨a, b, e⟩ := Iv.addT (cs := cs) I1 (da_mono e1 hys) hn'.2 (by simpa using hl) fun T' h => by
      have hne : T' ≠ T := fun z => hn'.1 (z ▸ h)
      rw [upd_ne hne]
      exact hf T' (List.mem_cons_of_mem _ h)
    refine ⟨a, e1.trans b, .cons (.tup (b _ _ upd_same) (.cons (.str _) (.cons (dp_mono (e1.trans b) hy) .nil))) e⟩
  | [], _ :: _, _, _, _, _, _, .cons _ _, _, hl, _ => by simp at hl
  | _ :: _, [], _, _, _, _, _, _, _, hl, _ => by simp at hl
  | _ :: _, _ :: _, [], _, _, _, _, _, _, hl, _ => by simp at hl
theorem dw_listZip (h : DA K B G ta fun G1 ws => ∃ (z : List Nat) (ds : List PyData), ws = [.d (zD z), .d (.tuple ds)] ∧ ds.length ≤ sizeLine ∧ P G1 (.fr (.o none ((z.zip ds).map pairD)))) : DW K B G (tListZip K ta) P := fun S F H Q I k => by
  refine h S F H _ I fun vs F1 H1 G1 ws e1 I1 hv ⟨z, ds, hw, hl, q⟩ => ?_
  subst hw
  cases hv with
  | cons h1 r =>
    cases r with
    | cons h2 r =>
      cases r
      obtain rfl := dp_str h1
      obtain ⟨b, ys, rfl, hb, ha⟩ := dp_tup h2
      have ez : (mkS z).cps.toList = z := by simp [mkS]
      refine ⟨mkS z, b, ys, rfl, SqT.of (I1.ex _ _ hb), by rw [da_len ha]; exact hl, fun L Ts hTl hTn hTf hLT hL => ?_⟩
      rw [ez] at hTl ⊢
      obtain ⟨I2, e2, hd⟩ := I1.addT ha hTn hTl hTf
      refine k _ _ _ G1 (.fr (.o none ((z.zip ds).map pairD))) (e1.trans e2) (I2.newL (by rw [addT_ne hLT]; exact hL) hd) q
end
end DL
namespace DL
open PySem L2
section
variable {K : Fr} {B : Bs} {G : En} {P : Po} {td ty tx te tk tv : TE} {S : St} {F H : Hp}
/-- d.get(k), d an own dict -/
theorem dw_get1K (h : DW K B G td fun G1 r1 => PW r1 fun w1 => ∃ i, w1 = .sl i ∧ (∃ qq kvs, G1[i]? = some (.k qq kvs)) ∧ DW K B G1 ty fun G2 r2 => PW r2 fun w2 => ∃ qq ks kvs, w2 = .d (keyD ks) ∧ G2[i]? = some (.k qq kvs) ∧ P G2 (.p (.d ((lkG kvs ks).getD .none)))) : DW K B G (tDGet1 td ty) P := fun S F H Q I k => by
  show td S H fun x H1 => ∃ a, x = .ref a ∧ IsD H1 a ∧ ty S H1 fun y H2 => ∃ o, DGet H2 a y o ∧ Q (o.getD .non) H2
  refine dw_run (k' := fun G1 w1 => ∃ i, w1 = .sl i ∧ (∃ qq kvs, G1[i]? = some (.k qq kvs)) ∧ DW K B G1 ty fun G2 r2 => PW r2 fun w2 => ∃ qq ks kvs, w2 = .d (keyD ks) ∧ G2[i]? = some (.k qq kvs) ∧ P G2 (.p (.d ((lkG kvs ks).getD .none)))) h I fun v1 F1 H1 G1 w1 e1 I1 a1 ⟨i, x1, ⟨q0, kv0, hi0⟩, q1⟩ => ?_
  subst x1
  obtain ⟨p, kw0, hS0, hp0, _, _⟩ := I1.dctK hi0
  have a1 : S[i]? = some (some v1) := a1
  rw [hS0] at a1
  cases a1
  refine ⟨p, rfl, .inl ⟨_, .inl hp0⟩, ?_⟩
  refine dw_run (k' := fun G2 w2 => ∃ qq ks kvs, w2 = .d (keyD ks) ∧ G2[i]? = some (.k qq kvs) ∧ P G2 (.p (.d ((lkG kvs ks).getD .none)))) q1 I1 fun v2 F2 H2 G2 w2 e2 I2 a2 ⟨qq, ks, kvs, x2, hi, q2⟩ => ?_
  subst x2
  obtain rfl := keyK_at a2
  obtain ⟨p', kws, hS, hp, hk, hv⟩ := I2.dctK hi
  rw [hS0] at hS
  cases hS
  refine ⟨_, DGet.k hp, ?_⟩
  obtain ⟨s1, s2⟩ := lkG_val (k := ks) hk hv
  cases e : lkG kvs ks with
  | none =>
    rw [e] at s1 q2
    have : valV kws ks = none := by
      cases z : valV kws ks with
      | none => rfl
      | some _ =>
        rw [z] at s1
        cases s1
    rw [this]
    exact ct_d (k.mono (e1.trans e2)) I2 .non q2
  | some d =>
    obtain ⟨v, z1, z2⟩ := s2 d e
    rw [e] at q2
    rw [z1]
    exact ct_d (k.mono (e1.trans e2)) I2 z2 q2
/-- d.get(k), k a tuple -/
theorem dw_get1T (h : DW K B G td fun G1 r1 => PW r1 fun w1 => ∃ i, w1 = .sl i ∧ (∃ kvs, G1[i]? = some (.t kvs)) ∧ DW K B G1 ty fun G2 r2 => PW r2 fun w2 => ∃ ks kvs, w2 = .d (.tuple (ks.map keyD)) ∧ G2[i]? = some (.t kvs) ∧ P G2 (.p (.d ((lkD kvs ks).getD .none)))) : DW K B G (tDGet1 td ty) P := fun S F H Q I k => by
  show td S H fun x H1 => ∃ a, x = .ref a ∧ IsD H1 a ∧ ty S H1 fun y H2 => ∃ o, DGet H2 a y o ∧ Q (o.getD .non) H2
  refine dw_run (k' := fun G1 w1 => ∃ i, w1 = .sl i ∧ (∃ kvs, G1[i]? = some (.t kvs)) ∧ DW K B G1 ty fun G2 r2 => PW r2 fun w2 => ∃ ks kvs, w2 = .d (.tuple (ks.map keyD)) ∧ G2[i]? = some (.t kvs) ∧ P G2 (.p (.d ((lkD kvs ks).getD .none)))) h I fun v1 F1 H1 G1 w1 e1 I1 a1 ⟨i, x1, ⟨kv0, hi0⟩, q1⟩ => ?_
  subst x1
  obtain ⟨p, kw0, hS0, hp0, _, _⟩ := I1.dct hi0
  have a1 : S[i]? = some (some v1) := a1
  rw [hS0] at a1
  cases a1
  refine ⟨p, rfl, .inr ⟨_, .inl hp0⟩, ?_⟩
  refine dw_run (k' := fun G2 w2 => ∃ ks kvs, w2 = .d (.tuple (ks.map keyD)) ∧ G2[i]? = some (.t kvs) ∧ P G2 (.p (.d ((lkD kvs ks).getD .none)))) q1 I1 fun v2 F2 H2 G2 w2 e2 I2 a2 ⟨ks, kvs, x2, hi, q2⟩ => ?_
  subst x2
  obtain ⟨b, rfl, hb⟩ := key_at a2 I2.ex
  obtain ⟨p', kws, hS, hp, hk, hv⟩ := I2.dct hi
  rw [hS0] at hS
  cases hS
  refine ⟨_, DGet.t hp hb, ?_⟩
  obtain ⟨s1, s2⟩ := lk_val (k := ks) hk hv
  cases e : lkD kvs ks with
  | none =>
    rw [e] at s1 q2
    have : valV kws ks = none := by
      cases z : valV kws ks with
      | none => rfl
      | some _ =>
        rw [z] at s1
        cases s1
    rw [this]
    exact ct_d (k.mono (e1.trans e2)) I2 .non q2
  | some d =>
    obtain ⟨v, z1, z2⟩ := s2 d e
    rw [e] at q2
    rw [z1]
    exact ct_d (k.mono (e1.trans e2)) I2 z2 q2
/-- the pairs of a display -/
def DPp (K : Fr) (B : Bs) (G : En) (trs : List (TE × TE)) (P : En → List (Key × PyData) → Prop) : Prop := ∀ S F H (Q : List (V × V) → Hp → Prop), Iv K B G S F H →
  (∀ (kws : List (Key × V)) F' H' G' (kvs : List (Key × PyData)), Ex F F' → Iv K B G' S F' H' → kws.map (·.1) = kvs.map (·.1) → DqAll K F' (kws.map (·.2)) (kvs.map (·.2)) → P G' kvs → Q (kws.map fun kv => (kV kv.1, kv.2)) H') → tPairs trs S H Q
theorem dpp_nil {P : En → List (Key × PyData) → Prop} (q : P G []) : DPp K B G [] P := fun S F H Q I k => k [] F H G [] (Ex.refl F) I rfl .nil q
theorem dpp_cons {trs : List (TE × TE)} {P : En → List (Key × PyData) → Prop} (h : DW K B G tk fun G1 r1 => PW r1 fun w1 => DW K B G1 tv fun G2 r2 => PW r2 fun w2 => ∃ k d, w1 = .d (keyD k) ∧ w2 = .d d ∧ DPp K B G2 trs fun G3 kvs => P G3 ((k, d) :: kvs)) : DPp K B G ((tk, tv) :: trs) P := fun S F H Q I kk => by
  show tk S H fun x H1 => tv S H1 fun y H2 => tPairs trs S H2 fun ps H3 => Q ((x, y) :: ps) H3
  refine dw_run (k' := fun G1 w1 => DW K B G1 tv fun G2 r2 => PW r2 fun w2 => ∃ k d, w1 = .d (keyD k) ∧ w2 = .d d ∧ DPp K B G2 trs fun G3 kvs => P G3 ((k, d) :: kvs)) h I fun v1 F1 H1 G1 w1 e1 I1 a1 q1 => ?_
  refine dw_run (k' := fun G2 w2 => ∃ k d, w1 = .d (keyD k) ∧ w2 = .d d ∧ DPp K B G2 trs fun G3 kvs => P G3 ((k, d) :: kvs)) q1 I1 fun v2 F2 H2 G2 w2 e2 I2 a2 ⟨ks, d, x1, x2, q2⟩ => ?_
  subst x1 x2
  obtain rfl := keyK_at (dp_mono e2 a1)
  refine q2 S F2 H2 _ I2 fun kws F3 H3 G3 kvs e3 I3 hk hv q3 => ?_
  exact kk ((ks, v2) :: kws) F3 H3 G3 ((ks, d) :: kvs) ((e1.trans e2).trans e3) I3 (by simp [hk]) (.cons (dp_mono e3 a2) hv) q3
def mergeG (kvs more : List (Key × PyData)) : List (Key × PyData) := more.foldl (fun acc kv => putG acc kv.1 kv.2) kvs
theorem mergeG_keys {K : Fr} {F : Hp} : ∀ {mw : List (Key × V)} {md : List (Key × PyData)} {kws : List (Key × V)} {kvs : List (Key × PyData)}, mw.map (·.1) = md.map (·.1) → DqAll K F (mw.map (·.2)) (md.map (·.2)) → kws.map (·.1) = kvs.map (·.1) → DqAll K F (kws.map (·.2)) (kvs.map (·.2)) →
    (mergeK kws mw).map (·.1) = (mergeG kvs md).map (·.1) ∧ DqAll K F ((mergeK kws mw).map (·.2)) ((mergeG kvs md).map (·.2))
  | [], [], _, _, _, _, h3, h4 => ⟨h3, h4⟩
  | (k, v) :: mw, (k', d) :: md, _, _, h1, h2, h3, h4 => by
    have h5 := List.cons.inj h1
    have ek : k = k' := h5.1
    subst ek
    cases h2 with
    | cons u1 u2 =>
      obtain ⟨a, b⟩ := putG_keys (k := k) h3 h4 u1
      exact mergeG_keys (mw := mw) (md := md) h5.2 u2 a b
/-- {k: v, ..} -/
theorem dw_dispN {trs : List (TE × TE)} (h : ∀ B', DPp K B' G trs fun G1 kvs => kvs.length ≤ 15 ∧ P G1 (.fr (.k none (mergeG [] kvs)))) : DW K B G (tDisp trs) P := fun S F H Q I k => by
  intro p hp
  obtain ⟨A0, mu, a0, _, I0, back⟩ := (I.newK hp).asideG (fun z => nomatch z)
  refine h _ S F _ _ I0 fun kws F2 H2 G2 kvs e2 I2 hk hv ⟨hl, q2⟩ => ?_
  obtain ⟨hD, J⟩ := back _ _ _ _ I2
  have hi : (G2 ++ [Sl.k none []])[G2.length]? = some (.k none []) := by simp
  have hlS : S.length = G2.length := I2.len
  have hS : (S ++ [some (V.ref p)])[G2.length]? = some (some (.ref p)) := by
    rw [← hlS]
    simp
  obtain ⟨p', kw0, z1, z2, z3, z4⟩ := J.dctK hi
  rw [hS] at z1
  cases z1
  have ek : kw0 = [] := by simpa using z3
  subst ek
  obtain ⟨m1, m2⟩ := mergeG_keys (kws := []) (kvs := []) hk hv rfl .nil
  refine ⟨z2, kws, rfl, by rw [← List.length_map (f := (·.1)), hk, List.length_map]; exact hl, ?_⟩
  have J2 : Iv K B ((G2 ++ [Sl.k none []]).set G2.length (.k none (mergeG [] kvs))) (S ++ [some (.ref p)]) F2 (upd H2 p (.dK (mergeK [] kws))) := J.mutG hi hS (fun A z => by
    obtain ⟨p', _, e, _, _, _, hA, _⟩ := z
    cases e
    exact hA) (fun z => nomatch z) fun A hA z => ⟨p, mergeK [] kws, rfl, upd_same, m1, m2, hA, fun _ z => nomatch z⟩
  have eG : (G2 ++ [Sl.k none []]).set G2.length (.k none (mergeG [] kvs)) = G2 ++ [.k none (mergeG [] kvs)] := by simp
  rw [eG] at J2
  exact k (.ref p) F2 _ G2 (.fr (.k none (mergeG [] kvs))) e2 J2 q2
end
end DL
namespace DL
open PySem L2
section
variable {K : Fr} {B : Bs} {G : En} {P : Po} {td ty tx te tk tv : TE} {S : St} {F H : Hp} {w1 : W}
theorem lkG_getD {kws : List (Key × V)} {kvs : List (Key × PyData)} {ks : Key} {v3 : V} {d : PyData} (hk : kws.map (·.1) = kvs.map (·.1)) (hv : DqAll K F (kws.map (·.2)) (kvs.map (·.2))) (hd : Dq K F v3 d) : Dq K F ((valV kws ks).getD v3) ((lkG kvs ks).getD d) := by
  obtain ⟨s1, s2⟩ := lkG_val (k := ks) hk hv
  cases e : lkG kvs ks with
  | none =>
    rw [e] at s1
    have : valV kws ks = none := by
      cases z : valV kws ks with
      | none => rfl
      | some _ =>
        rw [z] at s1
        cases s1
    rw [this]
    exact hd
  | some d' =>
    obtain ⟨v, z1, z2⟩ := s2 d' e
    rw [z1]
    exact z2
/-- {..}.get(k, x) -/
theorem dw_get2F (h : DW K B G td fun G1 r1 => ∃ kvs, r1 = .fr (.k none kvs) ∧ ∀ B', DW K B' G1 ty fun G2 r2 => PW r2 fun w2 => DW K B' G2 tx fun G3 r3 => PW r3 fun w3 => ∃ ks d, w2 = .d (keyD ks) ∧ w3 = .d d ∧ P G3 (.p (.d ((lkG kvs ks).getD d)))) : DW K B G (tDGet2 td ty tx) P := fun S F H Q I k => by
  show td S H fun x H1 => ∃ a, x = .ref a ∧ IsD H1 a ∧ ty S H1 fun y H2 => tx S H2 fun z H3 => ∃ o, DGet H3 a y o ∧ Q (o.getD z) H3
  refine h S F H _ I fun v F1 H1 G1 r1 e1 hr ⟨kvs, hr1, q1⟩ => ?_
  subst hr1
  have J1 : Iv K B (G1 ++ [.k none kvs]) (S ++ [some v]) F1 H1 := hr
  have lS : S.length = G1.length := J1.drop.len
  have gl : ∀ {G : En}, (G ++ [Sl.k none kvs])[G.length]? = some (.k none kvs) := by simp
  have sl : ∀ {G : En}, S.length = G.length → (S ++ [some v])[G.length]? = some (some v) := fun e => by
    rw [← e]
    simp
  obtain ⟨p, kws, z1, z2, z3, z4⟩ := J1.dctK gl
  rw [sl lS] at z1
  cases z1
  refine ⟨p, rfl, .inl ⟨_, .inl z2⟩, ?_⟩
  obtain ⟨A0, mu, a0, _, I0, back⟩ := J1.asideG (fun z => nomatch z)
  refine dw_run (k' := fun G2 w2 => DW K _ G2 tx fun G3 r3 => PW r3 fun w3 => ∃ ks d, w2 = .d (keyD ks) ∧ w3 = .d d ∧ P G3 (.p (.d ((lkG kvs ks).getD d)))) (q1 _) I0 fun v2 F2 H2 G2 w2 e2 I2 a2 q2 => ?_
  refine dw_run (k' := fun G3 w3 => ∃ ks d, w2 = .d (keyD ks) ∧ w3 = .d d ∧ P G3 (.p (.d ((lkG kvs ks).getD d)))) q2 I2 fun v3 F3 H3 G3 w3 e3 I3 a3 ⟨ks, d, x1, x2, q3⟩ => ?_
  subst x1 x2
  obtain rfl := keyK_at (dp_mono e3 a2)
  obtain ⟨_, J3⟩ := back _ _ _ _ I3
  obtain ⟨p', kws', y1, y2, y3, y4⟩ := J3.dctK gl
  rw [sl I3.len] at y1
  cases y1
  exact ⟨_, DGet.k y2, k _ F3 H3 G3 (.p (.d ((lkG kvs ks).getD d))) ((e1.trans e2).trans e3) ⟨J3.drop, lkG_getD y3 y4 a3⟩ q3⟩
/-- sum of a list of ints -/
theorem rn_sum {ns : List Int} (e1 : wd G w1 = some (.list (ns.map .int))) (q : P G (.p (.d (.int ns.sum)))) : RWn K B G (rSum K) [w1] P := fun S F H Q vs I hv k => by
  obtain ⟨y, rfl, hy⟩ := vws1 hv
  obtain ⟨p, us, rfl, hp, ha⟩ := wd_list I hy e1
  obtain rfl := da_ints_eq ha
  exact ⟨p, ns, rfl, SqL.of hp, ct_d k I (.int _) q⟩
end
/-- repr of an int or None -/
def rRepr : List V → Hp → VK → Prop := fun xs H Q => (∃ i : Int, xs = [.int i] ∧ i.natAbs.log2 < 1920 ∧ Q (.str (toString i)) H) ∨ (xs = [.non] ∧ Q (.str "None") H)
theorem call_reprD {X : Cx} : CallR X (.builtin "repr") rRepr := by
  intro pins s σ H xs us Q I r h
  rcases h with ⟨i, rfl, hz, q⟩ | ⟨rfl, q⟩
  · exact SkE.call_repr_int pins s σ H _ us Q I r ⟨i, rfl, hz, q⟩
  · cases r with
    | cons r rr =>
      cases rr
      cases (show _ = Value.none from r)
      exact PySem.P.repr_of_none ⟨.str _, H, I.tok _, ⟨_, rfl⟩, q⟩
theorem kSUM {X : Cx} (K : Fr) (h : X.K = K) (hc : X.calm = true) : CallR X (.builtin "sum") (rSum K) := h ▸ cr_sum hc
theorem kLZ {X : Cx} (K : Fr) (h : X.K = K) {e e2 : Expr} {ta : TA} {p0 p pos pos2 : Pos} (hc : X.calm = true) (hgl : Gl X "list") (hml : X.mg "list" = none) (hg : Gl X "zip") (hm : X.mg "zip" = none) (ha : PA X [e, e2] ta)
    (hs1 : starEach [.Call (.Name "zip" p) [e, e2] [] pos2] X.env = (false, eval (.Call (.Name "zip" p) [e, e2] [] pos2) X.env) :: starEach [] X.env := by rfl)
    (hp1 : (backTo pos (starEach [] X.env)).any (·.1) = false := by rfl) (hs : starEach [e, e2] X.env = (false, eval e X.env) :: starEach [e2] X.env := by rfl) (hpl : (backTo pos2 (starEach [e2] X.env)).any (·.1) = false := by rfl) :
    PE X (.Call (.Name "list" p0) [.Call (.Name "zip" p) [e, e2] [] pos2] [] pos) (tListZip K ta) := h ▸ pe_listZip hc hgl hml hg hm ha hs1 hp1 hs hpl
section
variable {K : Fr} {B : Bs} {G : En} {P : Po}
theorem rn_reprI {i : Int} (hi : i.natAbs.log2 < 1920) (q : P G (.p (.d (.str (toString i))))) : RWn K B G rRepr [.d (.int i)] P := fun S F H Q vs I hv k => by
  obtain ⟨y, rfl, hy⟩ := vws1 hv
  obtain rfl := dp_int hy
  exact .inl ⟨i, rfl, hi, ct_d k I (.str _) q⟩
theorem rn_reprN (q : P G (.p (.d (.str "None")))) : RWn K B G rRepr [.d .none] P := fun S F H Q vs I hv k => by
  obtain ⟨y, rfl, hy⟩ := vws1 hv
  obtain rfl := dp_non hy
  exact .inr ⟨rfl, ct_d k I (.str _) q⟩
end
end DL
namespace DL
open PySem L2
/-- texts: x += y -/
def ipS : TIp := fun x y H Q => ∃ a b : Str, x = .str a ∧ y = .str b ∧ a.length + b.length ≤ sizeLine ∧ Q (.str (a ++ b)) H
theorem ip_addS {X : Cx} : PIp X .Add ipS := by
  intro pins s σ H x y v u Q I r1 r2 h
  obtain ⟨a, b, e1, e2, hz, q⟩ := h
  subst e1; subst e2
  obtain ⟨t, rfl⟩ := r1
  obtain ⟨t', rfl⟩ := r2
  exact SB.iadd (fun t k => ⟨.str _, H, I.tok _, ⟨_, rfl⟩, q⟩) hz
section
variable {K : Fr} {B : Bs} {G : En} {te : TE} {E : De}
theorem ds_augS {i : Nat} {a : List Nat} (hi : G[i]? = some (.d (.str (mkS a)))) (h : DW K B G te fun G1 r1 => PW r1 fun w => ∃ b : List Nat, w = .d (.str (mkS b)) ∧ a.length + b.length ≤ 1000000 ∧ E.nx (G1.set i (.d (.str (mkS (a ++ b)))))) : DS K B G (tAug i te ipS) E := fun S F H D I c => by
  obtain ⟨v, e, hv⟩ := I.dat hi
  obtain rfl := dp_str hv
  refine ⟨_, e, ?_⟩
  refine dw_run (k' := fun G1 w => ∃ b : List Nat, w = .d (.str (mkS b)) ∧ a.length + b.length ≤ 1000000 ∧ E.nx (G1.set i (.d (.str (mkS (a ++ b)))))) h I fun v F1 H1 G1 w e1 I1 hv q => ?_
  obtain ⟨b, rfl, hz, q⟩ := q
  refine ⟨mkS a, mkS b, rfl, dp_str hv, by rw [mkS_len, mkS_len]; exact szl hz, ?_⟩
  rw [mkS_cat]
  exact c.nx _ F1 H1 _ e1 (I1.set_d i (.str _)) q
end
end DL
/-! xs[::-1] of a list -/
namespace DL
open PySem L2
def tRevL (K : Fr) (te : TE) : TE := fun S H Q => te S H fun x H1 => ∃ a xs, x = .ref a ∧ SqL K H1 a xs ∧ ∀ p, H1 p = none → Q (.ref p) (upd H1 p (.lst xs.reverse))
section
open PySem.Spec PyProof.Rows
variable {X : Cx}
theorem pe_revLs {e : Expr} {te : TE} {k : Nat} {p1 p2 p3 pos : Pos} (he : PE X e te) : PE X (.Subscript e (.Slice none none (some (.UnaryOp .USub (.Constant (.int 1) k p1) p2)) p3) pos) (tRevL X.K te) := by
  refine ⟨fun pins s S H Q I h => ?_⟩
  refine PyProof.Rows.Subscript_ (thn (he.run pins s S H _ I h) fun v s1 ⟨x, H1, I1, r1, q1⟩ => ?_)
  obtain ⟨a, xs, ex, hx, q⟩ := q1
  subst ex
  cases r1
  have hst : PO X (some (.UnaryOp .USub (.Constant (.int 1) k p1) p2)) (tPart (tUn (rU fun i => .int (-i)) (tC (.int 1)))) := po_some (pe_un un_neg pe_int)
  refine wpAny_Slice (thn (po_none.run pins s1 S H1 (fun o H2 => o = none ∧ H2 = H1) I1 ⟨rfl, rfl⟩) fun vl s2 ⟨l, H2, I2, pl, el, e2⟩ => ?_)
  subst el e2
  refine thn (po_none.run pins s2 S H2 (fun o H3 => o = none ∧ H3 = H2) I2 ⟨rfl, rfl⟩) fun vu s3 ⟨u, H3, I3, pu, eu, e3⟩ => ?_
  subst eu e3
  refine thn (hst.run pins s3 S H3 (fun o H4 => o = some (-1) ∧ H4 = H3) I3 ⟨1, rfl, -1, rfl, rfl, rfl⟩) fun vs s4 ⟨o, H4, I4, ps, eo, e4⟩ => ?_
  subst eo e4
  cases pl
  cases pu
  cases ps with
  | int i t =>
  have I5 : Inv X pins S H4 { s4 with heap := s4.heap.push { cls := .type "slice", data := .fields #[.none, .none, .int (-1) t] } } := I4.kept (t' := s4.toks) fun b ob q => Heap.get?_push_of_some _ q
  obtain ⟨its, r, ht, hz⟩ := I5.list hx
  have hlen := r.length
  show wpAny (model X.prog X.w) X.A (subscriptTail e (.Slice none none (some (.UnaryOp .USub (.Constant (.int 1) k p1) p2)) p3) (.ref a) (.ref s4.heap.objs.size)) (EP X pins S Q) X.xe { s4 with heap := s4.heap.push { cls := .type "slice", data := .fields #[.none, .none, .int (-1) t] } }
  refine PyProof.Rows.tail_any (ops := [.ref a, .ref s4.heap.objs.size]) ht.isList.typeIs (slot_list_getitem.lookup) ?_ (by with_unfolding_all rfl)
  refine wpAny_getItem_list_slice ht.isList (Heap.IsSliceOf.new _ .none .none (.int (-1) t)) .none .none (.int _ _) (by simp) ?_ (by rw [List.size_toArray] <;> omega)
  rw [PySem.W.krv_pick]
  refine ⟨.ref _, _, I5.laid (t' := s4.toks) (o := .lst xs.reverse) (fun b ob q => Heap.get?_push_of_some _ q) (Nat.le_refl _) ?_, rfl, q _ (I5.hok.fresh (Nat.le_refl _))⟩
  exact ⟨by rw [List.length_reverse]; exact hz, _, 0, r.reverse, Heap.get?_push_size _ rfl⟩
end
theorem kREVL {X : Cx} (K : Fr) (h : X.K = K) {e : Expr} {te : TE} (he : PE X e (tRevL X.K te)) : PE X e (tRevL K te) := h ▸ he
section
variable {K : Fr} {B : Bs} {G : En} {P : Po} {te : TE}
theorem dw_revL (h : DW K B G te fun G1 r1 => PW r1 fun w => ∃ ds, wd G1 w = some (.list ds) ∧ P G1 (.fr (.o none ds.reverse))) : DW K B G (tRevL K te) P := fun S F H Q I k => by
  show te S H fun x H1 => ∃ a xs, x = .ref a ∧ SqL K H1 a xs ∧ ∀ p, H1 p = none → Q (.ref p) (upd H1 p (.lst xs.reverse))
  refine dw_run (k' := fun G1 w => ∃ ds, wd G1 w = some (.list ds) ∧ P G1 (.fr (.o none ds.reverse))) h I fun v F1 H1 G1 w e1 I1 hv ⟨ds, hw, q⟩ => ?_
  obtain ⟨p, us, rfl, hp, ha⟩ := wd_list I1 hv hw
  exact ⟨p, us, rfl, SqL.of hp, fun c hc => ct_L (k.mono e1) I1 hc (da_rev ha) q⟩
end
end DL
/-! enumerate of a tuple -/
namespace PySem
open Sem (wp)
open AutoSeq1 (wpAny_loadPart')
set_option maxHeartbeats 4000000 in
theorem meets_enumerate_newT (l : Addr) (items : Array Value) (n : Nat) (dct : Option Addr) (sl : Array (Option Value)) :
    Meets (Builtin.«enumerate.__new__» ⟨[.type "enumerate", .ref l], []⟩) (fun _ R s => s.heap.get? l = some { cls := .type "tuple", dict := dct, data := .seq items n, slots := sl } ∧
      R (.ok (.ret (.ref (s.heap.push { cls := .type "tuple_iterator", data := .fields #[.ref l, .int 0 0] }).objs.size)))
        { s with heap := (s.heap.push { cls := .type "tuple_iterator", data := .fields #[.ref l, .int 0 0] }).push { cls := .type "enumerate", data := .fields #[.none, .bool false, .ref s.heap.objs.size, rawInt 0, .none, .none] } }) :=
  .of_wp fun prog w A R s h => by
    obtain ⟨hp, g, d, tk, os⟩ := s; obtain ⟨hl, h⟩ := h
    have hsub := sub_enumerate
    have hL : Heap.IsTuple (Shared.heap ⟨hp, g, d, tk, os⟩) l items := ⟨_, hl, rfl, n, rfl⟩
    wp_walk using wpAny_loadPart' hl
    refine wpAny_stack_any fun st => wpAny_pure ?_
    split
    · rename_i c _ _ _ _ _
      cases (c == Value.type "enumerate")
      · wp_walk using wpAny_loadPart' hl, wpAny_pyIter_tuple hL
        exact ⟨_, rfl, h⟩
      · wp_walk using wpAny_loadPart' hl, wpAny_pyIter_tuple hL
        exact ⟨_, rfl, h⟩
    · wp_walk using wpAny_loadPart' hl, wpAny_pyIter_tuple hL
      exact ⟨_, rfl, h⟩
theorem call_enumerate_tup {prog : Program} {w : World} {A : Around} {E : Value → Shared → Prop} {s : Shared} {l : Addr} {items : Array Value} {Q : Value → Shared → Prop} (hL : s.heap.IsTuple l items)
    (h : ∀ h', IsEnum h' (s.heap.objs.size + 1) s.heap.objs.size 0 .none → h'.IsTupleIter s.heap.objs.size l 0 → h'.objs.size = s.heap.objs.size + 2 →
      (∀ b o, s.heap.get? b = some o → h'.get? b = some o) → Q (.ref (s.heap.objs.size + 1)) { s with heap := h' }) :
    wpAny (model prog w) A (call (.type "enumerate") [.ref l]) Q E s := by
  obtain ⟨⟨c, dct, dt, sl⟩, hl, hc, n, hd⟩ := hL
  replace hc : c = .type "tuple" := hc
  replace hd : dt = .seq items n := hd
  subst hc hd
  refine callType_new F.called_enumerate (by decide) (F.typeCall_enumerate_1 _) (F.newCall_enumerate_1 _) (fun obj => F.args_object_init_2 obj _) F.entry_enumerate_new
    (meets_enumerate_newT l items n dct sl) ⟨hl, ?_⟩
  have hz : (s.heap.push { cls := .type "tuple_iterator", data := .fields #[.ref l, .int 0 0] }).objs.size = s.heap.objs.size + 1 := Heap.size_push ..
  show _ ∧ _
  rw [hz]
  have he : IsEnum ((s.heap.push { cls := .type "tuple_iterator", data := .fields #[.ref l, .int 0 0] }).push
      { cls := .type "enumerate", data := .fields #[.none, .bool false, .ref s.heap.objs.size, rawInt 0, .none, .none] }) (s.heap.objs.size + 1) s.heap.objs.size 0 .none := by
    have := Heap.get?_push_size (s.heap.push { cls := .type "tuple_iterator", data := .fields #[.ref l, .int 0 0] })
      (o := { cls := .type "enumerate", data := .fields #[.none, .bool false, .ref s.heap.objs.size, rawInt 0, .none, .none] }) rfl
    rw [hz] at this; exact this
  refine ⟨⟨_, he, rfl⟩, h _ he ⟨_, Heap.get?_push_of_some _ (Heap.get?_push_size _ rfl), rfl, rfl⟩ (by rw [Heap.size_push, hz]) fun b o x => Heap.get?_push_of_some _ (Heap.get?_push_of_some _ x)⟩
end PySem
namespace DL
open PySem L2
def IteT (K : PySem.W.Frag) (a : Addr) : It :=
  ⟨fun i H => ∃ (xs : List V) (x : V), SqT K H a xs ∧ xs[i]? = some x, fun i H v H' => ∃ T x, v = .ref T ∧ H T = none ∧ H' = upd H T (.tup [.int (i : Nat), x]) ∧ ∀ xs, SqT K H a xs → xs[i]? = some x, fun i H => ∃ xs : List V, SqT K H a xs ∧ xs.length ≤ i⟩
theorem turn_enumT {P : Program} {w : World} {K : PySem.W.Frag} {elts : List Expr} {kk : Nat} {tpos : Pos} (a e it : Addr) :
    Turn P w K (.Tuple elts kk tpos) (IteT K a) [e, it] e (fun i h => (∃ old, IsEnum h e it ((i : Nat) : Int) old) ∧ h.IsTupleIter it a i ∧ e ≠ it) where
  mem := by simp
  obj := fun i h st b hb => by
    obtain ⟨⟨old, he⟩, ⟨o, ho, hc, hd⟩, _⟩ := st
    have e' : b = e ∨ b = it := by simpa using hb
    rcases e' with z | z
    · rw [z]; exact ⟨_, he, fun v q => nomatch q⟩
    · rw [z]; exact ⟨o, ho, fun v q => by rw [hd] at q; cases q⟩
  keep := fun i h h' st k => let ⟨⟨old, he⟩, hi, hne⟩ := st; ⟨⟨old, k e (by simp) _ he⟩, hi.at fun o q => k it (by simp) o q, hne⟩
  item := by
    intro X hP hw hK hc i pins s σ H E I hf st hg
    subst hP hw hK
    obtain ⟨⟨old, he⟩, hit, hne⟩ := st
    obtain ⟨xs, x, hq, hx⟩ := hg
    obtain ⟨its, rv, p, hz⟩ := I.tuple hq
    obtain ⟨u, hu, ru⟩ := rv.get hx
    have hel : e < s.heap.objs.size := Heap.lt_size he
    have hil : it < s.heap.objs.size := by obtain ⟨_, q, _⟩ := hit; exact Heap.lt_size q
    have pt : s.heap.IsTuple a its.toArray := p
    have ha1 : a ≠ it := fun z => by
      obtain ⟨o, ho, hc1, _⟩ := hit
      obtain ⟨o', ho', hc2, _⟩ := pt
      rw [z, ho] at ho'
      cases ho'
      rw [hc1] at hc2
      injection hc2 with hh
      exact absurd hh (by decide)
    have ha2 : e ≠ a := fun z => by
      obtain ⟨o', ho', hc2, _⟩ := pt
      rw [← z] at ho'
      have he' := he
      unfold IsEnum at he'
      rw [he'] at ho'
      cases ho'
      injection hc2 with hh
      exact absurd hh (by decide)
    have D := PySem.Draws.tuple (prog := X.prog) (w := X.w) (A := X.A.in1) (I.ok.hd hc) it a ha1 its.toArray
    have hlt : i < its.toArray.size := by
      have := (List.getElem?_eq_some_iff.mp hu).1
      simpa using this
    refine wpAny_pyNext_enum_itemC D he ⟨hit, pt⟩ hlt hne (by simp [hne, ha2]) fun v h' tk hv ho hit' hT hsz hk => ?_
    have ev : v = u := by
      have hv : its.toArray[i]? = some v := hv
      rw [show its.toArray[i]? = some u by simpa using hu] at hv
      exact (Option.some.inj hv).symm
    subst ev
    refine ⟨_, rfl, wpAny_letOwnedTupleGo_enum (s := { s with heap := h', toks := tk + 1 }) ho fun h'' he' sb => ?_⟩
    have hT2 : h''.get? s.heap.objs.size = some { cls := .type "tuple", data := .seq #[.int i tk, v] } := (sb.2 _ (Nat.ne_of_gt hel)).trans hT
    have new : ObjOk X.prog X.w (upd H s.heap.objs.size (.tup [.int (i : Nat), x])) h'' s.heap.objs.size (.tup [.int (i : Nat), x]) :=
      ⟨by show 2 ≤ sizeLine; decide, [.int i tk, v], .cons ⟨_, rfl⟩ (.cons ru .nil), ⟨_, hT2, rfl, _, rfl⟩⟩
    have I1 : Inv X pins σ (upd H s.heap.objs.size (.tup [.int (i : Nat), x])) { s with heap := h'', toks := tk + 1 } :=
      I.turnedNew (ch := [e, it]) (fun b ob hb q => (sb.2 b (fun z => hb (by simp [z]))).trans (hk b ob (fun z => hb (by simp [z])) (fun z => hb (by simp [z])) q)) hf (Nat.le_refl _) new
    refine ⟨.ref s.heap.objs.size, _, I1, rfl, ⟨_, x, rfl, I.hok.fresh (Nat.le_refl _), rfl, fun ys hy => by rw [I.tuple_inj hy hq]; exact hx⟩, ⟨⟨v, ?_⟩, hit'.1.at fun o q => (sb.2 it (Ne.symm hne)).trans q, hne⟩, fun b hb => ?_⟩
    · have e1 : ((i + 1 : Nat) : Int) = (i : Int) + 1 := by omega
      rw [e1]; exact he'
    · have hb' : b < s.heap.objs.size := by
        have e' : b = e ∨ b = it := by simpa using hb
        rcases e' with z | z
        · rw [z]; exact hel
        · rw [z]; exact hil
      rw [upd_ne (Nat.ne_of_lt hb')]
      exact (hf b hb).1
  done := by
    intro X hP hw hK hc i pins s σ H E I hf st hg
    subst hP hw hK
    obtain ⟨⟨old, he⟩, hit, hne⟩ := st
    obtain ⟨xs, hq, hx⟩ := hg
    obtain ⟨its, rv, p, hz⟩ := I.tuple hq
    obtain ⟨f0, f1, f2, f3, f4, f5⟩ := hf it (by simp)
    have hl := rv.length
    have pt : s.heap.IsTuple a its.toArray := p
    have ha1 : a ≠ it := fun z => by
      obtain ⟨o, ho, hc1, _⟩ := hit
      obtain ⟨o', ho', hc2, _⟩ := pt
      rw [z, ho] at ho'
      cases ho'
      rw [hc1] at hc2
      injection hc2 with hh
      exact absurd hh (by decide)
    have D : PySem.Draws X.prog X.w X.A.in1 it [it, a] i (fun _ _ => True) (fun j h => j = i ∧ h.IsTupleIter it a i ∧ h.IsTuple a its.toArray) := {
      live := fun _ _ st => let ⟨o, ho, _⟩ := st.2.1; ⟨o, ho⟩
      frame := fun _ _ _ st hk => ⟨st.1, st.2.1.at fun o e => hk it (by simp) o e, st.2.2.at fun o e => hk a (by simp) o e⟩
      item := fun j s Q E hj st _ => absurd st.1 (Nat.ne_of_lt hj)
      done := fun s Q E st hE => wpAny_nextOf_tuple_end (I.ok.hd hc) st.2.1 st.2.2 (by simp; omega) hE }
    exact wpAny_pyNext_enum_endD D he ⟨rfl, hit, pt⟩ fun h' eb => ⟨rfl, I.turned (t' := s.toks) (fun b o hb q => eb b o hb q) f0 f1 f3 f4 f5⟩
  self := fun A i s Q E st h => let ⟨⟨_, he⟩, _⟩ := st; wpAny_pyIter_enum he h
def iEnumT (K : PySem.W.Frag) (ta : TA) : TI := fun σ H R => ta σ H fun vs H1 => ∃ a xs, vs = [.ref a] ∧ SqT K H1 a xs ∧ R (IteT K a) H1
theorem pi_enumT {X : Cx} {e : Expr} {ta : TA} {p pos tpos : Pos} {elts : List Expr} {kk : Nat} (hg : Gl X "enumerate") (hm : X.mg "enumerate" = none) (ha : PA X [e] ta) (hs : starEach [e] X.env = [(false, eval e X.env)] := by rfl) :
    PI X (.Tuple elts kk tpos) (.Call (.Name "enumerate" p) [e] [] pos) (iEnumT X.K ta) := by
  refine ⟨fun pins s σ H R I h => ?_⟩
  refine PyProof.Rows.Call_ (ld_blt I hg hm PyProof.Rows.boot_enumerate (PyProof.Rows.callWith_type1 (thn (ha.run pos pins s σ H _ I h) fun us s1 ⟨vs, H1, I1, r1, q1⟩ => ?_) hs rfl))
  obtain ⟨a, xs, ex, hq, q⟩ := q1
  subst ex
  cases r1 with
  | cons r rr =>
    cases rr
    cases r
    obtain ⟨its, rv, p', hz⟩ := I1.tuple hq
    refine call_enumerate_tup (show s1.heap.IsTuple a its.toArray from p') fun h' he hit hsz hk => wpAny_pyIter_enum he ?_
    have I2 : Inv X pins σ H1 { s1 with heap := h' } := I1.kept (t' := s1.toks) hk
    refine ⟨s1.heap.objs.size + 1, [s1.heap.objs.size + 1, s1.heap.objs.size], _, _, H1, rfl, I2, turn_enumT a (s1.heap.objs.size + 1) s1.heap.objs.size, ⟨⟨.none, he⟩, hit, Nat.succ_ne_self _⟩, fun b hb => ?_, q⟩
    have e' : b = s1.heap.objs.size + 1 ∨ b = s1.heap.objs.size := by simpa using hb
    have hle : s1.heap.objs.size ≤ b := by
      rcases e' with z | z
      · rw [z]; exact Nat.le_add_right _ _
      · rw [z]; exact Nat.le_refl _
    exact I1.fpOk hle (I1.hok.fresh hle)
theorem kENT {X : Cx} (K : Fr) (h : X.K = K) {e : Expr} {ta : TA} {p pos tpos : Pos} {elts : List Expr} {kk : Nat} (hg : Gl X "enumerate") (hm : X.mg "enumerate" = none) (ha : PA X [e] ta) (hs : starEach [e] X.env = [(false, eval e X.env)] := by rfl) :
    PI X (.Tuple elts kk tpos) (.Call (.Name "enumerate" p) [e] [] pos) (iEnumT K ta) := h ▸ pi_enumT hg hm ha hs
section
variable {K : Fr} {B : Bs} {G : En} {ta : TA} {PI : En → List PyData → Prop}
theorem di_enumT (h : DA K B G ta fun G1 ws => ∃ ds, ws = [.d (.tuple ds)] ∧ PI G1 (enD ds)) : DI K B G (iEnumT K ta) PI := fun S F H R I k => by
  show ta S H fun vs H1 => ∃ a xs, vs = [.ref a] ∧ SqT K H1 a xs ∧ R (IteT K a) H1
  refine h S F H _ I fun vs F1 H1 G1 ws e1 I1 hv ⟨ds, hw, q⟩ => ?_
  subst hw
  obtain ⟨v, rfl, hv1⟩ := vws1 hv
  obtain ⟨a, xs, rfl, hp, ha⟩ := dp_tup hv1
  refine ⟨a, xs, rfl, SqT.of (I1.ex _ _ hp), k _ F1 H1 G1 _ e1 I1 (fun i H2 F2 eF eH => ⟨fun d hd => ?_, fun e => ?_⟩) q⟩
  · obtain ⟨x, hx, rfl⟩ := enD_get hd
    obtain ⟨u, hu, hd2⟩ := da_get ha hx
    have sq : SqT K H2 a xs := SqT.of (eH _ _ (eF _ _ hp))
    refine ⟨⟨xs, u, sq, hu⟩, fun v H' y => ?_⟩
    obtain ⟨T, x', rfl, hT, rfl, hx'⟩ := y
    have e3 := hx' xs sq
    rw [hu] at e3
    cases e3
    refine ⟨upd F2 T (.tup [.int (i : Nat), u]), Ex.new (eH.free hT), Ex.new hT, eH.both _ _, fun b o h1 h2 => ?_, .tup upd_same (.cons (.int _) (.cons (dp_mono (eF.trans (Ex.new (eH.free hT))) hd2) .nil))⟩
    by_cases hb : b = T
    · rw [hb]
      exact hT
    · rw [upd_ne hb] at h1
      rw [h1] at h2
      cases h2
  · rw [enD_len] at e
    exact ⟨xs, SqT.of (eH _ _ (eF _ _ hp)), by rw [da_len ha, e]; exact Nat.le_refl _⟩
end
end DL
/-! for x, y in zip(text, tuple) -/
namespace DL
open PySem L2
def ItZ (K : PySem.W.Frag) (x : Str) (b : Addr) : It :=
  ⟨fun i H => i < x.cps.size ∧ ∃ (ys : List V) (y : V), SqT K H b ys ∧ ys[i]? = some y,
   fun i H v H' => ∃ (T : Addr) (c : Nat) (y : V), v = .ref T ∧ H T = none ∧ H' = upd H T (.tup [.str ⟨#[c]⟩, y]) ∧ x.cps[i]? = some c ∧ ∀ ys, SqT K H b ys → ys[i]? = some y,
   fun i H => ∃ ys : List V, SqT K H b ys ∧ (x.cps.size ≤ i ∨ ys.length ≤ i)⟩
theorem turn_zipT {P : Program} {w : World} {K : PySem.W.Frag} {elts : List Expr} {kk : Nat} {tpos : Pos} {b z TI TO i1 i2 : Addr} (x : Str) (t : Tok) (S : ZipSep2 z TI TO i1 i2 [i1] [i2, b]) :
    Turn P w K (.Tuple elts kk tpos) (ItZ K x b) [z, TI, TO, i1, i2] z (fun i h => IsZip h z TI TO .none ∧ IsTupOf2 h TI (.ref i1) (.ref i2) ∧ (∃ a1 a2, IsTupOf2 h TO a1 a2) ∧ h.IsStrIter i1 (strIterType x) x t i ∧ h.IsTupleIter i2 b i ∧ i ≤ x.cps.size) where
  mem := by simp
  obj := fun i h st c hc => by
    obtain ⟨hz, hTI, ⟨a1, a2, hTO⟩, ⟨o1, e1, _, d1⟩, ⟨o2, e2, _, d2⟩, _⟩ := st
    have e' : c = z ∨ c = TI ∨ c = TO ∨ c = i1 ∨ c = i2 := by simpa using hc
    rcases e' with q | q | q | q | q
    · rw [q]; exact ⟨_, hz, fun v q => nomatch q⟩
    · rw [q]; exact ⟨_, hTI, fun v q => nomatch q⟩
    · rw [q]; exact ⟨_, hTO, fun v q => nomatch q⟩
    · rw [q]; exact ⟨o1, e1, fun v q => by rw [d1] at q; cases q⟩
    · rw [q]; exact ⟨o2, e2, fun v q => by rw [d2] at q; cases q⟩
  keep := fun i h h' st k => by
    obtain ⟨hz, hTI, ⟨a1, a2, hTO⟩, ⟨o1, e1, r1⟩, h2, hi⟩ := st
    exact ⟨k z (by simp) _ hz, k TI (by simp) _ hTI, ⟨a1, a2, k TO (by simp) _ hTO⟩, ⟨o1, k i1 (by simp) _ e1, r1⟩, h2.at fun o q => k i2 (by simp) o q, hi⟩
  item := by
    intro X hP hw hK hc i pins s σ H E I hf st hg
    subst hP hw hK
    obtain ⟨hz, hTI, ⟨a1, a2, hTO⟩, h1, h2, hi⟩ := st
    obtain ⟨hlt, ys, y, hqy, hy⟩ := hg
    obtain ⟨its, rv, p, _⟩ := I.tuple hqy
    obtain ⟨u, hu, ru⟩ := rv.get hy
    have pt : s.heap.IsTuple b its.toArray := p
    have hzl : z < s.heap.objs.size := Heap.lt_size hz
    have nb : b ≠ i2 := fun e => by
      obtain ⟨o, ho, hc1, _⟩ := h2
      obtain ⟨o', ho', hc2, _⟩ := pt
      rw [e, ho] at ho'
      cases ho'
      rw [hc1] at hc2
      injection hc2 with hh
      exact absurd hh (by decide)
    have hlt2 : i < its.toArray.size := by
      have := (List.getElem?_eq_some_iff.mp hu).1
      simpa using this
    have D1 := PySem.Draws.text (prog := X.prog) (w := X.w) (A := X.A.in1) (I.ok.hd hc) i1 x t
    have D2 := PySem.Draws.tuple (prog := X.prog) (w := X.w) (A := X.A.in1) (I.ok.hd hc) i2 b nb its.toArray
    refine wpAny_pyNext_zipD2_item S D1 D2 hz hTI hTO h1 ⟨h2, pt⟩ hlt hlt2 fun x1 x2 h' tk y1 y2 z' TO' s1' s2' hT hsz hk => ?_
    obtain ⟨c, u1, hcx, rfl⟩ := y1
    have ex2 : x2 = u := by
      have y2 : its.toArray[i]? = some x2 := y2
      rw [show its.toArray[i]? = some u by simpa using hu] at y2
      exact (Option.some.inj y2).symm
    subst ex2
    refine ⟨_, rfl, wpAny_letOwnedTupleGo_zip (s := { s with heap := h', toks := tk }) z' fun h'' z'' sb => ?_⟩
    have hT2 : h''.get? s.heap.objs.size = some { cls := .type "tuple", data := .seq #[.str ⟨#[c]⟩ u1, x2] } := (sb.2 _ (Nat.ne_of_gt hzl)).trans hT
    have new : ObjOk X.prog X.w (upd H s.heap.objs.size (.tup [.str ⟨#[c]⟩, y])) h'' s.heap.objs.size (.tup [.str ⟨#[c]⟩, y]) :=
      ⟨by show 2 ≤ sizeLine; decide, [.str ⟨#[c]⟩ u1, x2], .cons ⟨_, rfl⟩ (.cons ru .nil), ⟨_, hT2, rfl, _, rfl⟩⟩
    have I1 : Inv X pins σ (upd H s.heap.objs.size (.tup [.str ⟨#[c]⟩, y])) { s with heap := h'', toks := tk } :=
      I.turnedNew (t' := tk) (ch := [z, TI, TO, i1, i2]) (fun c o hb q => (sb.2 c (fun q' => hb (by simp [q']))).trans (hk c o (fun q' => hb (by simp [q'])) (fun q' => hb (by simp [q'])) (fun q' => hb (by simp [q'])) (fun q' => hb (by simp [q'])) q)) hf (Nat.le_refl _) new
    obtain ⟨o1, e1, r1⟩ := s1'
    refine ⟨.ref s.heap.objs.size, _, I1, rfl, ⟨_, c, y, rfl, I.hok.fresh (Nat.le_refl _), rfl, hcx, fun l hl => by rw [I.tuple_inj hl hqy]; exact hy⟩, ⟨z'', ?_, ⟨.str ⟨#[c]⟩ u1, x2, ?_⟩, ⟨o1, (sb.2 _ (Ne.symm S.zi1)).trans e1, r1⟩, s2'.1.at fun o q => (sb.2 _ (Ne.symm S.zi2)).trans q, hlt⟩, fun c hcm => ?_⟩
    · exact (sb.2 _ S.TIz).trans (hk _ _ S.TIz S.TITO S.TIi1 S.TIi2 hTI)
    · exact (sb.2 _ S.TOz).trans TO'
    · have hlt : c < s.heap.objs.size := by
        have e' : c = z ∨ c = TI ∨ c = TO ∨ c = i1 ∨ c = i2 := by simpa using hcm
        rcases e' with q | q | q | q | q
        · rw [q]; exact hzl
        · rw [q]; exact Heap.lt_size hTI
        · rw [q]; exact Heap.lt_size hTO
        · rw [q]; obtain ⟨_, e1, _⟩ := h1; exact Heap.lt_size e1
        · rw [q]; obtain ⟨_, e2, _⟩ := h2; exact Heap.lt_size e2
      rw [upd_ne (Nat.ne_of_lt hlt)]
      exact (hf c hcm).1
  done := by
    intro X hP hw hK hc i pins s σ H E I hf st hg
    subst hP hw hK
    obtain ⟨hz, hTI, ⟨a1, a2, hTO⟩, h1, h2, hi⟩ := st
    obtain ⟨ys, hqy, hend⟩ := hg
    obtain ⟨its, rv, p, _⟩ := I.tuple hqy
    have pt : s.heap.IsTuple b its.toArray := p
    have l2 := rv.length
    have nb : b ≠ i2 := fun e => by
      obtain ⟨o, ho, hc1, _⟩ := h2
      obtain ⟨o', ho', hc2, _⟩ := pt
      rw [e, ho] at ho'
      cases ho'
      rw [hc1] at hc2
      injection hc2 with hh
      exact absurd hh (by decide)
    have D1 := PySem.Draws.text (prog := X.prog) (w := X.w) (A := X.A.in1) (I.ok.hd hc) i1 x t
    have D2 := PySem.Draws.tuple (prog := X.prog) (w := X.w) (A := X.A.in1) (I.ok.hd hc) i2 b nb its.toArray
    by_cases hs : its.toArray.size ≤ i
    · have D : PySem.Draws X.prog X.w X.A.in1 i2 [i2, b] i (fun _ _ => True) (fun j h => j = i ∧ h.IsTupleIter i2 b i ∧ h.IsTuple b its.toArray) := {
        live := fun _ _ st => let ⟨o, ho, _⟩ := st.2.1; ⟨o, ho⟩
        frame := fun _ _ _ st hk => ⟨st.1, st.2.1.at fun o e => hk i2 (by simp) o e, st.2.2.at fun o e => hk b (by simp) o e⟩
        item := fun j s Q E hj st _ => absurd st.1 (Nat.ne_of_lt hj)
        done := fun s Q E st hE => wpAny_nextOf_tuple_end (I.ok.hd hc) st.2.1 st.2.2 (by simp at hs ⊢; omega) hE }
      exact wpAny_pyNext_zipD2_end S D1 D hz hTI hTO h1 ⟨rfl, h2, pt⟩ hi (Nat.le_refl _) (.inr rfl) fun h' tk hk => ⟨rfl, I.turnedL (t' := tk) (ch := [z, TI, TO, i1, i2]) (fun c o hb q => hk c o (fun q' => hb (by simp [q'])) (fun q' => hb (by simp [q'])) (fun q' => hb (by simp [q'])) (fun q' => hb (by simp [q'])) q) hf⟩
    · have hin : i = x.cps.size := by
        rcases hend with q | q
        · omega
        · simp at hs
          omega
      exact wpAny_pyNext_zipD2_end S D1 D2 hz hTI hTO h1 ⟨h2, pt⟩ hi (by omega) (.inl hin) fun h' tk hk => ⟨rfl, I.turnedL (t' := tk) (ch := [z, TI, TO, i1, i2]) (fun c o hb q => hk c o (fun q' => hb (by simp [q'])) (fun q' => hb (by simp [q'])) (fun q' => hb (by simp [q'])) (fun q' => hb (by simp [q'])) q) hf⟩
  self := fun A i s Q E st h => wpAny_pyIter_zip st.1 h
def iZipT (K : PySem.W.Frag) (ta : TA) : TI := fun σ H R => ta σ H fun vs H1 => ∃ x b ys, vs = [.str x, .ref b] ∧ SqT K H1 b ys ∧ R (ItZ K x b) H1
theorem pi_zipT {X : Cx} {e e2 : Expr} {ta : TA} {p pos tpos : Pos} {elts : List Expr} {kk : Nat} (hg : Gl X "zip") (hm : X.mg "zip" = none) (ha : PA X [e, e2] ta)
    (hs : starEach [e, e2] X.env = (false, eval e X.env) :: starEach [e2] X.env := by rfl) (hpl : (backTo pos (starEach [e2] X.env)).any (·.1) = false := by rfl) :
    PI X (.Tuple elts kk tpos) (.Call (.Name "zip" p) [e, e2] [] pos) (iZipT X.K ta) := by
  refine ⟨fun pins s σ H R I h => ?_⟩
  refine PyProof.Rows.Call_ (ld_blt I hg hm PyProof.Rows.boot_zip (PyProof.Rows.callWith_type1 (thn (ha.run pos pins s σ H _ I h) fun us s1 ⟨vs, H1, I1, r1, q1⟩ => ?_) hs hpl))
  obtain ⟨x, b, ys, ex, hqy, q⟩ := q1
  subst ex
  cases r1 with
  | cons r rr =>
    cases rr with
    | cons r' rr =>
      cases rr
      obtain ⟨tk0, rfl⟩ := r
      cases r'
      obtain ⟨its, rv, p1, _⟩ := I1.tuple hqy
      have hb : b < s1.heap.objs.size := by
        obtain ⟨o, ho, _⟩ := p1
        exact Heap.lt_size ho
      refine zip_begins2 (begins_text x tk0) (begins_tuple b its.toArray) trivial p1 fun h' hZ hTI hTO h1 h2 hsz hk => wpAny_pyIter_zip hZ ?_
      have I2 : Inv X pins σ H1 { s1 with heap := h' } := I1.kept (t' := s1.toks) hk
      have S := sepN s1.heap.objs.size b hb
      refine ⟨s1.heap.objs.size + 4, [s1.heap.objs.size + 4, s1.heap.objs.size + 2, s1.heap.objs.size + 3, s1.heap.objs.size, s1.heap.objs.size + 1], _, _, H1, rfl, I2, turn_zipT x tk0 S, ⟨hZ, hTI, ⟨_, _, hTO⟩, ⟨_, h1, rfl, rfl⟩, ⟨_, h2, rfl, rfl⟩, Nat.zero_le _⟩, fun c hcm => ?_, q⟩
      have hle : s1.heap.objs.size ≤ c := by
        have e' : c = s1.heap.objs.size + 4 ∨ c = s1.heap.objs.size + 2 ∨ c = s1.heap.objs.size + 3 ∨ c = s1.heap.objs.size ∨ c = s1.heap.objs.size + 1 := by simpa using hcm
        rcases e' with z | z | z | z | z
        · rw [z]; exact Nat.le_add_right _ _
        · rw [z]; exact Nat.le_add_right _ _
        · rw [z]; exact Nat.le_add_right _ _
        · rw [z]; exact Nat.le_refl _
        · rw [z]; exact Nat.le_add_right _ _
      exact I1.fpOk hle (I1.hok.fresh hle)
theorem kZT {X : Cx} (K : Fr) (h : X.K = K) {e e2 : Expr} {ta : TA} {p pos tpos : Pos} {elts : List Expr} {kk : Nat} (hg : Gl X "zip") (hm : X.mg "zip" = none) (ha : PA X [e, e2] ta)
    (hs : starEach [e, e2] X.env = (false, eval e X.env) :: starEach [e2] X.env := by rfl) (hpl : (backTo pos (starEach [e2] X.env)).any (·.1) = false := by rfl) :
    PI X (.Tuple elts kk tpos) (.Call (.Name "zip" p) [e, e2] [] pos) (iZipT K ta) := h ▸ pi_zipT hg hm ha hs hpl
section
variable {K : Fr} {B : Bs} {G : En} {ta : TA} {PI : En → List PyData → Prop}
theorem di_zipT (h : DA K B G ta fun G1 ws => ∃ (z : List Nat) (ds : List PyData), ws = [.d (zD z), .d (.tuple ds)] ∧ PI G1 ((z.zip ds).map pairD)) : DI K B G (iZipT K ta) PI := fun S F H R I k => by
  show ta S H fun vs H1 => ∃ x b ys, vs = [.str x, .ref b] ∧ SqT K H1 b ys ∧ R (ItZ K x b) H1
  refine h S F H _ I fun vs F1 H1 G1 ws e1 I1 hv ⟨z, ds, hw, q⟩ => ?_
  subst hw
  cases hv with
  | cons h1 h2 =>
    cases h2 with
    | cons h2 h3 =>
      cases h3
      obtain rfl := dp_str h1
      obtain ⟨b, ys, rfl, hp, ha⟩ := dp_tup h2
      refine ⟨mkS z, b, ys, rfl, SqT.of (I1.ex _ _ hp), k _ F1 H1 G1 _ e1 I1 (fun i H2 F2 eF eH => ⟨fun d hd => ?_, fun e => ?_⟩) q⟩
      · rw [List.getElem?_map] at hd
        obtain ⟨⟨c, d0⟩, hcd, rfl⟩ := Option.map_eq_some_iff.mp hd
        rw [List.getElem?_zip_eq_some] at hcd
        obtain ⟨hc, hd0⟩ := hcd
        have hc : z[i]? = some c := hc
        have hd0 : ds[i]? = some d0 := hd0
        obtain ⟨u, hu, hd2⟩ := da_get ha hd0
        have sq : SqT K H2 b ys := SqT.of (eH _ _ (eF _ _ hp))
        have hil := (List.getElem?_eq_some_iff.mp hc).1
        refine ⟨⟨by simpa [mkS] using hil, ys, u, sq, hu⟩, fun v H' y => ?_⟩
        obtain ⟨T, c', y', rfl, hT, rfl, hcx, hx'⟩ := y
        have e3 := hx' ys sq
        rw [hu] at e3
        cases e3
        have ec : c' = c := by
          have hcx : z.toArray[i]? = some c' := hcx
          rw [List.getElem?_toArray, hc] at hcx
          exact (Option.some.inj hcx).symm
        subst ec
        refine ⟨upd F2 T (.tup [.str ⟨#[c']⟩, u]), Ex.new (eH.free hT), Ex.new hT, eH.both _ _, fun b o h1 h2 => ?_, .tup upd_same (.cons (.str _) (.cons (dp_mono (eF.trans (Ex.new (eH.free hT))) hd2) .nil))⟩
        by_cases hb : b = T
        · rw [hb]
          exact hT
        · rw [upd_ne hb] at h1
          rw [h1] at h2
          cases h2
      · rw [List.length_map, List.length_zip] at e
        refine ⟨ys, SqT.of (eH _ _ (eF _ _ hp)), ?_⟩
        have : (mkS z).cps.size = z.length := by simp [mkS]
        have := da_len ha
        omega
end
end DL
/-! own objects whose fields are data -/
namespace DL
open PySem L2
abbrev Fs := List (Str × PyData)
def putFd (f : Str) (d : PyData) : Fs → Fs
  | [] => [(f, d)]
  | (g, x) :: r => if g = f then (g, d) :: r else (g, x) :: putFd f d r
def zf (fs : Fs) (vs : List V) : List (Str × V) := (fs.map (·.1)).zip vs
section
variable {K : Fr} {F H : Hp}
theorem ob_put {f : Str} {v : V} {d : PyData} (hv : Dq K F v d) : ∀ {fs : Fs} {vs : List V}, DqAll K F vs (fs.map (·.2)) → ∃ vs', L2.putF f v (zf fs vs) = zf (putFd f d fs) vs' ∧ DqAll K F vs' ((putFd f d fs).map (·.2))
  | [], _, .nil => ⟨[v], rfl, .cons hv .nil⟩
  | (g, x) :: r, u :: us, .cons h1 h2 => by
    by_cases e : g = f
    · refine ⟨v :: us, ?_, ?_⟩
      · show L2.putF f v ((g, u) :: zf r us) = zf (if g = f then (g, d) :: r else (g, x) :: putFd f d r) (v :: us)
        rw [if_pos e]
        show (if g = f then (g, v) :: zf r us else (g, u) :: L2.putF f v (zf r us)) = _
        rw [if_pos e]
        rfl
      · show DqAll K F (v :: us) ((if g = f then (g, d) :: r else (g, x) :: putFd f d r).map (·.2))
        rw [if_pos e]
        exact .cons hv h2
    · obtain ⟨vs', a, b⟩ := ob_put hv h2
      refine ⟨u :: vs', ?_, ?_⟩
      · show L2.putF f v ((g, u) :: zf r us) = zf (if g = f then (g, d) :: r else (g, x) :: putFd f d r) (u :: vs')
        rw [if_neg e]
        show (if g = f then (g, v) :: zf r us else (g, u) :: L2.putF f v (zf r us)) = _
        rw [if_neg e, a]
        rfl
      · show DqAll K F (u :: vs') ((if g = f then (g, d) :: r else (g, x) :: putFd f d r).map (·.2))
        rw [if_neg e]
        exact .cons h1 b
theorem ob_lk {f : Str} {d : PyData} : ∀ {fs : Fs} {vs : List V}, DqAll K F vs (fs.map (·.2)) → fs.lookup f = some d → ∃ v, (zf fs vs).lookup f = some v ∧ Dq K F v d
  | [], _, _, h => by cases h
  | (g, x) :: r, u :: us, .cons h1 h2, h => by
    show ∃ v, ((g, u) :: zf r us).lookup f = some v ∧ _
    rw [List.lookup_cons] at h ⊢
    cases e : f == g with
    | true =>
      rw [e] at h
      cases h
      exact ⟨u, rfl, h1⟩
    | false =>
      rw [e] at h
      exact ob_lk h2 h
theorem ob_lkn {f : Str} : ∀ {fs : Fs} {vs : List V}, fs.lookup f = none → (zf fs vs).lookup f = none
  | [], _, _ => rfl
  | (g, x) :: r, [], _ => rfl
  | (g, x) :: r, u :: us, h => by
    show ((g, u) :: zf r us).lookup f = none
    rw [List.lookup_cons] at h ⊢
    cases e : f == g with
    | true =>
      rw [e] at h
      cases h
    | false =>
      rw [e] at h
      exact ob_lkn h
theorem ob_len {fs : Fs} {vs : List V} : (zf fs vs).length ≤ fs.length := by
  unfold zf
  rw [List.length_zip, List.length_map]
  exact Nat.min_le_left _ _
end
/-- an object of the class at C that this def alone has, its fields data -/
def obC (K : Fr) (C : Addr) (fs : Fs) : Hp → Hp → V → (Addr → Prop) → Prop := fun F H v A => ∃ p dx vs, v = .ref p ∧ H p = some (.ins C dx (zf fs vs)) ∧ H dx = some (.own p) ∧ dx ≠ p ∧ DqAll K F vs (fs.map (·.2)) ∧ A p ∧ A dx
theorem obC_stab {K : Fr} {C : Addr} {fs : Fs} {F H F' H' : Hp} {v : V} {A : Addr → Prop} (h : obC K C fs F H v A) (e : Ex F F') (k : ∀ a, A a → H' a = H a) : obC K C fs F' H' v A := by
  obtain ⟨p, dx, vs, h1, h2, h3, h4, h5, h6, h7⟩ := h
  exact ⟨p, dx, vs, h1, by rw [k p h6]; exact h2, by rw [k dx h7]; exact h3, h4, da_mono e h5, h6, h7⟩
theorem obC_ptr {K : Fr} {C : Addr} {fs : Fs} {F H : Hp} {v : V} {A : Addr → Prop} (h : obC K C fs F H v A) : ∃ p, v = .ref p ∧ A p ∧ H p ≠ none := by
  obtain ⟨p, dx, vs, h1, h2, h3, h4, h5, h6, h7⟩ := h
  exact ⟨p, h1, h6, nn h2⟩
def obR (K : Fr) (C : Addr) (fs : Fs) (q : Option Addr) : Orel := mkO (obC K C fs) obC_stab obC_ptr q
abbrev Sl.ob (K : Fr) (C : Addr) (fs : Fs) (q : Option Addr) : Sl := .ow (obR K C fs q)
theorem ob_re {K : Fr} {C : Addr} {fs : Fs} {q q' : Option Addr} : (Sl.ob K C fs q).re q' = Sl.ob K C fs q' := rfl
theorem ob_q {K : Fr} {C : Addr} {fs : Fs} {q : Option Addr} : (Sl.ob K C fs q).q = q := rfl
theorem ob_tr {K : Fr} {C : Addr} {fs : Fs} {q : Option Addr} : (Sl.ob K C fs q).tr = true := rfl
section
variable {K : Fr} {B : Bs} {G : En} {S : St} {F H : Hp} {C : Addr} {fs : Fs} {q : Option Addr} {i : Nat} {f : Str} {d : PyData} {P : Po} {E : De} {te : TE} {t : TA}
theorem Iv.ob (I : Iv K B G S F H) (h : G[i]? = some (.ob K C fs q)) : ∃ p dx vs, S[i]? = some (some (.ref p)) ∧ H p = some (.ins C dx (zf fs vs)) ∧ H dx = some (.own p) ∧ dx ≠ p ∧ DqAll K F vs (fs.map (·.2)) := by
  obtain ⟨A, a1, _, _⟩ := I.own
  rcases a1 i _ h with e | ⟨v, h1, ⟨p, dx, vs, rfl, h2, h3, h4, h5, _, _⟩, _⟩
  · cases e
  · exact ⟨p, dx, vs, h1, h2, h3, h4, h5⟩
theorem dw_ob (h : G[i]? = some (.ob K C fs q)) (x : P G (.p (.sl i))) : DW K B G (tVar i) P := fun S F H Q I k => by
  obtain ⟨p, dx, vs, h1, _⟩ := I.ob h
  exact ⟨_, h1, k _ F H G (.p (.sl i)) (Ex.refl F) ⟨I, h1⟩ x⟩
/-- x.f -/
theorem dw_fld (c : Cls K C) (n : NoAttr K C f) (h : G[i]? = some (.ob K C fs q)) (hl : fs.lookup f = some d) (x : P G (.p (.d d))) : DW K B G (tFld K (tVar i) f) P := fun S F H Q I k => by
  obtain ⟨p, dx, vs, h1, h2, _, _, h5⟩ := I.ob h
  obtain ⟨v, e1, e2⟩ := ob_lk h5 hl
  exact ⟨_, h1, p, C, dx, _, v, rfl, h2, c, n, e1, ct_d k I e2 x⟩
theorem Iv.obPut {p dx : Addr} {vs : List V} {v : V} (I : Iv K B G S F H) (h : G[i]? = some (.ob K C fs q)) (h1 : S[i]? = some (some (.ref p))) (h2 : H p = some (.ins C dx (zf fs vs))) (h5 : DqAll K F vs (fs.map (·.2))) (hv : Dq K F v d) :
    Iv K B (G.set i (.ob K C (putFd f d fs) q)) S F (upd H p (.ins C dx (L2.putF f v (zf fs vs)))) := by
  obtain ⟨vs', e1, e2⟩ := ob_put (f := f) hv h5
  rw [e1]
  refine I.mutG h h1 (fun A hA => ?_) (fun z => by cases z) fun A hp hA => ?_
  · obtain ⟨⟨p', dx', vs'', k1, k2, k3, k4, k5, k6, k7⟩, _⟩ := hA
    cases k1
    exact k6
  · obtain ⟨⟨p', dx', vs'', k1, k2, k3, k4, k5, k6, k7⟩, k8⟩ := hA
    cases k1
    have e := Option.some.inj (h2.symm.trans k2)
    injection e with _ ed _
    subst ed
    exact ⟨⟨p, dx, vs', rfl, upd_same, by rw [upd_ne k4]; exact k3, k4, e2, k6, k7⟩, k8⟩
/-- x.f = e -/
theorem ds_fld (c : Cls K C) (n : NoAttr K C f) (h : DW K B G te fun G1 r1 => PW r1 fun w => ∃ d fs q, w = .d d ∧ G1[i]? = some (.ob K C fs q) ∧ fs.length < 1000 ∧ E.nx (G1.set i (.ob K C (putFd f d fs) q))) : DS K B G (sFld K (tVar i) te f) E := fun S F H D I k => by
  show te S H fun y H1 => ∃ v, S[i]? = some (some v) ∧ _
  refine dw_run (k' := fun G1 w => ∃ d fs q, w = .d d ∧ G1[i]? = some (.ob K C fs q) ∧ fs.length < 1000 ∧ E.nx (G1.set i (.ob K C (putFd f d fs) q))) h I fun v F1 H1 G1 w e1 I1 hv ⟨d, fs, q, hw, hi, hl, x⟩ => ?_
  subst hw
  obtain ⟨p, dx, vs, h1, h2, _, _, h5⟩ := I1.ob hi
  exact ⟨_, h1, p, C, dx, _, rfl, h2, c, n, Nat.lt_of_le_of_lt ob_len hl, k.nx _ F1 _ _ e1 (I1.obPut hi h1 h2 h5 hv) x⟩
/-- x.f op= e -/
theorem ds_fldAug {rd : V → V → Hp → VK → Prop} {d0 : PyData} (c : Cls K C) (n : NoAttr K C f) (hi : G[i]? = some (.ob K C fs q)) (hl : fs.lookup f = some d0)
    (h : DW K B G te fun G1 r1 => PW r1 fun w => RW2 K B G1 rd (.d d0) w fun G2 r2 => PW r2 fun w2 => ∃ d fs q, w2 = .d d ∧ G2[i]? = some (.ob K C fs q) ∧ fs.length < 1000 ∧ E.nx (G2.set i (.ob K C (putFd f d fs) q))) : DS K B G (sFldAug K (tVar i) te rd f) E := fun S F H D I k => by
  obtain ⟨p, dx, vs, h1, h2, _, _, h5⟩ := I.ob hi
  obtain ⟨v0, e1, e2⟩ := ob_lk h5 hl
  refine ⟨_, h1, p, C, dx, _, v0, rfl, h2, c, n, e1, ?_⟩
  refine dw_run (k' := fun G1 w => RW2 K B G1 rd (.d d0) w fun G2 r2 => PW r2 fun w2 => ∃ d fs q, w2 = .d d ∧ G2[i]? = some (.ob K C fs q) ∧ fs.length < 1000 ∧ E.nx (G2.set i (.ob K C (putFd f d fs) q))) h I fun v F1 H1 G1 w a1 I1 hv x => ?_
  refine x S F1 H1 _ v0 v I1 (dp_mono a1 e2) hv fun z F2 H2 G2 r2 a2 hr y => ?_
  obtain ⟨F3, w2, a3, I3, hz, d, fs2, q2, hw, hj, hl2, y⟩ := pw_ok hr y
  subst hw
  obtain ⟨p', dx', vs', k1, k2, _, _, k5⟩ := I3.ob hj
  rw [h1] at k1
  cases k1
  exact ⟨dx', _, k2, Nat.lt_of_le_of_lt ob_len hl2, k.nx _ F3 _ _ ((a1.trans a2).trans a3) (I3.obPut hj h1 k2 k5 hz) y⟩
theorem ds_fldAugI {g : Int → Int → Int} {a : Int} (c : Cls K C) (n : NoAttr K C f) (hi : G[i]? = some (.ob K C fs q)) (hl : fs.lookup f = some (.int a))
    (h : DW K B G te fun G1 r1 => PW r1 fun w => ∃ b fs q, w = .d (.int b) ∧ G1[i]? = some (.ob K C fs q) ∧ fs.length < 1000 ∧ E.nx (G1.set i (.ob K C (putFd f (.int (g a b)) fs) q))) : DS K B G (sFldAug K (tVar i) te (ipI g) f) E := by
  refine ds_fldAug c n hi hl fun S F H Q I k => h S F H Q I fun v F' H' G' r e1 hr x => k v F' H' G' r e1 hr ?_
  match r, x with
  | .p w, ⟨b, fs, q, e, hj, hl2, y⟩ =>
    subst e
    intro S F H Q v1 v2 I a1 a2 k2
    cases dp_int a1
    cases dp_int a2
    exact ⟨a, b, rfl, rfl, ct_d k2 I (.int _) ⟨.int (g a b), fs, q, rfl, hj, hl2, y⟩⟩
  | .fr (.o _ ds), ⟨b, fs, q, e, _⟩ => cases e
/-- x.m(..): as a call with x ahead -/
theorem dw_meth {m : Str} {sp : Sp} {X : XK} (h : G[i]? = some (.ob K C fs q)) (hm : fs.lookup m = none) (x : DW K B G (tCall sp [] X (tCons (tVar i) t)) P) : DW K B G (tMeth C m sp [] X (tVar i) t) P := fun S F H Q I k => by
  obtain ⟨p, dx, vs, h1, h2, _⟩ := I.ob h
  obtain ⟨v, e1, y⟩ := x S F H Q I k
  rw [h1] at e1
  cases e1
  exact ⟨_, h1, p, dx, _, rfl, h2, ob_lkn hm, y⟩
end
/-- .. within try -/
def tMethE (C : Addr) (m : Str) (sp : Sp) (E : St → XK) (ta : TE) (t : TA) : TE := fun σ H Q => ta σ H fun x H1 => ∃ a dx fs, x = .ref a ∧ H1 a = some (.ins C dx fs) ∧ fs.lookup m = none ∧ t σ H1 fun vs H2 => sp (x :: vs) H2 Q (E σ)
section
variable {X : Cx} {CX : CXT} {k : Nat} {f C : Addr} {fd : FuncData} {ps : List Str} {sp : Sp} {E : St → XK} {m : Str} {p pos apos : Pos} {e o : Expr} {es : List Expr} {ta : TE} {t : TA}
theorem pe_methE {pl : Sem Bool} (he : PE X o ta) (c : Cls X.K C) (hm : Meth X.K C m f) (F : FnOk X.prog X.w X.K X.mg X.base CX k f fd ps sp) (hr : Room k X.A) (hb : Binds X.K fd ps []) (hx : ∀ σ, PassesAt CX X σ (E σ)) (ha : PA X (e :: es) t)
    (hst : starEach (e :: es) X.env = (false, eval e X.env) :: starEach es X.env := by rfl) (hpl : (backTo pos (starEach es X.env)).any (·.1) = false := by rfl)
    (ht : eval (.Call (.Attribute o m apos) (e :: es) [] pos) X.env = (do
      let ov ← eval o X.env
      standAt apos.atName
      let (f, first) ← holding [ov] (getMethod ov m pl)
      callWith pos f first (backTo pos (starEach (e :: es) X.env)) (backToKw pos (keywordEach [] X.env))) := by rfl) :
    PE X (.Call (.Attribute o m apos) (e :: es) [] pos) (tMethE C m sp E ta t) := by
  refine ⟨fun pins s σ H Q I h => ?_⟩
  refine PySem.W.methodCall_KW (pl := pl) (thn (he.run pins s σ H _ I h) fun u s1 ⟨x, H1, I1, rx, a, dx, fs, ex, ea, l, q⟩ => ?_) ht
  subst ex
  obtain rfl : u = Value.ref a := rx
  refine getmeth_ok I1 ea c hm l ?_
  refine PySem.W.callWith_K (first := [.ref a]) (h₀ := X.base) I.ok.mod.kin hm.kp (thn (ha.run pos pins s1 σ H1 _ I1 q) fun us s2 ⟨vs, H2, I2, r, q2⟩ => ⟨I2.kIn, ?_⟩) hst hpl
  exact run_fnS (us := .ref a :: us) (vs := .ref a :: vs) F hr hb (hx σ) I2 (.cons rfl r) q2
theorem pe_methE0 {pl : Sem Bool} (he : PE X o ta) (c : Cls X.K C) (hm : Meth X.K C m f) (F : FnOk X.prog X.w X.K X.mg X.base CX k f fd ps sp) (hr : Room k X.A) (hb : Binds X.K fd ps []) (hx : ∀ σ, PassesAt CX X σ (E σ))
    (ht : eval (.Call (.Attribute o m apos) [] [] pos) X.env = (do
      let ov ← eval o X.env
      standAt apos.atName
      let (f, first) ← holding [ov] (getMethod ov m pl)
      callWith pos f first (backTo pos (starEach [] X.env)) (backToKw pos (keywordEach [] X.env))) := by rfl) :
    PE X (.Call (.Attribute o m apos) [] [] pos) (tMethE C m sp E ta tNil) := by
  refine ⟨fun pins s σ H Q I h => ?_⟩
  refine PySem.W.methodCall_KW (pl := pl) (thn (he.run pins s σ H _ I h) fun u s1 ⟨x, H1, I1, rx, a, dx, fs, ex, ea, l, q⟩ => ?_) ht
  subst ex
  obtain rfl : u = Value.ref a := rx
  refine getmeth_ok I1 ea c hm l ?_
  exact PySem.W.callWith_K0 (first := [.ref a]) I1.kIn hm.kp (run_fnS (us := [.ref a]) (vs := [.ref a]) F hr hb (hx σ) I1 (.cons rfl .nil) q)
end
section
variable {K : Fr} {B : Bs} {G : En} {C : Addr} {fs : Fs} {q : Option Addr} {i : Nat} {P : Po} {t : TA}
theorem dw_methE {m : Str} {sp : Sp} {X : St → XK} (h : G[i]? = some (.ob K C fs q)) (hm : fs.lookup m = none) (x : DW K B G (tCallS sp X (tCons (tVar i) t)) P) : DW K B G (tMethE C m sp X (tVar i) t) P := fun S F H Q I k => by
  obtain ⟨p, dx, vs, h1, h2, _⟩ := I.ob h
  obtain ⟨v, e1, y⟩ := x S F H Q I k
  rw [h1] at e1
  cases e1
  exact ⟨_, h1, p, dx, _, rfl, h2, ob_lkn hm, y⟩
variable {ι : Type} {args2 : ι → List PyData} {own : ι → Sl} {pre : ι → Prop} {res : ι → Sl → Rs → Prop} {exc : ι → Sl → Value → Prop} {E : XK}
/-- C(..) -/
theorem dw_makeX {ex0 : Value → En → Prop} (hE : ∀ cls S F H G, Iv K B G S F H → ex0 cls G → E cls none H) (h : DA K B G t fun G1 ws => ∃ x, pre x ∧ allD ws = some (args2 x) ∧ (own x).re none = Sl.ob K C [] none ∧ (∀ s' r, s'.tr = true → res x s' r → r = .p (.d .none) ∧ P G1 (.fr s')) ∧ ∀ s' c, exc x s' c → ex0 c G1) :
    DW K B G (tMake C (spH K (fun _ => []) own args2 pre res exc) [] E t) P := fun S F H Q I k => by
  refine h S F H _ I fun vs F1 H1 G1 ws e1 I1 hv ⟨x, hp, hd, ho, q, qx⟩ a dx na nd hne => ?_
  have hH : Ex H1 (upd (upd H1 dx (.own a)) a (.ins C dx [])) := (Ex.new nd).trans (Ex.new (by rw [upd_ne (Ne.symm hne)]; exact na))
  have hS : SvR K F1 (upd (upd H1 dx (.own a)) a (.ins C dx [])) (.ref a) (fun b => b = a ∨ b = dx) (Sl.ob K C [] none) := ⟨⟨a, dx, [], rfl, upd_same, by rw [upd_ne hne, upd_same], hne, .nil, .inl rfl, .inr rfl⟩, fun _ z => nomatch z⟩
  have old : ∀ b, H1 b ≠ none → ¬ (b = a ∨ b = dx) := fun b hb z => z.elim (fun z => hb (by rw [z]; exact na)) fun z => hb (by rw [z]; exact nd)
  refine ⟨x, hp, F1, a, fun b => b = a ∨ b = dx, [], vs, [], Sl.ob K C [] none, args2 x, by rw [List.append_nil]; rfl, I1.ex.trans hH, rfl, hS, fun b hb => ⟨?_, ?_⟩, .nil, allD_ok hd hv, ⟨rfl, ho.symm, rfl⟩, fun v F2 H2 A' s' r a1 a2 a3 a4 a5 a6 a7 a8 a9 b0 => ?_, fun cls F2 H2 A' s' a1 a2 a3 a4 a5 a6 a7 a8 b0 => ?_⟩
  · exact hb.elim (fun z => by rw [z]; exact I1.fnone na) fun z => by rw [z]; exact I1.fnone nd
  · rcases hb with z | z
    · rw [z, upd_same]
      exact fun z => by cases z
    · rw [z, upd_ne hne, upd_same]
      exact fun z => by cases z
  · obtain ⟨hr, hP⟩ := q (s'.re none) r (by rw [re_tr]; exact a6) b0
    subst hr
    refine ⟨dp_non a9, k (.ref a) F2 H2 G1 (.fr (s'.re none)) (e1.trans a1) ?_ hP⟩
    refine I1.add a1 (fun b o hb => a3 b o (hH b o hb) (old b (nn hb))) a2 (fun b o hb hn => ?_) (some (.ref a)) A' (.inr ⟨_, rfl, svr_re a7 none fun _ z => nomatch z⟩) fun b hb => ⟨?_, (a8 b hb).1, (a8 b hb).2.1⟩
    · rcases a5 b o hb hn with z | z
      · exact Ex.free hH z
      · exact z.elim (fun z => by rw [z]; exact na) fun z => by rw [z]; exact nd
    · rcases (a8 b hb).2.2 with z | z
      · exact z.elim (fun z => by rw [z]; exact na) fun z => by rw [z]; exact nd
      · exact Ex.free hH z
  · refine hE cls S F2 H2 G1 (I1.grow a1 (fun b o hb => a3 b o (hH b o hb) (old b (nn hb))) a2 fun b o hb hn => ?_) (qx _ _ b0)
    rcases a5 b o hb hn with z | z
    · exact Ex.free hH z
    · exact z.elim (fun z => by rw [z]; exact na) fun z => by rw [z]; exact nd
theorem dw_make (h : DA K B G t fun G1 ws => ∃ x, pre x ∧ allD ws = some (args2 x) ∧ (own x).re none = Sl.ob K C [] none ∧ (∀ s' r, s'.tr = true → res x s' r → r = .p (.d .none) ∧ P G1 (.fr s')) ∧ ∀ s' c, ¬ exc x s' c) :
    DW K B G (tMake C (spH K (fun _ => []) own args2 pre res exc) [] E t) P := dw_makeX (ex0 := fun _ _ => False) (fun _ _ _ _ _ _ z => z.elim) h
end
/-! calls whose exception the caller's own thing may see -/
section
variable {K : Fr} {B : Bs} {G : En} {P : Po} {t : TA} {E : XK} {ι : Type} {args1 args2 : ι → List PyData} {own : ι → Sl} {pre : ι → Prop} {res : ι → Sl → Rs → Prop} {exc : ι → Sl → Value → Prop}
def TkG (K : Fr) (B : Bs) (ex0 : Value → En → Prop) (E : XK) : Prop := ∀ cls S F H G, Iv K B G S F H → ex0 cls G → E cls none H
theorem dw_callHG {ex0 : Value → En → Prop} (hE : TkG K B ex0 E) (h : DA K B G t fun G1 ws => ∃ x i s, pre x ∧ splitW ws = some (args1 x, i, args2 x) ∧ G1[i]? = some s ∧ s.tr = true ∧ s.re none = (own x).re none ∧ (∀ s' r, s'.tr = true → res x s' r → P (G1.set i (s'.re s.q)) r) ∧ ∀ s' c, s'.tr = true → exc x s' c → ex0 c (G1.set i (s'.re s.q))) :
    DW K B G (tCall (spH K args1 own args2 pre res exc) [] E t) P := fun S F H Q I k => by
  show t S H fun vs H1 => spH K args1 own args2 pre res exc (vs ++ []) H1 Q E
  refine h S F H _ I fun vs F1 H1 G1 ws e1 I1 hv ⟨x, i, s, hp, hd, hi, ht, ho, q, qx⟩ => ?_
  rw [List.append_nil]
  refine ⟨x, hp, coreG k e1 I1 hv hd hi ht ⟨rfl, by rw [re_re]; exact ho, rfl⟩ (fun s' r ht' a => ?_) (fun cls F' H' s' ht' J a => ?_)⟩
  · have := q (s'.re none) r (by rw [re_tr]; exact ht') a
    rw [re_re] at this
    exact this
  · have := qx (s'.re none) cls (by rw [re_tr]; exact ht') a
    rw [re_re] at this
    exact hE cls _ _ _ _ J this
theorem tkw_of {ex0 : Value → En → Prop} (h : TkG K B ex0 E) : TkW K B ex0 (fun cls d _ H => E cls d H) := fun cls S F H G I x => h cls S F H G I x
theorem tkg_of {j : Nat} {p : Addr} {exc : Sl → Value → Prop} (h : TkH K B j p exc E) : TkG K B (fun cls G => OwnH j p (fun s => exc s cls) G) E := fun cls S F H G I x => h cls S F H G I x
end
end DL
/-! an exception of a call in a list comprehension's element goes on in the def -/
namespace DL
open PySem PySem.Spec PyProof.Rows L2
abbrev St1 := L2.St
section
variable {X : Cx} {pins : List (Addr × Obj)} {σ : St1} {H : Hp} {s s' : Shared} {E : XK} {W : WX}
/-- behind a call that let an exception out: a state of ours without it -/
theorem call_ground (I : Inv X pins σ H s) {u : Value} (c : L2.CX X.prog X.w X.stack H s E u s') :
    ∃ (a : Addr) (B : Heap) (sI : Shared) (H' : Hp) (cls : Value) (d : Option Addr), u = .ref a ∧ Inv X pins σ H' sI ∧ (∀ b o, sI.heap.get? b = some o → b ∉ frs X.stack → B.get? b = some o) ∧ sI.heap.UpToSlots s'.heap ∧
      HandSPX.FlyingZ B X.stack a (Zc cls d) s'.heap ∧ H' a = none ∧ s'.os = sI.os ∧ AllBare s'.gens ∧ E cls d H' := by
  obtain ⟨a, B, H', cls, d, rfl, fl, hok, ub, na, os, ag, hE⟩ := c
  obtain ⟨G, g1, g2⟩ := L2.restrict s'.heap fun b => (B.get? b).isSome || decide (b ∈ frs X.stack)
  have gB : ∀ b o, B.get? b = some o → G.get? b = some o := fun b o e => by
    rw [g1 b (by simp [e])]
    exact fl.1 b o e
  have gF : ∀ b, b ∈ frs X.stack → G.get? b = s'.heap.get? b := fun b hb => g1 b (by simp [hb])
  have og : ∀ b o, G.get? b = some o → s'.heap.get? b = some o ∧ ((B.get? b).isSome = true ∨ b ∈ frs X.stack) := fun b o e => by
    cases q : ((B.get? b).isSome || decide (b ∈ frs X.stack)) with
    | false =>
      rw [g2 b q] at e
      cases e
    | true =>
      rw [g1 b q] at e
      exact ⟨e, by simpa [Bool.or_eq_true] using q⟩
  refine ⟨a, B, { s with heap := G, gens := s'.gens, drawn := s'.drawn, toks := s'.toks }, H', cls, d, rfl, ?_, fun b o e hb => ?_, Heap.UpToSlots.of_keeps fun b o e => (og b o e).1, fl, na, os, ag, hE⟩
  · refine I.call (ch := []) ⟨fun b o e n hb _ => gB b o (ub.keep b o e n hb), fun b o e n hb _ => ?_, fun b o e n _ => ub.free b o e n, fun b o e _ => ?_, ub.tups, ub.frzs, ub.tbls⟩ (hok.kept gB) ag (fun _ z => nomatch z)
    · obtain ⟨sl, q⟩ := ub.slot b o e hb
      exact ⟨sl, by rw [gF b hb]; exact q⟩
    · by_cases hb : b ∈ frs X.stack
      · obtain ⟨sl, q⟩ := ub.slot b o e hb
        exact ⟨_, by rw [gF b hb]; exact q⟩
      · obtain ⟨o', q⟩ := ub.there b o e hb
        exact ⟨o', gB b o' q⟩
  · obtain ⟨e', h⟩ := og b o e
    rcases h with h | h
    · obtain ⟨o', q⟩ := Option.isSome_iff_exists.mp h
      have z := fl.1 b o' q
      rw [e'] at z
      cases z
      exact q
    · exact absurd h hb
/-- a block's dict is let go: what flies, flies on -/
theorem held_but {B h h2 : Heap} {l : List Env} {a L C : Addr} {Z : Obj → Prop} {m m2 : Str → Option Value} (hh : HandSPX.HeldZ B l a Z L h) (hn : h.Ns C m) (hn2 : h2.Ns C m2) (sb : Heap.SameBut C h h2) : HandSPX.HeldZ (PySem.W.hideAll B [C]) l a Z L h2 := by
  obtain ⟨st, na, fr, oe, vs, T, oT, ts, he, hz, hd, h1, nT, ne, hT, hdT, h3⟩ := hh
  obtain ⟨oC, es, ep, hC, hdC, _⟩ := hn
  have nf : ∀ b o fs, h.get? b = some o → o.data = .fields fs → b ≠ C := fun b o fs e q z => by
    subst z
    rw [hC] at e
    cases e
    rw [hdC] at q
    cases q
  have hid : ∀ b, B.get? b = none → (PySem.W.hideAll B [C]).get? b = none := fun b q => by
    cases z : (PySem.W.hideAll B [C]).get? b with
    | none => rfl
    | some o =>
      rw [PySem.W.of_hideAll _ z] at q
      cases q
  have f2 := Heap.FunFrames.sameBut sb hn2 fr
  refine ⟨fun b o e => ?_, hid a na, L2.funFrames_none f2 fun b hb => ?_, oe, vs, T, oT, ts, (sb.2 a (nf a _ _ he hd)).trans he, hz, hd, h1, hid T nT, ne, (sb.2 T (nf T _ _ hT hdT)).trans hT, hdT, h3⟩
  · refine (sb.2 b fun z => ?_).trans (st b o (PySem.W.of_hideAll _ e))
    rw [PySem.W.hideAll_none [C] (by simp [z])] at e
    cases e
  · obtain ⟨_, _, _, _⟩ := id (f2.mem hb)
    exact hid b (f2.mem hb).1
/-- an exception of a call in the block is the def's own -/
theorem blk_raise {scope : Scope} {ce : Env} {fp : List Addr} {s3 : Shared} {H3 : Hp} {σ0 : St1} {pinsB : List (Addr × Obj)} (hs : X.stack = X.env :: X.outer) (hf : X.env.frame = some X.env.locals) (tk : Takes X W) (hW : ∀ cls d σ H, E cls d H → W cls d σ H) (I3 : Inv X pins σ0 H3 s3) (cf : ce.frame = X.env.frame) (cL : ce.locals = s3.heap.objs.size)
    (ffp : ∀ b ∈ fp, (b ∈ X.ex ∨ X.s_0.heap.objs.size ≤ b) ∧ b ≠ X.env.locals ∧ (∀ x c, X.env.cells.lookup x = some c → c ≠ b) ∧ ∀ p ∈ X.pn ++ pins, p.1 ≠ b)
    (IB : Inv (X.blk s3 H3 scope ce fp) pinsB σ H s) {u : Value} (c : L2.CX X.prog X.w X.stack H s E u s') : notedBy (model X.prog X.w) X.A ce (CompFails (model X.prog X.w) X.A X.xe ce) u s' := by
  obtain ⟨a, B, sI, H', cls, d, rfl, IY, nb, up, fl, na, os, ag, hE⟩ := call_ground IB c
  have fl : HandSPX.FlyingZ B X.stack a (Zc cls d) s'.heap := fl
  have nb : ∀ b o, sI.heap.get? b = some o → b ∉ frs X.stack → B.get? b = some o := nb
  obtain ⟨m, hn, _⟩ := IY.loc
  have hn : sI.heap.Ns ce.locals m := hn
  have nC : H' ce.locals = none := IY.free
  show wpAny _ _ (noteFrame (.ref a) ce) _ _ s'
  rw [noteFrame_env _ cf]
  have hfr : X.A.frames = some (X.env :: X.outer) := by rw [I3.ok.frames, hs]
  rw [hs] at fl
  refine HandSPX.looks_onZ Zc.steady hfr hf fl fun h1 hh1 up1 => ?_
  have n1 : h1.Ns ce.locals m := Heap.UpToSlots.ns up1 (Heap.UpToSlots.ns up hn)
  refine ⟨m, n1, fun h2 m2 n2 sb => ?_⟩
  have hh2 := held_but hh1 n1 n2 sb
  obtain ⟨k1, k2, k3, oe, vs, T, oT, ts, he, hz, hd, k4, k5⟩ := id hh2
  unfold PySem.passOn
  refine wpAny_bind (wpAny_field he hd k4 ?_)
  rw [if_neg (show ¬ ((Value.ref T == Value.none) = true) from by simp), cf, hf]
  refine wpAny_bind (HandSPX.setFlight_onZ hh2 fun h3 hh3 up3 => wpAny_throw ?_)
  have hid : ∀ b o, sI.heap.get? b = some o → b ≠ ce.locals → (PySem.W.hideAll sI.heap [ce.locals]).get? b = some o := fun b o e z => PySem.W.hideAll_get _ e (by simpa using z)
  have ltC : ∀ b o, s3.heap.get? b = some o → b ≠ ce.locals := fun b o e z => by
    rw [z, cL] at e
    exact absurd (Heap.lt_size e) (Nat.lt_irrefl _)
  have hu : Un (frs X.stack) fp H3 H' s3.heap sI.heap := IY.base
  have I7 : Inv X pins σ0 H' { sI with heap := PySem.W.hideAll sI.heap [ce.locals] } := by
    refine I3.call' (s' := { sI with heap := PySem.W.hideAll sI.heap [ce.locals] }) (ch := fp) IY.os ⟨fun b o e n hb hx => hid b o (hu.keep b o e n hb hx) (ltC b o e), fun b o e n hb hx => ?_, fun b o e n hx => hu.free b o e n hx, fun b o e hx => ?_, hu.tups, hu.frzs, hu.tbls⟩ (fun b o q => ?_) IY.bare ffp
    · obtain ⟨sl, q⟩ := hu.slot b o e n hb hx
      exact ⟨sl, hid b _ q (ltC b o e)⟩
    · obtain ⟨o', q⟩ := hu.there b o e hx
      exact ⟨o', hid b _ q (ltC b o e)⟩
    · refine (IY.hok b o q).stay (fun c u hc r => hid c u r fun z => ?_) (fun _ r => r) fun _ _ r => r
      subst z
      rcases hc with hc | hc
      · rw [hc, q] at nC
        cases nC
      · rw [hc] at nC
        cases nC
  refine tk _ _ ⟨a, PySem.W.hideAll B [ce.locals], _, pins, σ0, H', cls, d, rfl, I7, fun b o e hb => ?_, fun b o e hnf => ?_, .inr (.inr (by rw [hs]; exact hh3)), na, os, ag, hW _ _ _ _ hE⟩
  · refine PySem.W.hideAll_get _ (nb b o (PySem.W.of_hideAll _ e) hb) fun z => ?_
    rw [PySem.W.hideAll_none _ z] at e
    cases e
  · have e1 := PySem.W.of_hideAll _ e
    have ne : b ≠ ce.locals := fun z => by
      rw [PySem.W.hideAll_none [ce.locals] (by simp [z])] at e
      cases e
    obtain ⟨sl1, e2⟩ := up b o e1 hnf
    obtain ⟨sl2, e3⟩ := up1 b _ e2 hnf
    obtain ⟨sl3, e4⟩ := up3 b _ ((sb.2 b ne).trans e3) hnf
    exact ⟨sl3, e4⟩
end
section
variable {X : Cx}
theorem lcX_core {pins : List (Addr × Obj)} {s : Shared} {σ : L2.St} {H : Hp} {Q : VK} {elt tg iter : Expr} {ifs : List Expr} {scope : Scope} {own : List (Str × Nat)} {pos pos' : Pos} {wi : TI} {g : TG} {tt : TT} {te : TE} {Qf : Value → Shared → Prop} {E : XK} {W : WX}
    (hst : X.stack = X.env :: X.outer) (hf : X.env.frame = some X.env.locals) (tk : Takes X W) (hW : ∀ cls d σ H, E cls d H → W cls d σ H)
    (hc : X.calm = true) (hN : X.N.Nodup) (I : Inv X pins σ H s) (hi : PI X tg iter wi) (ok : BlkOk X.N X.env.scope scope own)
    (hg : ∀ (s : Shared) (H : Hp) (C : Addr) (cl : List (Str × Addr)) (fp : List Addr), PG (X.blk s H scope (compEnvC scope cl C X.env) fp) tg g) (ht : ∀ (s : Shared) (H : Hp) (C : Addr) (cl : List (Str × Addr)) (fp : List Addr), PTs (X.blk s H scope (compEnvC scope cl C X.env) fp) ifs tt)
    (he : ∀ (s : Shared) (H : Hp) (C : Addr) (cl : List (Str × Addr)) (fp : List Addr) (pn : List (Addr × Obj)) (xe : Value → Shared → Prop), Passes (L2.CX X.prog X.w) ((X.blk s H scope (compEnvC scope cl C X.env) fp).tr pn xe) E → PE ((X.blk s H scope (compEnvC scope cl C X.env) fp).tr pn xe) elt te) (hs : ∀ x, foldedSetIterable iter X.env x = pure x)
    (h : tLc wi g tt te (own.map (·.2)) σ H Q)
    (hRR : ∀ D C s' m H', Inv X pins σ H' s' → Q (.ref D) H' → s'.heap.Ns C m → FpOk X pins H' C → ∃ m, s'.heap.Ns C m ∧ ∀ h', Heap.SameBut C s'.heap h' → Qf (.ref D) { s' with heap := h' }) :
    wpAny (model X.prog X.w) X.A (comprehension (.ListComp elt [⟨tg, iter, ifs, 0⟩] scope pos) scope X.env pos' (newList []) false (eval iter X.env) none) Qf X.xe s := by
  have hfree : ∀ y ∈ scope.names, y.2 = .free → ∃ c, X.env.cells.lookup y.1 = some c := fun y hy e => by
    rcases ok.free y hy e with k | k
    · exact I.ok.has _ (.inl k)
    · exact I.ok.has _ (.inr k)
  refine comprehension_at (use := none) rfl hs (closure_ok hfree) ok.kind (fun y hy e => by rw [ok.uniq y hy, e])
    (thn (hi.run pins s σ H _ I h) fun xv s1 hx => thn hx fun itv s2 h2 => ?_)
  obtain ⟨it, fp, tn, J, H2, e, I2, T, st2, f2, q⟩ := h2
  subst e
  refine wpAny_newObj_type (newEnv_comp ?_) (by show 0 ≤ sizeLine; decide)
  generalize hD : s2.heap.objs.size = D
  have hDn : H2 D = none := I2.hok.fresh (Nat.le_of_eq hD)
  obtain ⟨Wn, ⟨m0, w0⟩, turn⟩ := q D hDn
  generalize hs3 : ({ s2 with heap := s2.heap.push { cls := .type "list", data := .seq ([] : List Value).toArray } } : Shared) = s3
  have I3 : Inv X pins σ (upd H2 D (.lst [])) s3 := by
    rw [← hs3]
    refine I2.laid (t' := s2.toks) (fun b o e => Heap.get?_push_of_some _ e) (Nat.le_of_eq hD) ⟨Nat.zero_le _, [], 0, .nil, ?_⟩
    rw [← hD]
    exact Heap.get?_push_size _ rfl
  have h3 : s3.heap = s2.heap.push { cls := .type "list", data := .seq ([] : List Value).toArray } := by rw [← hs3]
  have sz : ∀ b ∈ fp, b < s2.heap.objs.size := fun b hb => by
    obtain ⟨o, e, _⟩ := T.obj _ _ st2 b hb
    exact Heap.lt_size e
  have f3 : ∀ b ∈ fp, FpOk X pins (upd H2 D (.lst [])) b ∧ b < s3.heap.objs.size := fun b hb => by
    have hlt := sz b hb
    refine ⟨⟨?_, (f2 b hb).2⟩, by rw [h3, Heap.size_push]; exact Nat.lt_succ_of_lt hlt⟩
    rw [upd_ne (by rw [← hD]; exact Nat.ne_of_lt hlt)]
    exact (f2 b hb).1
  have st3 : tn 0 s3.heap := T.keep _ _ _ st2 fun b _ o e => by rw [h3]; exact Heap.get?_push_of_some _ e
  have I4 := block_start I3 ok hN f3
  have pg := hg s3 (upd H2 D (.lst [])) s3.heap.objs.size (cellsFrom (s3.heap.objs.size + 1) scope.names (cloFrom X.env.cells scope.names [])) fp
  have pt := ht s3 (upd H2 D (.lst [])) s3.heap.objs.size (cellsFrom (s3.heap.objs.size + 1) scope.names (cloFrom X.env.cells scope.names [])) fp
  have pe := he s3 (upd H2 D (.lst [])) s3.heap.objs.size (cellsFrom (s3.heap.objs.size + 1) scope.names (cloFrom X.env.cells scope.names [])) fp
  show codeAny _ _ (.compStart (.ListComp elt [⟨tg, iter, ifs, 0⟩] scope pos) 0 (.ref it) (.ref D) (compEnvC scope (cellsFrom (s3.heap.objs.size + 1) scope.names (cloFrom X.env.cells scope.names [])) s3.heap.objs.size X.env)) (compEnds (model X.prog X.w) X.A X.xe none Qf (.ref D) (compEnvC scope (cellsFrom (s3.heap.objs.size + 1) scope.names (cloFrom X.env.cells scope.names [])) s3.heap.objs.size X.env)) { s3 with heap := pushCells (s3.heap.push { cls := .type "dict", data := .dict #[] }) scope.names }
  have nfp : ∀ b ∈ fp, (upd H2 D (.lst [])) b = none := fun b hb => (f3 b hb).1.1
  generalize hce : compEnvC scope (cellsFrom (s3.heap.objs.size + 1) scope.names (cloFrom X.env.cells scope.names [])) s3.heap.objs.size X.env = ce at I4 pg pt pe ⊢
  have cL : ce.locals = s3.heap.objs.size := by subst hce; rfl
  have cf : ce.frame = X.env.frame := by subst hce; rfl
  generalize hH3 : upd H2 D (.lst []) = H3 at I3 I4 pg pt pe w0 nfp f3
  generalize hs4 : ({ s3 with heap := pushCells (s3.heap.push { cls := .type "dict", data := .dict #[] }) scope.names } : Shared) = s4 at I4 ⊢
  have st4 : tn 0 s4.heap := T.keep _ _ _ st3 fun b _ o e => by rw [← hs4]; exact pushCells_keeps _ _ _ _ (Heap.get?_push_of_some _ e)
  have ffp : ∀ b ∈ fp, (b ∈ X.ex ∨ X.s_0.heap.objs.size ≤ b) ∧ b ≠ X.env.locals ∧ (∀ x c, X.env.cells.lookup x = some c → c ≠ b) ∧ ∀ p ∈ X.pn ++ pins, p.1 ≠ b := fun b hb => ⟨(f3 b hb).1.2.2.2.1, (f3 b hb).1.2.1, (f3 b hb).1.2.2.2.2.1, (f3 b hb).1.2.2.2.2.2⟩
  have stat : ∀ {σ' : St1} {H' : Hp} {s' : Shared}, Inv (X.blk s3 H3 scope ce fp) [] σ' H' s' → (∀ b ∈ fp, H' b = none) → ∀ b ∈ fp, FpOk (X.blk s3 H3 scope ce fp) [] H' b := fun {σ' H' s'} I' hn b hb =>
    ⟨hn b hb, (I'.ok.exf b hb).1, I'.ok.exfs b hb, .inl hb, fun x c e => (I'.ok.exf b hb).2 x c e, fun p hp => absurd (show p ∈ ([] : List (Addr × Obj)) ++ [] from hp) (by simp)⟩
  have loop : codeAny (model X.prog X.w) X.A (.compLoop (.ListComp elt [⟨tg, iter, ifs, 0⟩] scope pos) 0 (.ref it) (.ref D) ce) (compEnds (model X.prog X.w) X.A X.xe none Qf (.ref D) ce) s4 := by
    refine compLoop_any (fun n s' => ∃ i H', Inv (X.blk s3 H3 scope ce fp) [] (wipe σ (own.map (·.2))) H' s' ∧ tn i s'.heap ∧ (∀ b ∈ fp, H' b = none) ∧ Wn i n H') ?_ m0 ⟨0, H3, I4, st4, nfp, w0⟩
    rintro n s5 ⟨i, H5, I5, st5, n5, w5⟩
    rcases turn i n H5 w5 with ⟨stop, qq⟩ | ⟨go, Nx, hNx, step⟩
    · refine thnF (T.done (X.blk s3 H3 scope ce fp) rfl rfl rfl hc i [] s5 _ H5 (fun _ _ => False) I5 (stat I5 n5) st5 stop) fun r s6 ⟨hr, I6⟩ => ?_
      subst hr
      have I7 : Inv X pins σ H5 s6 := I3.call' (ch := fp) I6.os I6.base I6.hok I6.bare ffp
      have nC : H5 s3.heap.objs.size = none := by
        have z : H5 ce.locals = none := I6.free
        rw [cL] at z
        exact z
      obtain ⟨m, hn, _⟩ := I6.loc
      have hn : s6.heap.Ns ce.locals m := hn
      show ∃ m, s6.heap.Ns ce.locals m ∧ _
      rw [cL] at hn ⊢
      exact hRR D s3.heap.objs.size s6 m H5 I7 qq hn (I3.fpOk (Nat.le_refl _) nC)
    · refine thnF (T.item (X.blk s3 H3 scope ce fp) rfl rfl rfl hc i [] s5 _ H5 (fun _ _ => False) I5 (stat I5 n5) st5 go) fun r s6 ⟨u, hr, h6⟩ => ?_
      subst hr
      refine thnF h6 fun _ s7 ⟨x, H7, I7, r7, y7, st7, n7⟩ => ?_
      have I7' := I7.pinned (stat I7 n7) (T.obj _ _ st7)
      refine thnF (pg.run _ s7 _ H7 x u _ I7' r7 (step x H7 y7)) fun _ s8 ⟨σ8, H8, I8, hw8, q8⟩ => ?_
      refine thnF (pt.run _ s8 σ8 H8 _ I8 q8) fun b s9 ⟨H9, I9, q9⟩ => ?_
      have fin : ∀ {s' : Shared} {H' : Hp}, Inv (X.blk s3 H3 scope ce fp) ([] ++ pinsAt fp s7.heap) σ8 H' s' → Nx H' → ∃ m, m < n ∧ ∃ i H', Inv (X.blk s3 H3 scope ce fp) [] (wipe σ (own.map (·.2))) H' s' ∧ tn i s'.heap ∧ (∀ b ∈ fp, H' b = none) ∧ Wn i m H' := fun {s' H'} I' nx => by
        obtain ⟨m', hm, w'⟩ := hNx H' nx
        have pin' : ∀ b ∈ fp, ∀ o, s7.heap.get? b = some o → s'.heap.get? b = some o ∧ H' b = none := fun b hb o e =>
          let z := I'.pin (b, o) (List.mem_append_right _ (List.mem_append_right _ (mem_pinsAt hb e)))
          ⟨z.1, z.2.1⟩
        have hl : (wipe σ (own.map (·.2))).length = σ8.length := by rw [← hw8, wipe_length]
        refine ⟨m', hm, i + 1, H', (I'.unpinned (pins := [])).weak hl (fun j v e => ?_), T.keep _ _ _ st7 fun b hb o e => (pin' b hb o e).1, fun b hb => ?_, w'⟩
        · rw [← hw8] at e
          exact (wipe_some e).1
        · obtain ⟨o, e, _⟩ := T.obj _ _ st7 b hb
          exact (pin' b hb o e).2
      cases b with
      | false =>
        simp only [Bool.false_eq_true, if_false] at q9 ⊢
        exact fin I9 q9
      | true =>
        simp only [if_true] at q9 ⊢
        have pe' := pe ([] ++ pinsAt fp s7.heap) (notedBy (model X.prog X.w) X.A ce (CompFails (model X.prog X.w) X.A X.xe ce)) fun pn1 σ1 H1 t1 u1 t1' J1 c1 => blk_raise (pinsB := [] ++ pinsAt fp s7.heap) hst hf tk hW I3 cf cL ffp (J1.ofTry (X := X.blk s3 H3 scope ce fp) (pins := [] ++ pinsAt fp s7.heap) I9.ok) c1
        refine thn (pe'.run [] s9 σ8 H9 _ (I9.toTry _) q9) fun z s10 ⟨yv, H10, J10, r10, acc, hD10, hz10, nx⟩ => ?_
        exact thnF (app_ok (X := X.blk s3 H3 scope ce fp) (E := fun _ _ => False) (J10.ofTry (X := X.blk s3 H3 scope ce fp) (pins := [] ++ pinsAt fp s7.heap) I9.ok) hD10 hz10 r10 fun s11 I11 => fin I11 nx) fun _ _ z => z
  exact codeAny_compStart_list loop (T.self X.A 0 _ _ _ st4 loop)
/-- [elt for target in iter if ..], calls in elt may raise -/
theorem pe_lcX {elt tg iter : Expr} {ifs : List Expr} {scope : Scope} {own : List (Str × Nat)} {pos : Pos} {wi : TI} {g : TG} {tt : TT} {te : TE} {E : XK} {W : WX} (hst : X.stack = X.env :: X.outer) (hf : X.env.frame = some X.env.locals) (tk : Takes X W) (hW : ∀ cls d σ H, E cls d H → W cls d σ H) (hc : X.calm = true) (hN : X.N.Nodup) (hi : PI X tg iter wi) (ok : BlkOk X.N X.env.scope scope own)
    (hg : ∀ (s : Shared) (H : Hp) (C : Addr) (cl : List (Str × Addr)) (fp : List Addr), PG (X.blk s H scope (compEnvC scope cl C X.env) fp) tg g) (ht : ∀ (s : Shared) (H : Hp) (C : Addr) (cl : List (Str × Addr)) (fp : List Addr), PTs (X.blk s H scope (compEnvC scope cl C X.env) fp) ifs tt)
    (he : ∀ (s : Shared) (H : Hp) (C : Addr) (cl : List (Str × Addr)) (fp : List Addr) (pn : List (Addr × Obj)) (xe : Value → Shared → Prop), Passes (L2.CX X.prog X.w) ((X.blk s H scope (compEnvC scope cl C X.env) fp).tr pn xe) E → PE ((X.blk s H scope (compEnvC scope cl C X.env) fp).tr pn xe) elt te) (hs : ∀ x, foldedSetIterable iter X.env x = pure x := by intro _; rfl) :
    PE X (.ListComp elt [⟨tg, iter, ifs, 0⟩] scope pos) (tLc wi g tt te (own.map (·.2))) := by
  refine ⟨fun pins s σ H Q I h => ?_⟩
  rw [eval_ListComp]
  refine lcX_core hst hf tk hW hc hN I hi ok hg ht he hs h fun D C s' m H' I' q hn f => ⟨m, hn, fun h'' sb => ?_⟩
  obtain ⟨f0, f1, f2, f3, f4, f5⟩ := f
  exact ⟨.ref D, H', I'.turned (t' := s'.toks) (fun b o hb e => (sb.2 b hb).trans e) f0 f1 f3 f4 f5, rfl, q⟩
end
end DL
namespace DL
open PySem L2
/-- a class's j-th statement -/
def inCls : Stmt → Nat → Stmt
  | .ClassDef _ _ _ body _ _ _ _ _ _ _, j => body.getD j (.Pass ⟨0, 0, 0, 0⟩)
  | _, _ => .Pass ⟨0, 0, 0, 0⟩
/-! the rules of fields, the context's K by name; wide division; ord -/
section
variable {X : Cx} {o e value : Expr} {f : Str} {pos pos' tpos : Pos} {ta tv : TE}
theorem pe_globS {x : Str} {y : Str} {pos : Pos} (hg : Gl X x) (h : ∃ t, X.mg x = some (.str y t)) (hd : (x == ("__debug__" : Str)) = false := by decide) : PE X (.Name x pos) (tC (.str y)) := by
  obtain ⟨t, h⟩ := h
  exact pe_glob hg h ⟨t, rfl⟩ hd
theorem kFLD (K : Fr) (h : X.K = K) (p : PE X (.Attribute e f pos) (tFld X.K ta f)) : PE X (.Attribute e f pos) (tFld K ta f) := h ▸ p
theorem kSFLD (K : Fr) (h : X.K = K) (p : PS X (.Assign [.Attribute o f pos'] value pos) (sFld X.K ta tv f)) : PS X (.Assign [.Attribute o f pos'] value pos) (sFld K ta tv f) := h ▸ p
theorem kSAUG (K : Fr) (h : X.K = K) {op : Operator} {rd : V → V → Hp → VK → Prop} (p : PS X (.AugAssign (.Attribute o f tpos) op value pos) (sFldAug X.K ta tv rd f)) : PS X (.AugAssign (.Attribute o f tpos) op value pos) (sFldAug K ta tv rd f) := h ▸ p
end
section
variable {K : Fr} {B : Bs} {G : En} {P : Po}
theorem rw_fdivW {i j : Int} (hc : CDivW i j) (q : P G (.p (.d (.int (i / j))))) : RW2 K B G (rI CDivW fun i j => .int (i / j)) (.d (.int i)) (.d (.int j)) P := fun S F H Q v1 v2 I h1 h2 k => ⟨i, j, dp_int h1, dp_int h2, hc, ct_d k I (.int _) q⟩
theorem rn_ord {x : Str} (h : x.length = 1) (q : P G (.p (.d (.int (x.cps.getD 0 0 : Nat))))) : RWn K B G (fun xs H Q => ∃ x, xs = [.str x] ∧ x.length = 1 ∧ Q (.int (x.cps.getD 0 0 : Nat)) H) [.d (.str x)] P := fun S F H Q vs I hv k => by
  obtain ⟨v, rfl, h1⟩ := vws1 hv
  cases dp_str h1
  exact ⟨x, rfl, h, ct_d k I (.int _) q⟩
end
end DL
namespace DL
open PySem L2
section
variable {K : Fr} {B : Bs} {G : En} {te : TE} {P : Po} {tt : TT}
/-- as dw_lcE; the element's exceptions are the def's -/
theorem dw_lcEX {E : XK} {ex0 : Value → En → Prop} (hE : TkG K B ex0 E) (hx0 : ∀ c G s, ex0 c G → ex0 c (G ++ [s])) {wi : TI} {g : TG} {ch : List Nat} {vs : List Nat} (hsub : ∀ k ∈ ch, k ∈ vs)
    (h : DI K B G wi fun G1 ds => ∃ J : Nat → List PyData → En → Prop, J 0 [] (wipeG G1 vs) ∧ (∀ (B' : Bs), TkG K B' ex0 E → ∀ i acc G2 d, ds[i]? = some d → J i acc G2 → DG K B' G2 g ch (.d d) fun G3 => DT K B' G3 tt fun G4 b => if b = true then DW K B' G4 te fun G5 r => PW r fun w => ∃ y, w = .d y ∧ acc.length < sizeLine ∧ J (i + 1) (acc ++ [y]) (wipeG G5 vs) else J (i + 1) acc (wipeG G4 vs)) ∧ ∀ acc G2, J ds.length acc G2 → P (wipeG G2 vs) (.fr (.o none acc))) :
    DW K B G (tLc wi g tt te vs) P := fun S F H Q I k => by
  refine h S F H _ I fun It F1 H1 G1 ds e1 I1 Y ⟨J, j0, hs, hd⟩ => ?_
  intro D hD
  refine ⟨fun i m H => m = ds.length - i ∧ i ≤ ds.length ∧ ∃ F2 G2 acc, Ex F1 F2 ∧ Iv K B (G2 ++ [.o none acc]) (L2.wipe S vs ++ [some (.ref D)]) F2 H ∧ J i acc G2, ⟨_, rfl, Nat.zero_le _, F1, _, [], Ex.refl _, (I1.wipe vs).newL hD .nil, j0⟩, ?_⟩
  rintro i m H2 ⟨rfl, hi, F2, G2, acc, e2, I2, j2⟩
  by_cases hlt : i < ds.length
  · obtain ⟨d, hd'⟩ : ∃ d, ds[i]? = some d := ⟨_, List.getElem?_eq_getElem hlt⟩
    refine .inr ⟨((Y i H2 F2 e2 I2.ex).1 d hd').1, fun H => ∃ F2 G2 acc, Ex F1 F2 ∧ Iv K B (G2 ++ [.o none acc]) (L2.wipe S vs ++ [some (.ref D)]) F2 H ∧ J (i + 1) acc G2, fun H' p => ⟨ds.length - (i + 1), by omega, rfl, hlt, p⟩, fun x H3 y => ?_⟩
    obtain ⟨F3, e3, I3, hx⟩ := Y.turn e2 I2 hd' y
    obtain ⟨D', accv, mu, eD, hD3, ha3, Ia, back⟩ := I3.aside
    cases eD
    refine hs _ (fun cls S F H G J hx => hE cls _ _ _ _ (back _ _ _ _ J).2 (hx0 _ _ _ hx)) i acc G2 d hd' j2 _ F3 H3 x _ Ia hx fun S4 F4 H4 G4 e4 I4 l4 u4 q => ?_
    have ew : L2.wipe S4 vs = L2.wipe S vs := by
      rw [wipe_ext l4 fun k hk => u4 k fun z => hk (hsub k z)]
      exact wipe_ext (wipe_length S vs) fun k hk => wipe_ne hk
    refine ⟨ew, q S4 F4 H4 _ I4 fun b F5 H5 G5 e5 I5 q5 => ?_⟩
    cases b with
    | false =>
      show ∃ F2 G2 acc, Ex F1 F2 ∧ Iv K B (G2 ++ [.o none acc]) (L2.wipe S vs ++ [some (.ref D)]) F2 H5 ∧ J (i + 1) acc G2
      obtain ⟨_, I6⟩ := back _ _ _ _ (I5.wipe vs)
      rw [ew] at I6
      exact ⟨F5, _, acc, ((e2.trans e3).trans e4).trans e5, I6, q5⟩
    | true =>
      show te S4 H5 fun y H4 => ∃ acc, H4 D = some (.lst acc) ∧ acc.length < sizeLine ∧ (∃ F2 G2 acc', Ex F1 F2 ∧ Iv K B (G2 ++ [.o none acc']) (L2.wipe S vs ++ [some (.ref D)]) F2 (upd H4 D (.lst (acc ++ [y]))) ∧ J (i + 1) acc' G2)
      refine dw_run (k' := fun G5 w => ∃ y, w = .d y ∧ acc.length < sizeLine ∧ J (i + 1) (acc ++ [y]) (wipeG G5 vs)) q5 I5 fun v F6 H6 G6 w e6 I6 hv q6 => ?_
      obtain ⟨y, rfl, hz, j6⟩ := q6
      obtain ⟨hD6, I7⟩ := back _ _ _ _ (I6.wipe vs)
      rw [ew] at I7
      refine ⟨accv, hD6, by rw [da_len ha3]; exact hz, F6, _, acc ++ [y], (((e2.trans e3).trans e4).trans e5).trans e6, ?_, j6⟩
      have hl : (L2.wipe S vs).length = (wipeG G6 vs).length := by
        have := I7.len
        simpa using this
      have I8 := I7.mut (i := (wipeG G6 vs).length) (p := D) (q := none) (ds := acc) (ds' := acc ++ [y]) (vs' := accv ++ [v]) (by simp) (by rw [← hl]; simp) (da_app (da_mono ((e4.trans e5).trans e6) ha3) (.cons hv .nil))
      have eg : (wipeG G6 vs ++ [Sl.o none acc]).set (wipeG G6 vs).length (.o none (acc ++ [y])) = wipeG G6 vs ++ [.o none (acc ++ [y])] := by simp
      rw [eg] at I8
      exact I8
  · have e : i = ds.length := by omega
    subst e
    refine .inl ⟨(Y _ H2 F2 e2 I2.ex).2 rfl, ?_⟩
    have I3 : Iv K B (wipeG G2 vs ++ [.o none acc]) (S ++ [some (.ref D)]) F2 H2 := by
      obtain ⟨D', accv, mu, eD, hD3, ha3, Ia, back⟩ := I2.aside
      exact (back _ _ _ _ ((Ia.wipe vs).wiped (S := S) (by rw [wipe_length, wipe_length]) fun k hk => by rw [wipe_ne hk, wipe_ne hk])).2
    exact k (.ref D) F2 H2 (wipeG G2 vs) (.fr (.o none acc)) (e1.trans e2) I3 (hd acc G2 j2)

theorem ownH_snoc {j : Nat} {p : Addr} {post : Sl → Prop} {G : En} {s : Sl} (h : OwnH j p post G) : OwnH j p post (G ++ [s]) := by
  obtain ⟨u, a, b⟩ := h
  exact ⟨u, by rw [List.getElem?_append_left (List.getElem?_eq_some_iff.mp a).1]; exact a, b⟩
theorem re_q {s : Sl} {q : Option Addr} (ht : s.tr = true) : (s.re q).q = q := by
  cases s with
  | ow R =>
    have ht : R.ptr = true := ht
    show Sl.q (if h : R.ptr = true then .ow (R.at_ h q) else .ow R) = q
    rw [dif_pos ht]
    rfl
  | o _ _ => rfl
  | k _ _ => rfl
  | _ => cases ht
end
end DL
namespace K12
open PySem PySem.Spec PyProof.Rows L2 DL
def topS (i : Nat) : Stmt := PySem.Challenge.pw_chipgate_k12_bytes_written_and_read.main.body.getD i (.Pass ⟨0, 0, 0, 0⟩)
structure Ad where
  (f8_0 f8_1 f8_2 f8_3 f8_4 f8_5 f8_6 f8_7 f8_8 f8_9 f8_11 f8_12 f8_13 f10 f11 f12 f13 f14 f15 f16 f18 f19 f20 f21 f22 f23 f24 f25 f26 f27 f28 f29 f30 f31 f32 f33 f34 f35 f36 f37 f38 f39 : Addr)
  (d8_0 d8_1 d8_2 d8_3 d8_4 d8_5 d8_6 d8_7 d8_8 d8_9 d8_11 d8_12 d8_13 d10 d11 d12 d13 d14 d15 d16 d18 d19 d20 d21 d22 d23 d24 d25 d26 d27 d28 d29 d30 d31 d32 d33 d34 d35 d36 d37 d38 d39 : FuncData)
  (c_ChipgateError c_DamagedPacket c_Reader : Addr)
abbrev s_Reader_init : Stmt := inCls (topS 8) 0
theorem sc_Reader_init : FnScope ["self", "data"] ["self", "data"] (defScope s_Reader_init) := ⟨rfl, rfl, rfl, by decide +kernel, rfl, by decide +kernel, by decide +kernel⟩
abbrev s_Reader_read_byte : Stmt := inCls (topS 8) 1
theorem sc_Reader_read_byte : FnScope ["self"] ["self"] (defScope s_Reader_read_byte) := ⟨rfl, rfl, rfl, by decide +kernel, rfl, by decide +kernel, by decide +kernel⟩
abbrev s_Reader_read_choice : Stmt := inCls (topS 8) 2
theorem sc_Reader_read_choice : FnScope ["self", "count", "byte"] ["self", "count"] (defScope s_Reader_read_choice) := ⟨rfl, rfl, rfl, by decide +kernel, rfl, by decide +kernel, by decide +kernel⟩
abbrev s_Reader_end : Stmt := inCls (topS 8) 3
theorem sc_Reader_end : FnScope ["self"] ["self"] (defScope s_Reader_end) := ⟨rfl, rfl, rfl, by decide +kernel, rfl, by decide +kernel, by decide +kernel⟩
abbrev s_Reader_read_number : Stmt := inCls (topS 8) 4
theorem sc_Reader_read_number : FnScope ["self", "total", "factor", "index", "byte"] ["self"] (defScope s_Reader_read_number) := ⟨rfl, rfl, rfl, by decide +kernel, rfl, by decide +kernel, by decide +kernel⟩
abbrev s_Reader_read_count : Stmt := inCls (topS 8) 5
theorem sc_Reader_read_count : FnScope ["self", "count"] ["self"] (defScope s_Reader_read_count) := ⟨rfl, rfl, rfl, by decide +kernel, rfl, by decide +kernel, by decide +kernel⟩
abbrev s_Reader_read_character : Stmt := inCls (topS 8) 6
theorem sc_Reader_read_character : FnScope ["self", "code"] ["self"] (defScope s_Reader_read_character) := ⟨rfl, rfl, rfl, by decide +kernel, rfl, by decide +kernel, by decide +kernel⟩
abbrev s_Reader_read_string : Stmt := inCls (topS 8) 7
theorem sc_Reader_read_string : FnScope ["self", "_"] ["self"] (defScope s_Reader_read_string) := ⟨rfl, rfl, rfl, by decide +kernel, rfl, by decide +kernel, by decide +kernel⟩
abbrev s_Reader_read_mark : Stmt := inCls (topS 8) 8
theorem sc_Reader_read_mark : FnScope ["self", "number"] ["self"] (defScope s_Reader_read_mark) := ⟨rfl, rfl, rfl, by decide +kernel, rfl, by decide +kernel, by decide +kernel⟩
abbrev s_Reader_read_deed : Stmt := inCls (topS 8) 9
theorem sc_Reader_read_deed : FnScope ["self", "module", "removed", "behind", "number", "_"] ["self"] (defScope s_Reader_read_deed) := ⟨rfl, rfl, rfl, by decide +kernel, rfl, by decide +kernel, by decide +kernel⟩
abbrev s_Reader_read_triple : Stmt := inCls (topS 8) 11
theorem sc_Reader_read_triple : FnScope ["self", "replica", "place"] ["self"] (defScope s_Reader_read_triple) := ⟨rfl, rfl, rfl, by decide +kernel, rfl, by decide +kernel, by decide +kernel⟩
abbrev s_Reader_read_triples : Stmt := inCls (topS 8) 12
theorem sc_Reader_read_triples : FnScope ["self", "_"] ["self"] (defScope s_Reader_read_triples) := ⟨rfl, rfl, rfl, by decide +kernel, rfl, by decide +kernel, by decide +kernel⟩
abbrev s_Reader_read_packet : Stmt := inCls (topS 8) 13
theorem sc_Reader_read_packet : FnScope ["self"] ["self"] (defScope s_Reader_read_packet) := ⟨rfl, rfl, rfl, by decide +kernel, rfl, by decide +kernel, by decide +kernel⟩
abbrev s_write_number : Stmt := topS 10
theorem sc_write_number : FnScope ["number", "data"] ["number"] (defScope s_write_number) := ⟨rfl, rfl, rfl, by decide +kernel, rfl, by decide +kernel, by decide +kernel⟩
abbrev s_write_list : Stmt := topS 11
theorem sc_write_list : FnScope ["items", "data", "item"] ["items"] (defScope s_write_list) := ⟨rfl, rfl, rfl, by decide +kernel, rfl, by decide +kernel, by decide +kernel⟩
abbrev s_write_string : Stmt := topS 12
theorem sc_write_string : FnScope ["text", "character"] ["text"] (defScope s_write_string) := ⟨rfl, rfl, rfl, by decide +kernel, rfl, by decide +kernel, by decide +kernel⟩
abbrev s_write_mark : Stmt := topS 13
theorem sc_write_mark : FnScope ["mark"] ["mark"] (defScope s_write_mark) := ⟨rfl, rfl, rfl, by decide +kernel, rfl, by decide +kernel, by decide +kernel⟩
abbrev s_write_deed : Stmt := topS 14
theorem sc_write_deed : FnScope ["deed", "_", "module", "removed", "behind", "number", "text", "data", "mark"] ["deed"] (defScope s_write_deed) := ⟨rfl, rfl, rfl, by decide +kernel, rfl, by decide +kernel, by decide +kernel⟩
abbrev s_write_triples : Stmt := topS 15
theorem sc_write_triples : FnScope ["triples", "written", "replica", "place", "deed"] ["triples"] (defScope s_write_triples) := ⟨rfl, rfl, rfl, by decide +kernel, rfl, by decide +kernel, by decide +kernel⟩
abbrev s_write_packet : Stmt := topS 16
theorem sc_write_packet : FnScope ["packet"] ["packet"] (defScope s_write_packet) := ⟨rfl, rfl, rfl, by decide +kernel, rfl, by decide +kernel, by decide +kernel⟩
abbrev s_law_next : Stmt := topS 18
theorem sc_law_next : FnScope ["state", "limit", "cell", "value"] ["state", "limit"] (defScope s_law_next) := ⟨rfl, rfl, rfl, by decide +kernel, rfl, by decide +kernel, by decide +kernel⟩
abbrev s_law_same : Stmt := topS 19
theorem sc_law_same : FnScope ["actual", "expected", "k"] ["actual", "expected"] (defScope s_law_same) := ⟨rfl, rfl, rfl, by decide +kernel, rfl, by decide +kernel, by decide +kernel⟩
abbrev s_law_number : Stmt := topS 20
theorem sc_law_number : FnScope ["number", "data"] ["number"] (defScope s_law_number) := ⟨rfl, rfl, rfl, by decide +kernel, rfl, by decide +kernel, by decide +kernel⟩
abbrev s_law_text : Stmt := topS 21
theorem sc_law_text : FnScope ["text", "data", "character"] ["text"] (defScope s_law_text) := ⟨rfl, rfl, rfl, by decide +kernel, rfl, by decide +kernel, by decide +kernel⟩
abbrev s_law_mark : Stmt := topS 22
theorem sc_law_mark : FnScope ["mark"] ["mark"] (defScope s_law_mark) := ⟨rfl, rfl, rfl, by decide +kernel, rfl, by decide +kernel, by decide +kernel⟩
abbrev s_law_deed : Stmt := topS 23
theorem sc_law_deed : FnScope ["deed", "data", "mark"] ["deed"] (defScope s_law_deed) := ⟨rfl, rfl, rfl, by decide +kernel, rfl, by decide +kernel, by decide +kernel⟩
abbrev s_law_triples : Stmt := topS 24
theorem sc_law_triples : FnScope ["triples", "data", "replica", "place", "deed"] ["triples"] (defScope s_law_triples) := ⟨rfl, rfl, rfl, by decide +kernel, rfl, by decide +kernel, by decide +kernel⟩
abbrev s_law_read_number : Stmt := topS 25
theorem sc_law_read_number : FnScope ["data", "at", "total", "factor", "k"] ["data", "at"] (defScope s_law_read_number) := ⟨rfl, rfl, rfl, by decide +kernel, rfl, by decide +kernel, by decide +kernel⟩
abbrev s_law_sign : Stmt := topS 26
theorem sc_law_sign : FnScope ["code", "first", "rest"] ["code"] (defScope s_law_sign) := ⟨rfl, rfl, rfl, by decide +kernel, rfl, by decide +kernel, by decide +kernel⟩
abbrev s_law_read_text : Stmt := topS 27
theorem sc_law_read_text : FnScope ["data", "at", "found", "count", "text", "k"] ["data", "at"] (defScope s_law_read_text) := ⟨rfl, rfl, rfl, by decide +kernel, rfl, by decide +kernel, by decide +kernel⟩
abbrev s_law_read_mark : Stmt := topS 28
theorem sc_law_read_mark : FnScope ["data", "at", "first", "second"] ["data", "at"] (defScope s_law_read_mark) := ⟨rfl, rfl, rfl, by decide +kernel, rfl, by decide +kernel, by decide +kernel⟩
abbrev s_law_read_deed : Stmt := topS 29
theorem sc_law_read_deed : FnScope ["data", "at", "found", "module", "count", "marks", "k", "behind", "number", "text"] ["data", "at"] (defScope s_law_read_deed) := ⟨rfl, rfl, rfl, by decide +kernel, rfl, by decide +kernel, by decide +kernel⟩
abbrev s_law_read_triples : Stmt := topS 30
theorem sc_law_read_triples : FnScope ["data", "at", "count", "triples", "k", "pair", "deed"] ["data", "at"] (defScope s_law_read_triples) := ⟨rfl, rfl, rfl, by decide +kernel, rfl, by decide +kernel, by decide +kernel⟩
abbrev s_law_read_packet : Stmt := topS 31
theorem sc_law_read_packet : FnScope ["data", "at"] ["data", "at"] (defScope s_law_read_packet) := ⟨rfl, rfl, rfl, by decide +kernel, rfl, by decide +kernel, by decide +kernel⟩
abbrev s_law_drawn_number : Stmt := topS 32
theorem sc_law_drawn_number : FnScope ["state"] ["state"] (defScope s_law_drawn_number) := ⟨rfl, rfl, rfl, by decide +kernel, rfl, by decide +kernel, by decide +kernel⟩
abbrev s_law_drawn_text : Stmt := topS 33
theorem sc_law_drawn_text : FnScope ["state", "letters", "k"] ["state"] (defScope s_law_drawn_text) := ⟨rfl, rfl, rfl, by decide +kernel, rfl, by decide +kernel, by decide +kernel⟩
abbrev s_law_drawn_deed : Stmt := topS 34
theorem sc_law_drawn_deed : FnScope ["state", "marks", "behind", "k"] ["state"] (defScope s_law_drawn_deed) := ⟨rfl, rfl, rfl, by decide +kernel, rfl, by decide +kernel, by decide +kernel⟩
abbrev s_law_spoilt : Stmt := topS 35
theorem sc_law_spoilt : FnScope ["state", "data", "place", "byte", "pick", "k"] ["state", "data"] (defScope s_law_spoilt) := ⟨rfl, rfl, rfl, by decide +kernel, rfl, by decide +kernel, by decide +kernel⟩
abbrev s_law_told : Stmt := topS 36
theorem sc_law_told : FnScope ["kind", "data", "reader", "found", "at", "ended"] ["kind", "data"] (defScope s_law_told) := ⟨rfl, rfl, rfl, by decide +kernel, rfl, by decide +kernel, by decide +kernel⟩
abbrev s_law_own : Stmt := topS 37
theorem sc_law_own : FnScope ["kind", "data"] ["kind", "data"] (defScope s_law_own) := ⟨rfl, rfl, rfl, by decide +kernel, rfl, by decide +kernel, by decide +kernel⟩
abbrev s_law_in_a_row : Stmt := topS 38
theorem sc_law_in_a_row : FnScope ["things", "written", "data", "part", "reader", "told"] ["things", "written"] (defScope s_law_in_a_row) := ⟨rfl, rfl, rfl, by decide +kernel, rfl, by decide +kernel, by decide +kernel⟩
abbrev s_law : Stmt := topS 39
theorem sc_law : FnScope ["script", "state", "k", "number", "text", "deed", "triples", "written", "own", "things", "long", "kind", "j", "data"] ["script"] (defScope s_law) := ⟨rfl, rfl, rfl, by decide +kernel, rfl, by decide +kernel, by decide +kernel⟩
structure Tx (K : PySem.W.Frag) (mg : Str → Option Value) (a : Ad) : Prop where
  z_bool : mg "bool" = none
  z_int : mg "int" = none
  z_isinstance : mg "isinstance" = none
  z_len : mg "len" = none
  z_list : mg "list" = none
  z_ord : mg "ord" = none
  z_range : mg "range" = none
  z_str : mg "str" = none
  z_tuple : mg "tuple" = none
  g_BEFORE_PERCENT : ∃ t, mg "BEFORE_PERCENT" = some (.str (mkS [32, 33, 34, 35, 36]) t)
  g_AFTER_PERCENT : ∃ t, mg "AFTER_PERCENT" = some (.str (mkS [38, 39, 40, 41, 42, 43, 44, 45, 46, 47, 48, 49, 50, 51, 52, 53, 54, 55, 56, 57, 58, 59, 60, 61, 62, 63, 64, 65, 66, 67, 68, 69, 70, 71, 72, 73, 74, 75, 76, 77, 78, 79, 80, 81, 82, 83, 84, 85, 86, 87, 88, 89, 90, 91, 92, 93, 94, 95, 96, 97, 98, 99, 100, 101, 102, 103, 104, 105, 106, 107, 108, 109, 110, 111, 112, 113, 114, 115, 116, 117, 118, 119, 120, 121, 122, 123, 124, 125, 126]) t)
  g_NUMBER_BYTES : ∃ t, mg "NUMBER_BYTES" = some (.int 60 t)
  m_Reader : mg "Reader" = some (.ref a.c_Reader)
  cl_Reader : Cls K a.c_Reader
  na_Reader_data : NoAttr K a.c_Reader "data"
  na_Reader_at : NoAttr K a.c_Reader "at"
  x_DamagedPacket : DL.ExcT K mg "DamagedPacket" a.c_DamagedPacket
  mk_Reader : Mk K a.c_Reader a.f8_0
  b_Reader_init : Binds K a.d8_0 ["self", "data"] []
  F_Reader_init : Fun K "__init__" "Reader.__init__" s_Reader_init a.f8_0 a.d8_0
  mt_Reader_read_byte : Meth K a.c_Reader "read_byte" a.f8_1
  b_Reader_read_byte : Binds K a.d8_1 ["self"] []
  F_Reader_read_byte : Fun K "read_byte" "Reader.read_byte" s_Reader_read_byte a.f8_1 a.d8_1
  mt_Reader_read_choice : Meth K a.c_Reader "read_choice" a.f8_2
  b_Reader_read_choice : Binds K a.d8_2 ["self", "count"] []
  F_Reader_read_choice : Fun K "read_choice" "Reader.read_choice" s_Reader_read_choice a.f8_2 a.d8_2
  mt_Reader_end : Meth K a.c_Reader "end" a.f8_3
  b_Reader_end : Binds K a.d8_3 ["self"] []
  F_Reader_end : Fun K "end" "Reader.end" s_Reader_end a.f8_3 a.d8_3
  mt_Reader_read_number : Meth K a.c_Reader "read_number" a.f8_4
  b_Reader_read_number : Binds K a.d8_4 ["self"] []
  F_Reader_read_number : Fun K "read_number" "Reader.read_number" s_Reader_read_number a.f8_4 a.d8_4
  mt_Reader_read_count : Meth K a.c_Reader "read_count" a.f8_5
  b_Reader_read_count : Binds K a.d8_5 ["self"] []
  F_Reader_read_count : Fun K "read_count" "Reader.read_count" s_Reader_read_count a.f8_5 a.d8_5
  mt_Reader_read_character : Meth K a.c_Reader "read_character" a.f8_6
  b_Reader_read_character : Binds K a.d8_6 ["self"] []
  F_Reader_read_character : Fun K "read_character" "Reader.read_character" s_Reader_read_character a.f8_6 a.d8_6
  mt_Reader_read_string : Meth K a.c_Reader "read_string" a.f8_7
  b_Reader_read_string : Binds K a.d8_7 ["self"] []
  F_Reader_read_string : Fun K "read_string" "Reader.read_string" s_Reader_read_string a.f8_7 a.d8_7
  mt_Reader_read_mark : Meth K a.c_Reader "read_mark" a.f8_8
  b_Reader_read_mark : Binds K a.d8_8 ["self"] []
  F_Reader_read_mark : Fun K "read_mark" "Reader.read_mark" s_Reader_read_mark a.f8_8 a.d8_8
  mt_Reader_read_deed : Meth K a.c_Reader "read_deed" a.f8_9
  b_Reader_read_deed : Binds K a.d8_9 ["self"] []
  F_Reader_read_deed : Fun K "read_deed" "Reader.read_deed" s_Reader_read_deed a.f8_9 a.d8_9
  mt_Reader_read_triple : Meth K a.c_Reader "read_triple" a.f8_11
  b_Reader_read_triple : Binds K a.d8_11 ["self"] []
  F_Reader_read_triple : Fun K "read_triple" "Reader.read_triple" s_Reader_read_triple a.f8_11 a.d8_11
  mt_Reader_read_triples : Meth K a.c_Reader "read_triples" a.f8_12
  b_Reader_read_triples : Binds K a.d8_12 ["self"] []
  F_Reader_read_triples : Fun K "read_triples" "Reader.read_triples" s_Reader_read_triples a.f8_12 a.d8_12
  mt_Reader_read_packet : Meth K a.c_Reader "read_packet" a.f8_13
  b_Reader_read_packet : Binds K a.d8_13 ["self"] []
  F_Reader_read_packet : Fun K "read_packet" "Reader.read_packet" s_Reader_read_packet a.f8_13 a.d8_13
  m_write_number : mg "write_number" = some (.ref a.f10)
  k_write_number : PySem.W.keepIn K (.ref a.f10) = true
  b_write_number : Binds K a.d10 ["number"] []
  F_write_number : Fun K "write_number" "write_number" s_write_number a.f10 a.d10
  m_write_list : mg "write_list" = some (.ref a.f11)
  k_write_list : PySem.W.keepIn K (.ref a.f11) = true
  b_write_list : Binds K a.d11 ["items"] []
  F_write_list : Fun K "write_list" "write_list" s_write_list a.f11 a.d11
  m_write_string : mg "write_string" = some (.ref a.f12)
  k_write_string : PySem.W.keepIn K (.ref a.f12) = true
  b_write_string : Binds K a.d12 ["text"] []
  F_write_string : Fun K "write_string" "write_string" s_write_string a.f12 a.d12
  m_write_mark : mg "write_mark" = some (.ref a.f13)
  k_write_mark : PySem.W.keepIn K (.ref a.f13) = true
  b_write_mark : Binds K a.d13 ["mark"] []
  F_write_mark : Fun K "write_mark" "write_mark" s_write_mark a.f13 a.d13
  m_write_deed : mg "write_deed" = some (.ref a.f14)
  k_write_deed : PySem.W.keepIn K (.ref a.f14) = true
  b_write_deed : Binds K a.d14 ["deed"] []
  F_write_deed : Fun K "write_deed" "write_deed" s_write_deed a.f14 a.d14
  m_write_triples : mg "write_triples" = some (.ref a.f15)
  k_write_triples : PySem.W.keepIn K (.ref a.f15) = true
  b_write_triples : Binds K a.d15 ["triples"] []
  F_write_triples : Fun K "write_triples" "write_triples" s_write_triples a.f15 a.d15
  m_write_packet : mg "write_packet" = some (.ref a.f16)
  k_write_packet : PySem.W.keepIn K (.ref a.f16) = true
  b_write_packet : Binds K a.d16 ["packet"] []
  F_write_packet : Fun K "write_packet" "write_packet" s_write_packet a.f16 a.d16
  m_law_next : mg "_law_next" = some (.ref a.f18)
  k_law_next : PySem.W.keepIn K (.ref a.f18) = true
  b_law_next : Binds K a.d18 ["state", "limit"] []
  F_law_next : Fun K "_law_next" "_law_next" s_law_next a.f18 a.d18
  m_law_same : mg "_law_same" = some (.ref a.f19)
  k_law_same : PySem.W.keepIn K (.ref a.f19) = true
  b_law_same : Binds K a.d19 ["actual", "expected"] []
  F_law_same : Fun K "_law_same" "_law_same" s_law_same a.f19 a.d19
  m_law_number : mg "_law_number" = some (.ref a.f20)
  k_law_number : PySem.W.keepIn K (.ref a.f20) = true
  b_law_number : Binds K a.d20 ["number"] []
  F_law_number : Fun K "_law_number" "_law_number" s_law_number a.f20 a.d20
  m_law_text : mg "_law_text" = some (.ref a.f21)
  k_law_text : PySem.W.keepIn K (.ref a.f21) = true
  b_law_text : Binds K a.d21 ["text"] []
  F_law_text : Fun K "_law_text" "_law_text" s_law_text a.f21 a.d21
  m_law_mark : mg "_law_mark" = some (.ref a.f22)
  k_law_mark : PySem.W.keepIn K (.ref a.f22) = true
  b_law_mark : Binds K a.d22 ["mark"] []
  F_law_mark : Fun K "_law_mark" "_law_mark" s_law_mark a.f22 a.d22
  m_law_deed : mg "_law_deed" = some (.ref a.f23)
  k_law_deed : PySem.W.keepIn K (.ref a.f23) = true
  b_law_deed : Binds K a.d23 ["deed"] []
  F_law_deed : Fun K "_law_deed" "_law_deed" s_law_deed a.f23 a.d23
  m_law_triples : mg "_law_triples" = some (.ref a.f24)
  k_law_triples : PySem.W.keepIn K (.ref a.f24) = true
  b_law_triples : Binds K a.d24 ["triples"] []
  F_law_triples : Fun K "_law_triples" "_law_triples" s_law_triples a.f24 a.d24
  m_law_read_number : mg "_law_read_number" = some (.ref a.f25)
  k_law_read_number : PySem.W.keepIn K (.ref a.f25) = true
  b_law_read_number : Binds K a.d25 ["data", "at"] []
  F_law_read_number : Fun K "_law_read_number" "_law_read_number" s_law_read_number a.f25 a.d25
  m_law_sign : mg "_law_sign" = some (.ref a.f26)
  k_law_sign : PySem.W.keepIn K (.ref a.f26) = true
  b_law_sign : Binds K a.d26 ["code"] []
  F_law_sign : Fun K "_law_sign" "_law_sign" s_law_sign a.f26 a.d26
  m_law_read_text : mg "_law_read_text" = some (.ref a.f27)
  k_law_read_text : PySem.W.keepIn K (.ref a.f27) = true
  b_law_read_text : Binds K a.d27 ["data", "at"] []
  F_law_read_text : Fun K "_law_read_text" "_law_read_text" s_law_read_text a.f27 a.d27
  m_law_read_mark : mg "_law_read_mark" = some (.ref a.f28)
  k_law_read_mark : PySem.W.keepIn K (.ref a.f28) = true
  b_law_read_mark : Binds K a.d28 ["data", "at"] []
  F_law_read_mark : Fun K "_law_read_mark" "_law_read_mark" s_law_read_mark a.f28 a.d28
  m_law_read_deed : mg "_law_read_deed" = some (.ref a.f29)
  k_law_read_deed : PySem.W.keepIn K (.ref a.f29) = true
  b_law_read_deed : Binds K a.d29 ["data", "at"] []
  F_law_read_deed : Fun K "_law_read_deed" "_law_read_deed" s_law_read_deed a.f29 a.d29
  m_law_read_triples : mg "_law_read_triples" = some (.ref a.f30)
  k_law_read_triples : PySem.W.keepIn K (.ref a.f30) = true
  b_law_read_triples : Binds K a.d30 ["data", "at"] []
  F_law_read_triples : Fun K "_law_read_triples" "_law_read_triples" s_law_read_triples a.f30 a.d30
  m_law_read_packet : mg "_law_read_packet" = some (.ref a.f31)
  k_law_read_packet : PySem.W.keepIn K (.ref a.f31) = true
  b_law_read_packet : Binds K a.d31 ["data", "at"] []
  F_law_read_packet : Fun K "_law_read_packet" "_law_read_packet" s_law_read_packet a.f31 a.d31
  m_law_drawn_number : mg "_law_drawn_number" = some (.ref a.f32)
  k_law_drawn_number : PySem.W.keepIn K (.ref a.f32) = true
  b_law_drawn_number : Binds K a.d32 ["state"] []
  F_law_drawn_number : Fun K "_law_drawn_number" "_law_drawn_number" s_law_drawn_number a.f32 a.d32
  m_law_drawn_text : mg "_law_drawn_text" = some (.ref a.f33)
  k_law_drawn_text : PySem.W.keepIn K (.ref a.f33) = true
  b_law_drawn_text : Binds K a.d33 ["state"] []
  F_law_drawn_text : Fun K "_law_drawn_text" "_law_drawn_text" s_law_drawn_text a.f33 a.d33
  m_law_drawn_deed : mg "_law_drawn_deed" = some (.ref a.f34)
  k_law_drawn_deed : PySem.W.keepIn K (.ref a.f34) = true
  b_law_drawn_deed : Binds K a.d34 ["state"] []
  F_law_drawn_deed : Fun K "_law_drawn_deed" "_law_drawn_deed" s_law_drawn_deed a.f34 a.d34
  m_law_spoilt : mg "_law_spoilt" = some (.ref a.f35)
  k_law_spoilt : PySem.W.keepIn K (.ref a.f35) = true
  b_law_spoilt : Binds K a.d35 ["state", "data"] []
  F_law_spoilt : Fun K "_law_spoilt" "_law_spoilt" s_law_spoilt a.f35 a.d35
  m_law_told : mg "_law_told" = some (.ref a.f36)
  k_law_told : PySem.W.keepIn K (.ref a.f36) = true
  b_law_told : Binds K a.d36 ["kind", "data"] []
  F_law_told : Fun K "_law_told" "_law_told" s_law_told a.f36 a.d36
  m_law_own : mg "_law_own" = some (.ref a.f37)
  k_law_own : PySem.W.keepIn K (.ref a.f37) = true
  b_law_own : Binds K a.d37 ["kind", "data"] []
  F_law_own : Fun K "_law_own" "_law_own" s_law_own a.f37 a.d37
  m_law_in_a_row : mg "_law_in_a_row" = some (.ref a.f38)
  k_law_in_a_row : PySem.W.keepIn K (.ref a.f38) = true
  b_law_in_a_row : Binds K a.d38 ["things", "written"] []
  F_law_in_a_row : Fun K "_law_in_a_row" "_law_in_a_row" s_law_in_a_row a.f38 a.d38
  m_law : mg "law" = some (.ref a.f39)
  k_law : PySem.W.keepIn K (.ref a.f39) = true
  b_law : Binds K a.d39 ["script"] []
  F_law : Fun K "law" "law" s_law a.f39 a.d39

end K12
namespace K12
open PySem PySem.Spec PyProof.Rows L2 DL
local macro_rules | `(tactic| walk_at "st") => `(tactic| with_reducible first
  | refine pw_p ?_ | refine pw_o ?_ | refine dw_op ?_ | refine dw_un ?_ | refine dw_int ?_ | refine dw_str ?_ | refine dw_bl ?_ | refine dw_non ?_ | refine dw_ty ?_ | refine da_nil' ?_ | refine da_cons' ?_ | refine dw_sortSetT ?_ | refine dw_CB ?_ | refine dw_BM ?_ | refine dw_BM0 ?_
  | refine dw_tup ?_ | refine dw_lst ?_ | refine dw_notV ?_ | refine dw_and ?_ | refine dw_or ?_ | refine dw_if ?_ | refine dw_chain ?_ | refine dw_sl3 ?_ | refine dw_revT ?_ | refine dw_tupRg1 ?_ | refine dw_lstRg1 ?_ | refine dw_callI ?_ | refine dw_callJ ?_
  | refine dt_test ?_ | refine dt_B ?_ | refine dt_and ?_ | refine dt_or ?_ | refine dt_not ?_ | refine dt_yes ?_ | refine dt_truth ?_
  | refine ds_ret ?_ | refine ds_retN ?_ | refine ds_next ?_ | refine ds_break ?_ | refine ds_cont ?_ | refine ds_drop ?_ | refine ds_if ?_ | refine ds_set ?_
  | refine nx_nxt ?_ | refine rt_nxt ?_ | refine bk_nxt ?_ | refine ct_nxt ?_ | refine nx_lp ?_ | refine rt_lp ?_ | refine bk_lp ?_ | refine ct_lp ?_ | refine asn_d ?_ | refine asn_fr ?_ | refine rt_E0 ?_ | refine rt_E0o ?_ | refine nx_E0 ?_
  | refine dw_newK ?_ | refine dw_dInK ?_ | refine dw_dNotInK ?_ | refine dw_dGetK ?_ | refine ds_dPutK ?_ | refine dw_callH ?_
  | refine tr_b ?_ | refine tr_i ?_ | refine tr_n ?_ | refine tr_T ?_ | refine tr_L ?_
  | refine do_none ?_ | refine do_some ?_ | refine ite_t ?_ | refine ite_f ?_
  | refine rw_addI ?_ | refine rw_sub ?_ | refine rw_cmp ?_ | refine rw_eqI ?_ | refine rw_neI ?_ | refine rw_eqZ ?_ | refine rw_neZ ?_ | refine rw_eqS ?_ | refine rw_neS ?_ | refine rw_eqB ?_ | refine rw_neB ?_ | refine isN_d ?_ | refine notN_d ?_ | refine rw_isB ?_ | refine rw_notB ?_
  | refine rn_intI ?_ | refine rn_intB ?_ | refine rn_max ?_ | refine rn_min ?_ | refine rn_lenT ?_ | refine rn_lenD ?_ | refine rm_sw ?_ | refine isi_int ?_ | refine isi_bool ?_ | refine isi_str ?_ | refine isi_tuple ?_ | refine isi_list ?_ | refine rn_tupT ?_ | refine rn_listT ?_
  | refine ⟨_, rfl, ?_⟩
  | fail)
local macro_rules | `(tactic| walk_at "va") => `(tactic| first
  | ((with_reducible apply dw_var); rfl) | ((with_reducible apply dw_sl); rfl) | ((with_reducible apply dw_slK); rfl) | ((with_reducible apply dw_ob); rfl) | (refine dw_fld (by assumption) (by assumption) rfl rfl ?_)
  | ((with_reducible apply rw_ixL); rfl; rfl) | ((with_reducible apply rw_ixT); rfl)
  | ((with_reducible apply ite_T); rfl) | ((with_reducible apply ite_F); rfl) | ((with_reducible apply tr_o); rfl)
  | refine ⟨_, rfl, szl (Nat.le_of_ble_eq_true rfl), ?_⟩
  | (with_reducible refine rw_mod (by omega) ?_)
  | (with_reducible refine rw_fdiv (by unfold CDiv; omega) ?_)
  | (with_reducible refine rw_mul (by unfold CMul; omega) ?_)
  | refine ⟨szl (Nat.le_of_ble_eq_true rfl), ?_⟩
  | refine ⟨⟨rfl, _, _, rfl⟩, ?_⟩
  | refine ⟨rfl, ?_⟩
  | rfl
  | fail)
local macro_rules | `(tactic| walk_at "go") => `(tactic| repeat' (first | walk_at "st" | (with_reducible refine ds_seq' ?_) | walk_at "va" | fail))
local macro_rules | `(tactic| walk_at "gs") => `(tactic| repeat' (first | walk_at "st" | walk_at "va" | fail))
structure Stt where
  xs : List Int
  i : Nat
  c : Int
  s : Int
abbrev encS (st : Stt) : List PyData := [.list (st.xs.map .int), nD st.i, .int st.c, .int st.s]
def Stt.ok (st : Stt) : Prop := 0 ≤ st.c ∧ 0 ≤ st.s ∧ st.s < 2147483647 ∧ st.xs.length ≤ 63
section
variable {P : Program} {w : World} {K : PySem.W.Frag} {mg : Str → Option Value} {base : Heap} {a : Ad}
/-! _law_next -/
abbrev argN (x : Stt × Nat) : List PyData := [nD x.2]
def resN (x : Stt × Nat) (l : List PyData) (d : PyData) : Prop := ∃ (st : Stt) (k : Nat), st.ok ∧ l = encS st ∧ d = nD k ∧ k < x.2
abbrev spN (K : PySem.W.Frag) := spJ K (fun x : Stt × Nat => encS x.1) argN (fun x => x.1.ok ∧ 0 < x.2 ∧ x.2 < 2 ^ 71) resN
theorem ok_law_next (T : Tx K mg a) : FnOk P w K mg base CX0 1 a.f18 a.d18 ["state", "limit"] (spN K) := by
  refine fnJ T.F_law_next sc_law_next (fun x => ⟨rfl, by decide⟩) fun cdv A outer s H E hr => ⟨_, (pss_cons (ps_if (PW.pt (pw_and (pt_cmpR (kEQ K rfl hr.units) (pe_ix (kIX K rfl) (pv 0) pe_int (fun _ _ => rfl)) pe_int (nomark _)) (pw_and1 (pt_cmpR op_lt (pe_ix (kIX K rfl) (pv 0) pe_int (fun _ _ => rfl)) (pe_callB (kLEN K rfl) (by rfl) T.z_len (by decide +kernel) (pa_cons (pe_ix (kIX K rfl) (pv 0) pe_int (fun _ _ => rfl)) pa_nil)) (nomark _))))) (pss_cons (ps_set (i := 2) sc_law_next.nd rfl (Or.inl rfl) (pe_ix (kIX K rfl) (pe_ix (kIX K rfl) (pv 0) pe_int (fun _ _ => rfl)) (pe_ix (kIX K rfl) (pv 0) pe_int (fun _ _ => rfl)) (fun _ _ => rfl))) (pss_cons (ps_augS (pv 0) pe_int (kGET K rfl) pe_int ip_add set_list) (pss_one (ps_if (pt_cmpR op_ge (pv 2) (pe_op op_pow pe_int pe_int) (nomark _)) (pss_one (ps_asg (pv 2) (pg_sub (pv 0) pe_int set_list))) (pss_one (ps_asg (pe_op op_mod (pe_callTy call_int1 (by rfl) T.z_int (by decide +kernel) (pa_cons (pe_op (kADD K rfl) (pe_op (kADD K rfl) (pe_op op_mul (pe_ix (kIX K rfl) (pv 0) pe_int (fun _ _ => rfl)) pe_int) (pe_op op_mod (pe_callTy call_int1 (by rfl) T.z_int (by decide +kernel) (pa_cons (pv 2) pa_nil)) pe_int)) pe_int) pa_nil)) pe_int) (pg_sub (pv 0) pe_int set_list))))))) pss_nil) (pss_cons (ps_if (pt_cmpR op_gt (pe_ix (kIX K rfl) (pv 0) pe_int (fun _ _ => rfl)) pe_int (nomark _)) (pss_cons (ps_set (i := 3) sc_law_next.nd rfl (Or.inl rfl) (pe_op op_mod (pe_callTy call_int1 (by rfl) T.z_int (by decide +kernel) (pa_cons (pe_ix (kIX K rfl) (pv 0) pe_int (fun _ _ => rfl)) pa_nil)) (pv 1))) (pss_cons (ps_asg (pe_op op_fdivW (pe_ix (kIX K rfl) (pv 0) pe_int (fun _ _ => rfl)) (pv 1)) (pg_sub (pv 0) pe_int set_list)) (pss_one (ps_ret (pv 3))))) pss_nil) (pss_cons (ps_asg (pe_op op_mod (pe_callTy call_int1 (by rfl) T.z_int (by decide +kernel) (pa_cons (pe_op (kADD K rfl) (pe_op op_mul (pe_ix (kIX K rfl) (pv 0) pe_int (fun _ _ => rfl)) pe_int) pe_int) pa_nil)) pe_int) (pg_sub (pv 0) pe_int set_list)) (pss_one (ps_ret (pe_op op_mod (pe_callTy call_int1 (by rfl) T.z_int (by decide +kernel) (pa_cons (pe_op op_fdiv (pe_ix (kIX K rfl) (pv 0) pe_int (fun _ _ => rfl)) pe_int) pa_nil)) (pv 1))))))), ?_⟩
  rintro ⟨st, n⟩ ⟨⟨h1, h2, h3, h4⟩, h5, h6⟩ p B
  dsimp only [argN] at *
  refine ds_mid' (fun G => ∃ st' c, Stt.ok st' ∧ G = [.o (some p) (encS st'), .d (nD n), c, .un]) ?_ ?_
  · walk_at "go"
    refine ite_k (fun c1 => ?_) (fun c1 => ?_)
    · walk_at "go"
      refine ite_k (fun c2 => ?_) (fun c2 => ?_)
      · have c2 := of_decide_eq_true c2
        obtain ⟨v, hv⟩ : ∃ v, st.xs[st.i]? = some v := by
          rw [List.length_map] at c2
          exact ⟨_, List.getElem?_eq_getElem (by omega)⟩
        walk_at "go"
        refine rw_ixL rfl (ati hv) ?_
        walk_at "go"
        walk_at "go"
        refine ds_augL (i := 0) (a := some p) (ds := encS st) (j := 1) (x := (st.i : Int)) ?_
        walk_at "go"
        refine rw_pow ⟨by decide, by decide, by decide⟩ ?_
        walk_at "go"
        refine ite_k (fun c3 => ?_) (fun c3 => ?_)
        · refine ds_setL (i := 0) (a := some p) (ds := encS { st with i := st.i + 1 }) (j := 2) (d := .int v) ?_
          walk_at "go"
          refine ⟨by simp, ?_⟩
          walk_at "go"
          refine ⟨{ st with i := st.i + 1, c := v }, _, ⟨?_, h2, h3, h4⟩, rfl⟩
          have c3 : (10 : Int) ^ 18 ≤ v := of_decide_eq_true c3
          exact Int.le_trans (by decide) c3
        · refine ds_setL (i := 0) (a := some p) (ds := encS { st with i := st.i + 1 }) (j := 3) (d := .int ((st.s * 48271 + v % 2147483647 + 7) % 2147483647)) ?_
          walk_at "go"
          refine ⟨by simp, ?_⟩
          walk_at "go"
          exact ⟨{ st with i := st.i + 1, s := (st.s * 48271 + v % 2147483647 + 7) % 2147483647 }, _, ⟨h1, Int.emod_nonneg _ (by decide), Int.emod_lt_of_pos _ (by decide), h4⟩, rfl⟩
      · walk_at "go"
        exact ⟨st, _, ⟨h1, h2, h3, h4⟩, rfl⟩
    · walk_at "go"
      exact ⟨st, _, ⟨h1, h2, h3, h4⟩, rfl⟩
  · rintro G1 ⟨st', c, ⟨g1, g2, g3, g4⟩, rfl⟩
    have nn : (0 : Int) < (n : Int) := by omega
    walk_at "go"
    refine ite_k (fun c1 => ?_) (fun c1 => ?_)
    · have c1 := of_decide_eq_true c1
      walk_at "go"
      refine ds_setL (i := 0) (a := some p) (ds := encS st') (j := 2) (d := .int (st'.c / n)) ?_
      walk_at "go"
      refine rw_fdivW (wide_div (b := 71) nn (by omega) (by decide) (by decide)) ?_
      walk_at "go"
      refine ⟨by simp, ?_⟩
      walk_at "go"
      refine rt_E1 (ls := encS { st' with c := st'.c / n }) rfl ?_
      refine ⟨{ st' with c := st'.c / n }, (st'.c % n).toNat, ⟨Int.ediv_nonneg g1 (by omega), g2, g3, g4⟩, rfl, ?_, ?_⟩
      · have := Int.emod_nonneg st'.c (b := n) (by omega)
        show PyData.int _ = PyData.int _
        congr 1
        omega
      · have := Int.emod_lt_of_pos st'.c nn
        have := Int.emod_nonneg st'.c (b := n) (by omega)
        show (st'.c % n).toNat < n
        omega
    · walk_at "go"
      refine ds_setL (i := 0) (a := some p) (ds := encS st') (j := 3) (d := .int ((st'.s * 69621 + 12345) % 2147483647)) ?_
      walk_at "go"
      refine ⟨by simp, ?_⟩
      walk_at "go"
      refine rt_E1 (ls := encS { st' with s := (st'.s * 69621 + 12345) % 2147483647 }) rfl ?_
      refine ⟨{ st' with s := (st'.s * 69621 + 12345) % 2147483647 }, ((st'.s * 69621 + 12345) % 2147483647 / 7 % n).toNat, ⟨g1, Int.emod_nonneg _ (by decide), Int.emod_lt_of_pos _ (by decide), g4⟩, rfl, ?_, ?_⟩
      · have := Int.emod_nonneg ((st'.s * 69621 + 12345) % 2147483647 / 7) (b := n) (by omega)
        show PyData.int _ = PyData.int _
        congr 1
        omega
      · have := Int.emod_lt_of_pos ((st'.s * 69621 + 12345) % 2147483647 / 7) nn
        have := Int.emod_nonneg ((st'.s * 69621 + 12345) % 2147483647 / 7) (b := n) (by omega)
        show ((st'.s * 69621 + 12345) % 2147483647 / 7 % n).toNat < n
        omega
/-! _law_same -/
def SD : Nat → PyData → Prop
  | 0, _ => False
  | n + 1, .tuple xs => xs.length ≤ 1000000 ∧ ∀ x ∈ xs, SD n x
  | n + 1, .list xs => xs.length ≤ 1000000 ∧ ∀ x ∈ xs, SD n x
  | _ + 1, .none => True
  | _ + 1, .bool _ => True
  | _ + 1, .int _ => True
  | _ + 1, .str _ => True
  | _ + 1, _ => False
abbrev spQ (K : PySem.W.Frag) (n : Nat) := spI K (fun d : PyData => [d, d]) (SD n) (fun _ r => r = .p (.d (.bool true)))
theorem ok_law_same (T : Tx K mg a) : ∀ n : Nat, FnOk P w K mg base CX0 (n + 1) a.f19 a.d19 ["actual", "expected"] (spQ K n)
  | 0 => fnEx fun x h => h.elim
  | n + 1 => by
    have G_law_same := ok_law_same T n
    refine fnI T.F_law_same sc_law_same (fun x => ⟨rfl, by decide⟩) fun cdv A outer s H E hr => ⟨_, (pss_cons (ps_if (pt_cmpR op_isN (pv 1) pe_non (nomark _)) (pss_one (ps_ret (pe_cmpR op_isN (pv 0) pe_non (nomark _)))) pss_nil) (pss_cons (ps_if (kTRUTH K rfl (pe_callB (kISI K rfl) (by rfl) T.z_isinstance (by decide +kernel) (pa_cons (pv 1) (pa_cons (pe_bltn (v := .ty "bool") (by rfl) T.z_bool (by decide +kernel) rfl) pa_nil))) (by intro _; rfl)) (pss_one (ps_ret (pe_and (pe_callB (kISI K rfl) (by rfl) T.z_isinstance (by decide +kernel) (pa_cons (pv 0) (pa_cons (pe_bltn (v := .ty "bool") (by rfl) T.z_bool (by decide +kernel) rfl) pa_nil))) (pe_one (pe_cmpR (kEQ K rfl hr.units) (pv 0) (pv 1) (nomark _)))))) pss_nil) (pss_cons (ps_if (kTRUTH K rfl (pe_callB (kISI K rfl) (by rfl) T.z_isinstance (by decide +kernel) (pa_cons (pv 1) (pa_cons (pe_bltn (v := .ty "int") (by rfl) T.z_int (by decide +kernel) rfl) pa_nil))) (by intro _; rfl)) (pss_one (ps_ret (pe_and (pe_callB (kISI K rfl) (by rfl) T.z_isinstance (by decide +kernel) (pa_cons (pv 0) (pa_cons (pe_bltn (v := .ty "int") (by rfl) T.z_int (by decide +kernel) rfl) pa_nil))) (pe_and (pe_not (pe_callB (kISI K rfl) (by rfl) T.z_isinstance (by decide +kernel) (pa_cons (pv 0) (pa_cons (pe_bltn (v := .ty "bool") (by rfl) T.z_bool (by decide +kernel) rfl) pa_nil)))) (pe_one (pe_cmpR (kEQ K rfl hr.units) (pv 0) (pv 1) (nomark _))))))) pss_nil) (pss_cons (ps_if (kTRUTH K rfl (pe_callB (kISI K rfl) (by rfl) T.z_isinstance (by decide +kernel) (pa_cons (pv 1) (pa_cons (pe_bltn (v := .ty "str") (by rfl) T.z_str (by decide +kernel) rfl) pa_nil))) (by intro _; rfl)) (pss_one (ps_ret (pe_and (pe_callB (kISI K rfl) (by rfl) T.z_isinstance (by decide +kernel) (pa_cons (pv 0) (pa_cons (pe_bltn (v := .ty "str") (by rfl) T.z_str (by decide +kernel) rfl) pa_nil))) (pe_one (pe_cmpR (kEQ K rfl hr.units) (pv 0) (pv 1) (nomark _)))))) pss_nil) (pss_cons (ps_if (PW.pt (pw_and (kTRUTH K rfl (pe_callB (kISI K rfl) (by rfl) T.z_isinstance (by decide +kernel) (pa_cons (pv 1) (pa_cons (pe_bltn (v := .ty "tuple") (by rfl) T.z_tuple (by decide +kernel) rfl) pa_nil))) (by intro _; rfl)) (pw_and1 (pt_not (kTRUTH K rfl (pe_callB (kISI K rfl) (by rfl) T.z_isinstance (by decide +kernel) (pa_cons (pv 0) (pa_cons (pe_bltn (v := .ty "tuple") (by rfl) T.z_tuple (by decide +kernel) rfl) pa_nil))) (by intro _; rfl)))))) (pss_one (ps_ret pe_bl)) pss_nil) (pss_cons (ps_if (PW.pt (pw_and (kTRUTH K rfl (pe_callB (kISI K rfl) (by rfl) T.z_isinstance (by decide +kernel) (pa_cons (pv 1) (pa_cons (pe_bltn (v := .ty "list") (by rfl) T.z_list (by decide +kernel) rfl) pa_nil))) (by intro _; rfl)) (pw_and1 (pt_not (kTRUTH K rfl (pe_callB (kISI K rfl) (by rfl) T.z_isinstance (by decide +kernel) (pa_cons (pv 0) (pa_cons (pe_bltn (v := .ty "list") (by rfl) T.z_list (by decide +kernel) rfl) pa_nil))) (by intro _; rfl)))))) (pss_one (ps_ret pe_bl)) pss_nil) (pss_cons (ps_if (pt_cmpR (kNE K rfl hr.units) (pe_callB (kLEN K rfl) (by rfl) T.z_len (by decide +kernel) (pa_cons (pv 0) pa_nil)) (pe_callB (kLEN K rfl) (by rfl) T.z_len (by decide +kernel) (pa_cons (pv 1) pa_nil)) (nomark _)) (pss_one (ps_ret pe_bl)) pss_nil) (pss_cons (ps_for PassesOwn.never rfl (pi_range1 (by rfl) T.z_range (pa_cons (pe_callB (kLEN K rfl) (by rfl) T.z_len (by decide +kernel) (pa_cons (pv 1) pa_nil)) pa_nil)) (pg_name (i := 2) sc_law_same.nd rfl (Or.inl rfl)) (pss_one (ps_if (pt_not (kTRUTH K rfl (pe_call G_law_same hr (by rfl) T.m_law_same T.k_law_same T.b_law_same .nil pass0 (pa_cons (pe_ix (kIX K rfl) (pv 0) (pv 2) (fun _ _ => rfl)) (pa_cons (pe_ix (kIX K rfl) (pv 1) (pv 2) (fun _ _ => rfl)) pa_nil))) (by intro _; rfl))) (pss_one (ps_ret pe_bl)) pss_nil))) (pss_one (ps_ret pe_bl)))))))))), ?_⟩
    intro d hd B
    walk_at "go"
    cases d with
    | none => walk_at "go"
    | bool b =>
      walk_at "go"
      simp
    | int i =>
      walk_at "go"
      simp
    | str s =>
      walk_at "go"
      simp
    | list xs =>
      obtain ⟨hz, hx⟩ := hd
      walk_at "go"
      refine ite_F (by simp) ?_
      walk_at "go"
      refine ds_forE' (ch := [2]) ?_
      refine di_rng1 ?_
      walk_at "go"
      refine ⟨by omega, by omega, fun i G => ∃ s, G = [.d (.list xs), .d (.list xs), s], ⟨_, rfl⟩, fun i G2 d hd ⟨s, hG⟩ => ?_, fun G2 ⟨s, hG⟩ => ?_⟩
      · subst hG
        obtain ⟨hi, rfl⟩ := rngD_get hd
        have hi : i < xs.length := by simpa using hi
        have hg : xs[i]? = some xs[i] := List.getElem?_eq_getElem hi
        have e0 : (0 : Int) + (i : Int) = (i : Int) := by omega
        rw [e0]
        refine dg_name ?_
        walk_at "go"
        refine rw_ixL rfl (atn hg) ?_
        walk_at "go"
        refine rw_ixL rfl (atn hg) ?_
        walk_at "go"
        refine ⟨xs[i], hx _ (List.getElem_mem hi), rfl, ?_⟩
        rintro _ rfl
        walk_at "go"
        exact ⟨_, rfl⟩
      · subst hG
        walk_at "go"
    | dict xs => exact hd.elim
    | tuple xs =>
      obtain ⟨hz, hx⟩ := hd
      walk_at "go"
      refine ite_F (by simp) ?_
      walk_at "go"
      refine ds_forE' (ch := [2]) ?_
      refine di_rng1 ?_
      walk_at "go"
      refine ⟨by omega, by omega, fun i G => ∃ s, G = [.d (.tuple xs), .d (.tuple xs), s], ⟨_, rfl⟩, fun i G2 d hd ⟨s, hG⟩ => ?_, fun G2 ⟨s, hG⟩ => ?_⟩
      · subst hG
        obtain ⟨hi, rfl⟩ := rngD_get hd
        have hi : i < xs.length := by simpa using hi
        have hg : xs[i]? = some xs[i] := List.getElem?_eq_getElem hi
        have e0 : (0 : Int) + (i : Int) = (i : Int) := by omega
        rw [e0]
        refine dg_name ?_
        walk_at "go"
        refine rw_ixT (atn hg) ?_
        walk_at "go"
        refine rw_ixT (atn hg) ?_
        walk_at "go"
        refine ⟨xs[i], hx _ (List.getElem_mem hi), rfl, ?_⟩
        rintro _ rfl
        walk_at "go"
        exact ⟨_, rfl⟩
      · subst hG
        walk_at "go"
end
end K12
namespace K12
open PySem PySem.Spec PyProof.Rows L2 DL
/-! the reading and the writing, plain -/
abbrev Rd' (α : Type) := List Nat → Nat → Option (α × Nat)
def rdByte : Rd' Nat := fun ds i => (ds[i]?).map fun b => (b, i + 1)
def rdChoice (c : Nat) : Rd' Nat := fun ds i => (rdByte ds i).bind fun x => if c ≤ x.1 then none else some x
def numGo (ds : List Nat) : Nat → Nat → Nat → Nat → Nat → Option (Nat × Nat)
  | 0, _, _, _, _ => none
  | n + 1, k, t, f, i => (ds[i]?).bind fun b => if b < 128 then (if b = 0 ∧ 0 < k then none else some (t + b % 128 * f, i + 1)) else numGo ds n (k + 1) (t + b % 128 * f) (f * 128) (i + 1)
def rdNum : Rd' Nat := fun ds i => numGo ds 60 0 0 1 i
def rdCount : Rd' Nat := fun ds i => (rdNum ds i).bind fun x => if ds.length - x.2 < x.1 then none else some x
def okc (n : Nat) : Bool := n == 10 || (decide (32 ≤ n) && decide (n < 127) && n != 37)
def rdChar : Rd' Nat := fun ds i => (rdNum ds i).bind fun x => if okc x.1 then some x else none
def rdMany {α : Type} (f : Nat → Option (α × Nat)) : Nat → Nat → Option (List α × Nat)
  | 0, i => some ([], i)
  | n + 1, i => (f i).bind fun x => (rdMany f n x.2).map fun y => (x.1 :: y.1, y.2)
def rdStr : Rd' (List Nat) := fun ds i => (rdCount ds i).bind fun x => rdMany (rdChar ds) x.1 x.2
def rdMark : Rd' (Nat × Nat) := fun ds i => (rdNum ds i).bind fun x => (rdNum ds x.2).map fun y => ((x.1, y.1), y.2)
inductive Deed where
  | back (n : Nat)
  | chg (m : List Nat) (r : List (Nat × Nat)) (b : Option (Nat × Nat)) (n : Nat) (t : List Nat)
def rdBehind : Rd' (Option (Nat × Nat)) := fun ds i => (rdChoice 2 ds i).bind fun x => if x.1 = 1 then (rdMark ds x.2).map fun y => (some y.1, y.2) else some (none, x.2)
def rdMarks : Rd' (List (Nat × Nat)) := fun ds i => (rdCount ds i).bind fun x => rdMany (rdMark ds) x.1 x.2
def rdDeed : Rd' Deed := fun ds i => (rdChoice 2 ds i).bind fun x => if x.1 = 1 then (rdNum ds x.2).map fun y => (.back y.1, y.2) else
  (rdStr ds x.2).bind fun m => (rdMarks ds m.2).bind fun r => (rdBehind ds r.2).bind fun b => (rdNum ds b.2).bind fun n => (rdStr ds n.2).map fun t => (.chg m.1 r.1 b.1 n.1 t.1, t.2)
def rdTriple : Rd' (Nat × Nat × Deed) := fun ds i => (rdNum ds i).bind fun r => (rdNum ds r.2).bind fun p => (rdDeed ds p.2).map fun d => ((r.1, p.1, d.1), d.2)
def rdTriples : Rd' (List (Nat × Nat × Deed)) := fun ds i => (rdCount ds i).bind fun x => rdMany (rdTriple ds) x.1 x.2
def rdPacket : Rd' (List (Nat × Nat × Deed)) := fun ds i => (rdByte ds i).bind fun x => if x.1 = 1 then rdTriples ds x.2 else none
/-! none of them goes beyond the end -/
def Fits {α : Type} (f : Rd' α) : Prop := ∀ ds i x, f ds i = some x → i < x.2 ∧ x.2 ≤ ds.length
theorem byte_fits : Fits rdByte := fun ds i x h => by
  unfold rdByte at h
  rw [Option.map_eq_some_iff] at h
  obtain ⟨b, e, rfl⟩ := h
  have := (List.getElem?_eq_some_iff.mp e).1
  exact ⟨by simp, by show i + 1 ≤ _; omega⟩
theorem choice_fits {c : Nat} : Fits (rdChoice c) := fun ds i x h => by
  unfold rdChoice at h
  rw [Option.bind_eq_some_iff] at h
  obtain ⟨y, e, h⟩ := h
  split at h
  · cases h
  · cases h
    exact byte_fits _ _ _ e
theorem go_fits {ds : List Nat} : ∀ {n k t f i : Nat} {x : Nat × Nat}, numGo ds n k t f i = some x → i < x.2 ∧ x.2 ≤ ds.length
  | 0, _, _, _, _, _, h => by cases h
  | n + 1, k, t, f, i, x, h => by
    unfold numGo at h
    rw [Option.bind_eq_some_iff] at h
    obtain ⟨b, e, h⟩ := h
    have hl := (List.getElem?_eq_some_iff.mp e).1
    split at h
    · split at h
      · cases h
      · cases h
        exact ⟨by simp, by show i + 1 ≤ _; omega⟩
    · have := go_fits h
      omega
theorem num_fits : Fits rdNum := fun ds i x h => go_fits h
theorem count_fits {ds : List Nat} {i : Nat} {x : Nat × Nat} (h : rdCount ds i = some x) : i < x.2 ∧ x.2 + x.1 ≤ ds.length := by
  unfold rdCount at h
  rw [Option.bind_eq_some_iff] at h
  obtain ⟨y, e, h⟩ := h
  have := num_fits _ _ _ e
  split at h
  · cases h
  · cases h
    omega
theorem char_fits : Fits rdChar := fun ds i x h => by
  unfold rdChar at h
  rw [Option.bind_eq_some_iff] at h
  obtain ⟨y, e, h⟩ := h
  have := num_fits _ _ _ e
  split at h
  · cases h
    exact this
  · cases h
theorem many_fits {α : Type} {ds : List Nat} {f : Nat → Option (α × Nat)} (hf : ∀ i x, f i = some x → i < x.2 ∧ x.2 ≤ ds.length) : ∀ {n i : Nat} {x : List α × Nat}, i ≤ ds.length → rdMany f n i = some x → i ≤ x.2 ∧ x.2 ≤ ds.length ∧ x.1.length = n
  | 0, i, x, hi, h => by
    cases h
    exact ⟨Nat.le_refl _, hi, rfl⟩
  | n + 1, i, x, hi, h => by
    unfold rdMany at h
    rw [Option.bind_eq_some_iff] at h
    obtain ⟨y, e, h⟩ := h
    rw [Option.map_eq_some_iff] at h
    obtain ⟨z, e2, rfl⟩ := h
    have h1 := hf _ _ e
    have h2 := many_fits hf h1.2 e2
    exact ⟨by show i ≤ z.2; omega, h2.2.1, by show z.1.length + 1 = n + 1; omega⟩
theorem str_fits : Fits rdStr := fun ds i x h => by
  unfold rdStr at h
  rw [Option.bind_eq_some_iff] at h
  obtain ⟨y, e, h⟩ := h
  have h1 := count_fits e
  have h2 := many_fits (ds := ds) (char_fits ds) (by omega) h
  omega
theorem mark_fits : Fits rdMark := fun ds i x h => by
  unfold rdMark at h
  rw [Option.bind_eq_some_iff] at h
  obtain ⟨y, e, h⟩ := h
  rw [Option.map_eq_some_iff] at h
  obtain ⟨z, e2, rfl⟩ := h
  have h1 := num_fits _ _ _ e
  have h2 := num_fits _ _ _ e2
  exact ⟨by show i < z.2; omega, h2.2⟩
theorem marks_fits : Fits rdMarks := fun ds i x h => by
  unfold rdMarks at h
  rw [Option.bind_eq_some_iff] at h
  obtain ⟨y, e, h⟩ := h
  have h1 := count_fits e
  have h2 := many_fits (ds := ds) (mark_fits ds) (by omega) h
  omega
theorem behind_fits : Fits rdBehind := fun ds i x h => by
  unfold rdBehind at h
  rw [Option.bind_eq_some_iff] at h
  obtain ⟨y, e, h⟩ := h
  have h1 := choice_fits _ _ _ e
  split at h
  · rw [Option.map_eq_some_iff] at h
    obtain ⟨z, e2, rfl⟩ := h
    have h2 := mark_fits _ _ _ e2
    exact ⟨by show i < z.2; omega, h2.2⟩
  · cases h
    exact h1
theorem deed_fits : Fits rdDeed := fun ds i x h => by
  unfold rdDeed at h
  rw [Option.bind_eq_some_iff] at h
  obtain ⟨y, e, h⟩ := h
  have h1 := choice_fits _ _ _ e
  split at h
  · rw [Option.map_eq_some_iff] at h
    obtain ⟨z, e2, rfl⟩ := h
    have h2 := num_fits _ _ _ e2
    exact ⟨by show i < z.2; omega, h2.2⟩
  · rw [Option.bind_eq_some_iff] at h
    obtain ⟨m, e2, h⟩ := h
    rw [Option.bind_eq_some_iff] at h
    obtain ⟨r, e3, h⟩ := h
    rw [Option.bind_eq_some_iff] at h
    obtain ⟨b, e4, h⟩ := h
    rw [Option.bind_eq_some_iff] at h
    obtain ⟨n, e5, h⟩ := h
    rw [Option.map_eq_some_iff] at h
    obtain ⟨t, e6, rfl⟩ := h
    have h2 := str_fits _ _ _ e2
    have h3 := marks_fits _ _ _ e3
    have h4 := behind_fits _ _ _ e4
    have h5 := num_fits _ _ _ e5
    have h6 := str_fits _ _ _ e6
    exact ⟨by show i < t.2; omega, h6.2⟩
theorem triple_fits : Fits rdTriple := fun ds i x h => by
  unfold rdTriple at h
  rw [Option.bind_eq_some_iff] at h
  obtain ⟨r, e, h⟩ := h
  rw [Option.bind_eq_some_iff] at h
  obtain ⟨p, e2, h⟩ := h
  rw [Option.map_eq_some_iff] at h
  obtain ⟨d, e3, rfl⟩ := h
  have h1 := num_fits _ _ _ e
  have h2 := num_fits _ _ _ e2
  have h3 := deed_fits _ _ _ e3
  exact ⟨by show i < d.2; omega, h3.2⟩
theorem triples_fits : Fits rdTriples := fun ds i x h => by
  unfold rdTriples at h
  rw [Option.bind_eq_some_iff] at h
  obtain ⟨y, e, h⟩ := h
  have h1 := count_fits e
  have h2 := many_fits (ds := ds) (triple_fits ds) (by omega) h
  omega
theorem packet_fits : Fits rdPacket := fun ds i x h => by
  unfold rdPacket at h
  rw [Option.bind_eq_some_iff] at h
  obtain ⟨y, e, h⟩ := h
  have h1 := byte_fits _ _ _ e
  split at h
  · have := triples_fits _ _ _ h
    omega
  · cases h
/-! as data -/
abbrev zC (n : Nat) : PyData := .str (mkS [n])
def encMk (m : Nat × Nat) : PyData := .tuple [nD m.1, nD m.2]
def encOm : Option (Nat × Nat) → PyData
  | none => .none
  | some m => encMk m
def encDd : Deed → PyData
  | .back n => .tuple [.str "back", nD n]
  | .chg m r b n t => .tuple [.str "change", zD m, .tuple (r.map encMk), encOm b, nD n, zD t]
def encTr (x : Nat × Nat × Deed) : PyData := .tuple [nD x.1, nD x.2.1, encDd x.2.2]
end K12
namespace K12
open PySem PySem.Spec PyProof.Rows L2 DL
local macro_rules | `(tactic| walk_at "st") => `(tactic| with_reducible first
  | refine pw_p ?_ | refine pw_o ?_ | refine dw_op ?_ | refine dw_un ?_ | refine dw_int ?_ | refine dw_str ?_ | refine dw_bl ?_ | refine dw_non ?_ | refine dw_ty ?_ | refine da_nil' ?_ | refine da_cons' ?_ | refine dw_sortSetT ?_ | refine dw_CB ?_ | refine dw_BM ?_ | refine dw_BM0 ?_
  | refine dw_tup ?_ | refine dw_lst ?_ | refine dw_notV ?_ | refine dw_and ?_ | refine dw_or ?_ | refine dw_if ?_ | refine dw_chain ?_ | refine dw_sl3 ?_ | refine dw_revT ?_ | refine dw_tupRg1 ?_ | refine dw_lstRg1 ?_ | refine dw_callI ?_ | refine dw_callJ ?_
  | refine dt_test ?_ | refine dt_B ?_ | refine dt_and ?_ | refine dt_or ?_ | refine dt_not ?_ | refine dt_yes ?_ | refine dt_truth ?_
  | refine ds_ret ?_ | refine ds_retN ?_ | refine ds_next ?_ | refine ds_break ?_ | refine ds_cont ?_ | refine ds_drop ?_ | refine ds_if ?_ | refine ds_set ?_
  | refine nx_nxt ?_ | refine rt_nxt ?_ | refine bk_nxt ?_ | refine ct_nxt ?_ | refine nx_lp ?_ | refine rt_lp ?_ | refine bk_lp ?_ | refine ct_lp ?_ | refine asn_d ?_ | refine asn_fr ?_ | refine rt_E0 ?_ | refine rt_E0o ?_ | refine nx_E0 ?_
  | refine dw_newK ?_ | refine dw_dInK ?_ | refine dw_dNotInK ?_ | refine dw_dGetK ?_ | refine ds_dPutK ?_
  | refine tr_b ?_ | refine tr_i ?_ | refine tr_n ?_ | refine tr_T ?_ | refine tr_L ?_
  | refine do_none ?_ | refine do_some ?_ | refine ite_t ?_ | refine ite_f ?_
  | refine rw_addI ?_ | refine rw_sub ?_ | refine rw_cmp ?_ | refine rw_eqI ?_ | refine rw_neI ?_ | refine rw_eqZ ?_ | refine rw_neZ ?_ | refine rw_eqS ?_ | refine rw_neS ?_ | refine rw_eqB ?_ | refine rw_neB ?_ | refine isN_d ?_ | refine notN_d ?_ | refine rw_isB ?_ | refine rw_notB ?_
  | refine rn_intI ?_ | refine rn_intB ?_ | refine rn_max ?_ | refine rn_min ?_ | refine rn_lenT ?_ | refine rn_lenD ?_ | refine rm_sw ?_ | refine isi_int ?_ | refine isi_bool ?_ | refine isi_str ?_ | refine isi_tuple ?_ | refine isi_list ?_ | refine rn_tupT ?_ | refine rn_listT ?_
  | refine ⟨_, rfl, ?_⟩
  | fail)
local macro_rules | `(tactic| walk_at "va") => `(tactic| first
  | ((with_reducible apply dw_var); rfl) | ((with_reducible apply dw_sl); rfl) | ((with_reducible apply dw_slK); rfl) | ((with_reducible apply dw_ob); rfl) | (refine dw_fld (by assumption) (by assumption) rfl rfl ?_)
  | ((with_reducible apply rw_ixL); rfl; rfl) | ((with_reducible apply rw_ixT); rfl)
  | ((with_reducible apply ite_T); rfl) | ((with_reducible apply ite_F); rfl) | ((with_reducible apply tr_o); rfl)
  | refine ⟨_, rfl, szl (Nat.le_of_ble_eq_true rfl), ?_⟩
  | (with_reducible refine rw_mod (by omega) ?_)
  | (with_reducible refine rw_fdiv (by unfold CDiv; omega) ?_)
  | (with_reducible refine rw_mul (by unfold CMul; omega) ?_)
  | refine ⟨szl (Nat.le_of_ble_eq_true rfl), ?_⟩
  | refine ⟨⟨rfl, _, _, rfl⟩, ?_⟩
  | refine ⟨rfl, ?_⟩
  | rfl
  | fail)
local macro_rules | `(tactic| walk_at "go") => `(tactic| repeat' (first | walk_at "st" | (with_reducible refine ds_seq' ?_) | walk_at "va" | fail))
local macro_rules | `(tactic| walk_at "gs") => `(tactic| repeat' (first | walk_at "st" | walk_at "va" | fail))
abbrev bD (ds : List Nat) : PyData := .list (ds.map nD)
abbrev rdF (ds : List Nat) (i : Nat) : Fs := [("data", bD ds), ("at", nD i)]
abbrev RX := List Nat × Nat
abbrev preR (x : RX) : Prop := x.1.length ≤ 1000000 ∧ x.2 ≤ x.1.length
abbrev ownR (K : PySem.W.Frag) (C : Addr) (x : RX) : Sl := Sl.ob K C (rdF x.1 x.2) none
def resR {α : Type} (K : PySem.W.Frag) (C : Addr) (f : Rd' α) (enc : α → Rs) (x : RX) (s : Sl) (r : Rs) : Prop := ∃ a j, f x.1 x.2 = some (a, j) ∧ s = Sl.ob K C (rdF x.1 j) none ∧ r = enc a
def excR {α : Type} (D : Addr) (f : Rd' α) (x : RX) (_ : Sl) (c : Value) : Prop := f x.1 x.2 = none ∧ c = .ref D
abbrev spR {α : Type} (K : PySem.W.Frag) (C D : Addr) (f : Rd' α) (enc : α → Rs) := spH K (fun _ : RX => []) (ownR K C) (fun _ => []) preR (resR K C f enc) (excR D f)
abbrev pd {α : Type} (enc : α → PyData) (a : α) : Rs := .p (.d (enc a))
section
variable {P : Program} {w : World} {K : PySem.W.Frag} {mg : Str → Option Value} {base : Heap} {a : Ad}
/-- what a reader's method leaves -/
theorem ret_R {α : Type} {C : Addr} {f : Rd' α} {enc : α → Rs} {x : RX} {p : Addr} {G : En} {a : α} {j : Nat} {d : PyData} (h : f x.1 x.2 = some (a, j)) (he : enc a = .p (.d d)) (hG : G[0]? = some (Sl.ob K C (rdF x.1 j) (some p))) : RetH 0 p (resR K C f enc x) G (.p (.d d)) :=
  ⟨_, hG, rfl, rfl, a, j, h, rfl, he.symm⟩
theorem exc_R {α : Type} {D : Addr} {f : Rd' α} {x : RX} {p : Addr} {G : En} {s : Sl} (h : f x.1 x.2 = none) (hG : G[0]? = some s) (ht : s.tr = true) (hq : s.q = some p) : OwnH 0 p (fun s => excR D f x s (.ref D)) G := ⟨s, hG, ht, hq, h, rfl⟩
theorem put_at {ds : List Nat} {i : Nat} : putFd "at" (.int ((i : Int) + 1)) (rdF ds i) = rdF ds (i + 1) := by
  show (if ("data" : Str) = "at" then _ else _ :: (if ("at" : Str) = "at" then _ else _)) = _
  rw [if_neg (by decide), if_pos rfl]
  rfl
theorem ds_at {B : Bs} {G : En} {C : Addr} {ds : List Nat} {i n : Nat} {q : Option Addr} {E : De} (hC : Cls K C) (hA : NoAttr K C "at") (hi : G[n]? = some (Sl.ob K C (rdF ds i) q)) (h : E.nx (G.set n (Sl.ob K C (rdF ds (i + 1)) q))) : DS K B G (sFldAug K (tVar n) (tC (.int 1)) (ipI fun i j => i + j) "at") E := by
  refine ds_fldAugI (fs := rdF ds i) (a := (i : Int)) hC hA hi rfl (dw_int ?_)
  refine ⟨1, rdF ds i, q, rfl, hi, by show 2 < 1000; decide, ?_⟩
  rw [put_at]
  exact h
theorem ok_read_byte (T : Tx K mg a) : FnOk P w K mg base (L2.CX P w) 1 a.f8_1 a.d8_1 ["self"] (spR K a.c_Reader a.c_DamagedPacket rdByte (pd nD)) := by
  have hC := T.cl_Reader
  have hD := T.na_Reader_data
  have hA := T.na_Reader_at
  refine fnHX (j := 0) T.F_Reader_read_byte sc_Reader_read_byte (fun x => ⟨rfl, rfl, by decide⟩) fun cdv A outer s H E hr => ⟨_, (pss_cons (ps_if (pt_cmpR op_ge (kFLD K rfl (pe_fld (pv 0) rfl)) (pe_callB (kLEN K rfl) (by rfl) T.z_len (by decide +kernel) (pa_cons (kFLD K rfl (pe_fld (pv 0) rfl)) pa_nil)) (nomark _)) (pss_one (ps_raise rfl (takes_of rfl rfl rfl rfl) (pmk_own PySem.F.excBase_ValueError T.x_DamagedPacket.y T.x_DamagedPacket.g T.x_DamagedPacket.k (raises_own T.x_DamagedPacket.b T.x_DamagedPacket.t) (by rfl)))) pss_nil) (pss_cons (kSAUG K rfl (ps_fldaug (pv 0) pe_int ip_add)) (pss_one (ps_ret (pe_ix (kIX K rfl) (kFLD K rfl (pe_fld (pv 0) rfl)) (pe_op op_sub (kFLD K rfl (pe_fld (pv 0) rfl)) pe_int) (fun _ _ => rfl)))))), ?_⟩
  rintro ⟨ds, i⟩ ⟨h1, h2⟩ p B hE
  show DS K B [Sl.ob K a.c_Reader (rdF ds i) (some p)] _ _
  walk_at "go"
  refine ite_k (fun c => ?_) (fun c => ?_)
  · have c := of_decide_eq_true c
    walk_at "go"
    rw [List.length_map] at c
    exact ds_raise (tkw_of (tkg_of hE)) (exc_R (by show (ds[i]?).map _ = none; rw [List.getElem?_eq_none (by omega)]; rfl) rfl rfl rfl)
  · have c := of_decide_eq_false c
    rw [List.length_map] at c
    walk_at "go"
    refine ds_at hC hA rfl ?_
    have hv : ds[i]? = some ds[i] := List.getElem?_eq_getElem (by omega)
    walk_at "go"
    have e : ((i + 1 : Nat) : Int) - 1 = (i : Int) := by omega
    rw [e]
    refine rw_ixL rfl (ati hv) ?_
    walk_at "go"
    exact ret_R (by show (ds[i]?).map _ = _; rw [hv]; rfl) rfl rfl
/-- x.m(), x a reader -/
theorem dw_R {α : Type} {C D : Addr} {f : Rd' α} {enc : α → Rs} {m : Str} {ds : List Nat} {i n : Nat} {B : Bs} {G : En} {p : Addr} {E : XK} {Po0 : Po} {ex0 : Value → En → Prop} (hG : G[n]? = some (Sl.ob K C (rdF ds i) (some p))) (h1 : ds.length ≤ 1000000) (h2 : i ≤ ds.length) (hE : TkG K B ex0 E)
    (hm : (rdF ds i).lookup m = none) (q : ∀ b j, f ds i = some (b, j) → Po0 (G.set n (Sl.ob K C (rdF ds j) (some p))) (enc b)) (qx : ∀ s, s.tr = true → s.q = some p → f ds i = none → ex0 (.ref D) (G.set n s)) :
    DW K B G (tMeth C m (spR K C D f enc) [] E (tVar n) tNil) Po0 := by
  refine dw_meth hG hm ?_
  refine dw_callHG hE ?_
  refine da_cons' (dw_ob hG (pw_p (da_nil' ?_)))
  refine ⟨(ds, i), n, _, ⟨h1, h2⟩, rfl, hG, rfl, rfl, ?_, ?_⟩
  · rintro s' r ht ⟨b, j, hf, rfl, rfl⟩
    exact q b j hf
  · rintro s' c ht ⟨hf, rfl⟩
    exact qx _ (by rw [re_tr]; exact ht) (re_q ht) hf
/-! with one number -/
abbrev spRc {α : Type} (K : PySem.W.Frag) (C D : Addr) (f : Nat → Rd' α) (enc : α → Rs) := spH K (fun _ : Nat × RX => []) (fun x => ownR K C x.2) (fun x => [nD x.1]) (fun x => preR x.2) (fun x s r => resR K C (f x.1) enc x.2 s r) (fun x s c => excR D (f x.1) x.2 s c)
theorem dw_Rc {α : Type} {C D : Addr} {f : Nat → Rd' α} {enc : α → Rs} {m : Str} {ds : List Nat} {i n c0 : Nat} {B : Bs} {G : En} {p : Addr} {E : XK} {Po0 : Po} {ex0 : Value → En → Prop} (hG : G[n]? = some (Sl.ob K C (rdF ds i) (some p))) (h1 : ds.length ≤ 1000000) (h2 : i ≤ ds.length) (hE : TkG K B ex0 E)
    (hm : (rdF ds i).lookup m = none) (q : ∀ b j, f c0 ds i = some (b, j) → Po0 (G.set n (Sl.ob K C (rdF ds j) (some p))) (enc b)) (qx : ∀ s, s.tr = true → s.q = some p → f c0 ds i = none → ex0 (.ref D) (G.set n s)) :
    DW K B G (tMeth C m (spRc K C D f enc) [] E (tVar n) (tCons (tC (.int (c0 : Nat))) tNil)) Po0 := by
  refine dw_meth hG hm ?_
  refine dw_callHG hE ?_
  refine da_cons' (dw_ob hG (pw_p (da_cons' (dw_int (pw_p (da_nil' ?_))))))
  refine ⟨(c0, ds, i), n, _, ⟨h1, h2⟩, rfl, hG, rfl, rfl, ?_, ?_⟩
  · rintro s' r ht ⟨b, j, hf, rfl, rfl⟩
    exact q b j hf
  · rintro s' c ht ⟨hf, rfl⟩
    exact qx _ (by rw [re_tr]; exact ht) (re_q ht) hf
theorem ok_read_choice (T : Tx K mg a) (G_Reader_read_byte : FnOk P w K mg base (L2.CX P w) 1 a.f8_1 a.d8_1 ["self"] (spR K a.c_Reader a.c_DamagedPacket rdByte (pd nD))) : FnOk P w K mg base (L2.CX P w) 2 a.f8_2 a.d8_2 ["self", "count"] (spRc K a.c_Reader a.c_DamagedPacket rdChoice (pd nD)) := by
  have hC := T.cl_Reader
  have hD := T.na_Reader_data
  have hA := T.na_Reader_at
  refine fnHX (j := 0) T.F_Reader_read_choice sc_Reader_read_choice (fun x => ⟨rfl, rfl, by decide⟩) fun cdv A outer s H E hr => ⟨_, (pss_cons (ps_set (i := 2) sc_Reader_read_choice.nd rfl (Or.inl rfl) (pe_meth0 (pv 0) T.cl_Reader T.mt_Reader_read_byte G_Reader_read_byte hr T.b_Reader_read_byte .nil (passes_call (takes_of rfl rfl rfl rfl) (fun _ _ _ _ h => h)))) (pss_cons (ps_if (pt_cmpR op_ge (pv 2) (pv 1) (nomark _)) (pss_one (ps_raise rfl (takes_of rfl rfl rfl rfl) (pmk_own PySem.F.excBase_ValueError T.x_DamagedPacket.y T.x_DamagedPacket.g T.x_DamagedPacket.k (raises_own T.x_DamagedPacket.b T.x_DamagedPacket.t) (by rfl)))) pss_nil) (pss_one (ps_ret (pv 2))))), ?_⟩
  rintro ⟨c0, ds, i⟩ ⟨h1, h2⟩ p B hE
  show DS K B [Sl.ob K a.c_Reader (rdF ds i) (some p), .d (nD c0), .un] _ _
  walk_at "go"
  refine dw_R rfl h1 h2 (tkg_of hE) rfl (fun b j hf => ?_) fun s ht hq hf => exc_R (by show (rdByte ds i).bind _ = none; rw [hf]; rfl) rfl ht hq
  walk_at "go"
  refine ite_k (fun c => ?_) (fun c => ?_)
  · have c := of_decide_eq_true c
    walk_at "go"
    exact ds_raise (tkw_of (tkg_of hE)) (exc_R (by show (rdByte ds i).bind _ = none; rw [hf]; exact if_pos (by omega)) rfl rfl rfl)
  · have c := of_decide_eq_false c
    walk_at "go"
    exact ret_R (by show (rdByte ds i).bind _ = _; rw [hf]; exact if_neg (by omega)) rfl rfl
theorem ok_end (T : Tx K mg a) : FnOk P w K mg base (L2.CX P w) 1 a.f8_3 a.d8_3 ["self"] (spR K a.c_Reader a.c_DamagedPacket (fun ds i => if i < ds.length then none else some ((), i)) (fun _ => .p (.d .none))) := by
  have hC := T.cl_Reader
  have hD := T.na_Reader_data
  have hA := T.na_Reader_at
  refine fnHX (j := 0) T.F_Reader_end sc_Reader_end (fun x => ⟨rfl, rfl, by decide⟩) fun cdv A outer s H E hr => ⟨_, (pss_one (ps_if (pt_cmpR op_lt (kFLD K rfl (pe_fld (pv 0) rfl)) (pe_callB (kLEN K rfl) (by rfl) T.z_len (by decide +kernel) (pa_cons (kFLD K rfl (pe_fld (pv 0) rfl)) pa_nil)) (nomark _)) (pss_one (ps_raise rfl (takes_of rfl rfl rfl rfl) (pmk_own PySem.F.excBase_ValueError T.x_DamagedPacket.y T.x_DamagedPacket.g T.x_DamagedPacket.k (raises_own T.x_DamagedPacket.b T.x_DamagedPacket.t) (by rfl)))) pss_nil)), ?_⟩
  rintro ⟨ds, i⟩ ⟨h1, h2⟩ p B hE
  show DS K B [Sl.ob K a.c_Reader (rdF ds i) (some p)] _ _
  walk_at "go"
  refine ite_k (fun c => ?_) (fun c => ?_)
  · have c := of_decide_eq_true c
    rw [List.length_map] at c
    walk_at "go"
    exact ds_raise (tkw_of (tkg_of hE)) (exc_R (by exact if_pos (by show i < ds.length; omega)) rfl rfl rfl)
  · have c := of_decide_eq_false c
    rw [List.length_map] at c
    walk_at "go"
    exact ⟨_, rfl, rfl, rfl, (), i, if_neg (by show ¬ i < ds.length; omega), rfl, rfl⟩
end
end K12
namespace K12
open PySem PySem.Spec PyProof.Rows L2 DL
local macro_rules | `(tactic| walk_at "st") => `(tactic| with_reducible first
  | refine pw_p ?_ | refine pw_o ?_ | refine dw_op ?_ | refine dw_un ?_ | refine dw_int ?_ | refine dw_str ?_ | refine dw_bl ?_ | refine dw_non ?_ | refine dw_ty ?_ | refine da_nil' ?_ | refine da_cons' ?_ | refine dw_sortSetT ?_ | refine dw_CB ?_ | refine dw_BM ?_ | refine dw_BM0 ?_
  | refine dw_tup ?_ | refine dw_lst ?_ | refine dw_notV ?_ | refine dw_and ?_ | refine dw_or ?_ | refine dw_if ?_ | refine dw_chain ?_ | refine dw_sl3 ?_ | refine dw_revT ?_ | refine dw_tupRg1 ?_ | refine dw_lstRg1 ?_ | refine dw_callI ?_ | refine dw_callJ ?_
  | refine dt_test ?_ | refine dt_B ?_ | refine dt_and ?_ | refine dt_or ?_ | refine dt_not ?_ | refine dt_yes ?_ | refine dt_truth ?_
  | refine ds_ret ?_ | refine ds_retN ?_ | refine ds_next ?_ | refine ds_break ?_ | refine ds_cont ?_ | refine ds_drop ?_ | refine ds_if ?_ | refine ds_set ?_
  | refine nx_nxt ?_ | refine rt_nxt ?_ | refine bk_nxt ?_ | refine ct_nxt ?_ | refine nx_lp ?_ | refine rt_lp ?_ | refine bk_lp ?_ | refine ct_lp ?_ | refine asn_d ?_ | refine asn_fr ?_ | refine rt_E0 ?_ | refine rt_E0o ?_ | refine nx_E0 ?_
  | refine dw_newK ?_ | refine dw_dInK ?_ | refine dw_dNotInK ?_ | refine dw_dGetK ?_ | refine ds_dPutK ?_
  | refine tr_b ?_ | refine tr_i ?_ | refine tr_n ?_ | refine tr_T ?_ | refine tr_L ?_
  | refine do_none ?_ | refine do_some ?_ | refine ite_t ?_ | refine ite_f ?_
  | refine rw_addI ?_ | refine rw_sub ?_ | refine rw_cmp ?_ | refine rw_eqI ?_ | refine rw_neI ?_ | refine rw_eqZ ?_ | refine rw_neZ ?_ | refine rw_eqS ?_ | refine rw_neS ?_ | refine rw_eqB ?_ | refine rw_neB ?_ | refine isN_d ?_ | refine notN_d ?_ | refine rw_isB ?_ | refine rw_notB ?_
  | refine rn_intI ?_ | refine rn_intB ?_ | refine rn_max ?_ | refine rn_min ?_ | refine rn_lenT ?_ | refine rn_lenD ?_ | refine rm_sw ?_ | refine isi_int ?_ | refine isi_bool ?_ | refine isi_str ?_ | refine isi_tuple ?_ | refine isi_list ?_ | refine rn_tupT ?_ | refine rn_listT ?_
  | refine ⟨_, rfl, ?_⟩
  | fail)
local macro_rules | `(tactic| walk_at "va") => `(tactic| first
  | ((with_reducible apply dw_var); rfl) | ((with_reducible apply dw_sl); rfl) | ((with_reducible apply dw_slK); rfl) | ((with_reducible apply dw_ob); rfl) | (refine dw_fld (by assumption) (by assumption) rfl rfl ?_)
  | ((with_reducible apply rw_ixL); rfl; rfl) | ((with_reducible apply rw_ixT); rfl)
  | ((with_reducible apply ite_T); rfl) | ((with_reducible apply ite_F); rfl) | ((with_reducible apply tr_o); rfl)
  | refine ⟨_, rfl, szl (Nat.le_of_ble_eq_true rfl), ?_⟩
  | (with_reducible refine rw_mod (by omega) ?_)
  | (with_reducible refine rw_fdiv (by unfold CDiv; omega) ?_)
  | (with_reducible refine rw_mul (by unfold CMul; omega) ?_)
  | refine ⟨szl (Nat.le_of_ble_eq_true rfl), ?_⟩
  | refine ⟨⟨rfl, _, _, rfl⟩, ?_⟩
  | refine ⟨rfl, ?_⟩
  | rfl
  | fail)
local macro_rules | `(tactic| walk_at "go") => `(tactic| repeat' (first | walk_at "st" | (with_reducible refine ds_seq' ?_) | walk_at "va" | fail))
local macro_rules | `(tactic| walk_at "gs") => `(tactic| repeat' (first | walk_at "st" | walk_at "va" | fail))
section
variable {P : Program} {w : World} {K : PySem.W.Frag} {mg : Str → Option Value} {base : Heap} {a : Ad}
theorem byte_some {ds : List Nat} {i : Nat} {b j : Nat} (h : rdByte ds i = some (b, j)) : ds[i]? = some b ∧ j = i + 1 ∧ j ≤ ds.length := by
  unfold rdByte at h
  rw [Option.map_eq_some_iff] at h
  obtain ⟨c, e, h⟩ := h
  cases h
  have := (List.getElem?_eq_some_iff.mp e).1
  exact ⟨e, rfl, by omega⟩
theorem byte_none {ds : List Nat} {i : Nat} (h : rdByte ds i = none) : ds[i]? = none := by
  unfold rdByte at h
  rw [Option.map_eq_none_iff] at h
  exact h
theorem ok_read_number (T : Tx K mg a) (G_Reader_read_byte : FnOk P w K mg base (L2.CX P w) 1 a.f8_1 a.d8_1 ["self"] (spR K a.c_Reader a.c_DamagedPacket rdByte (pd nD))) : FnOk P w K mg base (L2.CX P w) 2 a.f8_4 a.d8_4 ["self"] (spR K a.c_Reader a.c_DamagedPacket rdNum (pd nD)) := by
  have hC := T.cl_Reader
  have hD := T.na_Reader_data
  have hA := T.na_Reader_at
  refine fnHX (j := 0) T.F_Reader_read_number sc_Reader_read_number (fun x => ⟨rfl, rfl, by decide⟩) fun cdv A outer s H E hr => ⟨_, (pss_cons (ps_set (i := 1) sc_Reader_read_number.nd rfl (Or.inl rfl) pe_int) (pss_cons (ps_set (i := 2) sc_Reader_read_number.nd rfl (Or.inl rfl) pe_int) (pss_cons (ps_for (passes_of rfl) rfl (pi_range1 (by rfl) T.z_range (pa_cons (pe_globI (by rfl) T.g_NUMBER_BYTES) pa_nil)) (pg_name (i := 3) sc_Reader_read_number.nd rfl (Or.inl rfl)) (pss_cons (ps_set (i := 4) sc_Reader_read_number.nd rfl (Or.inl rfl) (pe_meth0 (pv 0) T.cl_Reader T.mt_Reader_read_byte G_Reader_read_byte hr T.b_Reader_read_byte .nil (passes_call (takes_of rfl rfl rfl rfl) (fun _ _ _ _ h => h)))) (pss_cons (ps_aug (i := 1) sc_Reader_read_number.nd rfl (Or.inl rfl) (pe_op op_mul (pe_op op_mod (pv 4) pe_int) (pv 2)) ip_add) (pss_cons (ps_if (pt_cmpR op_lt (pv 4) pe_int (nomark _)) (pss_cons (ps_if (PW.pt (pw_and (pt_cmpR (kEQ K rfl hr.units) (pv 4) pe_int (nomark _)) (pw_and1 (pt_cmpR op_gt (pv 3) pe_int (nomark _))))) (pss_one (ps_raise rfl (takes_of rfl rfl rfl rfl) (pmk_own PySem.F.excBase_ValueError T.x_DamagedPacket.y T.x_DamagedPacket.g T.x_DamagedPacket.k (raises_own T.x_DamagedPacket.b T.x_DamagedPacket.t) (by rfl)))) pss_nil) (pss_one (ps_ret (pv 1)))) pss_nil) (pss_one (ps_set (i := 2) sc_Reader_read_number.nd rfl (Or.inl rfl) (pe_op op_mul (pv 2) pe_int))))))) (pss_one (ps_raise rfl (takes_of rfl rfl rfl rfl) (pmk_own PySem.F.excBase_ValueError T.x_DamagedPacket.y T.x_DamagedPacket.g T.x_DamagedPacket.k (raises_own T.x_DamagedPacket.b T.x_DamagedPacket.t) (by rfl))))))), ?_⟩
  rintro ⟨ds, i⟩ ⟨h1, h2⟩ p B hE
  have h2 : i ≤ ds.length := h2
  show DS K B [Sl.ob K a.c_Reader (rdF ds i) (some p), .un, .un, .un, .un] _ _
  walk_at "go"
  refine ds_forE' (ch := [3]) ?_
  refine di_rng1 ?_
  walk_at "go"
  refine ⟨by omega, by omega, fun k G => ∃ t f s3 s4, G = [Sl.ob K a.c_Reader (rdF ds (i + k)) (some p), .d (nD t), .d (nD f), s3, s4] ∧ i + k ≤ ds.length ∧ rdNum ds i = numGo ds (60 - k) k t f (i + k), ⟨0, 1, _, _, rfl, h2, rfl⟩, fun k G2 d hd ⟨t, f, s3, s4, hG, hk, he⟩ => ?_, fun G2 ⟨t, f, s3, s4, hG, hk, he⟩ => ?_⟩
  · subst hG
    obtain ⟨hi, rfl⟩ := rngD_get hd
    have hi : k < 60 := by simpa using hi
    have e0 : (0 : Int) + (k : Int) = (k : Int) := by omega
    rw [e0]
    obtain ⟨m, hm⟩ : ∃ m, 60 - k = m + 1 := ⟨59 - k, by omega⟩
    rw [hm] at he
    refine dg_name ?_
    walk_at "go"
    refine dw_R rfl h1 hk (tkg_of hE) rfl (fun b j hf => ?_) fun s ht hq hf => exc_R (by show rdNum ds i = none; rw [he]; unfold numGo; rw [byte_none hf]; rfl) rfl ht hq
    obtain ⟨g1, rfl, g3⟩ := byte_some hf
    have he : rdNum ds i = if b < 128 then (if b = 0 ∧ 0 < k then none else some (t + b % 128 * f, i + k + 1)) else numGo ds m (k + 1) (t + b % 128 * f) (f * 128) (i + k + 1) := by
      rw [he]
      conv => lhs; unfold numGo
      rw [g1]
      rfl
    have et : PyData.int ((t : Int) + (b : Int) % 128 * (f : Int)) = nD (t + b % 128 * f) := by
      show PyData.int _ = PyData.int _
      congr 1
    walk_at "go"
    refine ds_augI (i := 1) (a := (t : Int)) rfl ?_
    walk_at "go"
    rw [et]
    refine ite_k (fun c => ?_) (fun c => ?_)
    · have c : b < 128 := by have := of_decide_eq_true c; omega
      rw [if_pos c] at he
      walk_at "go"
      refine ite_k (fun c2 => ?_) (fun c2 => ?_)
      · have c2 : b = 0 := by have := of_decide_eq_true c2; omega
        walk_at "go"
        refine ite_k (fun c3 => ?_) (fun c3 => ?_)
        · have c3 : 0 < k := by have := of_decide_eq_true c3; omega
          walk_at "go"
          exact ds_raise (tkw_of (tkg_of hE)) (exc_R (by show rdNum ds i = none; rw [he, if_pos ⟨c2, c3⟩]) rfl rfl rfl)
        · have c3 : ¬ 0 < k := by have := of_decide_eq_false c3; omega
          walk_at "go"
          exact ret_R (by show rdNum ds i = _; rw [he, if_neg (fun z => c3 z.2)]) rfl rfl
      · have c2 : ¬ b = 0 := by have := of_decide_eq_false c2; omega
        walk_at "go"
        exact ret_R (by show rdNum ds i = _; rw [he, if_neg (fun z => c2 z.1)]) rfl rfl
    · have c : ¬ b < 128 := by have := of_decide_eq_false c; omega
      rw [if_neg c] at he
      walk_at "go"
      exact ⟨_, f * 128, _, _, rfl, g3, by rw [he, show 60 - (k + 1) = m by omega]; rfl⟩
  · subst hG
    have he : rdNum ds i = none := by
      rw [he]
      rfl
    walk_at "go"
    exact ds_raise (tkw_of (tkg_of hE)) (exc_R he rfl rfl rfl)
theorem ok_read_count (T : Tx K mg a) (G_Reader_read_number : FnOk P w K mg base (L2.CX P w) 2 a.f8_4 a.d8_4 ["self"] (spR K a.c_Reader a.c_DamagedPacket rdNum (pd nD))) : FnOk P w K mg base (L2.CX P w) 3 a.f8_5 a.d8_5 ["self"] (spR K a.c_Reader a.c_DamagedPacket rdCount (pd nD)) := by
  have hC := T.cl_Reader
  have hD := T.na_Reader_data
  have hA := T.na_Reader_at
  refine fnHX (j := 0) T.F_Reader_read_count sc_Reader_read_count (fun x => ⟨rfl, rfl, by decide⟩) fun cdv A outer s H E hr => ⟨_, (pss_cons (ps_set (i := 1) sc_Reader_read_count.nd rfl (Or.inl rfl) (pe_meth0 (pv 0) T.cl_Reader T.mt_Reader_read_number G_Reader_read_number hr T.b_Reader_read_number .nil (passes_call (takes_of rfl rfl rfl rfl) (fun _ _ _ _ h => h)))) (pss_cons (ps_if (pt_cmpR op_gt (pv 1) (pe_op op_sub (pe_callB (kLEN K rfl) (by rfl) T.z_len (by decide +kernel) (pa_cons (kFLD K rfl (pe_fld (pv 0) rfl)) pa_nil)) (kFLD K rfl (pe_fld (pv 0) rfl))) (nomark _)) (pss_one (ps_raise rfl (takes_of rfl rfl rfl rfl) (pmk_own PySem.F.excBase_ValueError T.x_DamagedPacket.y T.x_DamagedPacket.g T.x_DamagedPacket.k (raises_own T.x_DamagedPacket.b T.x_DamagedPacket.t) (by rfl)))) pss_nil) (pss_one (ps_ret (pv 1))))), ?_⟩
  rintro ⟨ds, i⟩ ⟨h1, h2⟩ p B hE
  show DS K B [Sl.ob K a.c_Reader (rdF ds i) (some p), .un] _ _
  walk_at "go"
  refine dw_R rfl h1 h2 (tkg_of hE) rfl (fun b j hf => ?_) fun s ht hq hf => exc_R (by show (rdNum ds i).bind _ = none; rw [hf]; rfl) rfl ht hq
  have hj := num_fits _ _ _ hf
  have hj : i < j ∧ j ≤ ds.length := hj
  walk_at "go"
  refine ite_k (fun c => ?_) (fun c => ?_)
  · have c := of_decide_eq_true c
    rw [List.length_map] at c
    walk_at "go"
    exact ds_raise (tkw_of (tkg_of hE)) (exc_R (by show (rdNum ds i).bind _ = none; rw [hf]; exact if_pos (by show ds.length - j < b; omega)) rfl rfl rfl)
  · have c := of_decide_eq_false c
    rw [List.length_map] at c
    walk_at "go"
    exact ret_R (by show (rdNum ds i).bind _ = _; rw [hf]; exact if_neg (by show ¬ ds.length - j < b; omega)) rfl rfl
theorem bef_at {n : Nat} (h : 32 ≤ n) (h2 : n < 37) : ([32, 33, 34, 35, 36] : List Nat)[n - 32]? = some n := by
  obtain ⟨m, rfl⟩ : ∃ m, n = 32 + m := ⟨n - 32, by omega⟩
  rw [Nat.add_sub_cancel_left]
  have : m < 5 := by omega
  match m, this with
  | 0, _ => rfl
  | 1, _ => rfl
  | 2, _ => rfl
  | 3, _ => rfl
  | 4, _ => rfl
abbrev aftL : List Nat := [38, 39, 40, 41, 42, 43, 44, 45, 46, 47, 48, 49, 50, 51, 52, 53, 54, 55, 56, 57, 58, 59, 60, 61, 62, 63, 64, 65, 66, 67, 68, 69, 70, 71, 72, 73, 74, 75, 76, 77, 78, 79, 80, 81, 82, 83, 84, 85, 86, 87, 88, 89, 90, 91, 92, 93, 94, 95, 96, 97, 98, 99, 100, 101, 102, 103, 104, 105, 106, 107, 108, 109, 110, 111, 112, 113, 114, 115, 116, 117, 118, 119, 120, 121, 122, 123, 124, 125, 126]
theorem aft_at {n : Nat} (h : 38 ≤ n) (h2 : n < 127) : aftL[n - 38]? = some n := by
  have e : aftL = List.range' 38 89 := by decide
  rw [e, List.getElem?_range' (by omega)]
  congr 1
  omega
theorem ok_read_character (T : Tx K mg a) (G_Reader_read_number : FnOk P w K mg base (L2.CX P w) 2 a.f8_4 a.d8_4 ["self"] (spR K a.c_Reader a.c_DamagedPacket rdNum (pd nD))) : FnOk P w K mg base (L2.CX P w) 3 a.f8_6 a.d8_6 ["self"] (spR K a.c_Reader a.c_DamagedPacket rdChar (pd zC)) := by
  have hC := T.cl_Reader
  have hD := T.na_Reader_data
  have hA := T.na_Reader_at
  refine fnHX (j := 0) T.F_Reader_read_character sc_Reader_read_character (fun x => ⟨rfl, rfl, by decide⟩) fun cdv A outer s H E hr => ⟨_, (pss_cons (ps_set (i := 1) sc_Reader_read_character.nd rfl (Or.inl rfl) (pe_meth0 (pv 0) T.cl_Reader T.mt_Reader_read_number G_Reader_read_number hr T.b_Reader_read_number .nil (passes_call (takes_of rfl rfl rfl rfl) (fun _ _ _ _ h => h)))) (pss_cons (ps_if (pt_cmpR (kEQ K rfl hr.units) (pv 1) pe_int (nomark _)) (pss_one (ps_ret (pe_strM [10] rfl))) pss_nil) (pss_cons (ps_if (pt_chain op_le op_lt pe_int (pv 1) pe_int) (pss_one (ps_ret (pe_ix (kIX K rfl) (pe_globS (by rfl) T.g_BEFORE_PERCENT) (pe_op op_sub (pv 1) pe_int) (fun _ _ => rfl)))) pss_nil) (pss_cons (ps_if (pt_chain op_le op_lt pe_int (pv 1) pe_int) (pss_one (ps_ret (pe_ix (kIX K rfl) (pe_globS (by rfl) T.g_AFTER_PERCENT) (pe_op op_sub (pv 1) pe_int) (fun _ _ => rfl)))) pss_nil) (pss_one (ps_raise rfl (takes_of rfl rfl rfl rfl) (pmk_own PySem.F.excBase_ValueError T.x_DamagedPacket.y T.x_DamagedPacket.g T.x_DamagedPacket.k (raises_own T.x_DamagedPacket.b T.x_DamagedPacket.t) (by rfl)))))))), ?_⟩
  rintro ⟨ds, i⟩ ⟨h1, h2⟩ p B hE
  show DS K B [Sl.ob K a.c_Reader (rdF ds i) (some p), .un] _ _
  walk_at "go"
  refine dw_R rfl h1 h2 (tkg_of hE) rfl (fun b j hf => ?_) fun s ht hq hf => exc_R (by show (rdNum ds i).bind _ = none; rw [hf]; rfl) rfl ht hq
  have rt : okc b = true → rdChar ds i = some (b, j) := fun h => by
    show (rdNum ds i).bind _ = _
    rw [hf]
    exact if_pos h
  have rf : okc b = false → rdChar ds i = none := fun h => by
    show (rdNum ds i).bind _ = _
    rw [hf]
    exact if_neg (by show ¬ okc b = true; rw [h]; decide)
  walk_at "go"
  refine ite_k (fun c => ?_) (fun c => ?_)
  · have c : b = 10 := by have := of_decide_eq_true c; omega
    subst c
    walk_at "go"
    exact ret_R (rt (by decide)) rfl rfl
  have c : ¬ b = 10 := by have := of_decide_eq_false c; omega
  walk_at "gs"
  refine ds_mid' (fun G => G = [Sl.ob K a.c_Reader (rdF ds j) (some p), .d (nD b)] ∧ ¬ (32 ≤ b ∧ b < 37)) ?_ ?_
  · walk_at "go"
    refine ite_k (fun c2 => ?_) (fun c2 => ?_)
    · have c2 := of_decide_eq_true c2
      walk_at "go"
      refine ite_k (fun c3 => ?_) (fun c3 => ?_)
      · have c3 := of_decide_eq_true c3
        walk_at "go"
        have e : (b : Int) - 32 = ((b - 32 : Nat) : Int) := by omega
        rw [e]
        refine rw_ixS (z := [32, 33, 34, 35, 36]) (by decide) (atn (bef_at (by omega) (by omega))) ?_
        walk_at "go"
        exact ret_R (rt (by unfold okc; simp; omega)) rfl rfl
      · have c3 := of_decide_eq_false c3
        walk_at "go"
        exact fun z => by omega
    · have c2 := of_decide_eq_false c2
      walk_at "go"
      exact fun z => by omega
  · rintro _ ⟨rfl, hn⟩
    walk_at "go"
    refine ite_k (fun c2 => ?_) (fun c2 => ?_)
    · have c2 := of_decide_eq_true c2
      walk_at "go"
      refine ite_k (fun c3 => ?_) (fun c3 => ?_)
      · have c3 := of_decide_eq_true c3
        walk_at "go"
        have e : (b : Int) - 38 = ((b - 38 : Nat) : Int) := by omega
        rw [e]
        refine rw_ixS (z := aftL) (by decide) (atn (aft_at (by omega) (by omega))) ?_
        walk_at "go"
        exact ret_R (rt (by unfold okc; simp; omega)) rfl rfl
      · have c3 := of_decide_eq_false c3
        walk_at "go"
        exact ds_raise (tkw_of (tkg_of hE)) (exc_R (rf (by unfold okc; simp; omega)) rfl rfl rfl)
    · have c2 := of_decide_eq_false c2
      walk_at "go"
      exact ds_raise (tkw_of (tkg_of hE)) (exc_R (rf (by unfold okc; simp; omega)) rfl rfl rfl)
end
end K12
namespace K12
open PySem PySem.Spec PyProof.Rows L2 DL
local macro_rules | `(tactic| walk_at "st") => `(tactic| with_reducible first
  | refine pw_p ?_ | refine pw_o ?_ | refine dw_op ?_ | refine dw_un ?_ | refine dw_int ?_ | refine dw_str ?_ | refine dw_bl ?_ | refine dw_non ?_ | refine dw_ty ?_ | refine da_nil' ?_ | refine da_cons' ?_ | refine dw_sortSetT ?_ | refine dw_CB ?_ | refine dw_BM ?_ | refine dw_BM0 ?_
  | refine dw_tup ?_ | refine dw_lst ?_ | refine dw_notV ?_ | refine dw_and ?_ | refine dw_or ?_ | refine dw_if ?_ | refine dw_chain ?_ | refine dw_sl3 ?_ | refine dw_revT ?_ | refine dw_tupRg1 ?_ | refine dw_lstRg1 ?_ | refine dw_callI ?_ | refine dw_callJ ?_
  | refine dt_test ?_ | refine dt_B ?_ | refine dt_and ?_ | refine dt_or ?_ | refine dt_not ?_ | refine dt_yes ?_ | refine dt_truth ?_
  | refine ds_ret ?_ | refine ds_retN ?_ | refine ds_next ?_ | refine ds_break ?_ | refine ds_cont ?_ | refine ds_drop ?_ | refine ds_if ?_ | refine ds_set ?_
  | refine nx_nxt ?_ | refine rt_nxt ?_ | refine bk_nxt ?_ | refine ct_nxt ?_ | refine nx_lp ?_ | refine rt_lp ?_ | refine bk_lp ?_ | refine ct_lp ?_ | refine asn_d ?_ | refine asn_fr ?_ | refine rt_E0 ?_ | refine rt_E0o ?_ | refine nx_E0 ?_
  | refine dw_newK ?_ | refine dw_dInK ?_ | refine dw_dNotInK ?_ | refine dw_dGetK ?_ | refine ds_dPutK ?_
  | refine tr_b ?_ | refine tr_i ?_ | refine tr_n ?_ | refine tr_T ?_ | refine tr_L ?_
  | refine do_none ?_ | refine do_some ?_ | refine ite_t ?_ | refine ite_f ?_
  | refine rw_addI ?_ | refine rw_sub ?_ | refine rw_cmp ?_ | refine rw_eqI ?_ | refine rw_neI ?_ | refine rw_eqZ ?_ | refine rw_neZ ?_ | refine rw_eqS ?_ | refine rw_neS ?_ | refine rw_eqB ?_ | refine rw_neB ?_ | refine isN_d ?_ | refine notN_d ?_ | refine rw_isB ?_ | refine rw_notB ?_
  | refine rn_intI ?_ | refine rn_intB ?_ | refine rn_max ?_ | refine rn_min ?_ | refine rn_lenT ?_ | refine rn_lenD ?_ | refine rm_sw ?_ | refine isi_int ?_ | refine isi_bool ?_ | refine isi_str ?_ | refine isi_tuple ?_ | refine isi_list ?_ | refine rn_tupT ?_ | refine rn_listT ?_
  | refine ⟨_, rfl, ?_⟩
  | fail)
local macro_rules | `(tactic| walk_at "va") => `(tactic| first
  | ((with_reducible apply dw_var); rfl) | ((with_reducible apply dw_sl); rfl) | ((with_reducible apply dw_slK); rfl) | ((with_reducible apply dw_ob); rfl) | (refine dw_fld (by assumption) (by assumption) rfl rfl ?_)
  | ((with_reducible apply rw_ixL); rfl; rfl) | ((with_reducible apply rw_ixT); rfl)
  | ((with_reducible apply ite_T); rfl) | ((with_reducible apply ite_F); rfl) | ((with_reducible apply tr_o); rfl)
  | refine ⟨_, rfl, szl (Nat.le_of_ble_eq_true rfl), ?_⟩
  | (with_reducible refine rw_mod (by omega) ?_)
  | (with_reducible refine rw_fdiv (by unfold CDiv; omega) ?_)
  | (with_reducible refine rw_mul (by unfold CMul; omega) ?_)
  | refine ⟨szl (Nat.le_of_ble_eq_true rfl), ?_⟩
  | refine ⟨⟨rfl, _, _, rfl⟩, ?_⟩
  | refine ⟨rfl, ?_⟩
  | rfl
  | fail)
local macro_rules | `(tactic| walk_at "go") => `(tactic| repeat' (first | walk_at "st" | (with_reducible refine ds_seq' ?_) | walk_at "va" | fail))
local macro_rules | `(tactic| walk_at "gs") => `(tactic| repeat' (first | walk_at "st" | walk_at "va" | fail))
section
variable {P : Program} {w : World} {K : PySem.W.Frag} {mg : Str → Option Value} {base : Heap} {a : Ad}
theorem set_v {G : En} {o o' u d : Sl} {v : Nat} (hv : v ≠ 0) : ((((G.set 0 o).set v u).set v d).set 0 o').set v u = (G.set 0 o').set v u := by
  rw [List.set_set, List.set_comm _ _ hv, List.set_set, List.set_set]
/-- how many, and so many of them -/
def rdL {α : Type} (f : Rd' α) : Rd' (List α) := fun ds i => (rdCount ds i).bind fun x => rdMany (f ds) x.1 x.2
theorem dw_lcR {α : Type} {f : Rd' α} {enc : α → PyData} {C D : Addr} {m : Str} {ds : List Nat} {i v : Nat} {B : Bs} {G : En} {p : Addr} {E : XK} {Po0 : Po} {β : Type} {f0 : Rd' β} {x0 : RX} (hv : v ≠ 0) (hG : G[0]? = some (Sl.ob K C (rdF ds i) (some p))) (h1 : ds.length ≤ 1000000) (h2 : i ≤ ds.length) (hE : TkH K B 0 p (excR D f0 x0) E) (hfit : Fits f)
    (hm1 : ∀ i, (rdF ds i).lookup ("read_count" : Str) = none) (hm : ∀ i, (rdF ds i).lookup m = none) (q : ∀ l j, rdL f ds i = some (l, j) → Po0 ((G.set 0 (Sl.ob K C (rdF ds j) (some p))).set v .un) (.fr (.o none (l.map enc)))) (qx : rdL f ds i = none → f0 x0.1 x0.2 = none) :
    DW K B G (tLc (iRng1 (tCons (tMeth C ("read_count" : Str) (spR K C D rdCount (pd nD)) [] E (tVar 0) tNil) tNil)) (gName v) tYes (tMeth C m (spR K C D f (pd enc)) [] E (tVar 0) tNil) [v]) Po0 := by
  have g0 : ∀ (G : En) (s s' : Sl), G[0]? = some s' → (G.set 0 s)[0]? = some s := fun G s s' h => List.getElem?_set_self (List.getElem?_eq_some_iff.mp h).1
  refine dw_lcEX (tkg_of hE) (fun c G s h => ownH_snoc h) (ch := [v]) (fun k hk => hk) ?_
  refine di_rng1 (da_cons' (dw_R hG h1 h2 (tkg_of hE) (hm1 _) (fun n j hf => pw_p (da_nil' ?_)) fun s ht hq hf => exc_R (qx (by show (rdCount ds i).bind _ = none; rw [hf]; rfl)) (g0 _ _ _ hG) ht hq))
  have hn := count_fits hf
  have hn : i < j ∧ j + n ≤ ds.length := hn
  have er : rdL f ds i = rdMany (f ds) n j := by
    show (rdCount ds i).bind _ = _
    rw [hf]
    rfl
  refine ⟨(n : Int), rfl, by omega, by omega, fun k acc G2 => ∃ l i', acc = l.map enc ∧ l.length = k ∧ G2 = (G.set 0 (Sl.ob K C (rdF ds i') (some p))).set v .un ∧ i' ≤ ds.length ∧ rdMany (f ds) n j = (rdMany (f ds) (n - k) i').map fun y => (l ++ y.1, y.2), ⟨[], j, rfl, rfl, rfl, by omega, ?_⟩, fun B' hE' k acc G2 d hd ⟨l, i', ha, hl, hG2, hi', he⟩ => ?_, fun acc G2 ⟨l, i', ha, hl, hG2, hi', he⟩ => ?_⟩
  · show _ = (rdMany (f ds) n j).map _
    cases rdMany (f ds) n j <;> rfl
  · subst hG2 ha
    obtain ⟨hk, rfl⟩ := rngD_get hd
    have hk : k < n := by simpa using hk
    obtain ⟨m', hm'⟩ : ∃ m', n - k = m' + 1 := ⟨n - k - 1, by omega⟩
    rw [hm'] at he
    refine dg_name (dt_yes ?_)
    show DW K B' _ _ _
    have hG3 : ((((G.set 0 (Sl.ob K C (rdF ds i') (some p))).set v .un).set v (.d (.int (0 + (k : Int))))))[0]? = some (Sl.ob K C (rdF ds i') (some p)) := by
      rw [List.set_set, List.getElem?_set_ne hv]
      exact g0 _ _ _ hG
    refine dw_R hG3 h1 hi' hE' (hm _) (fun b jj hf2 => ?_) fun s ht hq hf2 => exc_R (qx ?_) (g0 _ _ _ hG3) ht hq
    · refine ⟨enc b, rfl, ?_, l ++ [b], jj, by simp, by simp [hl], set_v hv, (hfit _ _ _ hf2).2, ?_⟩
      · rw [List.length_map, hl, sizeLine_eq]
        omega
      · rw [he]
        conv => lhs; unfold rdMany
        rw [hf2]
        show Option.map _ (Option.map _ (rdMany (f ds) m' jj)) = _
        rw [show n - (k + 1) = m' by omega]
        cases rdMany (f ds) m' jj with
        | none => rfl
        | some y => simp
    · rw [er, he]
      unfold rdMany
      rw [hf2]
      rfl
  · subst hG2 ha
    have hlen : (rngD 0 ((n : Int)).toNat).length = n := by simp [rngD]
    rw [hlen] at hl he
    subst hl
    rw [Nat.sub_self] at he
    have he : rdMany (f ds) l.length j = some (l, i') := by
      rw [he]
      show some (l ++ [], i') = _
      rw [List.append_nil]
    show Po0 (((G.set 0 (Sl.ob K C (rdF ds i') (some p))).set v .un).set v .un) _
    rw [List.set_set]
    exact q l i' (by rw [er, he])
theorem many_len {α : Type} {f : Rd' α} {ds : List Nat} {i j : Nat} {l : List α} (h : rdL f ds i = some (l, j)) : l.length ≤ ds.length := by
  have go : ∀ {n i : Nat} {x : List α × Nat}, rdMany (f ds) n i = some x → x.1.length = n := by
    intro n
    induction n with
    | zero =>
      intro i x h
      cases h
      rfl
    | succ n ih =>
      intro i x h
      unfold rdMany at h
      rw [Option.bind_eq_some_iff] at h
      obtain ⟨y, e, h⟩ := h
      rw [Option.map_eq_some_iff] at h
      obtain ⟨z, e2, rfl⟩ := h
      show z.1.length + 1 = n + 1
      rw [ih e2]
  unfold rdL at h
  rw [Option.bind_eq_some_iff] at h
  obtain ⟨y, e, h⟩ := h
  have h1 := count_fits e
  have h2 := go h
  have h2 : l.length = y.1 := h2
  omega
theorem ok_read_string (T : Tx K mg a) (G_Reader_read_count : FnOk P w K mg base (L2.CX P w) 3 a.f8_5 a.d8_5 ["self"] (spR K a.c_Reader a.c_DamagedPacket rdCount (pd nD))) (G_Reader_read_character : FnOk P w K mg base (L2.CX P w) 3 a.f8_6 a.d8_6 ["self"] (spR K a.c_Reader a.c_DamagedPacket rdChar (pd zC))) :
    FnOk P w K mg base (L2.CX P w) 4 a.f8_7 a.d8_7 ["self"] (spR K a.c_Reader a.c_DamagedPacket rdStr (pd zD)) := by
  have hC := T.cl_Reader
  have hD := T.na_Reader_data
  have hA := T.na_Reader_at
  refine fnHX (j := 0) T.F_Reader_read_string sc_Reader_read_string (fun x => ⟨rfl, rfl, by decide⟩) fun cdv A outer s H E hr => ⟨_, (pss_one (ps_ret (kBM K rfl (pe_bm PySem.F.plainAttrs_str PySem.F.slot_str_join PySem.F.type_str_join (kJOIN K rfl) (pe_strM [] rfl) (pa_cons (pe_lcX (own := [("_", 1)]) (g := gName 1) rfl rfl (takes_of rfl rfl rfl rfl) (fun _ _ _ _ h => h) (by rfl) sc_Reader_read_string.nd (pi_range1 (by rfl) T.z_range (pa_cons (pe_meth0 (pv 0) T.cl_Reader T.mt_Reader_read_count G_Reader_read_count hr T.b_Reader_read_count .nil (passes_call (takes_of rfl rfl rfl rfl) (fun _ _ _ _ h => h))) pa_nil)) (blkOk_by (own := [("_", 1)]) (N := ["self", "_"]) (sc := defScope s_Reader_read_string) (by decide +kernel)) (fun _ _ _ _ _ => (pg_name (i := 1) sc_Reader_read_string.nd rfl (by first | exact Or.inl rfl | exact Or.inr rfl))) (fun _ _ _ _ _ => pts_nil) (fun _ _ _ _ _ _ _ hp => (pe_meth0 (pv 0) T.cl_Reader T.mt_Reader_read_character G_Reader_read_character hr T.b_Reader_read_character .nil hp))) pa_nil))))), ?_⟩
  rintro ⟨ds, i⟩ ⟨h1, h2⟩ p B hE
  show DS K B [Sl.ob K a.c_Reader (rdF ds i) (some p), .un] _ _
  walk_at "go"
  refine dw_lcR (by decide) rfl h1 h2 hE char_fits (fun _ => rfl) (fun _ => rfl) (fun l j hf => ?_) fun hf => hf
  walk_at "go"
  refine rm_join0 rfl ?_ ?_
  · have := many_len hf
    have h1 : ds.length ≤ 1000000 := h1
    omega
  walk_at "go"
  exact ret_R hf rfl rfl
theorem ok_read_mark (T : Tx K mg a) (G_Reader_read_number : FnOk P w K mg base (L2.CX P w) 2 a.f8_4 a.d8_4 ["self"] (spR K a.c_Reader a.c_DamagedPacket rdNum (pd nD))) : FnOk P w K mg base (L2.CX P w) 3 a.f8_8 a.d8_8 ["self"] (spR K a.c_Reader a.c_DamagedPacket rdMark (pd encMk)) := by
  have hC := T.cl_Reader
  have hD := T.na_Reader_data
  have hA := T.na_Reader_at
  refine fnHX (j := 0) T.F_Reader_read_mark sc_Reader_read_mark (fun x => ⟨rfl, rfl, by decide⟩) fun cdv A outer s H E hr => ⟨_, (pss_cons (ps_set (i := 1) sc_Reader_read_mark.nd rfl (Or.inl rfl) (pe_meth0 (pv 0) T.cl_Reader T.mt_Reader_read_number G_Reader_read_number hr T.b_Reader_read_number .nil (passes_call (takes_of rfl rfl rfl rfl) (fun _ _ _ _ h => h)))) (pss_one (ps_ret (pe_tup (pa_cons (pv 1) (pa_cons (pe_meth0 (pv 0) T.cl_Reader T.mt_Reader_read_number G_Reader_read_number hr T.b_Reader_read_number .nil (passes_call (takes_of rfl rfl rfl rfl) (fun _ _ _ _ h => h))) pa_nil)))))), ?_⟩
  rintro ⟨ds, i⟩ ⟨h1, h2⟩ p B hE
  show DS K B [Sl.ob K a.c_Reader (rdF ds i) (some p), .un] _ _
  walk_at "go"
  refine dw_R rfl h1 h2 (tkg_of hE) rfl (fun b j hf => ?_) fun s ht hq hf => exc_R (by show (rdNum ds i).bind _ = none; rw [hf]; rfl) rfl ht hq
  have hj : i < j ∧ j ≤ ds.length := num_fits _ _ _ hf
  walk_at "go"
  refine dw_R rfl h1 hj.2 (tkg_of hE) rfl (fun b2 j2 hf2 => ?_) fun s ht hq hf2 => exc_R (by show (rdNum ds i).bind _ = none; rw [hf]; show Option.map _ (rdNum ds j) = none; rw [hf2]; rfl) rfl ht hq
  walk_at "go"
  exact ret_R (by show (rdNum ds i).bind _ = _; rw [hf]; show Option.map _ (rdNum ds j) = _; rw [hf2]; rfl) rfl rfl
theorem ok_read_deed (T : Tx K mg a) (G_Reader_read_choice : FnOk P w K mg base (L2.CX P w) 2 a.f8_2 a.d8_2 ["self", "count"] (spRc K a.c_Reader a.c_DamagedPacket rdChoice (pd nD)))
    (G_Reader_read_number : FnOk P w K mg base (L2.CX P w) 2 a.f8_4 a.d8_4 ["self"] (spR K a.c_Reader a.c_DamagedPacket rdNum (pd nD))) (G_Reader_read_count : FnOk P w K mg base (L2.CX P w) 3 a.f8_5 a.d8_5 ["self"] (spR K a.c_Reader a.c_DamagedPacket rdCount (pd nD)))
    (G_Reader_read_mark : FnOk P w K mg base (L2.CX P w) 3 a.f8_8 a.d8_8 ["self"] (spR K a.c_Reader a.c_DamagedPacket rdMark (pd encMk)))
    (G_Reader_read_string : FnOk P w K mg base (L2.CX P w) 4 a.f8_7 a.d8_7 ["self"] (spR K a.c_Reader a.c_DamagedPacket rdStr (pd zD))) : FnOk P w K mg base (L2.CX P w) 5 a.f8_9 a.d8_9 ["self"] (spR K a.c_Reader a.c_DamagedPacket rdDeed (pd encDd)) := by
  have hC := T.cl_Reader
  have hD := T.na_Reader_data
  have hA := T.na_Reader_at
  replace G_Reader_read_choice := G_Reader_read_choice.mono (k := 4) (by decide)
  replace G_Reader_read_number := G_Reader_read_number.mono (k := 4) (by decide)
  replace G_Reader_read_count := G_Reader_read_count.mono (k := 4) (by decide)
  replace G_Reader_read_mark := G_Reader_read_mark.mono (k := 4) (by decide)
  refine fnHX (j := 0) T.F_Reader_read_deed sc_Reader_read_deed (fun x => ⟨rfl, rfl, by decide⟩) fun cdv A outer s H E hr => ⟨_, (pss_cons (ps_if (pt_cmpR (kEQ K rfl hr.units) (pe_meth (pv 0) T.cl_Reader T.mt_Reader_read_choice G_Reader_read_choice hr T.b_Reader_read_choice .nil (passes_call (takes_of rfl rfl rfl rfl) (fun _ _ _ _ h => h)) (pa_cons pe_int pa_nil)) pe_int (nomark _)) (pss_one (ps_ret (pe_tup (pa_cons (pe_strM [98, 97, 99, 107] rfl) (pa_cons (pe_meth0 (pv 0) T.cl_Reader T.mt_Reader_read_number G_Reader_read_number hr T.b_Reader_read_number .nil (passes_call (takes_of rfl rfl rfl rfl) (fun _ _ _ _ h => h))) pa_nil))))) pss_nil) (pss_cons (ps_set (i := 1) sc_Reader_read_deed.nd rfl (Or.inl rfl) (pe_meth0 (pv 0) T.cl_Reader T.mt_Reader_read_string G_Reader_read_string hr T.b_Reader_read_string .nil (passes_call (takes_of rfl rfl rfl rfl) (fun _ _ _ _ h => h)))) (pss_cons (ps_set (i := 2) sc_Reader_read_deed.nd rfl (Or.inl rfl) (pe_callTy (kTUP K rfl) (by rfl) T.z_tuple (by decide +kernel) (pa_cons (pe_lcX (own := [("_", 5)]) (g := gName 5) rfl rfl (takes_of rfl rfl rfl rfl) (fun _ _ _ _ h => h) (by rfl) sc_Reader_read_deed.nd (pi_range1 (by rfl) T.z_range (pa_cons (pe_meth0 (pv 0) T.cl_Reader T.mt_Reader_read_count G_Reader_read_count hr T.b_Reader_read_count .nil (passes_call (takes_of rfl rfl rfl rfl) (fun _ _ _ _ h => h))) pa_nil)) (blkOk_by (own := [("_", 5)]) (N := ["self", "module", "removed", "behind", "number", "_"]) (sc := defScope s_Reader_read_deed) (by decide +kernel)) (fun _ _ _ _ _ => (pg_name (i := 5) sc_Reader_read_deed.nd rfl (by first | exact Or.inl rfl | exact Or.inr rfl))) (fun _ _ _ _ _ => pts_nil) (fun _ _ _ _ _ _ _ hp => (pe_meth0 (pv 0) T.cl_Reader T.mt_Reader_read_mark G_Reader_read_mark hr T.b_Reader_read_mark .nil hp))) pa_nil))) (pss_cons (ps_set (i := 3) sc_Reader_read_deed.nd rfl (Or.inl rfl) pe_non) (pss_cons (ps_if (pt_cmpR (kEQ K rfl hr.units) (pe_meth (pv 0) T.cl_Reader T.mt_Reader_read_choice G_Reader_read_choice hr T.b_Reader_read_choice .nil (passes_call (takes_of rfl rfl rfl rfl) (fun _ _ _ _ h => h)) (pa_cons pe_int pa_nil)) pe_int (nomark _)) (pss_one (ps_set (i := 3) sc_Reader_read_deed.nd rfl (Or.inl rfl) (pe_meth0 (pv 0) T.cl_Reader T.mt_Reader_read_mark G_Reader_read_mark hr T.b_Reader_read_mark .nil (passes_call (takes_of rfl rfl rfl rfl) (fun _ _ _ _ h => h))))) pss_nil) (pss_cons (ps_set (i := 4) sc_Reader_read_deed.nd rfl (Or.inl rfl) (pe_meth0 (pv 0) T.cl_Reader T.mt_Reader_read_number G_Reader_read_number hr T.b_Reader_read_number .nil (passes_call (takes_of rfl rfl rfl rfl) (fun _ _ _ _ h => h)))) (pss_one (ps_ret (pe_tup (pa_cons (pe_strM [99, 104, 97, 110, 103, 101] rfl) (pa_cons (pv 1) (pa_cons (pv 2) (pa_cons (pv 3) (pa_cons (pv 4) (pa_cons (pe_meth0 (pv 0) T.cl_Reader T.mt_Reader_read_string G_Reader_read_string hr T.b_Reader_read_string .nil (passes_call (takes_of rfl rfl rfl rfl) (fun _ _ _ _ h => h))) pa_nil))))))))))))))), ?_⟩
  rintro ⟨ds, i⟩ ⟨h1, h2⟩ p B hE
  show DS K B [Sl.ob K a.c_Reader (rdF ds i) (some p), .un, .un, .un, .un, .un] _ _
  walk_at "go"
  refine dw_Rc rfl h1 h2 (tkg_of hE) rfl (fun b j hf => ?_) fun s ht hq hf => exc_R (by show (rdChoice 2 ds i).bind _ = none; rw [hf]; rfl) rfl ht hq
  have hj : i < j ∧ j ≤ ds.length := choice_fits _ _ _ hf
  have e1 : rdDeed ds i = if b = 1 then (rdNum ds j).map fun y => (.back y.1, y.2) else (rdStr ds j).bind fun m => (rdMarks ds m.2).bind fun r => (rdBehind ds r.2).bind fun b => (rdNum ds b.2).bind fun n => (rdStr ds n.2).map fun t => (.chg m.1 r.1 b.1 n.1 t.1, t.2) := by
    show (rdChoice 2 ds i).bind _ = _
    rw [hf]
    rfl
  walk_at "go"
  refine ite_k (fun c => ?_) (fun c => ?_)
  · have c : b = 1 := by have := of_decide_eq_true c; omega
    rw [if_pos c] at e1
    walk_at "go"
    refine dw_R rfl h1 hj.2 (tkg_of hE) rfl (fun b2 j2 hf2 => ?_) fun s ht hq hf2 => exc_R (by show rdDeed ds i = none; rw [e1, hf2]; rfl) rfl ht hq
    walk_at "go"
    exact ret_R (by show rdDeed ds i = _; rw [e1, hf2]; rfl) rfl rfl
  have c : ¬ b = 1 := by have := of_decide_eq_false c; omega
  rw [if_neg c] at e1
  walk_at "go"
  refine dw_R rfl h1 hj.2 (tkg_of hE) rfl (fun m j2 hf2 => ?_) fun s ht hq hf2 => exc_R (by show rdDeed ds i = none; rw [e1, hf2]; rfl) rfl ht hq
  have hj2 : j < j2 ∧ j2 ≤ ds.length := str_fits _ _ _ hf2
  rw [hf2] at e1
  have e1 : rdDeed ds i = (rdMarks ds j2).bind fun r => (rdBehind ds r.2).bind fun b => (rdNum ds b.2).bind fun n => (rdStr ds n.2).map fun t => (.chg m r.1 b.1 n.1 t.1, t.2) := e1
  walk_at "go"
  refine dw_lcR (f := rdMark) (by decide) rfl h1 hj2.2 hE mark_fits (fun _ => rfl) (fun _ => rfl) (fun l j3 hf3 => ?_) fun hf3 => by show rdDeed ds i = none; rw [e1, show rdMarks ds j2 = none from hf3]; rfl
  have hj3 : j2 < j3 ∧ j3 ≤ ds.length := marks_fits _ _ _ hf3
  rw [show rdMarks ds j2 = some (l, j3) from hf3] at e1
  have e1 : rdDeed ds i = (rdBehind ds j3).bind fun b => (rdNum ds b.2).bind fun n => (rdStr ds n.2).map fun t => (.chg m l b.1 n.1 t.1, t.2) := e1
  walk_at "go"
  refine rn_tupL rfl ?_
  walk_at "gs"
  refine ds_seq' ?_
  walk_at "gs"
  refine ds_mid' (fun G => ∃ bh j4, rdBehind ds j3 = some (bh, j4) ∧ j4 ≤ ds.length ∧ G = [Sl.ob K a.c_Reader (rdF ds j4) (some p), .d (zD m), .d (.tuple (l.map encMk)), .d (encOm bh), .un, .un]) ?_ ?_
  · walk_at "go"
    refine dw_Rc rfl h1 hj3.2 (tkg_of hE) rfl (fun b4 j4 hf4 => ?_) fun s ht hq hf4 => exc_R (by show rdDeed ds i = none; rw [e1, show rdBehind ds j3 = none by show (rdChoice 2 ds j3).bind _ = none; rw [hf4]; rfl]; rfl) rfl ht hq
    have hj4 : j3 < j4 ∧ j4 ≤ ds.length := choice_fits _ _ _ hf4
    have e4 : rdBehind ds j3 = if b4 = 1 then (rdMark ds j4).map fun y => (some y.1, y.2) else some (none, j4) := by
      show (rdChoice 2 ds j3).bind _ = _
      rw [hf4]
      rfl
    walk_at "go"
    refine ite_k (fun c4 => ?_) (fun c4 => ?_)
    · have c4 : b4 = 1 := by have := of_decide_eq_true c4; omega
      rw [if_pos c4] at e4
      walk_at "go"
      refine dw_R rfl h1 hj4.2 (tkg_of hE) rfl (fun m5 j5 hf5 => ?_) fun s ht hq hf5 => exc_R (by show rdDeed ds i = none; rw [e1, e4, hf5]; rfl) rfl ht hq
      have hj5 : j4 < j5 ∧ j5 ≤ ds.length := mark_fits _ _ _ hf5
      walk_at "go"
      exact ⟨some m5, j5, by rw [e4, hf5]; rfl, hj5.2, rfl⟩
    · have c4 : ¬ b4 = 1 := by have := of_decide_eq_false c4; omega
      rw [if_neg c4] at e4
      walk_at "go"
      exact ⟨none, j4, e4, hj4.2, rfl⟩
  · rintro _ ⟨bh, j4, e4, hj4, rfl⟩
    rw [e4] at e1
    have e1 : rdDeed ds i = (rdNum ds j4).bind fun n => (rdStr ds n.2).map fun t => (.chg m l bh n.1 t.1, t.2) := e1
    walk_at "go"
    refine dw_R rfl h1 hj4 (tkg_of hE) rfl (fun n5 j5 hf5 => ?_) fun s ht hq hf5 => exc_R (by show rdDeed ds i = none; rw [e1, hf5]; rfl) rfl ht hq
    have hj5 : j4 < j5 ∧ j5 ≤ ds.length := num_fits _ _ _ hf5
    rw [hf5] at e1
    have e1 : rdDeed ds i = (rdStr ds j5).map fun t => (.chg m l bh n5 t.1, t.2) := e1
    walk_at "go"
    refine dw_R rfl h1 hj5.2 (tkg_of hE) rfl (fun t6 j6 hf6 => ?_) fun s ht hq hf6 => exc_R (by show rdDeed ds i = none; rw [e1, hf6]; rfl) rfl ht hq
    walk_at "go"
    exact ret_R (by show rdDeed ds i = _; rw [e1, hf6]; rfl) rfl rfl
theorem ok_read_triple (T : Tx K mg a) (G_Reader_read_number : FnOk P w K mg base (L2.CX P w) 2 a.f8_4 a.d8_4 ["self"] (spR K a.c_Reader a.c_DamagedPacket rdNum (pd nD)))
    (G_Reader_read_deed : FnOk P w K mg base (L2.CX P w) 5 a.f8_9 a.d8_9 ["self"] (spR K a.c_Reader a.c_DamagedPacket rdDeed (pd encDd))) : FnOk P w K mg base (L2.CX P w) 6 a.f8_11 a.d8_11 ["self"] (spR K a.c_Reader a.c_DamagedPacket rdTriple (pd encTr)) := by
  have hC := T.cl_Reader
  have hD := T.na_Reader_data
  have hA := T.na_Reader_at
  replace G_Reader_read_number := G_Reader_read_number.mono (k := 5) (by decide)
  refine fnHX (j := 0) T.F_Reader_read_triple sc_Reader_read_triple (fun x => ⟨rfl, rfl, by decide⟩) fun cdv A outer s H E hr => ⟨_, (pss_cons (ps_set (i := 1) sc_Reader_read_triple.nd rfl (Or.inl rfl) (pe_meth0 (pv 0) T.cl_Reader T.mt_Reader_read_number G_Reader_read_number hr T.b_Reader_read_number .nil (passes_call (takes_of rfl rfl rfl rfl) (fun _ _ _ _ h => h)))) (pss_cons (ps_set (i := 2) sc_Reader_read_triple.nd rfl (Or.inl rfl) (pe_meth0 (pv 0) T.cl_Reader T.mt_Reader_read_number G_Reader_read_number hr T.b_Reader_read_number .nil (passes_call (takes_of rfl rfl rfl rfl) (fun _ _ _ _ h => h)))) (pss_one (ps_ret (pe_tup (pa_cons (pv 1) (pa_cons (pv 2) (pa_cons (pe_meth0 (pv 0) T.cl_Reader T.mt_Reader_read_deed G_Reader_read_deed hr T.b_Reader_read_deed .nil (passes_call (takes_of rfl rfl rfl rfl) (fun _ _ _ _ h => h))) pa_nil)))))))), ?_⟩
  rintro ⟨ds, i⟩ ⟨h1, h2⟩ p B hE
  show DS K B [Sl.ob K a.c_Reader (rdF ds i) (some p), .un, .un] _ _
  walk_at "go"
  refine dw_R rfl h1 h2 (tkg_of hE) rfl (fun b j hf => ?_) fun s ht hq hf => exc_R (by show (rdNum ds i).bind _ = none; rw [hf]; rfl) rfl ht hq
  have hj : i < j ∧ j ≤ ds.length := num_fits _ _ _ hf
  have e1 : rdTriple ds i = (rdNum ds j).bind fun p => (rdDeed ds p.2).map fun d => ((b, p.1, d.1), d.2) := by
    show (rdNum ds i).bind _ = _
    rw [hf]
    rfl
  walk_at "go"
  refine dw_R rfl h1 hj.2 (tkg_of hE) rfl (fun b2 j2 hf2 => ?_) fun s ht hq hf2 => exc_R (by show rdTriple ds i = none; rw [e1, hf2]; rfl) rfl ht hq
  have hj2 : j < j2 ∧ j2 ≤ ds.length := num_fits _ _ _ hf2
  rw [hf2] at e1
  have e1 : rdTriple ds i = (rdDeed ds j2).map fun d => ((b, b2, d.1), d.2) := e1
  walk_at "go"
  refine dw_R rfl h1 hj2.2 (tkg_of hE) rfl (fun d3 j3 hf3 => ?_) fun s ht hq hf3 => exc_R (by show rdTriple ds i = none; rw [e1, hf3]; rfl) rfl ht hq
  walk_at "go"
  exact ret_R (by show rdTriple ds i = _; rw [e1, hf3]; rfl) rfl rfl
abbrev lst {α : Type} (enc : α → PyData) (l : List α) : Rs := .fr (.o none (l.map enc))
theorem ok_read_triples (T : Tx K mg a) (G_Reader_read_count : FnOk P w K mg base (L2.CX P w) 3 a.f8_5 a.d8_5 ["self"] (spR K a.c_Reader a.c_DamagedPacket rdCount (pd nD)))
    (G_Reader_read_triple : FnOk P w K mg base (L2.CX P w) 6 a.f8_11 a.d8_11 ["self"] (spR K a.c_Reader a.c_DamagedPacket rdTriple (pd encTr))) : FnOk P w K mg base (L2.CX P w) 7 a.f8_12 a.d8_12 ["self"] (spR K a.c_Reader a.c_DamagedPacket rdTriples (lst encTr)) := by
  have hC := T.cl_Reader
  have hD := T.na_Reader_data
  have hA := T.na_Reader_at
  replace G_Reader_read_count := G_Reader_read_count.mono (k := 6) (by decide)
  refine fnHX (j := 0) T.F_Reader_read_triples sc_Reader_read_triples (fun x => ⟨rfl, rfl, by decide⟩) fun cdv A outer s H E hr => ⟨_, (pss_one (ps_ret (pe_lcX (own := [("_", 1)]) (g := gName 1) rfl rfl (takes_of rfl rfl rfl rfl) (fun _ _ _ _ h => h) (by rfl) sc_Reader_read_triples.nd (pi_range1 (by rfl) T.z_range (pa_cons (pe_meth0 (pv 0) T.cl_Reader T.mt_Reader_read_count G_Reader_read_count hr T.b_Reader_read_count .nil (passes_call (takes_of rfl rfl rfl rfl) (fun _ _ _ _ h => h))) pa_nil)) (blkOk_by (own := [("_", 1)]) (N := ["self", "_"]) (sc := defScope s_Reader_read_triples) (by decide +kernel)) (fun _ _ _ _ _ => (pg_name (i := 1) sc_Reader_read_triples.nd rfl (by first | exact Or.inl rfl | exact Or.inr rfl))) (fun _ _ _ _ _ => pts_nil) (fun _ _ _ _ _ _ _ hp => (pe_meth0 (pv 0) T.cl_Reader T.mt_Reader_read_triple G_Reader_read_triple hr T.b_Reader_read_triple .nil hp))))), ?_⟩
  rintro ⟨ds, i⟩ ⟨h1, h2⟩ p B hE
  show DS K B [Sl.ob K a.c_Reader (rdF ds i) (some p), .un] _ _
  walk_at "go"
  refine dw_lcR (f := rdTriple) (by decide) rfl h1 h2 hE triple_fits (fun _ => rfl) (fun _ => rfl) (fun l j hf => ?_) fun hf => hf
  exact ⟨fun z => Sl.noConfusion z, _, rfl, rfl, rfl, l, j, hf, rfl, rfl⟩
theorem ok_read_packet (T : Tx K mg a) (G_Reader_read_byte : FnOk P w K mg base (L2.CX P w) 1 a.f8_1 a.d8_1 ["self"] (spR K a.c_Reader a.c_DamagedPacket rdByte (pd nD)))
    (G_Reader_read_triples : FnOk P w K mg base (L2.CX P w) 7 a.f8_12 a.d8_12 ["self"] (spR K a.c_Reader a.c_DamagedPacket rdTriples (lst encTr))) : FnOk P w K mg base (L2.CX P w) 8 a.f8_13 a.d8_13 ["self"] (spR K a.c_Reader a.c_DamagedPacket rdPacket (lst encTr)) := by
  have hC := T.cl_Reader
  have hD := T.na_Reader_data
  have hA := T.na_Reader_at
  replace G_Reader_read_byte := G_Reader_read_byte.mono (k := 7) (by decide)
  refine fnHX (j := 0) T.F_Reader_read_packet sc_Reader_read_packet (fun x => ⟨rfl, rfl, by decide⟩) fun cdv A outer s H E hr => ⟨_, (pss_cons (ps_if (pt_cmpR (kNE K rfl hr.units) (pe_meth0 (pv 0) T.cl_Reader T.mt_Reader_read_byte G_Reader_read_byte hr T.b_Reader_read_byte .nil (passes_call (takes_of rfl rfl rfl rfl) (fun _ _ _ _ h => h))) pe_int (nomark _)) (pss_one (ps_raise rfl (takes_of rfl rfl rfl rfl) (pmk_own PySem.F.excBase_ValueError T.x_DamagedPacket.y T.x_DamagedPacket.g T.x_DamagedPacket.k (raises_own T.x_DamagedPacket.b T.x_DamagedPacket.t) (by rfl)))) pss_nil) (pss_one (ps_ret (pe_meth0 (pv 0) T.cl_Reader T.mt_Reader_read_triples G_Reader_read_triples hr T.b_Reader_read_triples .nil (passes_call (takes_of rfl rfl rfl rfl) (fun _ _ _ _ h => h)))))), ?_⟩
  rintro ⟨ds, i⟩ ⟨h1, h2⟩ p B hE
  show DS K B [Sl.ob K a.c_Reader (rdF ds i) (some p)] _ _
  walk_at "go"
  refine dw_R rfl h1 h2 (tkg_of hE) rfl (fun b j hf => ?_) fun s ht hq hf => exc_R (by show (rdByte ds i).bind _ = none; rw [hf]; rfl) rfl ht hq
  have hj : i < j ∧ j ≤ ds.length := byte_fits _ _ _ hf
  have e1 : rdPacket ds i = if b = 1 then rdTriples ds j else none := by
    show (rdByte ds i).bind _ = _
    rw [hf]
    rfl
  walk_at "go"
  refine ite_k (fun c => ?_) (fun c => ?_)
  · have c : ¬ b = 1 := by simp at c; omega
    rw [if_neg c] at e1
    walk_at "go"
    exact ds_raise (tkw_of (tkg_of hE)) (exc_R e1 rfl rfl rfl)
  · have c : b = 1 := by simp at c; omega
    rw [if_pos c] at e1
    walk_at "go"
    refine dw_R rfl h1 hj.2 (tkg_of hE) rfl (fun l j2 hf2 => ?_) fun s ht hq hf2 => exc_R (by show rdPacket ds i = none; rw [e1, hf2]) rfl ht hq
    exact ⟨fun z => Sl.noConfusion z, _, rfl, rfl, rfl, l, j2, by show rdPacket ds i = _; rw [e1, hf2], rfl, rfl⟩
end
end K12
namespace K12
open PySem PySem.Spec PyProof.Rows L2 DL
local macro_rules | `(tactic| walk_at "st") => `(tactic| with_reducible first
  | refine pw_p ?_ | refine pw_o ?_ | refine dw_op ?_ | refine dw_un ?_ | refine dw_int ?_ | refine dw_str ?_ | refine dw_bl ?_ | refine dw_non ?_ | refine dw_ty ?_ | refine da_nil' ?_ | refine da_cons' ?_ | refine dw_sortSetT ?_ | refine dw_CB ?_ | refine dw_BM ?_ | refine dw_BM0 ?_
  | refine dw_tup ?_ | refine dw_lst ?_ | refine dw_notV ?_ | refine dw_and ?_ | refine dw_or ?_ | refine dw_if ?_ | refine dw_chain ?_ | refine dw_sl3 ?_ | refine dw_revT ?_ | refine dw_tupRg1 ?_ | refine dw_lstRg1 ?_ | refine dw_callI ?_ | refine dw_callJ ?_
  | refine dt_test ?_ | refine dt_B ?_ | refine dt_and ?_ | refine dt_or ?_ | refine dt_not ?_ | refine dt_yes ?_ | refine dt_truth ?_
  | refine ds_ret ?_ | refine ds_retN ?_ | refine ds_next ?_ | refine ds_break ?_ | refine ds_cont ?_ | refine ds_drop ?_ | refine ds_if ?_ | refine ds_set ?_
  | refine nx_nxt ?_ | refine rt_nxt ?_ | refine bk_nxt ?_ | refine ct_nxt ?_ | refine nx_lp ?_ | refine rt_lp ?_ | refine bk_lp ?_ | refine ct_lp ?_ | refine asn_d ?_ | refine asn_fr ?_ | refine rt_E0 ?_ | refine rt_E0o ?_ | refine nx_E0 ?_
  | refine dw_newK ?_ | refine dw_dInK ?_ | refine dw_dNotInK ?_ | refine dw_dGetK ?_ | refine ds_dPutK ?_
  | refine tr_b ?_ | refine tr_i ?_ | refine tr_n ?_ | refine tr_T ?_ | refine tr_L ?_
  | refine do_none ?_ | refine do_some ?_ | refine ite_t ?_ | refine ite_f ?_
  | refine rw_addI ?_ | refine rw_sub ?_ | refine rw_cmp ?_ | refine rw_eqI ?_ | refine rw_neI ?_ | refine rw_eqZ ?_ | refine rw_neZ ?_ | refine rw_eqS ?_ | refine rw_neS ?_ | refine rw_eqB ?_ | refine rw_neB ?_ | refine isN_d ?_ | refine notN_d ?_ | refine rw_isB ?_ | refine rw_notB ?_
  | refine rn_intI ?_ | refine rn_intB ?_ | refine rn_max ?_ | refine rn_min ?_ | refine rn_lenT ?_ | refine rn_lenD ?_ | refine rm_sw ?_ | refine isi_int ?_ | refine isi_bool ?_ | refine isi_str ?_ | refine isi_tuple ?_ | refine isi_list ?_ | refine rn_tupT ?_ | refine rn_listT ?_
  | refine ⟨_, rfl, ?_⟩
  | fail)
local macro_rules | `(tactic| walk_at "va") => `(tactic| first
  | ((with_reducible apply dw_var); rfl) | ((with_reducible apply dw_sl); rfl) | ((with_reducible apply dw_slK); rfl) | ((with_reducible apply dw_ob); rfl) | (refine dw_fld (by assumption) (by assumption) rfl rfl ?_)
  | ((with_reducible apply rw_ixL); rfl; rfl) | ((with_reducible apply rw_ixT); rfl)
  | ((with_reducible apply ite_T); rfl) | ((with_reducible apply ite_F); rfl) | ((with_reducible apply tr_o); rfl)
  | refine ⟨_, rfl, szl (Nat.le_of_ble_eq_true rfl), ?_⟩
  | (with_reducible refine rw_mod (by omega) ?_)
  | (with_reducible refine rw_fdiv (by unfold CDiv; omega) ?_)
  | (with_reducible refine rw_mul (by unfold CMul; omega) ?_)
  | refine ⟨szl (Nat.le_of_ble_eq_true rfl), ?_⟩
  | refine ⟨⟨rfl, _, _, rfl⟩, ?_⟩
  | refine ⟨rfl, ?_⟩
  | rfl
  | fail)
local macro_rules | `(tactic| walk_at "go") => `(tactic| repeat' (first | walk_at "st" | (with_reducible refine ds_seq' ?_) | walk_at "va" | fail))
local macro_rules | `(tactic| walk_at "gs") => `(tactic| repeat' (first | walk_at "st" | walk_at "va" | fail))
def encO {α : Type} (enc : α → PyData) : Option (α × Nat) → PyData
  | none => .none
  | some x => .tuple [enc x.1, nD x.2]
abbrev spF {α : Type} (K : PySem.W.Frag) (f : Rd' α) (enc : α → PyData) := spI K (fun x : RX => [bD x.1, nD x.2]) preR (fun x r => r = .p (.d (encO enc (f x.1 x.2))))
section
variable {P : Program} {w : World} {K : PySem.W.Frag} {mg : Str → Option Value} {base : Heap} {a : Ad}
theorem ok_law_read_number (T : Tx K mg a) : FnOk P w K mg base CX0 1 a.f25 a.d25 ["data", "at"] (spF K rdNum nD) := by
  refine fnI T.F_law_read_number sc_law_read_number (fun x => ⟨rfl, by decide⟩) fun cdv A outer s H E hr => ⟨_, (pss_cons (ps_set (i := 2) sc_law_read_number.nd rfl (Or.inl rfl) pe_int) (pss_cons (ps_set (i := 3) sc_law_read_number.nd rfl (Or.inl rfl) pe_int) (pss_cons (ps_for PassesOwn.never rfl (pi_range1 (by rfl) T.z_range (pa_cons pe_int pa_nil)) (pg_name (i := 4) sc_law_read_number.nd rfl (Or.inl rfl)) (pss_cons (ps_if (pt_cmpR op_ge (pe_op (kADD K rfl) (pv 1) (pv 4)) (pe_callB (kLEN K rfl) (by rfl) T.z_len (by decide +kernel) (pa_cons (pv 0) pa_nil)) (nomark _)) (pss_one (ps_ret pe_non)) pss_nil) (pss_cons (ps_set (i := 2) sc_law_read_number.nd rfl (Or.inl rfl) (pe_op (kADD K rfl) (pv 2) (pe_op op_mul (pe_op op_mod (pe_ix (kIX K rfl) (pv 0) (pe_op (kADD K rfl) (pv 1) (pv 4)) (fun _ _ => rfl)) pe_int) (pv 3)))) (pss_cons (ps_set (i := 3) sc_law_read_number.nd rfl (Or.inl rfl) (pe_op op_mul (pv 3) pe_int)) (pss_one (ps_if (pt_cmpR op_lt (pe_ix (kIX K rfl) (pv 0) (pe_op (kADD K rfl) (pv 1) (pv 4)) (fun _ _ => rfl)) pe_int (nomark _)) (pss_one (ps_ret (pe_ifExp (PW.pt (pw_and (pt_cmpR op_gt (pv 4) pe_int (nomark _)) (pw_and1 (pt_cmpR (kEQ K rfl hr.units) (pe_ix (kIX K rfl) (pv 0) (pe_op (kADD K rfl) (pv 1) (pv 4)) (fun _ _ => rfl)) pe_int (nomark _))))) pe_non (pe_tup (pa_cons (pv 2) (pa_cons (pe_op (kADD K rfl) (pe_op (kADD K rfl) (pv 1) (pv 4)) pe_int) pa_nil)))))) pss_nil)))))) (pss_one (ps_ret pe_non))))), ?_⟩
  rintro ⟨ds, i⟩ ⟨h1, h2⟩ B
  have h1 : ds.length ≤ 1000000 := h1
  have h2 : i ≤ ds.length := h2
  walk_at "go"
  refine ds_forE' (ch := [4]) ?_
  refine di_rng1 ?_
  walk_at "go"
  refine ⟨by omega, by omega, fun k G => ∃ t f s4, G = [.d (bD ds), .d (nD i), .d (nD t), .d (nD f), s4] ∧ rdNum ds i = numGo ds (60 - k) k t f (i + k), ⟨0, 1, _, rfl, rfl⟩, fun k G2 d hd ⟨t, f, s4, hG, he⟩ => ?_, fun G2 ⟨t, f, s4, hG, he⟩ => ?_⟩
  · subst hG
    obtain ⟨hi, rfl⟩ := rngD_get hd
    have hi : k < 60 := by simpa using hi
    have e0 : (0 : Int) + (k : Int) = (k : Int) := by omega
    rw [e0]
    obtain ⟨m, hm⟩ : ∃ m, 60 - k = m + 1 := ⟨59 - k, by omega⟩
    rw [hm] at he
    refine dg_name ?_
    walk_at "go"
    refine ite_k (fun c => ?_) (fun c => ?_)
    · have c := of_decide_eq_true c
      rw [List.length_map] at c
      walk_at "go"
      show _ = Rs.p (.d (encO nD (rdNum ds i)))
      rw [he]
      unfold numGo
      rw [List.getElem?_eq_none (by omega)]
      rfl
    · have c := of_decide_eq_false c
      rw [List.length_map] at c
      obtain ⟨b, hb⟩ : ∃ b, ds[i + k]? = some b := ⟨_, List.getElem?_eq_getElem (by omega)⟩
      have he : rdNum ds i = if b < 128 then (if b = 0 ∧ 0 < k then none else some (t + b % 128 * f, i + k + 1)) else numGo ds m (k + 1) (t + b % 128 * f) (f * 128) (i + k + 1) := by
        rw [he]
        conv => lhs; unfold numGo
        rw [hb]
        rfl
      have ei : (i : Int) + (k : Int) = ((i + k : Nat) : Int) := by omega
      have et : PyData.int ((t : Int) + (b : Int) % 128 * (f : Int)) = nD (t + b % 128 * f) := by
        show PyData.int _ = PyData.int _
        congr 1
      have hx : atI (ds.map nD) ((i : Int) + (k : Int)) = some (nD b) := by
        rw [ei]
        exact ati hb
      have er : ∀ {r : Option (Nat × Nat)}, rdNum ds i = r → ∀ {d : PyData}, d = encO nD r → Rs.p (.d d) = Rs.p (.d (encO nD (rdNum ds i))) := fun h d e => by rw [h, e]
      walk_at "go"
      refine rw_ixL rfl hx ?_
      walk_at "go"
      rw [et]
      refine rw_ixL rfl hx ?_
      walk_at "go"
      refine ite_k (fun c2 => ?_) (fun c2 => ?_)
      · have c2 : b < 128 := by have := of_decide_eq_true c2; omega
        rw [if_pos c2] at he
        walk_at "go"
        have ej : PyData.int ((i : Int) + (k : Int) + 1) = nD (i + k + 1) := by
          show PyData.int _ = PyData.int _
          congr 1
        refine ite_k (fun c3 => ?_) (fun c3 => ?_)
        · have c3 : 0 < k := by have := of_decide_eq_true c3; omega
          walk_at "go"
          refine rw_ixL rfl hx ?_
          walk_at "go"
          refine ite_k (fun c4 => ?_) (fun c4 => ?_)
          · have c4 : b = 0 := by have := of_decide_eq_true c4; omega
            walk_at "go"
            exact er (he.trans (if_pos ⟨c4, c3⟩)) rfl
          · have c4 : ¬ b = 0 := by have := of_decide_eq_false c4; omega
            walk_at "go"
            exact er (he.trans (if_neg fun z => c4 z.1)) (by rw [ej]; rfl)
        · have c3 : ¬ 0 < k := by have := of_decide_eq_false c3; omega
          walk_at "go"
          exact er (he.trans (if_neg fun z => c3 z.2)) (by rw [ej]; rfl)
      · have c2 : ¬ b < 128 := by have := of_decide_eq_false c2; omega
        rw [if_neg c2] at he
        walk_at "go"
        exact ⟨_, f * 128, _, rfl, by rw [he, show 60 - (k + 1) = m by omega]; rfl⟩
  · subst hG
    walk_at "go"
    show _ = Rs.p (.d (encO nD (rdNum ds i)))
    rw [he]
    rfl
theorem ok_law_sign (T : Tx K mg a) : FnOk P w K mg base CX0 1 a.f26 a.d26 ["code"] (spI K (fun n : Nat => [nD n]) (fun n => okc n = true) (fun n r => r = .p (.d (zC n)))) := by
  refine fnI T.F_law_sign sc_law_sign (fun x => ⟨rfl, by decide⟩) fun cdv A outer s H E hr => ⟨_, (pss_cons (ps_set (i := 1) sc_law_sign.nd rfl (Or.inl rfl) (pe_strM [32, 33, 34, 35, 36] rfl)) (pss_cons (ps_set (i := 2) sc_law_sign.nd rfl (Or.inl rfl) (pe_strM [38, 39, 40, 41, 42, 43, 44, 45, 46, 47, 48, 49, 50, 51, 52, 53, 54, 55, 56, 57, 58, 59, 60, 61, 62, 63, 64, 65, 66, 67, 68, 69, 70, 71, 72, 73, 74, 75, 76, 77, 78, 79, 80, 81, 82, 83, 84, 85, 86, 87, 88, 89, 90, 91, 92, 93, 94, 95, 96, 97, 98, 99, 100, 101, 102, 103, 104, 105, 106, 107, 108, 109, 110, 111, 112, 113, 114, 115, 116, 117, 118, 119, 120, 121, 122, 123, 124, 125, 126] rfl)) (pss_cons (ps_if (pt_cmpR op_lt (pv 0) pe_int (nomark _)) (pss_one (ps_ret (pe_ifExp (pt_cmpR (kEQ K rfl hr.units) (pv 0) pe_int (nomark _)) (pe_strM [10] rfl) (pe_ix (kIX K rfl) (pv 1) (pe_op op_sub (pv 0) pe_int) (fun _ _ => rfl))))) pss_nil) (pss_one (ps_ret (pe_ix (kIX K rfl) (pv 2) (pe_op op_sub (pv 0) pe_int) (fun _ _ => rfl))))))), ?_⟩
  intro n hn B
  have hn : n = 10 ∨ (32 ≤ n ∧ n < 127 ∧ n ≠ 37) := by
    unfold okc at hn
    simp at hn
    omega
  walk_at "go"
  refine ite_k (fun c => ?_) (fun c => ?_)
  · have c : n < 37 := by have := of_decide_eq_true c; omega
    walk_at "go"
    refine ite_k (fun c2 => ?_) (fun c2 => ?_)
    · have c2 : n = 10 := by have := of_decide_eq_true c2; omega
      subst c2
      walk_at "go"
    · have c2 : ¬ n = 10 := by have := of_decide_eq_false c2; omega
      walk_at "go"
      have e : (n : Int) - 32 = ((n - 32 : Nat) : Int) := by omega
      rw [e]
      refine rw_ixS (z := [32, 33, 34, 35, 36]) (by decide) (atn (bef_at (by omega) (by omega))) ?_
      walk_at "go"
  · have c : ¬ n < 37 := by have := of_decide_eq_false c; omega
    walk_at "go"
    have e : (n : Int) - 38 = ((n - 38 : Nat) : Int) := by omega
    rw [e]
    refine rw_ixS (z := aftL) (by decide) (atn (aft_at (by omega) (by omega))) ?_
    walk_at "go"
theorem ok_law_read_mark (T : Tx K mg a) (G_law_read_number : FnOk P w K mg base CX0 1 a.f25 a.d25 ["data", "at"] (spF K rdNum nD)) : FnOk P w K mg base CX0 2 a.f28 a.d28 ["data", "at"] (spF K rdMark encMk) := by
  refine fnI T.F_law_read_mark sc_law_read_mark (fun x => ⟨rfl, by decide⟩) fun cdv A outer s H E hr => ⟨_, (pss_cons (ps_set (i := 2) sc_law_read_mark.nd rfl (Or.inl rfl) (pe_call G_law_read_number hr (by rfl) T.m_law_read_number T.k_law_read_number T.b_law_read_number .nil pass0 (pa_cons (pv 0) (pa_cons (pv 1) pa_nil)))) (pss_cons (ps_set (i := 3) sc_law_read_mark.nd rfl (Or.inl rfl) (pe_ifExp (pt_cmpR op_isN (pv 2) pe_non (nomark _)) pe_non (pe_call G_law_read_number hr (by rfl) T.m_law_read_number T.k_law_read_number T.b_law_read_number .nil pass0 (pa_cons (pv 0) (pa_cons (pe_ix (kIX K rfl) (pv 2) pe_int (fun _ _ => rfl)) pa_nil))))) (pss_one (ps_ret (pe_ifExp (pt_cmpR op_isN (pv 3) pe_non (nomark _)) pe_non (pe_tup (pa_cons (pe_tup (pa_cons (pe_ix (kIX K rfl) (pv 2) pe_int (fun _ _ => rfl)) (pa_cons (pe_ix (kIX K rfl) (pv 3) pe_int (fun _ _ => rfl)) pa_nil))) (pa_cons (pe_ix (kIX K rfl) (pv 3) pe_int (fun _ _ => rfl)) pa_nil)))))))), ?_⟩
  rintro ⟨ds, i⟩ ⟨h1, h2⟩ B
  have h1 : ds.length ≤ 1000000 := h1
  have h2 : i ≤ ds.length := h2
  have er : ∀ {r : Option ((Nat × Nat) × Nat)}, rdMark ds i = r → ∀ {d : PyData}, d = encO encMk r → Rs.p (.d d) = Rs.p (.d (encO encMk (rdMark ds i))) := fun h d e => by rw [h, e]
  walk_at "go"
  refine ⟨(ds, i), ⟨h1, h2⟩, rfl, ?_⟩
  rintro _ rfl
  dsimp only
  generalize hf : rdNum ds i = o
  have e1 : rdMark ds i = o.bind fun x => (rdNum ds x.2).map fun y => ((x.1, y.1), y.2) := by
    show (rdNum ds i).bind _ = _
    rw [hf]
  cases o with
  | none =>
    walk_at "go"
    exact er e1 rfl
  | some x =>
    obtain ⟨n, j⟩ := x
    have hj : i < j ∧ j ≤ ds.length := num_fits _ _ _ hf
    have e1 : rdMark ds i = (rdNum ds j).map fun y => ((n, y.1), y.2) := e1
    dsimp only [encO]
    walk_at "go"
    refine ⟨(ds, j), ⟨h1, hj.2⟩, rfl, ?_⟩
    rintro _ rfl
    dsimp only
    generalize hf2 : rdNum ds j = o2
    rw [hf2] at e1
    cases o2 with
    | none =>
      walk_at "go"
      exact er e1 rfl
    | some y =>
      obtain ⟨n2, j2⟩ := y
      dsimp only [encO]
      walk_at "go"
      exact er e1 rfl
end
end K12
namespace K12
open PySem PySem.Spec PyProof.Rows L2 DL
local macro_rules | `(tactic| walk_at "st") => `(tactic| with_reducible first
  | refine pw_p ?_ | refine pw_o ?_ | refine dw_op ?_ | refine dw_un ?_ | refine dw_int ?_ | refine dw_str ?_ | refine dw_bl ?_ | refine dw_non ?_ | refine dw_ty ?_ | refine da_nil' ?_ | refine da_cons' ?_ | refine dw_sortSetT ?_ | refine dw_CB ?_ | refine dw_BM ?_ | refine dw_BM0 ?_
  | refine dw_tup ?_ | refine dw_lst ?_ | refine dw_notV ?_ | refine dw_and ?_ | refine dw_or ?_ | refine dw_if ?_ | refine dw_chain ?_ | refine dw_sl3 ?_ | refine dw_revT ?_ | refine dw_tupRg1 ?_ | refine dw_lstRg1 ?_ | refine dw_callI ?_ | refine dw_callJ ?_
  | refine dt_test ?_ | refine dt_B ?_ | refine dt_and ?_ | refine dt_or ?_ | refine dt_not ?_ | refine dt_yes ?_ | refine dt_truth ?_
  | refine ds_ret ?_ | refine ds_retN ?_ | refine ds_next ?_ | refine ds_break ?_ | refine ds_cont ?_ | refine ds_drop ?_ | refine ds_if ?_ | refine ds_set ?_
  | refine nx_nxt ?_ | refine rt_nxt ?_ | refine bk_nxt ?_ | refine ct_nxt ?_ | refine nx_lp ?_ | refine rt_lp ?_ | refine bk_lp ?_ | refine ct_lp ?_ | refine asn_d ?_ | refine asn_fr ?_ | refine rt_E0 ?_ | refine rt_E0o ?_ | refine nx_E0 ?_
  | refine dw_newK ?_ | refine dw_dInK ?_ | refine dw_dNotInK ?_ | refine dw_dGetK ?_ | refine ds_dPutK ?_
  | refine tr_b ?_ | refine tr_i ?_ | refine tr_n ?_ | refine tr_T ?_ | refine tr_L ?_
  | refine do_none ?_ | refine do_some ?_ | refine ite_t ?_ | refine ite_f ?_
  | refine rw_addI ?_ | refine rw_sub ?_ | refine rw_cmp ?_ | refine rw_eqI ?_ | refine rw_neI ?_ | refine rw_eqZ ?_ | refine rw_neZ ?_ | refine rw_eqS ?_ | refine rw_neS ?_ | refine rw_eqB ?_ | refine rw_neB ?_ | refine isN_d ?_ | refine notN_d ?_ | refine rw_isB ?_ | refine rw_notB ?_
  | refine rn_intI ?_ | refine rn_intB ?_ | refine rn_max ?_ | refine rn_min ?_ | refine rn_lenT ?_ | refine rn_lenD ?_ | refine rm_sw ?_ | refine isi_int ?_ | refine isi_bool ?_ | refine isi_str ?_ | refine isi_tuple ?_ | refine isi_list ?_ | refine rn_tupT ?_ | refine rn_listT ?_
  | refine ⟨_, rfl, ?_⟩
  | fail)
local macro_rules | `(tactic| walk_at "va") => `(tactic| first
  | ((with_reducible apply dw_var); rfl) | ((with_reducible apply dw_sl); rfl) | ((with_reducible apply dw_slK); rfl) | ((with_reducible apply dw_ob); rfl) | (refine dw_fld (by assumption) (by assumption) rfl rfl ?_)
  | ((with_reducible apply rw_ixL); rfl; rfl) | ((with_reducible apply rw_ixT); rfl)
  | ((with_reducible apply ite_T); rfl) | ((with_reducible apply ite_F); rfl) | ((with_reducible apply tr_o); rfl)
  | refine ⟨_, rfl, szl (Nat.le_of_ble_eq_true rfl), ?_⟩
  | (with_reducible refine rw_mod (by omega) ?_)
  | (with_reducible refine rw_fdiv (by unfold CDiv; omega) ?_)
  | (with_reducible refine rw_mul (by unfold CMul; omega) ?_)
  | refine ⟨szl (Nat.le_of_ble_eq_true rfl), ?_⟩
  | refine ⟨⟨rfl, _, _, rfl⟩, ?_⟩
  | refine ⟨rfl, ?_⟩
  | rfl
  | fail)
local macro_rules | `(tactic| walk_at "go") => `(tactic| repeat' (first | walk_at "st" | (with_reducible refine ds_seq' ?_) | walk_at "va" | fail))
local macro_rules | `(tactic| walk_at "gs") => `(tactic| repeat' (first | walk_at "st" | walk_at "va" | fail))
section
variable {P : Program} {w : World} {K : PySem.W.Frag} {mg : Str → Option Value} {base : Heap} {a : Ad}
theorem many_succ {α : Type} {f : Nat → Option (α × Nat)} {n k i' : Nat} {l : List α} {r : Option (List α × Nat)} (hk : k < n) (he : r = (rdMany f (n - k) i').map fun y => (l ++ y.1, y.2)) : (f i' = none → r = none) ∧ ∀ b jj, f i' = some (b, jj) → r = (rdMany f (n - (k + 1)) jj).map fun y => ((l ++ [b]) ++ y.1, y.2) := by
  obtain ⟨m', hm'⟩ : ∃ m', n - k = m' + 1 := ⟨n - k - 1, by omega⟩
  rw [hm'] at he
  refine ⟨fun h => ?_, fun b jj h => ?_⟩
  · rw [he]
    unfold rdMany
    rw [h]
    rfl
  · rw [he]
    conv => lhs; unfold rdMany
    rw [h]
    show Option.map _ (Option.map _ (rdMany f m' jj)) = _
    rw [show n - (k + 1) = m' by omega]
    cases rdMany f m' jj with
    | none => rfl
    | some y => simp
theorem many_nil {α : Type} {f : Nat → Option (α × Nat)} {n j : Nat} : rdMany f n j = (rdMany f (n - 0) j).map fun y => (([] : List α) ++ y.1, y.2) := by
  show _ = (rdMany f n j).map _
  cases rdMany f n j <;> rfl
theorem many_end {α : Type} {f : Nat → Option (α × Nat)} {n i' : Nat} {l : List α} {r : Option (List α × Nat)} (he : r = (rdMany f (n - n) i').map fun y => (l ++ y.1, y.2)) : r = some (l, i') := by
  rw [he, Nat.sub_self]
  show some (l ++ [], i') = _
  rw [List.append_nil]
theorem ok_law_read_text (T : Tx K mg a) (G_law_read_number : FnOk P w K mg base CX0 1 a.f25 a.d25 ["data", "at"] (spF K rdNum nD)) (G_law_sign : FnOk P w K mg base CX0 1 a.f26 a.d26 ["code"] (spI K (fun n : Nat => [nD n]) (fun n => okc n = true) (fun n r => r = .p (.d (zC n))))) :
    FnOk P w K mg base CX0 2 a.f27 a.d27 ["data", "at"] (spF K rdStr zD) := by
  refine fnI T.F_law_read_text sc_law_read_text (fun x => ⟨rfl, by decide⟩) fun cdv A outer s H E hr => ⟨_, (pss_cons (ps_set (i := 2) sc_law_read_text.nd rfl (Or.inl rfl) (pe_call G_law_read_number hr (by rfl) T.m_law_read_number T.k_law_read_number T.b_law_read_number .nil pass0 (pa_cons (pv 0) (pa_cons (pv 1) pa_nil)))) (pss_cons (ps_if (PW.pt (pw_or (pt_cmpR op_isN (pv 2) pe_non (nomark _)) (pw_or1 (pt_cmpR op_gt (pe_ix (kIX K rfl) (pv 2) pe_int (fun _ _ => rfl)) (pe_op op_sub (pe_callB (kLEN K rfl) (by rfl) T.z_len (by decide +kernel) (pa_cons (pv 0) pa_nil)) (pe_ix (kIX K rfl) (pv 2) pe_int (fun _ _ => rfl))) (nomark _))))) (pss_one (ps_ret pe_non)) pss_nil) (pss_cons (ps_asg (pv 2) (kTG K rfl rfl (pgs_cons (pg_name (i := 3) sc_law_read_text.nd rfl (Or.inl rfl)) (pgs_cons (pg_name (i := 1) sc_law_read_text.nd rfl (Or.inl rfl)) pgs_nil)))) (pss_cons (ps_set (i := 4) sc_law_read_text.nd rfl (Or.inl rfl) (pe_strM [] rfl)) (pss_cons (ps_for PassesOwn.never rfl (pi_range1 (by rfl) T.z_range (pa_cons (pv 3) pa_nil)) (pg_name (i := 5) sc_law_read_text.nd rfl (Or.inl rfl)) (pss_cons (ps_set (i := 2) sc_law_read_text.nd rfl (Or.inl rfl) (pe_call G_law_read_number hr (by rfl) T.m_law_read_number T.k_law_read_number T.b_law_read_number .nil pass0 (pa_cons (pv 0) (pa_cons (pv 1) pa_nil)))) (pss_cons (ps_if (PW.pt (pw_or (pt_cmpR op_isN (pv 2) pe_non (nomark _)) (pw_or (PW.pt (pw_and (pt_cmpR (kNE K rfl hr.units) (pe_ix (kIX K rfl) (pv 2) pe_int (fun _ _ => rfl)) pe_int (nomark _)) (pw_and1 (pt_not (pt_chain op_le op_le pe_int (pe_ix (kIX K rfl) (pv 2) pe_int (fun _ _ => rfl)) pe_int))))) (pw_or1 (pt_cmpR (kEQ K rfl hr.units) (pe_ix (kIX K rfl) (pv 2) pe_int (fun _ _ => rfl)) pe_int (nomark _)))))) (pss_one (ps_ret pe_non)) pss_nil) (pss_cons (ps_set (i := 4) sc_law_read_text.nd rfl (Or.inl rfl) (pe_op (kADD K rfl) (pv 4) (pe_call G_law_sign hr (by rfl) T.m_law_sign T.k_law_sign T.b_law_sign .nil pass0 (pa_cons (pe_ix (kIX K rfl) (pv 2) pe_int (fun _ _ => rfl)) pa_nil)))) (pss_one (ps_set (i := 1) sc_law_read_text.nd rfl (Or.inl rfl) (pe_ix (kIX K rfl) (pv 2) pe_int (fun _ _ => rfl)))))))) (pss_one (ps_ret (pe_tup (pa_cons (pv 4) (pa_cons (pv 1) pa_nil)))))))))), ?_⟩
  rintro ⟨ds, i⟩ ⟨h1, h2⟩ B
  have h1 : ds.length ≤ 1000000 := h1
  have h2 : i ≤ ds.length := h2
  have er : ∀ {r : Option (List Nat × Nat)}, rdStr ds i = r → ∀ {d : PyData}, d = encO zD r → Rs.p (.d d) = Rs.p (.d (encO zD (rdStr ds i))) := fun h d e => by rw [h, e]
  walk_at "go"
  refine ⟨(ds, i), ⟨h1, h2⟩, rfl, ?_⟩
  rintro _ rfl
  dsimp only
  generalize hf : rdNum ds i = o
  cases o with
  | none =>
    walk_at "go"
    exact er (by show (rdCount ds i).bind _ = none; rw [show rdCount ds i = none by show (rdNum ds i).bind _ = none; rw [hf]; rfl]; rfl) rfl
  | some x =>
    obtain ⟨n, j⟩ := x
    have hj : i < j ∧ j ≤ ds.length := num_fits _ _ _ hf
    have ec : rdCount ds i = if ds.length - j < n then none else some (n, j) := by
      show (rdNum ds i).bind _ = _
      rw [hf]
      rfl
    dsimp only [encO]
    walk_at "go"
    refine ite_k (fun c => ?_) (fun c => ?_)
    · have c := of_decide_eq_true c
      rw [List.length_map] at c
      walk_at "go"
      exact er (by show (rdCount ds i).bind _ = none; rw [ec, if_pos (by omega)]; rfl) rfl
    have c := of_decide_eq_false c
    rw [List.length_map] at c
    have hn : j + n ≤ ds.length := by omega
    rw [if_neg (by omega)] at ec
    have em : rdStr ds i = rdMany (rdChar ds) n j := by
      show (rdCount ds i).bind _ = _
      rw [ec]
      rfl
    walk_at "go"
    refine ds_asg (cs := [3, 1]) ?_
    walk_at "go"
    refine dg_tup rfl (dgs_cons (dg_name (dgs_cons (dg_name (dgs_nil ?_)))))
    walk_at "go"
    refine ds_forE' (ch := [5]) ?_
    refine di_rng1 ?_
    walk_at "go"
    refine ⟨by omega, by omega, fun k G => ∃ l i' s2 s5, G = [.d (bD ds), .d (nD i'), s2, .d (nD n), .d (zD l), s5] ∧ l.length = k ∧ i' ≤ ds.length ∧ rdStr ds i = (rdMany (rdChar ds) (n - k) i').map fun y => (l ++ y.1, y.2), ⟨[], j, _, _, rfl, rfl, hj.2, by rw [em]; exact many_nil⟩, fun k G2 d hd ⟨l, i', s2, s5, hG, hl, hi', he⟩ => ?_, fun G2 ⟨l, i', s2, s5, hG, hl, hi', he⟩ => ?_⟩
    · subst hG
      obtain ⟨hk, rfl⟩ := rngD_get hd
      have hk : k < n := by simpa using hk
      obtain ⟨m1, m2⟩ := many_succ hk he
      refine dg_name ?_
      walk_at "gs"
      refine ds_seq' ?_
      walk_at "gs"
      refine ⟨(ds, i'), ⟨h1, hi'⟩, rfl, ?_⟩
      rintro _ rfl
      dsimp only
      generalize hf2 : rdNum ds i' = o2
      have e2 : rdChar ds i' = o2.bind fun x => if okc x.1 then some x else none := by
        show (rdNum ds i').bind _ = _
        rw [hf2]
      cases o2 with
      | none =>
        walk_at "go"
        exact er (m1 e2) rfl
      | some x =>
        obtain ⟨b, jj⟩ := x
        have hjj : i' < jj ∧ jj ≤ ds.length := num_fits _ _ _ hf2
        have e2 : rdChar ds i' = if okc b then some (b, jj) else none := e2
        dsimp only [encO]
        walk_at "gs"
        refine ds_mid' (fun G => okc b = true ∧ G = [.d (bD ds), .d (nD i'), .d (.tuple [nD b, nD jj]), .d (nD n), .d (zD l), .d (.int (0 + (k : Int)))]) ?_ ?_
        · have bad : okc b = false → Rs.p (.d .none) = Rs.p (.d (encO zD (rdStr ds i))) := fun h => er (m1 (by rw [e2, h]; rfl)) rfl
          have okf : (b ≠ 10 ∧ ¬ (32 ≤ b ∧ b ≤ 126)) ∨ b = 37 → okc b = false := fun h => by
            unfold okc
            simp
            omega
          have okt : (b = 10 ∨ (32 ≤ b ∧ b ≤ 126)) ∧ b ≠ 37 → okc b = true := fun h => by
            unfold okc
            simp
            omega
          walk_at "go"
          refine ite_k (fun c3 => ?_) (fun c3 => ?_)
          · have c3 : ¬ b = 10 := by simp at c3; omega
            walk_at "go"
            refine ite_k (fun c4 => ?_) (fun c4 => ?_)
            · have c4 : 32 ≤ b := by simp at c4; omega
              walk_at "go"
              refine ite_k (fun c5 => ?_) (fun c5 => ?_)
              · have c5 : ¬ b ≤ 126 := by simp at c5; omega
                walk_at "go"
                exact bad (okf (by omega))
              · have c5 : b ≤ 126 := by simp at c5; omega
                walk_at "go"
                refine ite_k (fun c6 => ?_) (fun c6 => ?_)
                · have c6 : b = 37 := by simp at c6; omega
                  walk_at "go"
                  exact bad (okf (by omega))
                · have c6 : ¬ b = 37 := by simp at c6; omega
                  walk_at "go"
                  exact ⟨okt (by omega), rfl⟩
            · have c4 : ¬ 32 ≤ b := by simp at c4; omega
              walk_at "go"
              exact bad (okf (by omega))
          · have c3 : b = 10 := by simp at c3; omega
            walk_at "go"
            refine ite_k (fun c6 => ?_) (fun c6 => ?_)
            · have c6 : b = 37 := by simp at c6; omega
              walk_at "go"
              exact bad (okf (by omega))
            · have c6 : ¬ b = 37 := by simp at c6; omega
              walk_at "go"
              exact ⟨okt (by omega), rfl⟩
        · rintro _ ⟨hb, rfl⟩
          rw [if_pos hb] at e2
          walk_at "go"
          refine ⟨b, hb, rfl, ?_⟩
          rintro _ rfl
          walk_at "go"
          refine rw_addS (by rw [sizeLine_eq]; simp; omega) ?_
          walk_at "go"
          exact ⟨l ++ [b], jj, _, _, rfl, by simp [hl], hjj.2, m2 _ _ e2⟩
    · subst hG
      have hlen : (rngD 0 ((n : Int)).toNat).length = n := by simp [rngD]
      rw [hlen] at he
      walk_at "go"
      exact er (many_end he) rfl
theorem choice_eq {c : Nat} {ds : List Nat} {i b : Nat} (h : ds[i]? = some b) : rdChoice c ds i = if c ≤ b then none else some (b, i + 1) := by
  show (Option.map _ (ds[i]?)).bind _ = _
  rw [h]
  rfl
theorem marks_none1 {ds : List Nat} {j : Nat} (h : rdNum ds j = none) : rdMarks ds j = none := by
  unfold rdMarks rdCount
  rw [h] <;> rfl
theorem marks_wide {ds : List Nat} {j n j2 : Nat} (h : rdNum ds j = some (n, j2)) (c : ds.length - j2 < n) : rdMarks ds j = none := by
  unfold rdMarks rdCount
  rw [h]
  show Option.bind (if ds.length - j2 < n then none else some (n, j2)) _ = none
  rw [if_pos c] <;> rfl
theorem marks_many {ds : List Nat} {j n j2 : Nat} (h : rdNum ds j = some (n, j2)) (c : ¬ ds.length - j2 < n) : rdMarks ds j = rdMany (rdMark ds) n j2 := by
  unfold rdMarks rdCount
  rw [h]
  show Option.bind (if ds.length - j2 < n then none else some (n, j2)) _ = _
  rw [if_neg c] <;> rfl
theorem behind_end {ds : List Nat} {i : Nat} (h : ds.length ≤ i) : rdBehind ds i = none := by
  unfold rdBehind rdChoice rdByte
  rw [List.getElem?_eq_none h] <;> rfl
theorem behind_wide {ds : List Nat} {i b : Nat} (hb : ds[i]? = some b) (c : 1 < b) : rdBehind ds i = none := by
  unfold rdBehind
  rw [choice_eq hb, if_pos (by omega)] <;> rfl
theorem ok_law_read_deed (T : Tx K mg a) (G_law_read_number : FnOk P w K mg base CX0 1 a.f25 a.d25 ["data", "at"] (spF K rdNum nD)) (G_law_read_mark : FnOk P w K mg base CX0 2 a.f28 a.d28 ["data", "at"] (spF K rdMark encMk))
    (G_law_read_text : FnOk P w K mg base CX0 2 a.f27 a.d27 ["data", "at"] (spF K rdStr zD)) : FnOk P w K mg base CX0 3 a.f29 a.d29 ["data", "at"] (spF K rdDeed encDd) := by
  replace G_law_read_number := G_law_read_number.mono (k := 2) (by decide)
  refine fnI T.F_law_read_deed sc_law_read_deed (fun x => ⟨rfl, by decide⟩) fun cdv A outer s H E hr => ⟨_, (pss_cons (ps_if (PW.pt (pw_or (pt_cmpR op_ge (pv 1) (pe_callB (kLEN K rfl) (by rfl) T.z_len (by decide +kernel) (pa_cons (pv 0) pa_nil)) (nomark _)) (pw_or1 (pt_cmpR op_gt (pe_ix (kIX K rfl) (pv 0) (pv 1) (fun _ _ => rfl)) pe_int (nomark _))))) (pss_one (ps_ret pe_non)) pss_nil) (pss_cons (ps_if (pt_cmpR (kEQ K rfl hr.units) (pe_ix (kIX K rfl) (pv 0) (pv 1) (fun _ _ => rfl)) pe_int (nomark _)) (pss_cons (ps_set (i := 2) sc_law_read_deed.nd rfl (Or.inl rfl) (pe_call G_law_read_number hr (by rfl) T.m_law_read_number T.k_law_read_number T.b_law_read_number .nil pass0 (pa_cons (pv 0) (pa_cons (pe_op (kADD K rfl) (pv 1) pe_int) pa_nil)))) (pss_one (ps_ret (pe_ifExp (pt_cmpR op_isN (pv 2) pe_non (nomark _)) pe_non (pe_tup (pa_cons (pe_tup (pa_cons (pe_strM [98, 97, 99, 107] rfl) (pa_cons (pe_ix (kIX K rfl) (pv 2) pe_int (fun _ _ => rfl)) pa_nil))) (pa_cons (pe_ix (kIX K rfl) (pv 2) pe_int (fun _ _ => rfl)) pa_nil))))))) pss_nil) (pss_cons (ps_set (i := 3) sc_law_read_deed.nd rfl (Or.inl rfl) (pe_call G_law_read_text hr (by rfl) T.m_law_read_text T.k_law_read_text T.b_law_read_text .nil pass0 (pa_cons (pv 0) (pa_cons (pe_op (kADD K rfl) (pv 1) pe_int) pa_nil)))) (pss_cons (ps_set (i := 4) sc_law_read_deed.nd rfl (Or.inl rfl) (pe_ifExp (pt_cmpR op_isN (pv 3) pe_non (nomark _)) pe_non (pe_call G_law_read_number hr (by rfl) T.m_law_read_number T.k_law_read_number T.b_law_read_number .nil pass0 (pa_cons (pv 0) (pa_cons (pe_ix (kIX K rfl) (pv 3) pe_int (fun _ _ => rfl)) pa_nil))))) (pss_cons (ps_if (PW.pt (pw_or (pt_cmpR op_isN (pv 4) pe_non (nomark _)) (pw_or1 (pt_cmpR op_gt (pe_ix (kIX K rfl) (pv 4) pe_int (fun _ _ => rfl)) (pe_op op_sub (pe_callB (kLEN K rfl) (by rfl) T.z_len (by decide +kernel) (pa_cons (pv 0) pa_nil)) (pe_ix (kIX K rfl) (pv 4) pe_int (fun _ _ => rfl))) (nomark _))))) (pss_one (ps_ret pe_non)) pss_nil) (pss_cons (ps_set (i := 1) sc_law_read_deed.nd rfl (Or.inl rfl) (pe_ix (kIX K rfl) (pv 4) pe_int (fun _ _ => rfl))) (pss_cons (ps_set (i := 5) sc_law_read_deed.nd rfl (Or.inl rfl) (pe_lst pa_nil)) (pss_cons (ps_for PassesOwn.never rfl (pi_range1 (by rfl) T.z_range (pa_cons (pe_ix (kIX K rfl) (pv 4) pe_int (fun _ _ => rfl)) pa_nil)) (pg_name (i := 6) sc_law_read_deed.nd rfl (Or.inl rfl)) (pss_cons (ps_set (i := 2) sc_law_read_deed.nd rfl (Or.inl rfl) (pe_call G_law_read_mark hr (by rfl) T.m_law_read_mark T.k_law_read_mark T.b_law_read_mark .nil pass0 (pa_cons (pv 0) (pa_cons (pv 1) pa_nil)))) (pss_cons (ps_if (pt_cmpR op_isN (pv 2) pe_non (nomark _)) (pss_one (ps_ret pe_non)) pss_nil) (pss_cons (ps_expr (kBM K rfl (pe_bm PySem.F.plainAttrs_list PySem.F.slot_list_append PySem.F.type_list_append mt_append (pv 5) (pa_cons (pe_ix (kIX K rfl) (pv 2) pe_int (fun _ _ => rfl)) pa_nil)))) (pss_one (ps_set (i := 1) sc_law_read_deed.nd rfl (Or.inl rfl) (pe_ix (kIX K rfl) (pv 2) pe_int (fun _ _ => rfl)))))))) (pss_cons (ps_if (PW.pt (pw_or (pt_cmpR op_ge (pv 1) (pe_callB (kLEN K rfl) (by rfl) T.z_len (by decide +kernel) (pa_cons (pv 0) pa_nil)) (nomark _)) (pw_or1 (pt_cmpR op_gt (pe_ix (kIX K rfl) (pv 0) (pv 1) (fun _ _ => rfl)) pe_int (nomark _))))) (pss_one (ps_ret pe_non)) pss_nil) (pss_cons (ps_set (i := 7) sc_law_read_deed.nd rfl (Or.inl rfl) (pe_ifExp (pt_cmpR (kEQ K rfl hr.units) (pe_ix (kIX K rfl) (pv 0) (pv 1) (fun _ _ => rfl)) pe_int (nomark _)) (pe_tup (pa_cons pe_non (pa_cons (pe_op (kADD K rfl) (pv 1) pe_int) pa_nil))) (pe_call G_law_read_mark hr (by rfl) T.m_law_read_mark T.k_law_read_mark T.b_law_read_mark .nil pass0 (pa_cons (pv 0) (pa_cons (pe_op (kADD K rfl) (pv 1) pe_int) pa_nil))))) (pss_cons (ps_set (i := 8) sc_law_read_deed.nd rfl (Or.inl rfl) (pe_ifExp (pt_cmpR op_isN (pv 7) pe_non (nomark _)) pe_non (pe_call G_law_read_number hr (by rfl) T.m_law_read_number T.k_law_read_number T.b_law_read_number .nil pass0 (pa_cons (pv 0) (pa_cons (pe_ix (kIX K rfl) (pv 7) pe_int (fun _ _ => rfl)) pa_nil))))) (pss_cons (ps_set (i := 9) sc_law_read_deed.nd rfl (Or.inl rfl) (pe_ifExp (pt_cmpR op_isN (pv 8) pe_non (nomark _)) pe_non (pe_call G_law_read_text hr (by rfl) T.m_law_read_text T.k_law_read_text T.b_law_read_text .nil pass0 (pa_cons (pv 0) (pa_cons (pe_ix (kIX K rfl) (pv 8) pe_int (fun _ _ => rfl)) pa_nil))))) (pss_one (ps_ret (pe_ifExp (pt_cmpR op_isN (pv 9) pe_non (nomark _)) pe_non (pe_tup (pa_cons (pe_tup (pa_cons (pe_strM [99, 104, 97, 110, 103, 101] rfl) (pa_cons (pe_ix (kIX K rfl) (pv 3) pe_int (fun _ _ => rfl)) (pa_cons (pe_callTy (kTUP K rfl) (by rfl) T.z_tuple (by decide +kernel) (pa_cons (pv 5) pa_nil)) (pa_cons (pe_ix (kIX K rfl) (pv 7) pe_int (fun _ _ => rfl)) (pa_cons (pe_ix (kIX K rfl) (pv 8) pe_int (fun _ _ => rfl)) (pa_cons (pe_ix (kIX K rfl) (pv 9) pe_int (fun _ _ => rfl)) pa_nil))))))) (pa_cons (pe_ix (kIX K rfl) (pv 9) pe_int (fun _ _ => rfl)) pa_nil)))))))))))))))))), ?_⟩
  rintro ⟨ds, i⟩ ⟨h1, h2⟩ B
  have h1 : ds.length ≤ 1000000 := h1
  have h2 : i ≤ ds.length := h2
  have er : ∀ {r : Option (Deed × Nat)}, rdDeed ds i = r → ∀ {d : PyData}, d = encO encDd r → Rs.p (.d d) = Rs.p (.d (encO encDd (rdDeed ds i))) := fun h d e => by rw [h, e]
  walk_at "go"
  refine ite_k (fun c => ?_) (fun c => ?_)
  · have c : ds.length ≤ i := by simp at c; omega
    walk_at "go"
    exact er (by show (Option.bind (Option.map _ (ds[i]?)) _).bind _ = none; rw [List.getElem?_eq_none c]; rfl) rfl
  have c : i < ds.length := by simp at c; omega
  obtain ⟨b, hb⟩ : ∃ b, ds[i]? = some b := ⟨_, List.getElem?_eq_getElem c⟩
  have hx : atI (ds.map nD) (i : Int) = some (nD b) := ati hb
  have ei : PyData.int ((i : Int) + 1) = nD (i + 1) := by
    show PyData.int _ = PyData.int _
    congr 1
  have e0 : rdDeed ds i = if b = 1 then (rdNum ds (i + 1)).map fun y => (.back y.1, y.2) else if 1 < b then none else (rdStr ds (i + 1)).bind fun m => (rdMarks ds m.2).bind fun r => (rdBehind ds r.2).bind fun b => (rdNum ds b.2).bind fun n => (rdStr ds n.2).map fun t => (.chg m.1 r.1 b.1 n.1 t.1, t.2) := by
    show (rdChoice 2 ds i).bind _ = _
    rw [choice_eq hb]
    by_cases g : 2 ≤ b
    · rw [if_pos g, if_neg (by omega), if_pos (by omega)]
      rfl
    · rw [if_neg g]
      show (if b = 1 then _ else _) = _
      by_cases g1 : b = 1
      · rw [if_pos g1, if_pos g1]
      · rw [if_neg g1, if_neg g1, if_neg (by omega)]
  walk_at "go"
  refine rw_ixL rfl hx ?_
  walk_at "go"
  refine ite_k (fun c1 => ?_) (fun c1 => ?_)
  · have c1 : 1 < b := by simp at c1; omega
    walk_at "go"
    exact er (by rw [e0, if_neg (by omega), if_pos c1]) rfl
  have c1 : ¬ 1 < b := by simp at c1; omega
  rw [if_neg c1] at e0
  walk_at "go"
  refine rw_ixL rfl hx ?_
  walk_at "go"
  refine ite_k (fun c2 => ?_) (fun c2 => ?_)
  · have c2 : b = 1 := by simp at c2; omega
    rw [if_pos c2] at e0
    walk_at "go"
    refine ⟨(ds, i + 1), ⟨h1, c⟩, by rw [ei]; rfl, ?_⟩
    rintro _ rfl
    dsimp only
    generalize hf : rdNum ds (i + 1) = o at e0
    cases o with
    | none =>
      walk_at "go"
      exact er e0 rfl
    | some x =>
      dsimp only [encO]
      walk_at "go"
      exact er e0 rfl
  have c2 : ¬ b = 1 := by simp at c2; omega
  rw [if_neg c2] at e0
  walk_at "go"
  refine ⟨(ds, i + 1), ⟨h1, c⟩, by rw [ei]; rfl, ?_⟩
  rintro _ rfl
  dsimp only
  generalize hf : rdStr ds (i + 1) = o at e0
  cases o with
  | none =>
    walk_at "go"
    exact er e0 rfl
  | some x =>
    obtain ⟨m, j⟩ := x
    have hj : i + 1 < j ∧ j ≤ ds.length := str_fits _ _ _ hf
    have e0 : rdDeed ds i = (rdMarks ds j).bind fun r => (rdBehind ds r.2).bind fun b => (rdNum ds b.2).bind fun n => (rdStr ds n.2).map fun t => (.chg m r.1 b.1 n.1 t.1, t.2) := e0
    dsimp only [encO]
    walk_at "go"
    refine ⟨(ds, j), ⟨h1, hj.2⟩, rfl, ?_⟩
    rintro _ rfl
    dsimp only
    generalize hf2 : rdNum ds j = o2
    cases o2 with
    | none =>
      walk_at "go"
      exact er (by rw [e0, marks_none1 hf2] <;> rfl) rfl
    | some x =>
      obtain ⟨n, j2⟩ := x
      have hj2 : j < j2 ∧ j2 ≤ ds.length := num_fits _ _ _ hf2
      dsimp only [encO]
      walk_at "go"
      refine ite_k (fun c3 => ?_) (fun c3 => ?_)
      · have c3 := of_decide_eq_true c3
        rw [List.length_map] at c3
        walk_at "go"
        exact er (by rw [e0, marks_wide hf2 (by omega)] <;> rfl) rfl
      have c3 := of_decide_eq_false c3
      rw [List.length_map] at c3
      have em := marks_many hf2 (by omega)
      walk_at "go"
      refine ds_forE' (ch := [6]) ?_
      refine di_rng1 ?_
      walk_at "go"
      refine ⟨by omega, by omega, fun k G => ∃ l i' s2 s6, G = [.d (bD ds), .d (nD i'), s2, .d (.tuple [zD m, nD j]), .d (.tuple [nD n, nD j2]), .o none (l.map encMk), s6, .un, .un, .un] ∧ l.length = k ∧ i' ≤ ds.length ∧ rdMarks ds j = (rdMany (rdMark ds) (n - k) i').map fun y => (l ++ y.1, y.2), ⟨[], j2, _, _, rfl, rfl, hj2.2, by rw [em]; exact many_nil⟩, fun k G2 d hd ⟨l, i', s2, s6, hG, hl, hi', he⟩ => ?_, fun G2 ⟨l, i', s2, s6, hG, hl, hi', he⟩ => ?_⟩
      · subst hG
        obtain ⟨hk, rfl⟩ := rngD_get hd
        have hk : k < n := by simpa using hk
        obtain ⟨m1, m2⟩ := many_succ hk he
        refine dg_name ?_
        walk_at "go"
        refine ⟨(ds, i'), ⟨h1, hi'⟩, rfl, ?_⟩
        rintro _ rfl
        dsimp only
        generalize hf3 : rdMark ds i' = o3
        cases o3 with
        | none =>
          walk_at "go"
          exact er (by rw [e0, m1 hf3] <;> rfl) rfl
        | some x =>
          obtain ⟨b3, jj⟩ := x
          have hjj : i' < jj ∧ jj ≤ ds.length := mark_fits _ _ _ hf3
          dsimp only [encO]
          walk_at "go"
          refine rm_app rfl (by rw [List.length_map, hl, sizeLine_eq]; omega) ?_
          walk_at "go"
          exact ⟨l ++ [b3], jj, _, _, by rw [List.map_append]; rfl, by simp [hl], hjj.2, m2 _ _ hf3⟩
      · subst hG
        have hlen : (rngD 0 ((n : Int)).toNat).length = n := by simp [rngD]
        rw [hlen] at he
        have he := many_end he
        rw [he] at e0
        have e0 : rdDeed ds i = (rdBehind ds i').bind fun b => (rdNum ds b.2).bind fun n => (rdStr ds n.2).map fun t => (.chg m l b.1 n.1 t.1, t.2) := e0
        walk_at "gs"
        refine ds_mid' (fun G => ∃ b4, ds[i']? = some b4 ∧ b4 ≤ 1 ∧ G = [.d (bD ds), .d (nD i'), s2, .d (.tuple [zD m, nD j]), .d (.tuple [nD n, nD j2]), .o none (l.map encMk), s6, .un, .un, .un]) ?_ ?_
        · walk_at "go"
          refine ite_k (fun c4 => ?_) (fun c4 => ?_)
          · have c4 : ds.length ≤ i' := by simp at c4; omega
            walk_at "go"
            exact er (by rw [e0, behind_end c4] <;> rfl) rfl
          have c4 : i' < ds.length := by simp at c4; omega
          obtain ⟨b4, hb4⟩ : ∃ b, ds[i']? = some b := ⟨_, List.getElem?_eq_getElem c4⟩
          have hx4 : atI (ds.map nD) (i' : Int) = some (nD b4) := ati hb4
          walk_at "go"
          refine rw_ixL rfl hx4 ?_
          walk_at "go"
          refine ite_k (fun c5 => ?_) (fun c5 => ?_)
          · have c5 : 1 < b4 := by simp at c5; omega
            walk_at "go"
            exact er (by rw [e0, behind_wide hb4 c5] <;> rfl) rfl
          · have c5 : ¬ 1 < b4 := by simp at c5; omega
            walk_at "go"
            exact ⟨b4, hb4, by omega, rfl⟩
        · rintro _ ⟨b4, hb4, hb1, rfl⟩
          have hl4 := (List.getElem?_eq_some_iff.mp hb4).1
          have hx4 : atI (ds.map nD) (i' : Int) = some (nD b4) := ati hb4
          have ei4 : PyData.int ((i' : Int) + 1) = nD (i' + 1) := by
            show PyData.int _ = PyData.int _
            congr 1
          have eb : rdBehind ds i' = if b4 = 1 then (rdMark ds (i' + 1)).map fun y => (some y.1, y.2) else some (none, i' + 1) := by
            show (rdChoice 2 ds i').bind _ = _
            rw [choice_eq hb4, if_neg (by omega)]
            rfl
          walk_at "gs"
          refine ds_mid' (fun G => G = [.d (bD ds), .d (nD i'), s2, .d (.tuple [zD m, nD j]), .d (.tuple [nD n, nD j2]), .o none (l.map encMk), s6, .d (encO encOm (rdBehind ds i')), .un, .un]) ?_ ?_
          · walk_at "go"
            refine rw_ixL rfl hx4 ?_
            walk_at "go"
            refine ite_k (fun c6 => ?_) (fun c6 => ?_)
            · have c6 : b4 = 0 := by simp at c6; omega
              walk_at "go"
              rw [eb, if_neg (by omega), ei4]
              rfl
            · have c6 : b4 = 1 := by simp at c6; omega
              walk_at "go"
              refine ⟨(ds, i' + 1), ⟨h1, hl4⟩, by rw [ei4]; rfl, ?_⟩
              rintro _ rfl
              walk_at "go"
              rw [eb, if_pos c6]
              show _ = [_, _, _, _, _, _, _, Sl.d (encO encOm (Option.map _ (rdMark ds (i' + 1)))), _, _]
              cases rdMark ds (i' + 1) <;> rfl
          · rintro _ rfl
            generalize hf5 : rdBehind ds i' = o5 at e0
            cases o5 with
            | none =>
              dsimp only [encO]
              walk_at "go"
              exact er e0 rfl
            | some x =>
              obtain ⟨bh, j5⟩ := x
              have hj5 : i' < j5 ∧ j5 ≤ ds.length := behind_fits _ _ _ hf5
              have e0 : rdDeed ds i = (rdNum ds j5).bind fun n => (rdStr ds n.2).map fun t => (.chg m l bh n.1 t.1, t.2) := e0
              dsimp only [encO]
              walk_at "go"
              refine ⟨(ds, j5), ⟨h1, hj5.2⟩, rfl, ?_⟩
              rintro _ rfl
              dsimp only
              generalize hf6 : rdNum ds j5 = o6 at e0
              cases o6 with
              | none =>
                dsimp only [encO]
                walk_at "go"
                exact er e0 rfl
              | some x =>
                obtain ⟨n6, j6⟩ := x
                have hj6 : j5 < j6 ∧ j6 ≤ ds.length := num_fits _ _ _ hf6
                have e0 : rdDeed ds i = (rdStr ds j6).map fun t => (.chg m l bh n6 t.1, t.2) := e0
                dsimp only [encO]
                walk_at "go"
                refine ⟨(ds, j6), ⟨h1, hj6.2⟩, rfl, ?_⟩
                rintro _ rfl
                dsimp only
                generalize hf7 : rdStr ds j6 = o7 at e0
                cases o7 with
                | none =>
                  dsimp only [encO]
                  walk_at "go"
                  exact er e0 rfl
                | some x =>
                  obtain ⟨t7, j7⟩ := x
                  dsimp only [encO]
                  walk_at "go"
                  refine rn_tupL rfl ?_
                  walk_at "go"
                  exact er e0 rfl
theorem ok_law_read_triples (T : Tx K mg a) (G_law_read_number : FnOk P w K mg base CX0 1 a.f25 a.d25 ["data", "at"] (spF K rdNum nD)) (G_law_read_mark : FnOk P w K mg base CX0 2 a.f28 a.d28 ["data", "at"] (spF K rdMark encMk))
    (G_law_read_deed : FnOk P w K mg base CX0 3 a.f29 a.d29 ["data", "at"] (spF K rdDeed encDd)) : FnOk P w K mg base CX0 4 a.f30 a.d30 ["data", "at"] (spF K rdTriples (fun l => .list (l.map encTr))) := by
  replace G_law_read_number := G_law_read_number.mono (k := 3) (by decide)
  replace G_law_read_mark := G_law_read_mark.mono (k := 3) (by decide)
  refine fnI T.F_law_read_triples sc_law_read_triples (fun x => ⟨rfl, by decide⟩) fun cdv A outer s H E hr => ⟨_, (pss_cons (ps_set (i := 2) sc_law_read_triples.nd rfl (Or.inl rfl) (pe_call G_law_read_number hr (by rfl) T.m_law_read_number T.k_law_read_number T.b_law_read_number .nil pass0 (pa_cons (pv 0) (pa_cons (pv 1) pa_nil)))) (pss_cons (ps_if (PW.pt (pw_or (pt_cmpR op_isN (pv 2) pe_non (nomark _)) (pw_or1 (pt_cmpR op_gt (pe_ix (kIX K rfl) (pv 2) pe_int (fun _ _ => rfl)) (pe_op op_sub (pe_callB (kLEN K rfl) (by rfl) T.z_len (by decide +kernel) (pa_cons (pv 0) pa_nil)) (pe_ix (kIX K rfl) (pv 2) pe_int (fun _ _ => rfl))) (nomark _))))) (pss_one (ps_ret pe_non)) pss_nil) (pss_cons (ps_set (i := 1) sc_law_read_triples.nd rfl (Or.inl rfl) (pe_ix (kIX K rfl) (pv 2) pe_int (fun _ _ => rfl))) (pss_cons (ps_set (i := 3) sc_law_read_triples.nd rfl (Or.inl rfl) (pe_lst pa_nil)) (pss_cons (ps_for PassesOwn.never rfl (pi_range1 (by rfl) T.z_range (pa_cons (pe_ix (kIX K rfl) (pv 2) pe_int (fun _ _ => rfl)) pa_nil)) (pg_name (i := 4) sc_law_read_triples.nd rfl (Or.inl rfl)) (pss_cons (ps_set (i := 5) sc_law_read_triples.nd rfl (Or.inl rfl) (pe_call G_law_read_mark hr (by rfl) T.m_law_read_mark T.k_law_read_mark T.b_law_read_mark .nil pass0 (pa_cons (pv 0) (pa_cons (pv 1) pa_nil)))) (pss_cons (ps_set (i := 6) sc_law_read_triples.nd rfl (Or.inl rfl) (pe_ifExp (pt_cmpR op_isN (pv 5) pe_non (nomark _)) pe_non (pe_call G_law_read_deed hr (by rfl) T.m_law_read_deed T.k_law_read_deed T.b_law_read_deed .nil pass0 (pa_cons (pv 0) (pa_cons (pe_ix (kIX K rfl) (pv 5) pe_int (fun _ _ => rfl)) pa_nil))))) (pss_cons (ps_if (pt_cmpR op_isN (pv 6) pe_non (nomark _)) (pss_one (ps_ret pe_non)) pss_nil) (pss_cons (ps_expr (kBM K rfl (pe_bm PySem.F.plainAttrs_list PySem.F.slot_list_append PySem.F.type_list_append mt_append (pv 3) (pa_cons (pe_op (kADD K rfl) (pe_ix (kIX K rfl) (pv 5) pe_int (fun _ _ => rfl)) (pe_tup (pa_cons (pe_ix (kIX K rfl) (pv 6) pe_int (fun _ _ => rfl)) pa_nil))) pa_nil)))) (pss_one (ps_set (i := 1) sc_law_read_triples.nd rfl (Or.inl rfl) (pe_ix (kIX K rfl) (pv 6) pe_int (fun _ _ => rfl))))))))) (pss_one (ps_ret (pe_tup (pa_cons (pv 3) (pa_cons (pv 1) pa_nil)))))))))), ?_⟩
  rintro ⟨ds, i⟩ ⟨h1, h2⟩ B
  have h1 : ds.length ≤ 1000000 := h1
  have h2 : i ≤ ds.length := h2
  have er : ∀ {r : Option (List (Nat × Nat × Deed) × Nat)}, rdTriples ds i = r → ∀ {d : PyData}, d = encO (fun l => .list (l.map encTr)) r → Rs.p (.d d) = Rs.p (.d (encO (fun l => .list (l.map encTr)) (rdTriples ds i))) := fun h d e => by rw [h, e]
  walk_at "go"
  refine ⟨(ds, i), ⟨h1, h2⟩, rfl, ?_⟩
  rintro _ rfl
  dsimp only
  generalize hf : rdNum ds i = o
  cases o with
  | none =>
    walk_at "go"
    exact er (by unfold rdTriples rdCount; rw [hf] <;> rfl) rfl
  | some x =>
    obtain ⟨n, j⟩ := x
    have hj : i < j ∧ j ≤ ds.length := num_fits _ _ _ hf
    have e0 : rdTriples ds i = Option.bind (if ds.length - j < n then none else some (n, j)) fun x => rdMany (rdTriple ds) x.1 x.2 := by
      unfold rdTriples rdCount
      rw [hf] <;> rfl
    dsimp only [encO]
    walk_at "go"
    refine ite_k (fun c => ?_) (fun c => ?_)
    · have c := of_decide_eq_true c
      rw [List.length_map] at c
      walk_at "go"
      exact er (by rw [e0, if_pos (by omega)] <;> rfl) rfl
    have c := of_decide_eq_false c
    rw [List.length_map] at c
    rw [if_neg (by omega)] at e0
    have e0 : rdTriples ds i = rdMany (rdTriple ds) n j := e0
    walk_at "go"
    refine ds_forE' (ch := [4]) ?_
    refine di_rng1 ?_
    walk_at "go"
    refine ⟨by omega, by omega, fun k G => ∃ l i' s4 s5 s6, G = [.d (bD ds), .d (nD i'), .d (.tuple [nD n, nD j]), .o none (l.map encTr), s4, s5, s6] ∧ l.length = k ∧ i' ≤ ds.length ∧ rdTriples ds i = (rdMany (rdTriple ds) (n - k) i').map fun y => (l ++ y.1, y.2), ⟨[], j, _, _, _, rfl, rfl, hj.2, by rw [e0]; exact many_nil⟩, fun k G2 d hd ⟨l, i', s4, s5, s6, hG, hl, hi', he⟩ => ?_, fun G2 ⟨l, i', s4, s5, s6, hG, hl, hi', he⟩ => ?_⟩
    · subst hG
      obtain ⟨hk, rfl⟩ := rngD_get hd
      have hk : k < n := by simpa using hk
      obtain ⟨m1, m2⟩ := many_succ hk he
      refine dg_name ?_
      walk_at "go"
      refine ⟨(ds, i'), ⟨h1, hi'⟩, rfl, ?_⟩
      rintro _ rfl
      dsimp only
      have et : rdTriple ds i' = (rdMark ds i').bind fun p => (rdDeed ds p.2).map fun d => ((p.1.1, p.1.2, d.1), d.2) := by
        unfold rdTriple rdMark
        cases rdNum ds i' with
        | none => rfl
        | some x =>
          show Option.bind (rdNum ds x.2) _ = (Option.map _ (rdNum ds x.2)).bind _
          cases rdNum ds x.2 <;> rfl
      generalize hf3 : rdMark ds i' = o3 at et
      cases o3 with
      | none =>
        walk_at "go"
        exact er (m1 et) rfl
      | some x =>
        obtain ⟨b3, jj⟩ := x
        have hjj : i' < jj ∧ jj ≤ ds.length := mark_fits _ _ _ hf3
        have et : rdTriple ds i' = (rdDeed ds jj).map fun d => ((b3.1, b3.2, d.1), d.2) := et
        dsimp only [encO]
        walk_at "go"
        refine ⟨(ds, jj), ⟨h1, hjj.2⟩, rfl, ?_⟩
        rintro _ rfl
        dsimp only
        generalize hf4 : rdDeed ds jj = o4 at et
        cases o4 with
        | none =>
          dsimp only [encO]
          walk_at "go"
          exact er (m1 et) rfl
        | some x =>
          obtain ⟨d4, j4⟩ := x
          have hj4 : jj < j4 ∧ j4 ≤ ds.length := deed_fits _ _ _ hf4
          dsimp only [encO, encMk]
          walk_at "go"
          refine rw_addT (by show 3 ≤ sizeLine; rw [sizeLine_eq]; decide) ?_
          walk_at "go"
          refine rm_app rfl (by rw [List.length_map, hl, sizeLine_eq]; omega) ?_
          walk_at "go"
          exact ⟨l ++ [(b3.1, b3.2, d4)], j4, _, _, _, by rw [List.map_append]; rfl, by simp [hl], hj4.2, m2 _ _ et⟩
    · subst hG
      have hlen : (rngD 0 ((n : Int)).toNat).length = n := by simp [rngD]
      rw [hlen] at he
      refine ds_freeze 3 rfl ?_
      walk_at "go"
      exact er (many_end he) rfl
end
end K12
namespace K12
open PySem PySem.Spec PyProof.Rows L2 DL
local macro_rules | `(tactic| walk_at "st") => `(tactic| with_reducible first
  | refine pw_p ?_ | refine pw_o ?_ | refine dw_op ?_ | refine dw_un ?_ | refine dw_int ?_ | refine dw_str ?_ | refine dw_bl ?_ | refine dw_non ?_ | refine dw_ty ?_ | refine da_nil' ?_ | refine da_cons' ?_ | refine dw_sortSetT ?_ | refine dw_CB ?_ | refine dw_BM ?_ | refine dw_BM0 ?_
  | refine dw_tup ?_ | refine dw_lst ?_ | refine dw_notV ?_ | refine dw_and ?_ | refine dw_or ?_ | refine dw_if ?_ | refine dw_chain ?_ | refine dw_sl3 ?_ | refine dw_revT ?_ | refine dw_tupRg1 ?_ | refine dw_lstRg1 ?_ | refine dw_callI ?_ | refine dw_callJ ?_
  | refine dt_test ?_ | refine dt_B ?_ | refine dt_and ?_ | refine dt_or ?_ | refine dt_not ?_ | refine dt_yes ?_ | refine dt_truth ?_
  | refine ds_ret ?_ | refine ds_retN ?_ | refine ds_next ?_ | refine ds_break ?_ | refine ds_cont ?_ | refine ds_drop ?_ | refine ds_if ?_ | refine ds_set ?_
  | refine nx_nxt ?_ | refine rt_nxt ?_ | refine bk_nxt ?_ | refine ct_nxt ?_ | refine nx_lp ?_ | refine rt_lp ?_ | refine bk_lp ?_ | refine ct_lp ?_ | refine asn_d ?_ | refine asn_fr ?_ | refine rt_E0 ?_ | refine rt_E0o ?_ | refine nx_E0 ?_
  | refine dw_newK ?_ | refine dw_dInK ?_ | refine dw_dNotInK ?_ | refine dw_dGetK ?_ | refine ds_dPutK ?_
  | refine tr_b ?_ | refine tr_i ?_ | refine tr_n ?_ | refine tr_T ?_ | refine tr_L ?_
  | refine do_none ?_ | refine do_some ?_ | refine ite_t ?_ | refine ite_f ?_
  | refine rw_addI ?_ | refine rw_sub ?_ | refine rw_cmp ?_ | refine rw_eqI ?_ | refine rw_neI ?_ | refine rw_eqZ ?_ | refine rw_neZ ?_ | refine rw_eqS ?_ | refine rw_neS ?_ | refine rw_eqB ?_ | refine rw_neB ?_ | refine isN_d ?_ | refine notN_d ?_ | refine rw_isB ?_ | refine rw_notB ?_
  | refine rn_intI ?_ | refine rn_intB ?_ | refine rn_max ?_ | refine rn_min ?_ | refine rn_lenT ?_ | refine rn_lenD ?_ | refine rm_sw ?_ | refine isi_int ?_ | refine isi_bool ?_ | refine isi_str ?_ | refine isi_tuple ?_ | refine isi_list ?_ | refine rn_tupT ?_ | refine rn_listT ?_
  | refine ⟨_, rfl, ?_⟩
  | fail)
local macro_rules | `(tactic| walk_at "va") => `(tactic| first
  | ((with_reducible apply dw_var); rfl) | ((with_reducible apply dw_sl); rfl) | ((with_reducible apply dw_slK); rfl) | ((with_reducible apply dw_ob); rfl) | (refine dw_fld (by assumption) (by assumption) rfl rfl ?_)
  | ((with_reducible apply rw_ixL); rfl; rfl) | ((with_reducible apply rw_ixT); rfl)
  | ((with_reducible apply ite_T); rfl) | ((with_reducible apply ite_F); rfl) | ((with_reducible apply tr_o); rfl)
  | refine ⟨_, rfl, szl (Nat.le_of_ble_eq_true rfl), ?_⟩
  | (with_reducible refine rw_mod (by omega) ?_)
  | (with_reducible refine rw_fdiv (by unfold CDiv; omega) ?_)
  | (with_reducible refine rw_mul (by unfold CMul; omega) ?_)
  | refine ⟨szl (Nat.le_of_ble_eq_true rfl), ?_⟩
  | refine ⟨⟨rfl, _, _, rfl⟩, ?_⟩
  | refine ⟨rfl, ?_⟩
  | rfl
  | fail)
local macro_rules | `(tactic| walk_at "go") => `(tactic| repeat' (first | walk_at "st" | (with_reducible refine ds_seq' ?_) | walk_at "va" | fail))
local macro_rules | `(tactic| walk_at "gs") => `(tactic| repeat' (first | walk_at "st" | walk_at "va" | fail))
section
variable {P : Program} {w : World} {K : PySem.W.Frag} {mg : Str → Option Value} {base : Heap} {a : Ad}
abbrev encTs (l : List (Nat × Nat × Deed)) : PyData := .list (l.map encTr)
theorem ok_law_read_packet (T : Tx K mg a) (G_law_read_triples : FnOk P w K mg base CX0 4 a.f30 a.d30 ["data", "at"] (spF K rdTriples encTs)) : FnOk P w K mg base CX0 5 a.f31 a.d31 ["data", "at"] (spF K rdPacket encTs) := by
  refine fnI T.F_law_read_packet sc_law_read_packet (fun x => ⟨rfl, by decide⟩) fun cdv A outer s H E hr => ⟨_, (pss_cons (ps_if (PW.pt (pw_or (pt_cmpR op_ge (pv 1) (pe_callB (kLEN K rfl) (by rfl) T.z_len (by decide +kernel) (pa_cons (pv 0) pa_nil)) (nomark _)) (pw_or1 (pt_cmpR (kNE K rfl hr.units) (pe_ix (kIX K rfl) (pv 0) (pv 1) (fun _ _ => rfl)) pe_int (nomark _))))) (pss_one (ps_ret pe_non)) pss_nil) (pss_one (ps_ret (pe_call G_law_read_triples hr (by rfl) T.m_law_read_triples T.k_law_read_triples T.b_law_read_triples .nil pass0 (pa_cons (pv 0) (pa_cons (pe_op (kADD K rfl) (pv 1) pe_int) pa_nil)))))), ?_⟩
  rintro ⟨ds, i⟩ ⟨h1, h2⟩ B
  have h1 : ds.length ≤ 1000000 := h1
  have h2 : i ≤ ds.length := h2
  have er : ∀ {r : Option (List (Nat × Nat × Deed) × Nat)}, rdPacket ds i = r → ∀ {d : PyData}, d = encO encTs r → Rs.p (.d d) = Rs.p (.d (encO encTs (rdPacket ds i))) := fun h d e => by rw [h, e]
  walk_at "go"
  refine ite_k (fun c => ?_) (fun c => ?_)
  · have c : ds.length ≤ i := by simp at c; omega
    walk_at "go"
    exact er (by unfold rdPacket rdByte; rw [List.getElem?_eq_none c] <;> rfl) rfl
  have c : i < ds.length := by simp at c; omega
  obtain ⟨b, hb⟩ : ∃ b, ds[i]? = some b := ⟨_, List.getElem?_eq_getElem c⟩
  have hx : atI (ds.map nD) (i : Int) = some (nD b) := ati hb
  have ei : PyData.int ((i : Int) + 1) = nD (i + 1) := by
    show PyData.int _ = PyData.int _
    congr 1
  have e0 : rdPacket ds i = if b = 1 then rdTriples ds (i + 1) else none := by
    unfold rdPacket rdByte
    rw [hb] <;> rfl
  walk_at "go"
  refine rw_ixL rfl hx ?_
  walk_at "go"
  refine ite_k (fun c1 => ?_) (fun c1 => ?_)
  · have c1 : ¬ b = 1 := by simp at c1; omega
    walk_at "go"
    exact er (by rw [e0, if_neg c1]) rfl
  · have c1 : b = 1 := by simp at c1; omega
    rw [if_pos c1] at e0
    walk_at "go"
    refine ⟨(ds, i + 1), ⟨h1, c⟩, by rw [ei]; rfl, ?_⟩
    rintro _ rfl
    walk_at "go"
    exact er e0 rfl
def ownO (k : Nat) (ds : List Nat) : PyData := match k with
  | 0 => encO nD (rdNum ds 0)
  | 1 => encO zD (rdStr ds 0)
  | 2 => encO encDd (rdDeed ds 0)
  | 3 => encO encTs (rdTriples ds 0)
  | _ => encO encTs (rdPacket ds 0)
abbrev spO (K : PySem.W.Frag) := spI K (fun x : Nat × List Nat => [nD x.1, bD x.2]) (fun x => x.1 < 5 ∧ x.2.length ≤ 1000000) (fun x r => r = .p (.d (ownO x.1 x.2)))
theorem ok_law_own (T : Tx K mg a) (G_law_read_number : FnOk P w K mg base CX0 1 a.f25 a.d25 ["data", "at"] (spF K rdNum nD)) (G_law_read_text : FnOk P w K mg base CX0 2 a.f27 a.d27 ["data", "at"] (spF K rdStr zD))
    (G_law_read_deed : FnOk P w K mg base CX0 3 a.f29 a.d29 ["data", "at"] (spF K rdDeed encDd)) (G_law_read_triples : FnOk P w K mg base CX0 4 a.f30 a.d30 ["data", "at"] (spF K rdTriples encTs)) (G_law_read_packet : FnOk P w K mg base CX0 5 a.f31 a.d31 ["data", "at"] (spF K rdPacket encTs)) :
    FnOk P w K mg base CX0 6 a.f37 a.d37 ["kind", "data"] (spO K) := by
  replace G_law_read_number := G_law_read_number.mono (k := 5) (by decide)
  replace G_law_read_text := G_law_read_text.mono (k := 5) (by decide)
  replace G_law_read_deed := G_law_read_deed.mono (k := 5) (by decide)
  replace G_law_read_triples := G_law_read_triples.mono (k := 5) (by decide)
  refine fnI T.F_law_own sc_law_own (fun x => ⟨rfl, by decide⟩) fun cdv A outer s H E hr => ⟨_, (pss_cons (ps_if (pt_cmpR (kEQ K rfl hr.units) (pv 0) pe_int (nomark _)) (pss_one (ps_ret (pe_call G_law_read_number hr (by rfl) T.m_law_read_number T.k_law_read_number T.b_law_read_number .nil pass0 (pa_cons (pv 1) (pa_cons pe_int pa_nil))))) pss_nil) (pss_cons (ps_if (pt_cmpR (kEQ K rfl hr.units) (pv 0) pe_int (nomark _)) (pss_one (ps_ret (pe_call G_law_read_text hr (by rfl) T.m_law_read_text T.k_law_read_text T.b_law_read_text .nil pass0 (pa_cons (pv 1) (pa_cons pe_int pa_nil))))) pss_nil) (pss_cons (ps_if (pt_cmpR (kEQ K rfl hr.units) (pv 0) pe_int (nomark _)) (pss_one (ps_ret (pe_call G_law_read_deed hr (by rfl) T.m_law_read_deed T.k_law_read_deed T.b_law_read_deed .nil pass0 (pa_cons (pv 1) (pa_cons pe_int pa_nil))))) pss_nil) (pss_one (ps_ret (pe_ifExp (pt_cmpR (kEQ K rfl hr.units) (pv 0) pe_int (nomark _)) (pe_call G_law_read_triples hr (by rfl) T.m_law_read_triples T.k_law_read_triples T.b_law_read_triples .nil pass0 (pa_cons (pv 1) (pa_cons pe_int pa_nil))) (pe_call G_law_read_packet hr (by rfl) T.m_law_read_packet T.k_law_read_packet T.b_law_read_packet .nil pass0 (pa_cons (pv 1) (pa_cons pe_int pa_nil))))))))), ?_⟩
  rintro ⟨k, ds⟩ ⟨hk, h1⟩ B
  have hk : k < 5 := hk
  have h1 : ds.length ≤ 1000000 := h1
  have h0 : preR (ds, 0) := ⟨h1, Nat.zero_le _⟩
  walk_at "go"
  refine ite_k (fun c => ?_) (fun c => ?_)
  · have c : k = 0 := by simp at c; omega
    subst c
    walk_at "go"
    refine ⟨(ds, 0), h0, rfl, ?_⟩
    rintro _ rfl
    walk_at "go"
  have c : ¬ k = 0 := by simp at c; omega
  walk_at "go"
  refine ite_k (fun c1 => ?_) (fun c1 => ?_)
  · have c1 : k = 1 := by simp at c1; omega
    subst c1
    walk_at "go"
    refine ⟨(ds, 0), h0, rfl, ?_⟩
    rintro _ rfl
    walk_at "go"
  have c1 : ¬ k = 1 := by simp at c1; omega
  walk_at "go"
  refine ite_k (fun c2 => ?_) (fun c2 => ?_)
  · have c2 : k = 2 := by simp at c2; omega
    subst c2
    walk_at "go"
    refine ⟨(ds, 0), h0, rfl, ?_⟩
    rintro _ rfl
    walk_at "go"
  have c2 : ¬ k = 2 := by simp at c2; omega
  walk_at "go"
  refine ite_k (fun c3 => ?_) (fun c3 => ?_)
  · have c3 : k = 3 := by simp at c3; omega
    subst c3
    walk_at "go"
    refine ⟨(ds, 0), h0, rfl, ?_⟩
    rintro _ rfl
    walk_at "go"
  · have c3 : ¬ k = 3 := by simp at c3; omega
    have c4 : k = 4 := by omega
    subst c4
    walk_at "go"
    refine ⟨(ds, 0), h0, rfl, ?_⟩
    rintro _ rfl
    walk_at "go"
/-! writing -/
def wrNum (n : Nat) : List Nat := if h : n < 128 then [n] else (n % 128 + 128) :: wrNum (n / 128)
termination_by n
decreasing_by omega
theorem wr_small {n : Nat} (h : n < 128) : wrNum n = [n] := by
  rw [wrNum, dif_pos h]
theorem wr_big {n : Nat} (h : ¬ n < 128) : wrNum n = (n % 128 + 128) :: wrNum (n / 128) := by
  rw [wrNum, dif_neg h]
theorem wr_len : ∀ (k n : Nat), n < 128 ^ k → (wrNum n).length ≤ k + 1
  | 0, n, h => by
    rw [wr_small (by simp at h; omega)]
    simp
  | k + 1, n, h => by
    by_cases c : n < 128
    · rw [wr_small c]
      simp
    · rw [wr_big c]
      have := wr_len k (n / 128) (by rw [Nat.div_lt_iff_lt_mul (by decide)]; rw [Nat.pow_succ] at h; exact h)
      simp
      omega
abbrev spW (K : PySem.W.Frag) := spI K (fun n : Nat => [nD n]) (fun n => n < 128 ^ 40) (fun n r => r = .fr (.o none ((wrNum n).map nD)))
theorem ok_write_number (T : Tx K mg a) : FnOk P w K mg base CX0 1 a.f10 a.d10 ["number"] (spW K) := by
  refine fnI T.F_write_number sc_write_number (fun x => ⟨rfl, by decide⟩) fun cdv A outer s H E hr => ⟨_, (pss_cons (ps_set (i := 1) sc_write_number.nd rfl (Or.inl rfl) (pe_lst pa_nil)) (pss_cons (ps_while PassesOwn.never (pt_cmpR op_ge (pv 0) pe_int (nomark _)) (pss_cons (ps_expr (kBM K rfl (pe_bm PySem.F.plainAttrs_list PySem.F.slot_list_append PySem.F.type_list_append mt_append (pv 1) (pa_cons (pe_op (kADD K rfl) (pe_op op_mod (pv 0) pe_int) pe_int) pa_nil)))) (pss_one (ps_set (i := 0) sc_write_number.nd rfl (Or.inl rfl) (pe_op op_fdiv (pv 0) pe_int))))) (pss_one (ps_ret (pe_op (kADD K rfl) (pv 1) (pe_lst (pa_cons (pv 0) pa_nil))))))), ?_⟩
  intro n hn B
  have hl := wr_len 40 n hn
  walk_at "gs"
  refine ds_seq' ?_
  walk_at "gs"
  refine ds_mid' (fun G => ∃ m l, G = [.d (nD m), .o none (l.map nD)] ∧ wrNum n = l ++ [m] ∧ m < 128) ?_ ?_
  · refine ds_while' (fun m G => ∃ l, G = [.d (nD m), .o none (l.map nD)] ∧ wrNum n = l ++ wrNum m) n ⟨[], rfl, rfl⟩ ?_
    rintro m G1 ⟨l, rfl, he⟩
    walk_at "go"
    refine ite_k (fun c => ?_) (fun c => ?_)
    · have c : ¬ m < 128 := by simp at c; omega
      rw [wr_big c] at he
      have hll : l.length ≤ 41 := by
        have := congrArg List.length he
        simp at this
        omega
      walk_at "go"
      refine rm_app rfl (by rw [List.length_map, sizeLine_eq]; omega) ?_
      walk_at "go"
      refine ⟨m / 128, by omega, l ++ [m % 128 + 128], ?_, by rw [he]; simp⟩
      rw [List.map_append]
      rfl
    · have c : m < 128 := by simp at c; omega
      exact ⟨m, l, rfl, by rw [he, wr_small c], c⟩
  · rintro _ ⟨m, l, rfl, he, hm⟩
    have hll : l.length ≤ 41 := by
      have := congrArg List.length he
      simp at this
      omega
    walk_at "go"
    refine rw_addL rfl rfl (by rw [List.length_map, sizeLine_eq]; simp; omega) ?_
    walk_at "go"
    rw [he, List.map_append]
    rfl
theorem ok_law_number (T : Tx K mg a) : FnOk P w K mg base CX0 1 a.f20 a.d20 ["number"] (spW K) := by
  refine fnI T.F_law_number sc_law_number (fun x => ⟨rfl, by decide⟩) fun cdv A outer s H E hr => ⟨_, (pss_cons (ps_set (i := 1) sc_law_number.nd rfl (Or.inl rfl) (pe_lst pa_nil)) (pss_cons (ps_while PassesOwn.never (pt_cmpR op_gt (pv 0) pe_int (nomark _)) (pss_cons (ps_expr (kBM K rfl (pe_bm PySem.F.plainAttrs_list PySem.F.slot_list_append PySem.F.type_list_append mt_append (pv 1) (pa_cons (pe_op (kADD K rfl) (pe_op op_mod (pv 0) pe_int) pe_int) pa_nil)))) (pss_one (ps_set (i := 0) sc_law_number.nd rfl (Or.inl rfl) (pe_op op_fdiv (pv 0) pe_int))))) (pss_one (ps_ret (pe_op (kADD K rfl) (pv 1) (pe_lst (pa_cons (pv 0) pa_nil))))))), ?_⟩
  intro n hn B
  have hl := wr_len 40 n hn
  walk_at "gs"
  refine ds_seq' ?_
  walk_at "gs"
  refine ds_mid' (fun G => ∃ m l, G = [.d (nD m), .o none (l.map nD)] ∧ wrNum n = l ++ [m] ∧ m < 128) ?_ ?_
  · refine ds_while' (fun m G => ∃ l, G = [.d (nD m), .o none (l.map nD)] ∧ wrNum n = l ++ wrNum m) n ⟨[], rfl, rfl⟩ ?_
    rintro m G1 ⟨l, rfl, he⟩
    walk_at "go"
    refine ite_k (fun c => ?_) (fun c => ?_)
    · have c : ¬ m < 128 := by simp at c; omega
      rw [wr_big c] at he
      have hll : l.length ≤ 41 := by
        have := congrArg List.length he
        simp at this
        omega
      walk_at "go"
      refine rm_app rfl (by rw [List.length_map, sizeLine_eq]; omega) ?_
      walk_at "go"
      refine ⟨m / 128, by omega, l ++ [m % 128 + 128], ?_, by rw [he]; simp⟩
      rw [List.map_append]
      rfl
    · have c : m < 128 := by simp at c; omega
      exact ⟨m, l, rfl, by rw [he, wr_small c], c⟩
  · rintro _ ⟨m, l, rfl, he, hm⟩
    have hll : l.length ≤ 41 := by
      have := congrArg List.length he
      simp at this
      omega
    walk_at "go"
    refine rw_addL rfl rfl (by rw [List.length_map, sizeLine_eq]; simp; omega) ?_
    walk_at "go"
    rw [he, List.map_append]
    rfl
end
end K12
namespace K12
open PySem PySem.Spec PyProof.Rows L2 DL
local macro_rules | `(tactic| walk_at "st") => `(tactic| with_reducible first
  | refine pw_p ?_ | refine pw_o ?_ | refine dw_op ?_ | refine dw_un ?_ | refine dw_int ?_ | refine dw_str ?_ | refine dw_bl ?_ | refine dw_non ?_ | refine dw_ty ?_ | refine da_nil' ?_ | refine da_cons' ?_ | refine dw_sortSetT ?_ | refine dw_CB ?_ | refine dw_BM ?_ | refine dw_BM0 ?_
  | refine dw_tup ?_ | refine dw_lst ?_ | refine dw_notV ?_ | refine dw_and ?_ | refine dw_or ?_ | refine dw_if ?_ | refine dw_chain ?_ | refine dw_sl3 ?_ | refine dw_revT ?_ | refine dw_tupRg1 ?_ | refine dw_lstRg1 ?_ | refine dw_callI ?_ | refine dw_callJ ?_
  | refine dt_test ?_ | refine dt_B ?_ | refine dt_and ?_ | refine dt_or ?_ | refine dt_not ?_ | refine dt_yes ?_ | refine dt_truth ?_
  | refine ds_ret ?_ | refine ds_retN ?_ | refine ds_next ?_ | refine ds_break ?_ | refine ds_cont ?_ | refine ds_drop ?_ | refine ds_if ?_ | refine ds_set ?_
  | refine nx_nxt ?_ | refine rt_nxt ?_ | refine bk_nxt ?_ | refine ct_nxt ?_ | refine nx_lp ?_ | refine rt_lp ?_ | refine bk_lp ?_ | refine ct_lp ?_ | refine asn_d ?_ | refine asn_fr ?_ | refine rt_E0 ?_ | refine rt_E0o ?_ | refine nx_E0 ?_
  | refine dw_newK ?_ | refine dw_dInK ?_ | refine dw_dNotInK ?_ | refine dw_dGetK ?_ | refine ds_dPutK ?_
  | refine tr_b ?_ | refine tr_i ?_ | refine tr_n ?_ | refine tr_T ?_ | refine tr_L ?_
  | refine do_none ?_ | refine do_some ?_ | refine ite_t ?_ | refine ite_f ?_
  | refine rw_addI ?_ | refine rw_sub ?_ | refine rw_cmp ?_ | refine rw_eqI ?_ | refine rw_neI ?_ | refine rw_eqZ ?_ | refine rw_neZ ?_ | refine rw_eqS ?_ | refine rw_neS ?_ | refine rw_eqB ?_ | refine rw_neB ?_ | refine isN_d ?_ | refine notN_d ?_ | refine rw_isB ?_ | refine rw_notB ?_
  | refine rn_intI ?_ | refine rn_intB ?_ | refine rn_max ?_ | refine rn_min ?_ | refine rn_lenT ?_ | refine rn_lenD ?_ | refine rm_sw ?_ | refine isi_int ?_ | refine isi_bool ?_ | refine isi_str ?_ | refine isi_tuple ?_ | refine isi_list ?_ | refine rn_tupT ?_ | refine rn_listT ?_
  | refine ⟨_, rfl, ?_⟩
  | fail)
local macro_rules | `(tactic| walk_at "va") => `(tactic| first
  | ((with_reducible apply dw_var); rfl) | ((with_reducible apply dw_sl); rfl) | ((with_reducible apply dw_slK); rfl) | ((with_reducible apply dw_ob); rfl) | (refine dw_fld (by assumption) (by assumption) rfl rfl ?_)
  | ((with_reducible apply rw_ixL); rfl; rfl) | ((with_reducible apply rw_ixT); rfl)
  | ((with_reducible apply ite_T); rfl) | ((with_reducible apply ite_F); rfl) | ((with_reducible apply tr_o); rfl)
  | refine ⟨_, rfl, szl (Nat.le_of_ble_eq_true rfl), ?_⟩
  | (with_reducible refine rw_mod (by omega) ?_)
  | (with_reducible refine rw_fdiv (by unfold CDiv; omega) ?_)
  | (with_reducible refine rw_mul (by unfold CMul; omega) ?_)
  | refine ⟨szl (Nat.le_of_ble_eq_true rfl), ?_⟩
  | refine ⟨⟨rfl, _, _, rfl⟩, ?_⟩
  | refine ⟨rfl, ?_⟩
  | rfl
  | fail)
local macro_rules | `(tactic| walk_at "go") => `(tactic| repeat' (first | walk_at "st" | (with_reducible refine ds_seq' ?_) | walk_at "va" | fail))
local macro_rules | `(tactic| walk_at "gs") => `(tactic| repeat' (first | walk_at "st" | walk_at "va" | fail))
/-! what is written -/
def wrList (xs : List (List Nat)) : List Nat := wrNum xs.length ++ xs.flatten
def wrText (t : List Nat) : List Nat := wrList (t.map wrNum)
def wrMk (m : Nat × Nat) : List Nat := wrNum m.1 ++ wrNum m.2
def wrBh : Option (Nat × Nat) → List Nat
  | none => [0]
  | some m => 1 :: wrMk m
def wrDd : Deed → List Nat
  | .back n => 1 :: wrNum n
  | .chg m r b n t => 0 :: (wrText m ++ wrList (r.map wrMk) ++ wrBh b ++ wrNum n ++ wrText t)
def wrTr (x : Nat × Nat × Deed) : List Nat := wrNum x.1 ++ wrNum x.2.1 ++ wrDd x.2.2
def wrTs (l : List (Nat × Nat × Deed)) : List Nat := wrList (l.map wrTr)
def okN (n : Nat) : Prop := n < 128 ^ 11
def okT (t : List Nat) : Prop := t.length ≤ 150 ∧ ∀ c ∈ t, okc c = true
def okM (m : Nat × Nat) : Prop := okN m.1 ∧ okN m.2
def okD : Deed → Prop
  | .back n => okN n
  | .chg m r b n t => okT m ∧ (r.length ≤ 10 ∧ ∀ x ∈ r, okM x) ∧ (∀ x, b = some x → okM x) ∧ okN n ∧ okT t
def okX (x : Nat × Nat × Deed) : Prop := okN x.1 ∧ okN x.2.1 ∧ okD x.2.2
def okL (l : List (Nat × Nat × Deed)) : Prop := l.length ≤ 10 ∧ ∀ x ∈ l, okX x
theorem okN_40 {n : Nat} (h : okN n) : n < 128 ^ 40 := Nat.lt_trans h (by decide)
theorem okN_s {n : Nat} (h : n ≤ 1000000) : okN n := Nat.lt_of_le_of_lt h (by decide)
theorem okc_s {c : Nat} (h : okc c = true) : c ≤ 126 := by
  unfold okc at h
  simp at h
  omega
theorem num_len {n : Nat} (h : okN n) : (wrNum n).length ≤ 12 := wr_len 11 n h
theorem flat_len {xs : List (List Nat)} {m : Nat} (h : ∀ l ∈ xs, l.length ≤ m) : xs.flatten.length ≤ xs.length * m := by
  induction xs with
  | nil => simp
  | cons a r ih =>
    have h1 := h a (by simp)
    have h2 := ih fun l hl => h l (List.mem_cons_of_mem _ hl)
    rw [List.flatten_cons, List.length_append, List.length_cons, Nat.succ_mul]
    omega
theorem list_len {xs : List (List Nat)} {m : Nat} (h1 : xs.length ≤ 1000) (h : ∀ l ∈ xs, l.length ≤ m) : (wrList xs).length ≤ 12 + xs.length * m := by
  have := flat_len h
  have := num_len (okN_s (by omega : xs.length ≤ 1000000))
  unfold wrList
  rw [List.length_append]
  omega
theorem text_len {t : List Nat} (h : okT t) : (wrText t).length ≤ 1812 := by
  have := list_len (xs := t.map wrNum) (m := 12) (by rw [List.length_map]; exact Nat.le_trans h.1 (by decide)) (by
    intro l hl
    obtain ⟨c, hc, rfl⟩ := List.mem_map.mp hl
    exact num_len (okN_s (by have := okc_s (h.2 c hc); omega)))
  rw [List.length_map] at this
  have := h.1
  unfold wrText
  omega
theorem mk_len {m : Nat × Nat} (h : okM m) : (wrMk m).length ≤ 24 := by
  have h1 := num_len h.1
  have h2 := num_len h.2
  unfold wrMk
  rw [List.length_append]
  omega
theorem mks_len {r : List (Nat × Nat)} (h : r.length ≤ 10) (h2 : ∀ x ∈ r, okM x) : (wrList (r.map wrMk)).length ≤ 252 := by
  have := list_len (xs := r.map wrMk) (m := 24) (by rw [List.length_map]; omega) (by
    intro l hl
    obtain ⟨c, hc, rfl⟩ := List.mem_map.mp hl
    exact mk_len (h2 c hc))
  rw [List.length_map] at this
  omega
theorem bh_len {b : Option (Nat × Nat)} (h : ∀ x, b = some x → okM x) : (wrBh b).length ≤ 25 := by
  cases b with
  | none => simp [wrBh]
  | some m =>
    have := mk_len (h m rfl)
    simp [wrBh]
    omega
theorem dd_len {d : Deed} (h : okD d) : (wrDd d).length ≤ 4000 := by
  cases d with
  | back n =>
    have := num_len h
    simp [wrDd]
    omega
  | chg m r b n t =>
    obtain ⟨h1, h2, h3, h4, h5⟩ := h
    have := text_len h1
    have := mks_len h2.1 h2.2
    have := bh_len h3
    have := num_len h4
    have := text_len h5
    simp [wrDd]
    omega
theorem tr_len {x : Nat × Nat × Deed} (h : okX x) : (wrTr x).length ≤ 4100 := by
  have := num_len h.1
  have := num_len h.2.1
  have := dd_len h.2.2
  simp [wrTr]
  omega
theorem ts_len {l : List (Nat × Nat × Deed)} (h : okL l) : (wrTs l).length ≤ 50000 := by
  have := list_len (xs := l.map wrTr) (m := 4100) (by rw [List.length_map]; have := h.1; omega) (by
    intro k hk
    obtain ⟨c, hc, rfl⟩ := List.mem_map.mp hk
    exact tr_len (h.2 c hc))
  rw [List.length_map] at this
  have := h.1
  unfold wrTs
  omega
abbrev bR (l : List Nat) : Rs := .fr (.o none (l.map nD))
section
variable {P : Program} {w : World} {K : PySem.W.Frag} {mg : Str → Option Value} {base : Heap} {a : Ad}
theorem zz {n : Nat} (h : n ≤ 1000000) : n ≤ sizeLine := by
  rw [sizeLine_eq]
  omega
abbrev spWL (K : PySem.W.Frag) := spI K (fun xs : List (List Nat) => [.list (xs.map bD)]) (fun xs => xs.length ≤ 200 ∧ ∀ l ∈ xs, l.length ≤ 4200) (fun xs r => r = bR (wrList xs))
theorem ok_write_list (T : Tx K mg a) (G_write_number : FnOk P w K mg base CX0 1 a.f10 a.d10 ["number"] (spW K)) : FnOk P w K mg base CX0 2 a.f11 a.d11 ["items"] (spWL K) := by
  refine fnI T.F_write_list sc_write_list (fun x => ⟨rfl, by decide⟩) fun cdv A outer s H E hr => ⟨_, (pss_cons (ps_set (i := 1) sc_write_list.nd rfl (Or.inl rfl) (pe_call G_write_number hr (by rfl) T.m_write_number T.k_write_number T.b_write_number .nil pass0 (pa_cons (pe_callB (kLEN K rfl) (by rfl) T.z_len (by decide +kernel) (pa_cons (pv 0) pa_nil)) pa_nil))) (pss_cons (ps_for PassesOwn.never rfl (kANY K rfl (pv 0)) (pg_name (i := 2) sc_write_list.nd rfl (Or.inl rfl)) (pss_one (ps_expr (kBM K rfl (pe_bm PySem.F.plainAttrs_list PySem.F.slot_list_extend PySem.F.type_list_extend mt_extend (pv 1) (pa_cons (pv 2) pa_nil)))))) (pss_one (ps_ret (pv 1))))), ?_⟩
  rintro xs ⟨h1, h2⟩ B
  have hn := num_len (okN_s (by omega : xs.length ≤ 1000000))
  walk_at "go"
  refine ⟨xs.length, okN_40 (okN_s (by omega)), by rw [List.length_map]; rfl, ?_⟩
  rintro _ rfl
  walk_at "go"
  refine ds_forE' (ch := [2]) ?_
  refine di_anyL (di_list ?_)
  walk_at "go"
  refine ⟨fun k G => ∃ s2, G = [.d (.list (xs.map bD)), .o none ((wrNum xs.length ++ (xs.take k).flatten).map nD), s2], ⟨_, by simp; rfl⟩, fun k G2 d hd ⟨s2, hG⟩ => ?_, fun G2 ⟨s2, hG⟩ => ?_⟩
  · subst hG
    rw [List.getElem?_map] at hd
    obtain ⟨l, hl, rfl⟩ := Option.map_eq_some_iff.mp hd
    have hk := (List.getElem?_eq_some_iff.mp hl).1
    have hll := h2 l (List.mem_of_getElem? hl)
    have hfl := flat_len (xs := xs.take k) (m := 4200) fun l hl => h2 l (List.mem_of_mem_take hl)
    rw [List.length_take] at hfl
    have et : xs.take (k + 1) = xs.take k ++ [l] := by
      rw [List.take_succ, hl]
      rfl
    refine dg_name ?_
    walk_at "go"
    refine rm_ext rfl rfl (zz ?_) ?_
    · rw [List.length_map, List.length_append, List.length_map]
      have : min k xs.length * 4200 ≤ 200 * 4200 := Nat.mul_le_mul_right _ (by omega)
      omega
    walk_at "go"
    refine ⟨.d (bD l), ?_⟩
    rw [et, List.flatten_append, ← List.append_assoc, List.map_append]
    simp
  · subst hG
    rw [List.length_map, List.take_length]
    walk_at "go"
    exact rt_E0s rfl rfl
abbrev spWT (K : PySem.W.Frag) := spI K (fun t : List Nat => [zD t]) okT (fun t r => r = bR (wrText t))
theorem ord_eq {c : Nat} : ((mkS [c]).cps.getD 0 0) = c := rfl
theorem ok_write_string (T : Tx K mg a) (G_write_number : FnOk P w K mg base CX0 1 a.f10 a.d10 ["number"] (spW K)) (G_write_list : FnOk P w K mg base CX0 2 a.f11 a.d11 ["items"] (spWL K)) : FnOk P w K mg base CX0 3 a.f12 a.d12 ["text"] (spWT K) := by
  replace G_write_number := G_write_number.mono (k := 2) (by decide)
  refine fnI T.F_write_string sc_write_string (fun x => ⟨rfl, by decide⟩) fun cdv A outer s H E hr => ⟨_, (pss_one (ps_ret (pe_call G_write_list hr (by rfl) T.m_write_list T.k_write_list T.b_write_list .nil pass0 (pa_cons (pe_lc (own := [("character", 1)]) (g := gName 1) (by rfl) sc_write_string.nd (kANY K rfl (pv 0)) (blkOk_by (own := [("character", 1)]) (N := ["text", "character"]) (sc := defScope s_write_string) (by decide +kernel)) (fun _ _ _ _ _ => (pg_name (i := 1) sc_write_string.nd rfl (by first | exact Or.inl rfl | exact Or.inr rfl))) (fun _ _ _ _ _ => pts_nil) (fun _ _ _ _ _ => (pe_call G_write_number hr (by rfl) T.m_write_number T.k_write_number T.b_write_number .nil pass0 (pa_cons (pe_callB call_ord (by rfl) T.z_ord (by decide +kernel) (pa_cons (pv 1) pa_nil)) pa_nil)))) pa_nil)))), ?_⟩
  rintro t ⟨h1, h2⟩ B
  walk_at "go"
  refine dw_lcM t zC (fun c => bD (wrNum c)) ?_
  refine di_anyS (di_str ?_)
  walk_at "go"
  refine ⟨zz (by omega), fun B' c hc => ?_, ?_⟩
  · have := okc_s (h2 c hc)
    walk_at "go"
    refine rn_ord rfl ?_
    walk_at "go"
    refine ⟨c, okN_40 (okN_s (by omega)), rfl, ?_⟩
    rintro _ rfl
    exact ⟨rfl, rfl⟩
  · walk_at "go"
    refine ⟨t.map wrNum, ⟨by rw [List.length_map]; omega, ?_⟩, by rw [List.map_map]; rfl, ?_⟩
    · intro l hl
      obtain ⟨c, hc, rfl⟩ := List.mem_map.mp hl
      have := okc_s (h2 c hc)
      have := num_len (okN_s (by omega : c ≤ 1000000))
      omega
    rintro _ rfl
    walk_at "go"
theorem ok_law_text (T : Tx K mg a) (G_law_number : FnOk P w K mg base CX0 1 a.f20 a.d20 ["number"] (spW K)) : FnOk P w K mg base CX0 2 a.f21 a.d21 ["text"] (spWT K) := by
  refine fnI T.F_law_text sc_law_text (fun x => ⟨rfl, by decide⟩) fun cdv A outer s H E hr => ⟨_, (pss_cons (ps_set (i := 1) sc_law_text.nd rfl (Or.inl rfl) (pe_call G_law_number hr (by rfl) T.m_law_number T.k_law_number T.b_law_number .nil pass0 (pa_cons (pe_callB (kLEN K rfl) (by rfl) T.z_len (by decide +kernel) (pa_cons (pv 0) pa_nil)) pa_nil))) (pss_cons (ps_for PassesOwn.never rfl (kANY K rfl (pv 0)) (pg_name (i := 2) sc_law_text.nd rfl (Or.inl rfl)) (pss_one (ps_set (i := 1) sc_law_text.nd rfl (Or.inl rfl) (pe_op (kADD K rfl) (pv 1) (pe_call G_law_number hr (by rfl) T.m_law_number T.k_law_number T.b_law_number .nil pass0 (pa_cons (pe_callB call_ord (by rfl) T.z_ord (by decide +kernel) (pa_cons (pv 2) pa_nil)) pa_nil)))))) (pss_one (ps_ret (pv 1))))), ?_⟩
  rintro t ⟨h1, h2⟩ B
  have hn := num_len (okN_s (by omega : t.length ≤ 1000000))
  walk_at "go"
  refine rn_lenS (zz (by omega)) ?_
  walk_at "go"
  refine ⟨t.length, okN_40 (okN_s (by omega)), rfl, ?_⟩
  rintro _ rfl
  walk_at "go"
  refine ds_forE' (ch := [2]) ?_
  refine di_anyS (di_str ?_)
  walk_at "go"
  refine ⟨fun k G => ∃ s2, G = [.d (zD t), .o none ((wrNum t.length ++ ((t.take k).map wrNum).flatten).map nD), s2], ⟨_, by simp; rfl⟩, fun k G2 d hd ⟨s2, hG⟩ => ?_, fun G2 ⟨s2, hG⟩ => ?_⟩
  · subst hG
    rw [List.getElem?_map] at hd
    obtain ⟨c, hl, rfl⟩ := Option.map_eq_some_iff.mp hd
    have hk := (List.getElem?_eq_some_iff.mp hl).1
    have hc := okc_s (h2 c (List.mem_of_getElem? hl))
    have hfl := flat_len (xs := (t.take k).map wrNum) (m := 12) fun l hl => by
      obtain ⟨x, hx, rfl⟩ := List.mem_map.mp hl
      exact num_len (okN_s (by have := okc_s (h2 x (List.mem_of_mem_take hx)); omega))
    rw [List.length_map, List.length_take] at hfl
    have et : t.take (k + 1) = t.take k ++ [c] := by
      rw [List.take_succ, hl]
      rfl
    have hcl := num_len (okN_s (by omega : c ≤ 1000000))
    refine dg_name ?_
    walk_at "go"
    refine rn_ord rfl ?_
    walk_at "go"
    refine ⟨c, okN_40 (okN_s (by omega)), rfl, ?_⟩
    rintro _ rfl
    walk_at "go"
    refine rw_addL rfl rfl (zz ?_) ?_
    · rw [List.length_map, List.length_append, List.length_map]
      omega
    walk_at "go"
    refine ⟨.d (zC c), ?_⟩
    rw [et]
    simp
  · subst hG
    rw [List.length_map, List.take_length]
    walk_at "go"
    refine (rt_E0s rfl ?_)
    rw [wrText, wrList, List.length_map]
abbrev spWM (K : PySem.W.Frag) := spI K (fun m : Nat × Nat => [encMk m]) okM (fun m r => r = bR (wrMk m))
theorem ok_write_mark (T : Tx K mg a) (G_write_number : FnOk P w K mg base CX0 1 a.f10 a.d10 ["number"] (spW K)) : FnOk P w K mg base CX0 2 a.f13 a.d13 ["mark"] (spWM K) := by
  refine fnI T.F_write_mark sc_write_mark (fun x => ⟨rfl, by decide⟩) fun cdv A outer s H E hr => ⟨_, (pss_one (ps_ret (pe_op (kADD K rfl) (pe_call G_write_number hr (by rfl) T.m_write_number T.k_write_number T.b_write_number .nil pass0 (pa_cons (pe_ix (kIX K rfl) (pv 0) pe_int (fun _ _ => rfl)) pa_nil)) (pe_call G_write_number hr (by rfl) T.m_write_number T.k_write_number T.b_write_number .nil pass0 (pa_cons (pe_ix (kIX K rfl) (pv 0) pe_int (fun _ _ => rfl)) pa_nil))))), ?_⟩
  rintro ⟨m, n⟩ ⟨h1, h2⟩ B
  have l1 : (wrNum m).length ≤ 12 := num_len h1
  have l2 : (wrNum n).length ≤ 12 := num_len h2
  dsimp only [encMk]
  walk_at "go"
  refine ⟨m, okN_40 h1, rfl, ?_⟩
  rintro _ rfl
  walk_at "go"
  refine ⟨n, okN_40 h2, rfl, ?_⟩
  rintro _ rfl
  walk_at "go"
  refine rw_addL rfl rfl (zz (by rw [List.length_map, List.length_map]; omega)) ?_
  walk_at "go"
  rw [bR, wrMk, List.map_append]
theorem ok_law_mark (T : Tx K mg a) (G_law_number : FnOk P w K mg base CX0 1 a.f20 a.d20 ["number"] (spW K)) : FnOk P w K mg base CX0 2 a.f22 a.d22 ["mark"] (spWM K) := by
  refine fnI T.F_law_mark sc_law_mark (fun x => ⟨rfl, by decide⟩) fun cdv A outer s H E hr => ⟨_, (pss_one (ps_ret (pe_op (kADD K rfl) (pe_call G_law_number hr (by rfl) T.m_law_number T.k_law_number T.b_law_number .nil pass0 (pa_cons (pe_ix (kIX K rfl) (pv 0) pe_int (fun _ _ => rfl)) pa_nil)) (pe_call G_law_number hr (by rfl) T.m_law_number T.k_law_number T.b_law_number .nil pass0 (pa_cons (pe_ix (kIX K rfl) (pv 0) pe_int (fun _ _ => rfl)) pa_nil))))), ?_⟩
  rintro ⟨m, n⟩ ⟨h1, h2⟩ B
  have l1 : (wrNum m).length ≤ 12 := num_len h1
  have l2 : (wrNum n).length ≤ 12 := num_len h2
  dsimp only [encMk]
  walk_at "go"
  refine ⟨m, okN_40 h1, rfl, ?_⟩
  rintro _ rfl
  walk_at "go"
  refine ⟨n, okN_40 h2, rfl, ?_⟩
  rintro _ rfl
  walk_at "go"
  refine rw_addL rfl rfl (zz (by rw [List.length_map, List.length_map]; omega)) ?_
  walk_at "go"
  rw [bR, wrMk, List.map_append]
abbrev spWD (K : PySem.W.Frag) := spI K (fun d : Deed => [encDd d]) okD (fun d r => r = bR (wrDd d))
theorem ok_write_deed (T : Tx K mg a) (G_write_number : FnOk P w K mg base CX0 1 a.f10 a.d10 ["number"] (spW K)) (G_write_list : FnOk P w K mg base CX0 2 a.f11 a.d11 ["items"] (spWL K)) (G_write_string : FnOk P w K mg base CX0 3 a.f12 a.d12 ["text"] (spWT K)) (G_write_mark : FnOk P w K mg base CX0 2 a.f13 a.d13 ["mark"] (spWM K)) :
    FnOk P w K mg base CX0 4 a.f14 a.d14 ["deed"] (spWD K) := by
  replace G_write_number := G_write_number.mono (k := 3) (by decide)
  replace G_write_list := G_write_list.mono (k := 3) (by decide)
  replace G_write_mark := G_write_mark.mono (k := 3) (by decide)
  refine fnI T.F_write_deed sc_write_deed (fun x => ⟨rfl, by decide⟩) fun cdv A outer s H E hr => ⟨_, (pss_cons (ps_if (pt_cmpR (kEQ K rfl hr.units) (pe_ix (kIX K rfl) (pv 0) pe_int (fun _ _ => rfl)) (pe_strM [98, 97, 99, 107] rfl) (nomark _)) (pss_one (ps_ret (pe_op (kADD K rfl) (pe_lst (pa_cons pe_int pa_nil)) (pe_call G_write_number hr (by rfl) T.m_write_number T.k_write_number T.b_write_number .nil pass0 (pa_cons (pe_ix (kIX K rfl) (pv 0) pe_int (fun _ _ => rfl)) pa_nil))))) pss_nil) (pss_cons (ps_asg (pv 0) (kTG K rfl rfl (pgs_cons (pg_name (i := 1) sc_write_deed.nd rfl (Or.inl rfl)) (pgs_cons (pg_name (i := 2) sc_write_deed.nd rfl (Or.inl rfl)) (pgs_cons (pg_name (i := 3) sc_write_deed.nd rfl (Or.inl rfl)) (pgs_cons (pg_name (i := 4) sc_write_deed.nd rfl (Or.inl rfl)) (pgs_cons (pg_name (i := 5) sc_write_deed.nd rfl (Or.inl rfl)) (pgs_cons (pg_name (i := 6) sc_write_deed.nd rfl (Or.inl rfl)) pgs_nil)))))))) (pss_cons (ps_set (i := 7) sc_write_deed.nd rfl (Or.inl rfl) (pe_op (kADD K rfl) (pe_op (kADD K rfl) (pe_lst (pa_cons pe_int pa_nil)) (pe_call G_write_string hr (by rfl) T.m_write_string T.k_write_string T.b_write_string .nil pass0 (pa_cons (pv 2) pa_nil))) (pe_call G_write_list hr (by rfl) T.m_write_list T.k_write_list T.b_write_list .nil pass0 (pa_cons (pe_lc (own := [("mark", 8)]) (g := gName 8) (by rfl) sc_write_deed.nd (kANY K rfl (pv 3)) (blkOk_by (own := [("mark", 8)]) (N := ["deed", "_", "module", "removed", "behind", "number", "text", "data", "mark"]) (sc := defScope s_write_deed) (by decide +kernel)) (fun _ _ _ _ _ => (pg_name (i := 8) sc_write_deed.nd rfl (by first | exact Or.inl rfl | exact Or.inr rfl))) (fun _ _ _ _ _ => pts_nil) (fun _ _ _ _ _ => (pe_call G_write_mark hr (by rfl) T.m_write_mark T.k_write_mark T.b_write_mark .nil pass0 (pa_cons (pv 8) pa_nil)))) pa_nil)))) (pss_cons (ps_expr (kBM K rfl (pe_bm PySem.F.plainAttrs_list PySem.F.slot_list_extend PySem.F.type_list_extend mt_extend (pv 7) (pa_cons (pe_ifExp (pt_cmpR op_isN (pv 4) pe_non (nomark _)) (pe_lst (pa_cons pe_int pa_nil)) (pe_op (kADD K rfl) (pe_lst (pa_cons pe_int pa_nil)) (pe_call G_write_mark hr (by rfl) T.m_write_mark T.k_write_mark T.b_write_mark .nil pass0 (pa_cons (pv 4) pa_nil)))) pa_nil)))) (pss_one (ps_ret (pe_op (kADD K rfl) (pe_op (kADD K rfl) (pv 7) (pe_call G_write_number hr (by rfl) T.m_write_number T.k_write_number T.b_write_number .nil pass0 (pa_cons (pv 5) pa_nil))) (pe_call G_write_string hr (by rfl) T.m_write_string T.k_write_string T.b_write_string .nil pass0 (pa_cons (pv 6) pa_nil))))))))), ?_⟩
  intro d hd B
  cases d with
  | back n =>
    have hn : okN n := hd
    have l1 := num_len hn
    dsimp only [encDd]
    walk_at "go"
    refine ⟨n, okN_40 hn, rfl, ?_⟩
    rintro _ rfl
    walk_at "go"
    refine rw_addL rfl rfl (zz (by rw [List.length_map]; simp; omega)) ?_
    walk_at "go"
  | chg m r b n t =>
    obtain ⟨hm, ⟨hr1, hr2⟩, hb, hn, ht⟩ := hd
    have l1 := text_len hm
    have l2 := mks_len hr1 hr2
    have l3 := bh_len hb
    have l4 := num_len hn
    have l5 := text_len ht
    dsimp only [encDd]
    walk_at "go"
    refine ds_asg (cs := [1, 2, 3, 4, 5, 6]) ?_
    walk_at "go"
    refine dg_tup rfl (dgs_cons (dg_name (dgs_cons (dg_name (dgs_cons (dg_name (dgs_cons (dg_name (dgs_cons (dg_name (dgs_cons (dg_name (dgs_nil ?_)))))))))))))
    walk_at "go"
    refine ⟨m, hm, rfl, ?_⟩
    rintro _ rfl
    walk_at "go"
    refine rw_addL rfl rfl (zz (by rw [List.length_map]; simp; omega)) ?_
    walk_at "go"
    refine dw_lcM r encMk (fun x => bD (wrMk x)) ?_
    refine di_anyT (di_tup ?_)
    walk_at "go"
    refine ⟨zz (by omega), fun B' x hx => ?_, ?_⟩
    · walk_at "go"
      refine ⟨x, hr2 x hx, rfl, ?_⟩
      rintro _ rfl
      exact ⟨rfl, rfl⟩
    walk_at "go"
    refine ⟨r.map wrMk, ⟨by rw [List.length_map]; omega, ?_⟩, by rw [List.map_map]; rfl, ?_⟩
    · intro l hl
      obtain ⟨c, hc, rfl⟩ := List.mem_map.mp hl
      have := mk_len (hr2 c hc)
      omega
    rintro _ rfl
    walk_at "go"
    refine rw_addL rfl rfl (zz (by simp; omega)) ?_
    walk_at "gs"
    refine ds_mid' (fun G => ∃ s1 s2 s3, G = [s1, s2, s3, .d (.tuple (r.map encMk)), .d (encOm b), .d (nD n), .d (zD t), .o none ((0 :: (wrText m ++ wrList (r.map wrMk) ++ wrBh b)).map nD), .un]) ?_ ?_
    · cases b with
      | none =>
        walk_at "go"
        refine rm_ext rfl rfl (zz (by simp; omega)) ?_
        walk_at "go"
        exact ⟨_, _, _, by simp [wrBh]; rfl⟩
      | some x =>
        have hx := hb x rfl
        have lx := mk_len hx
        dsimp only [encOm]
        walk_at "go"
        refine ⟨x, hx, rfl, ?_⟩
        rintro _ rfl
        walk_at "go"
        refine rw_addL rfl rfl (zz (by simp; omega)) ?_
        walk_at "go"
        refine rm_ext rfl rfl (zz (by simp; omega)) ?_
        walk_at "go"
        exact ⟨_, _, _, by simp [wrBh]; rfl⟩
    · rintro _ ⟨s1, s2, s3, rfl⟩
      walk_at "go"
      refine ⟨n, okN_40 hn, rfl, ?_⟩
      rintro _ rfl
      walk_at "go"
      refine rw_addL rfl rfl (zz (by simp; omega)) ?_
      walk_at "go"
      refine ⟨t, ht, rfl, ?_⟩
      rintro _ rfl
      walk_at "go"
      refine rw_addL rfl rfl (zz (by simp; omega)) ?_
      walk_at "go"
      rw [bR, wrDd]
      simp
end
end K12
namespace K12
open PySem PySem.Spec PyProof.Rows L2 DL
local macro_rules | `(tactic| walk_at "st") => `(tactic| with_reducible first
  | refine pw_p ?_ | refine pw_o ?_ | refine dw_op ?_ | refine dw_un ?_ | refine dw_int ?_ | refine dw_str ?_ | refine dw_bl ?_ | refine dw_non ?_ | refine dw_ty ?_ | refine da_nil' ?_ | refine da_cons' ?_ | refine dw_sortSetT ?_ | refine dw_CB ?_ | refine dw_BM ?_ | refine dw_BM0 ?_
  | refine dw_tup ?_ | refine dw_lst ?_ | refine dw_notV ?_ | refine dw_and ?_ | refine dw_or ?_ | refine dw_if ?_ | refine dw_chain ?_ | refine dw_sl3 ?_ | refine dw_revT ?_ | refine dw_tupRg1 ?_ | refine dw_lstRg1 ?_ | refine dw_callI ?_ | refine dw_callJ ?_
  | refine dt_test ?_ | refine dt_B ?_ | refine dt_and ?_ | refine dt_or ?_ | refine dt_not ?_ | refine dt_yes ?_ | refine dt_truth ?_
  | refine ds_ret ?_ | refine ds_retN ?_ | refine ds_next ?_ | refine ds_break ?_ | refine ds_cont ?_ | refine ds_drop ?_ | refine ds_if ?_ | refine ds_set ?_
  | refine nx_nxt ?_ | refine rt_nxt ?_ | refine bk_nxt ?_ | refine ct_nxt ?_ | refine nx_lp ?_ | refine rt_lp ?_ | refine bk_lp ?_ | refine ct_lp ?_ | refine asn_d ?_ | refine asn_fr ?_ | refine rt_E0 ?_ | refine rt_E0o ?_ | refine nx_E0 ?_
  | refine dw_newK ?_ | refine dw_dInK ?_ | refine dw_dNotInK ?_ | refine dw_dGetK ?_ | refine ds_dPutK ?_
  | refine tr_b ?_ | refine tr_i ?_ | refine tr_n ?_ | refine tr_T ?_ | refine tr_L ?_
  | refine do_none ?_ | refine do_some ?_ | refine ite_t ?_ | refine ite_f ?_
  | refine rw_addI ?_ | refine rw_sub ?_ | refine rw_cmp ?_ | refine rw_eqI ?_ | refine rw_neI ?_ | refine rw_eqZ ?_ | refine rw_neZ ?_ | refine rw_eqS ?_ | refine rw_neS ?_ | refine rw_eqB ?_ | refine rw_neB ?_ | refine isN_d ?_ | refine notN_d ?_ | refine rw_isB ?_ | refine rw_notB ?_
  | refine rn_intI ?_ | refine rn_intB ?_ | refine rn_max ?_ | refine rn_min ?_ | refine rn_lenT ?_ | refine rn_lenD ?_ | refine rm_sw ?_ | refine isi_int ?_ | refine isi_bool ?_ | refine isi_str ?_ | refine isi_tuple ?_ | refine isi_list ?_ | refine rn_tupT ?_ | refine rn_listT ?_
  | refine ⟨_, rfl, ?_⟩
  | fail)
local macro_rules | `(tactic| walk_at "va") => `(tactic| first
  | ((with_reducible apply dw_var); rfl) | ((with_reducible apply dw_sl); rfl) | ((with_reducible apply dw_slK); rfl) | ((with_reducible apply dw_ob); rfl) | (refine dw_fld (by assumption) (by assumption) rfl rfl ?_)
  | ((with_reducible apply rw_ixL); rfl; rfl) | ((with_reducible apply rw_ixT); rfl)
  | ((with_reducible apply ite_T); rfl) | ((with_reducible apply ite_F); rfl) | ((with_reducible apply tr_o); rfl)
  | refine ⟨_, rfl, szl (Nat.le_of_ble_eq_true rfl), ?_⟩
  | (with_reducible refine rw_mod (by omega) ?_)
  | (with_reducible refine rw_fdiv (by unfold CDiv; omega) ?_)
  | (with_reducible refine rw_mul (by unfold CMul; omega) ?_)
  | refine ⟨szl (Nat.le_of_ble_eq_true rfl), ?_⟩
  | refine ⟨⟨rfl, _, _, rfl⟩, ?_⟩
  | refine ⟨rfl, ?_⟩
  | rfl
  | fail)
local macro_rules | `(tactic| walk_at "go") => `(tactic| repeat' (first | walk_at "st" | (with_reducible refine ds_seq' ?_) | walk_at "va" | fail))
local macro_rules | `(tactic| walk_at "gs") => `(tactic| repeat' (first | walk_at "st" | walk_at "va" | fail))
section
variable {P : Program} {w : World} {K : PySem.W.Frag} {mg : Str → Option Value} {base : Heap} {a : Ad}
abbrev spWX (K : PySem.W.Frag) := spI K (fun l : List (Nat × Nat × Deed) => [encTs l]) okL (fun l r => r = bR (wrTs l))
theorem ok_write_triples (T : Tx K mg a) (G_write_number : FnOk P w K mg base CX0 1 a.f10 a.d10 ["number"] (spW K)) (G_write_list : FnOk P w K mg base CX0 2 a.f11 a.d11 ["items"] (spWL K)) (G_write_deed : FnOk P w K mg base CX0 4 a.f14 a.d14 ["deed"] (spWD K)) :
    FnOk P w K mg base CX0 5 a.f15 a.d15 ["triples"] (spWX K) := by
  replace G_write_number := G_write_number.mono (k := 4) (by decide)
  replace G_write_list := G_write_list.mono (k := 4) (by decide)
  refine fnI T.F_write_triples sc_write_triples (fun x => ⟨rfl, by decide⟩) fun cdv A outer s H E hr => ⟨_, (pss_cons (ps_set (i := 1) sc_write_triples.nd rfl (Or.inl rfl) (pe_lst pa_nil)) (pss_cons (ps_for PassesOwn.never rfl (kANY K rfl (pv 0)) (kTG K rfl rfl (pgs_cons (pg_name (i := 2) sc_write_triples.nd rfl (Or.inl rfl)) (pgs_cons (pg_name (i := 3) sc_write_triples.nd rfl (Or.inl rfl)) (pgs_cons (pg_name (i := 4) sc_write_triples.nd rfl (Or.inl rfl)) pgs_nil)))) (pss_one (ps_expr (kBM K rfl (pe_bm PySem.F.plainAttrs_list PySem.F.slot_list_append PySem.F.type_list_append mt_append (pv 1) (pa_cons (pe_op (kADD K rfl) (pe_op (kADD K rfl) (pe_call G_write_number hr (by rfl) T.m_write_number T.k_write_number T.b_write_number .nil pass0 (pa_cons (pv 2) pa_nil)) (pe_call G_write_number hr (by rfl) T.m_write_number T.k_write_number T.b_write_number .nil pass0 (pa_cons (pv 3) pa_nil))) (pe_call G_write_deed hr (by rfl) T.m_write_deed T.k_write_deed T.b_write_deed .nil pass0 (pa_cons (pv 4) pa_nil))) pa_nil)))))) (pss_one (ps_ret (pe_call G_write_list hr (by rfl) T.m_write_list T.k_write_list T.b_write_list .nil pass0 (pa_cons (pv 1) pa_nil)))))), ?_⟩
  rintro l ⟨h1, h2⟩ B
  walk_at "go"
  refine ds_forE' (ch := [2, 3, 4]) ?_
  refine di_anyL (di_list ?_)
  walk_at "go"
  refine ⟨fun k G => ∃ s2 s3 s4, G = [.d (encTs l), .o none ((l.take k).map fun x => bD (wrTr x)), s2, s3, s4], ⟨_, _, _, rfl⟩, fun k G2 d hd ⟨s2, s3, s4, hG⟩ => ?_, fun G2 ⟨s2, s3, s4, hG⟩ => ?_⟩
  · subst hG
    rw [List.getElem?_map] at hd
    obtain ⟨x, hl, rfl⟩ := Option.map_eq_some_iff.mp hd
    have hk := (List.getElem?_eq_some_iff.mp hl).1
    have hx := h2 x (List.mem_of_getElem? hl)
    obtain ⟨r, pl, d⟩ := x
    have q1 : okN r := hx.1
    have q2 : okN pl := hx.2.1
    have q3 : okD d := hx.2.2
    have l1 := num_len q1
    have l2 := num_len q2
    have l3 := dd_len q3
    have et : l.take (k + 1) = l.take k ++ [(r, pl, d)] := by
      rw [List.take_succ, hl]
      rfl
    dsimp only [encTr]
    refine dg_tup rfl (dgs_cons (dg_name (dgs_cons (dg_name (dgs_cons (dg_name (dgs_nil ?_)))))))
    walk_at "go"
    refine ⟨r, okN_40 q1, rfl, ?_⟩
    rintro _ rfl
    walk_at "go"
    refine ⟨pl, okN_40 q2, rfl, ?_⟩
    rintro _ rfl
    walk_at "go"
    refine rw_addL rfl rfl (zz (by simp; omega)) ?_
    walk_at "go"
    refine ⟨d, q3, rfl, ?_⟩
    rintro _ rfl
    walk_at "go"
    refine rw_addL rfl rfl (zz (by simp; omega)) ?_
    walk_at "go"
    refine rm_app rfl (by rw [List.length_map, List.length_take, sizeLine_eq]; omega) ?_
    walk_at "go"
    refine ⟨.d (nD r), .d (nD pl), .d (encDd d), ?_⟩
    rw [et, List.map_append]
    show _ = [_, Sl.o none (_ ++ [PyData.list ((wrNum r ++ wrNum pl ++ wrDd d).map nD)]), _, _, _]
    rw [List.map_append, List.map_append]
    rfl
  · subst hG
    rw [List.length_map, List.take_length]
    refine ds_freeze 1 rfl ?_
    walk_at "go"
    refine ⟨l.map wrTr, ⟨by rw [List.length_map]; omega, ?_⟩, by rw [List.map_map]; rfl, ?_⟩
    · intro k hk
      obtain ⟨c, hc, rfl⟩ := List.mem_map.mp hk
      have := tr_len (h2 c hc)
      omega
    rintro _ rfl
    walk_at "go"
theorem ok_write_packet (T : Tx K mg a) (G_write_triples : FnOk P w K mg base CX0 5 a.f15 a.d15 ["triples"] (spWX K)) : FnOk P w K mg base CX0 6 a.f16 a.d16 ["packet"] (spI K (fun l : List (Nat × Nat × Deed) => [encTs l]) okL (fun l r => r = bR (1 :: wrTs l))) := by
  refine fnI T.F_write_packet sc_write_packet (fun x => ⟨rfl, by decide⟩) fun cdv A outer s H E hr => ⟨_, (pss_one (ps_ret (pe_op (kADD K rfl) (pe_lst (pa_cons pe_int pa_nil)) (pe_call G_write_triples hr (by rfl) T.m_write_triples T.k_write_triples T.b_write_triples .nil pass0 (pa_cons (pv 0) pa_nil))))), ?_⟩
  rintro l hl B
  have l1 := ts_len hl
  walk_at "go"
  refine ⟨l, hl, rfl, ?_⟩
  rintro _ rfl
  walk_at "go"
  refine rw_addL rfl rfl (zz (by simp; omega)) ?_
  walk_at "go"
theorem ok_law_deed (T : Tx K mg a) (G_law_number : FnOk P w K mg base CX0 1 a.f20 a.d20 ["number"] (spW K)) (G_law_text : FnOk P w K mg base CX0 2 a.f21 a.d21 ["text"] (spWT K)) (G_law_mark : FnOk P w K mg base CX0 2 a.f22 a.d22 ["mark"] (spWM K)) :
    FnOk P w K mg base CX0 3 a.f23 a.d23 ["deed"] (spWD K) := by
  replace G_law_number := G_law_number.mono (k := 2) (by decide)
  refine fnI T.F_law_deed sc_law_deed (fun x => ⟨rfl, by decide⟩) fun cdv A outer s H E hr => ⟨_, (pss_cons (ps_if (pt_cmpR (kEQ K rfl hr.units) (pe_ix (kIX K rfl) (pv 0) pe_int (fun _ _ => rfl)) (pe_strM [98, 97, 99, 107] rfl) (nomark _)) (pss_one (ps_ret (pe_op (kADD K rfl) (pe_lst (pa_cons pe_int pa_nil)) (pe_call G_law_number hr (by rfl) T.m_law_number T.k_law_number T.b_law_number .nil pass0 (pa_cons (pe_ix (kIX K rfl) (pv 0) pe_int (fun _ _ => rfl)) pa_nil))))) pss_nil) (pss_cons (ps_set (i := 1) sc_law_deed.nd rfl (Or.inl rfl) (pe_op (kADD K rfl) (pe_op (kADD K rfl) (pe_lst (pa_cons pe_int pa_nil)) (pe_call G_law_text hr (by rfl) T.m_law_text T.k_law_text T.b_law_text .nil pass0 (pa_cons (pe_ix (kIX K rfl) (pv 0) pe_int (fun _ _ => rfl)) pa_nil))) (pe_call G_law_number hr (by rfl) T.m_law_number T.k_law_number T.b_law_number .nil pass0 (pa_cons (pe_callB (kLEN K rfl) (by rfl) T.z_len (by decide +kernel) (pa_cons (pe_ix (kIX K rfl) (pv 0) pe_int (fun _ _ => rfl)) pa_nil)) pa_nil)))) (pss_cons (ps_for PassesOwn.never rfl (kANY K rfl (pe_ix (kIX K rfl) (pv 0) pe_int (fun _ _ => rfl))) (pg_name (i := 2) sc_law_deed.nd rfl (Or.inl rfl)) (pss_one (ps_set (i := 1) sc_law_deed.nd rfl (Or.inl rfl) (pe_op (kADD K rfl) (pv 1) (pe_call G_law_mark hr (by rfl) T.m_law_mark T.k_law_mark T.b_law_mark .nil pass0 (pa_cons (pv 2) pa_nil)))))) (pss_cons (ps_set (i := 1) sc_law_deed.nd rfl (Or.inl rfl) (pe_op (kADD K rfl) (pv 1) (pe_ifExp (pt_cmpR op_isN (pe_ix (kIX K rfl) (pv 0) pe_int (fun _ _ => rfl)) pe_non (nomark _)) (pe_lst (pa_cons pe_int pa_nil)) (pe_op (kADD K rfl) (pe_lst (pa_cons pe_int pa_nil)) (pe_call G_law_mark hr (by rfl) T.m_law_mark T.k_law_mark T.b_law_mark .nil pass0 (pa_cons (pe_ix (kIX K rfl) (pv 0) pe_int (fun _ _ => rfl)) pa_nil)))))) (pss_one (ps_ret (pe_op (kADD K rfl) (pe_op (kADD K rfl) (pv 1) (pe_call G_law_number hr (by rfl) T.m_law_number T.k_law_number T.b_law_number .nil pass0 (pa_cons (pe_ix (kIX K rfl) (pv 0) pe_int (fun _ _ => rfl)) pa_nil))) (pe_call G_law_text hr (by rfl) T.m_law_text T.k_law_text T.b_law_text .nil pass0 (pa_cons (pe_ix (kIX K rfl) (pv 0) pe_int (fun _ _ => rfl)) pa_nil))))))))), ?_⟩
  intro d hd B
  cases d with
  | back n =>
    have hn : okN n := hd
    have l1 := num_len hn
    dsimp only [encDd]
    walk_at "go"
    refine ⟨n, okN_40 hn, rfl, ?_⟩
    rintro _ rfl
    walk_at "go"
    refine rw_addL rfl rfl (zz (by rw [List.length_map]; simp; omega)) ?_
    walk_at "go"
  | chg m r b n t =>
    obtain ⟨hm, ⟨hr1, hr2⟩, hb, hn, ht⟩ := hd
    have l1 := text_len hm
    have l2 := mks_len hr1 hr2
    have l3 := bh_len hb
    have l4 := num_len hn
    have l5 := text_len ht
    have l6 := num_len (okN_s (by omega : r.length ≤ 1000000))
    dsimp only [encDd]
    walk_at "go"
    refine ⟨m, hm, rfl, ?_⟩
    rintro _ rfl
    walk_at "go"
    refine rw_addL rfl rfl (zz (by simp; omega)) ?_
    walk_at "go"
    refine ⟨r.length, okN_40 (okN_s (by omega)), by rw [List.length_map]; rfl, ?_⟩
    rintro _ rfl
    walk_at "go"
    refine rw_addL rfl rfl (zz (by simp; omega)) ?_
    walk_at "go"
    refine ds_forE' (ch := [2]) ?_
    refine di_anyT (di_tup ?_)
    walk_at "go"
    refine ⟨fun k G => ∃ s2, G = [.d (.tuple [.str "change", zD m, .tuple (r.map encMk), encOm b, nD n, zD t]), .o none ((0 :: (wrText m ++ wrNum r.length ++ ((r.take k).map wrMk).flatten)).map nD), s2], ⟨.un, by simp; rfl⟩, fun k G2 d hd ⟨s2, hG⟩ => ?_, fun G2 ⟨s2, hG⟩ => ?_⟩
    · subst hG
      rw [List.getElem?_map] at hd
      obtain ⟨x, hl, rfl⟩ := Option.map_eq_some_iff.mp hd
      have hk := (List.getElem?_eq_some_iff.mp hl).1
      have hx := hr2 x (List.mem_of_getElem? hl)
      have lx := mk_len hx
      have hfl := flat_len (xs := (r.take k).map wrMk) (m := 24) fun l hl => by
        obtain ⟨y, hy, rfl⟩ := List.mem_map.mp hl
        exact mk_len (hr2 y (List.mem_of_mem_take hy))
      rw [List.length_map, List.length_take] at hfl
      have et : r.take (k + 1) = r.take k ++ [x] := by
        rw [List.take_succ, hl]
        rfl
      refine dg_name ?_
      walk_at "go"
      refine ⟨x, hx, rfl, ?_⟩
      rintro _ rfl
      walk_at "go"
      refine rw_addL rfl rfl (zz ?_) ?_
      · rw [List.length_map, List.length_map, List.length_cons, List.length_append, List.length_append]
        omega
      walk_at "go"
      refine ⟨.d (encMk x), ?_⟩
      rw [et]
      simp
    · subst hG
      rw [List.length_map, List.take_length]
      have ew : wrNum r.length ++ (r.map wrMk).flatten = wrList (r.map wrMk) := by rw [wrList, List.length_map]
      rw [List.append_assoc, ew]
      walk_at "gs"
      refine ds_mid' (fun G => G = [.d (.tuple [.str "change", zD m, .tuple (r.map encMk), encOm b, nD n, zD t]), .o none ((0 :: (wrText m ++ wrList (r.map wrMk) ++ wrBh b)).map nD), s2]) ?_ ?_
      · cases b with
        | none =>
          walk_at "go"
          refine rw_addL rfl rfl (zz (by simp; omega)) ?_
          walk_at "go"
          simp [wrBh]
        | some x =>
          have hx := hb x rfl
          have lx := mk_len hx
          dsimp only [encOm]
          walk_at "go"
          refine ⟨x, hx, rfl, ?_⟩
          rintro _ rfl
          walk_at "go"
          refine rw_addL rfl rfl (zz (by simp; omega)) ?_
          walk_at "go"
          refine rw_addL rfl rfl (zz (by simp; omega)) ?_
          walk_at "go"
          simp [wrBh]
      · rintro _ rfl
        walk_at "go"
        refine ⟨n, okN_40 hn, rfl, ?_⟩
        rintro _ rfl
        walk_at "go"
        refine rw_addL rfl rfl (zz (by simp; omega)) ?_
        walk_at "go"
        refine ⟨t, ht, rfl, ?_⟩
        rintro _ rfl
        walk_at "go"
        refine rw_addL rfl rfl (zz (by simp; omega)) ?_
        walk_at "go"
        rw [bR, wrDd]
        simp
theorem ok_law_triples (T : Tx K mg a) (G_law_number : FnOk P w K mg base CX0 1 a.f20 a.d20 ["number"] (spW K)) (G_law_deed : FnOk P w K mg base CX0 3 a.f23 a.d23 ["deed"] (spWD K)) :
    FnOk P w K mg base CX0 4 a.f24 a.d24 ["triples"] (spWX K) := by
  replace G_law_number := G_law_number.mono (k := 3) (by decide)
  refine fnI T.F_law_triples sc_law_triples (fun x => ⟨rfl, by decide⟩) fun cdv A outer s H E hr => ⟨_, (pss_cons (ps_set (i := 1) sc_law_triples.nd rfl (Or.inl rfl) (pe_call G_law_number hr (by rfl) T.m_law_number T.k_law_number T.b_law_number .nil pass0 (pa_cons (pe_callB (kLEN K rfl) (by rfl) T.z_len (by decide +kernel) (pa_cons (pv 0) pa_nil)) pa_nil))) (pss_cons (ps_for PassesOwn.never rfl (kANY K rfl (pv 0)) (kTG K rfl rfl (pgs_cons (pg_name (i := 2) sc_law_triples.nd rfl (Or.inl rfl)) (pgs_cons (pg_name (i := 3) sc_law_triples.nd rfl (Or.inl rfl)) (pgs_cons (pg_name (i := 4) sc_law_triples.nd rfl (Or.inl rfl)) pgs_nil)))) (pss_one (ps_set (i := 1) sc_law_triples.nd rfl (Or.inl rfl) (pe_op (kADD K rfl) (pe_op (kADD K rfl) (pe_op (kADD K rfl) (pv 1) (pe_call G_law_number hr (by rfl) T.m_law_number T.k_law_number T.b_law_number .nil pass0 (pa_cons (pv 2) pa_nil))) (pe_call G_law_number hr (by rfl) T.m_law_number T.k_law_number T.b_law_number .nil pass0 (pa_cons (pv 3) pa_nil))) (pe_call G_law_deed hr (by rfl) T.m_law_deed T.k_law_deed T.b_law_deed .nil pass0 (pa_cons (pv 4) pa_nil)))))) (pss_one (ps_ret (pv 1))))), ?_⟩
  rintro l ⟨h1, h2⟩ B
  have l0 := num_len (okN_s (by omega : l.length ≤ 1000000))
  walk_at "go"
  refine ⟨l.length, okN_40 (okN_s (by omega)), by rw [List.length_map]; rfl, ?_⟩
  rintro _ rfl
  walk_at "go"
  refine ds_forE' (ch := [2, 3, 4]) ?_
  refine di_anyL (di_list ?_)
  walk_at "go"
  refine ⟨fun k G => ∃ s2 s3 s4, G = [.d (encTs l), .o none ((wrNum l.length ++ ((l.take k).map wrTr).flatten).map nD), s2, s3, s4], ⟨.un, .un, .un, by simp; rfl⟩, fun k G2 d hd ⟨s2, s3, s4, hG⟩ => ?_, fun G2 ⟨s2, s3, s4, hG⟩ => ?_⟩
  · subst hG
    rw [List.getElem?_map] at hd
    obtain ⟨x, hl, rfl⟩ := Option.map_eq_some_iff.mp hd
    have hk := (List.getElem?_eq_some_iff.mp hl).1
    have hx := h2 x (List.mem_of_getElem? hl)
    obtain ⟨r, pl, d⟩ := x
    have q1 : okN r := hx.1
    have q2 : okN pl := hx.2.1
    have q3 : okD d := hx.2.2
    have l1 := num_len q1
    have l2 := num_len q2
    have l3 := dd_len q3
    have hfl := flat_len (xs := (l.take k).map wrTr) (m := 4100) fun z hz => by
      obtain ⟨y, hy, rfl⟩ := List.mem_map.mp hz
      exact tr_len (h2 y (List.mem_of_mem_take hy))
    rw [List.length_map, List.length_take] at hfl
    have et : l.take (k + 1) = l.take k ++ [(r, pl, d)] := by
      rw [List.take_succ, hl]
      rfl
    dsimp only [encTr]
    refine dg_tup rfl (dgs_cons (dg_name (dgs_cons (dg_name (dgs_cons (dg_name (dgs_nil ?_)))))))
    walk_at "go"
    refine ⟨r, okN_40 q1, rfl, ?_⟩
    rintro _ rfl
    walk_at "go"
    refine rw_addL rfl rfl (zz ?_) ?_
    · rw [List.length_map, List.length_map, List.length_append]
      omega
    walk_at "go"
    refine ⟨pl, okN_40 q2, rfl, ?_⟩
    rintro _ rfl
    walk_at "go"
    refine rw_addL rfl rfl (zz ?_) ?_
    · rw [List.length_append, List.length_map, List.length_map, List.length_map, List.length_append]
      omega
    walk_at "go"
    refine ⟨d, q3, rfl, ?_⟩
    rintro _ rfl
    walk_at "go"
    refine rw_addL rfl rfl (zz ?_) ?_
    · rw [List.length_append, List.length_append, List.length_map, List.length_map, List.length_map, List.length_map, List.length_append]
      omega
    walk_at "go"
    refine ⟨.d (nD r), .d (nD pl), .d (encDd d), ?_⟩
    rw [et]
    simp [wrTr]
  · subst hG
    rw [List.length_map, List.take_length]
    walk_at "go"
    refine (rt_E0s rfl ?_)
    rw [wrTs, wrList, List.length_map]
theorem dw_lcS {α : Type} (enc : α → PyData) (ok : α → Prop) {q : Option Addr} {s : Nat} {B : Bs} {G : En} {Po0 : Po} {te : TE} {wi : TI} {v : Nat} (G0 : En)
    (h : DI K B G wi fun G1 ds => ∃ (n : Nat) (st : Stt), ds.length = n ∧ n ≤ 1000000 ∧ st.ok ∧ G1 = G0.set s (.o q (encS st)) ∧ (∀ (B' : Bs) d st', Stt.ok st' → DW K B' (((G0.set s (.o q (encS st'))).set v .un).set v (.d d)) te fun G5 r => DL.PW r fun w => ∃ x st'', ok x ∧ Stt.ok st'' ∧ w = .d (enc x) ∧ G5.set v .un = (G0.set s (.o q (encS st''))).set v .un) ∧
      ∀ (l : List α) st', l.length = n → (∀ x ∈ l, ok x) → Stt.ok st' → Po0 ((G0.set s (.o q (encS st'))).set v .un) (.fr (.o none (l.map enc)))) : DW K B G (tLc wi (gName v) tYes te [v]) Po0 := by
  refine dw_lcE (ch := [v]) (fun k hk => hk) ?_
  refine fun S F H R I k => h S F H R I fun J F1 H1 G1 ds e I1 Y ⟨n, st, hds, hn, hst, hG, hs, hp⟩ => k J F1 H1 G1 ds e I1 Y ⟨fun i acc G2 => ∃ (l : List α) (st' : Stt), acc = l.map enc ∧ l.length = i ∧ (∀ x ∈ l, ok x) ∧ st'.ok ∧ G2 = (G0.set s (.o q (encS st'))).set v .un, ⟨[], st, rfl, rfl, (fun _ z => nomatch z), hst, by subst hG; rfl⟩, fun B' i acc G2 d hd ⟨l, st', ha, hl, ho, hst', hG2⟩ => ?_, fun acc G2 ⟨l, st', ha, hl, ho, hst', hG2⟩ => ?_⟩
  · subst hG2 ha
    have hi := (List.getElem?_eq_some_iff.mp hd).1
    refine dg_name (dt_yes ?_)
    show DW K B' _ te _
    refine fun S F H Q I k => hs B' d st' hst' S F H Q I fun w F' H' G' r e V pq => k w F' H' G' r e V ?_
    have hz : (l.map enc).length < sizeLine := by
      rw [List.length_map, hl, sizeLine_eq]
      omega
    have fin : ∀ {x : α} {st'' : Stt} {G5 : En}, ok x → Stt.ok st'' → G5.set v .un = (G0.set s (.o q (encS st''))).set v .un → ∃ (l' : List α) (st3 : Stt), l.map enc ++ [enc x] = l'.map enc ∧ l'.length = i + 1 ∧ (∀ x ∈ l', ok x) ∧ st3.ok ∧ wipeG G5 [v] = (G0.set s (.o q (encS st3))).set v .un := fun {x st'' G5} hx hst'' hG5 => ⟨l ++ [x], st'', by simp, by simp [hl], fun y hy => by
      rcases List.mem_append.mp hy with z | z
      · exact ho y z
      · rw [List.mem_singleton.mp z]
        exact hx, hst'', hG5⟩
    match r, pq with
    | .p w, ⟨x, st'', hx, hst'', hw, hG5⟩ => exact ⟨enc x, hw, hz, fin hx hst'' hG5⟩
    | .fr (.o _ _), ⟨x, st'', hx, hst'', hw, hG5⟩ => exact ⟨enc x, hw, hz, fin hx hst'' hG5⟩
  · subst hG2 ha
    show Po0 (((G0.set s (.o q (encS st'))).set v .un).set v .un) _
    rw [List.set_set]
    exact hp l st' (by rw [hl, hds]) ho hst'
end
end K12
namespace K12
open PySem PySem.Spec PyProof.Rows L2 DL
local macro_rules | `(tactic| walk_at "st") => `(tactic| with_reducible first
  | refine pw_p ?_ | refine pw_o ?_ | refine dw_op ?_ | refine dw_un ?_ | refine dw_int ?_ | refine dw_str ?_ | refine dw_bl ?_ | refine dw_non ?_ | refine dw_ty ?_ | refine da_nil' ?_ | refine da_cons' ?_ | refine dw_sortSetT ?_ | refine dw_CB ?_ | refine dw_BM ?_ | refine dw_BM0 ?_
  | refine dw_tup ?_ | refine dw_lst ?_ | refine dw_notV ?_ | refine dw_and ?_ | refine dw_or ?_ | refine dw_if ?_ | refine dw_chain ?_ | refine dw_sl3 ?_ | refine dw_revT ?_ | refine dw_tupRg1 ?_ | refine dw_lstRg1 ?_ | refine dw_callI ?_ | refine dw_callJ ?_
  | refine dt_test ?_ | refine dt_B ?_ | refine dt_and ?_ | refine dt_or ?_ | refine dt_not ?_ | refine dt_yes ?_ | refine dt_truth ?_
  | refine ds_ret ?_ | refine ds_retN ?_ | refine ds_next ?_ | refine ds_break ?_ | refine ds_cont ?_ | refine ds_drop ?_ | refine ds_if ?_ | refine ds_set ?_
  | refine nx_nxt ?_ | refine rt_nxt ?_ | refine bk_nxt ?_ | refine ct_nxt ?_ | refine nx_lp ?_ | refine rt_lp ?_ | refine bk_lp ?_ | refine ct_lp ?_ | refine asn_d ?_ | refine asn_fr ?_ | refine rt_E0 ?_ | refine rt_E0o ?_ | refine nx_E0 ?_
  | refine dw_newK ?_ | refine dw_dInK ?_ | refine dw_dNotInK ?_ | refine dw_dGetK ?_ | refine ds_dPutK ?_
  | refine tr_b ?_ | refine tr_i ?_ | refine tr_n ?_ | refine tr_T ?_ | refine tr_L ?_
  | refine do_none ?_ | refine do_some ?_ | refine ite_t ?_ | refine ite_f ?_
  | refine rw_addI ?_ | refine rw_sub ?_ | refine rw_cmp ?_ | refine rw_eqI ?_ | refine rw_neI ?_ | refine rw_eqZ ?_ | refine rw_neZ ?_ | refine rw_eqS ?_ | refine rw_neS ?_ | refine rw_eqB ?_ | refine rw_neB ?_ | refine isN_d ?_ | refine notN_d ?_ | refine rw_isB ?_ | refine rw_notB ?_
  | refine rn_intI ?_ | refine rn_intB ?_ | refine rn_max ?_ | refine rn_min ?_ | refine rn_lenT ?_ | refine rn_lenD ?_ | refine rm_sw ?_ | refine isi_int ?_ | refine isi_bool ?_ | refine isi_str ?_ | refine isi_tuple ?_ | refine isi_list ?_ | refine rn_tupT ?_ | refine rn_listT ?_
  | refine ⟨_, rfl, ?_⟩
  | fail)
local macro_rules | `(tactic| walk_at "va") => `(tactic| first
  | ((with_reducible apply dw_var); rfl) | ((with_reducible apply dw_sl); rfl) | ((with_reducible apply dw_slK); rfl) | ((with_reducible apply dw_ob); rfl) | (refine dw_fld (by assumption) (by assumption) rfl rfl ?_)
  | ((with_reducible apply rw_ixL); rfl; rfl) | ((with_reducible apply rw_ixT); rfl)
  | ((with_reducible apply ite_T); rfl) | ((with_reducible apply ite_F); rfl) | ((with_reducible apply tr_o); rfl)
  | refine ⟨_, rfl, szl (Nat.le_of_ble_eq_true rfl), ?_⟩
  | (with_reducible refine rw_mod (by omega) ?_)
  | (with_reducible refine rw_fdiv (by unfold CDiv; omega) ?_)
  | (with_reducible refine rw_mul (by unfold CMul; omega) ?_)
  | refine ⟨szl (Nat.le_of_ble_eq_true rfl), ?_⟩
  | refine ⟨⟨rfl, _, _, rfl⟩, ?_⟩
  | refine ⟨rfl, ?_⟩
  | rfl
  | fail)
local macro_rules | `(tactic| walk_at "go") => `(tactic| repeat' (first | walk_at "st" | (with_reducible refine ds_seq' ?_) | walk_at "va" | fail))
local macro_rules | `(tactic| walk_at "gs") => `(tactic| repeat' (first | walk_at "st" | walk_at "va" | fail))
section
variable {P : Program} {w : World} {K : PySem.W.Frag} {mg : Str → Option Value} {base : Heap} {a : Ad}
/-- drawn: so it is encoded, this is true of it -/
def resA {α : Type} (enc : α → PyData) (ok : α → Prop) (_ : Stt) (l : List PyData) (d : PyData) : Prop := ∃ (st : Stt) (x : α), st.ok ∧ l = encS st ∧ d = enc x ∧ ok x
abbrev spA {α : Type} (K : PySem.W.Frag) (enc : α → PyData) (ok : α → Prop) := spJ K (fun x : Stt => encS x) (fun _ => []) (fun x => x.ok) (resA enc ok)
abbrev numsL : List Nat := [3, 128, 300, 2097152, 1180591620717411303424]
theorem nums_ok {k : Nat} (h : k < 5) : ∃ n, numsL[k]? = some n ∧ 0 < n ∧ n < 2 ^ 71 := by
  match k, h with
  | 0, _ => exact ⟨_, rfl, by decide, by decide⟩
  | 1, _ => exact ⟨_, rfl, by decide, by decide⟩
  | 2, _ => exact ⟨_, rfl, by decide, by decide⟩
  | 3, _ => exact ⟨_, rfl, by decide, by decide⟩
  | 4, _ => exact ⟨_, rfl, by decide, by decide⟩
theorem ok_law_drawn_number (T : Tx K mg a) (G_law_next : FnOk P w K mg base CX0 1 a.f18 a.d18 ["state", "limit"] (spN K)) : FnOk P w K mg base CX0 2 a.f32 a.d32 ["state"] (spA K nD okN) := by
  refine fnJ T.F_law_drawn_number sc_law_drawn_number (fun x => ⟨rfl, by decide⟩) fun cdv A outer s H E hr => ⟨_, (pss_one (ps_ret (pe_call G_law_next hr (by rfl) T.m_law_next T.k_law_next T.b_law_next .nil pass0 (pa_cons (pv 0) (pa_cons (pe_ix (kIX K rfl) (pe_lst (pa_cons pe_int (pa_cons pe_int (pa_cons pe_int (pa_cons (pe_op op_pow pe_int pe_int) (pa_cons (pe_op op_mul (pe_op op_pow pe_int pe_int) pe_int) pa_nil)))))) (pe_call G_law_next hr (by rfl) T.m_law_next T.k_law_next T.b_law_next .nil pass0 (pa_cons (pv 0) (pa_cons pe_int pa_nil))) (fun _ _ => rfl)) pa_nil))))), ?_⟩
  intro st hst p B
  walk_at "go"
  refine rw_pow ⟨by decide, by decide, by decide⟩ ?_
  walk_at "go"
  refine rw_pow ⟨by decide, by decide, by decide⟩ ?_
  walk_at "go"
  refine ⟨(st, 5), 0, some p, _, ⟨hst, by simp, by simp⟩, rfl, rfl, rfl, ?_⟩
  rintro _ _ ⟨st1, k, hst1, rfl, rfl, hk⟩
  have hk : k < 5 := hk
  obtain ⟨m, hm, hm0, hm1⟩ := nums_ok hk
  walk_at "go"
  refine rw_ixL (ds := numsL.map nD) (by rfl) (ati hm) ?_
  walk_at "go"
  refine ⟨(st1, m), 0, some p, _, ⟨hst1, hm0, hm1⟩, rfl, rfl, rfl, ?_⟩
  rintro _ _ ⟨st2, n, hst2, rfl, rfl, hn⟩
  have hn : n < m := hn
  exact rt_E1 rfl ⟨st2, n, hst2, rfl, rfl, Nat.lt_trans hn (Nat.lt_trans hm1 (by decide))⟩
abbrev letL : List Nat := [10, 32, 33, 34, 35, 36, 38, 39, 40, 41, 42, 43, 44, 45, 46, 47, 48, 49, 50, 51, 52, 53, 54, 55, 56, 57, 58, 59, 60, 61, 62, 63, 64, 65, 66, 67, 68, 69, 70, 71, 72, 73, 74, 75, 76, 77, 78, 79, 80, 81, 82, 83, 84, 85, 86, 87, 88, 89, 90, 91, 92, 93, 94, 95, 96, 97, 98, 99, 100, 101, 102, 103, 104, 105, 106, 107, 108, 109, 110, 111, 112, 113, 114, 115, 116, 117, 118, 119, 120, 121, 122, 123, 124, 125, 126]
theorem let_ok {c : Nat} (h : c ∈ letL) : okc c = true := (by decide : ∀ c ∈ letL, okc c = true) c h
abbrev manyL : List Nat := [1, 4, 9, 140]
theorem many_ok {k : Nat} (h : k < 4) : ∃ n, manyL[k]? = some n ∧ 0 < n ∧ n ≤ 140 := by
  match k, h with
  | 0, _ => exact ⟨_, rfl, by decide, by decide⟩
  | 1, _ => exact ⟨_, rfl, by decide, by decide⟩
  | 2, _ => exact ⟨_, rfl, by decide, by decide⟩
  | 3, _ => exact ⟨_, rfl, by decide, by decide⟩
theorem ok_law_drawn_text (T : Tx K mg a) (G_law_next : FnOk P w K mg base CX0 1 a.f18 a.d18 ["state", "limit"] (spN K)) : FnOk P w K mg base CX0 2 a.f33 a.d33 ["state"] (spA K zD okT) := by
  refine fnJ T.F_law_drawn_text sc_law_drawn_text (fun x => ⟨rfl, by decide⟩) fun cdv A outer s H E hr => ⟨_, (pss_cons (ps_set (i := 1) sc_law_drawn_text.nd rfl (Or.inr rfl) (pe_strM [10, 32, 33, 34, 35, 36, 38, 39, 40, 41, 42, 43, 44, 45, 46, 47, 48, 49, 50, 51, 52, 53, 54, 55, 56, 57, 58, 59, 60, 61, 62, 63, 64, 65, 66, 67, 68, 69, 70, 71, 72, 73, 74, 75, 76, 77, 78, 79, 80, 81, 82, 83, 84, 85, 86, 87, 88, 89, 90, 91, 92, 93, 94, 95, 96, 97, 98, 99, 100, 101, 102, 103, 104, 105, 106, 107, 108, 109, 110, 111, 112, 113, 114, 115, 116, 117, 118, 119, 120, 121, 122, 123, 124, 125, 126] rfl)) (pss_one (ps_ret (kBM K rfl (pe_bm PySem.F.plainAttrs_str PySem.F.slot_str_join PySem.F.type_str_join (kJOIN K rfl) (pe_strM [] rfl) (pa_cons (pe_lc (own := [("k", 2)]) (g := gName 2) (by rfl) sc_law_drawn_text.nd (pi_range1 (by rfl) T.z_range (pa_cons (pe_call G_law_next hr (by rfl) T.m_law_next T.k_law_next T.b_law_next .nil pass0 (pa_cons (pv 0) (pa_cons (pe_ix (kIX K rfl) (pe_lst (pa_cons pe_int (pa_cons pe_int (pa_cons pe_int (pa_cons pe_int pa_nil))))) (pe_call G_law_next hr (by rfl) T.m_law_next T.k_law_next T.b_law_next .nil pass0 (pa_cons (pv 0) (pa_cons pe_int pa_nil))) (fun _ _ => rfl)) pa_nil))) pa_nil)) (blkOk_by (own := [("k", 2)]) (N := ["state", "letters", "k"]) (sc := defScope s_law_drawn_text) (by decide +kernel)) (fun _ _ _ _ _ => (pg_name (i := 2) sc_law_drawn_text.nd rfl (by first | exact Or.inl rfl | exact Or.inr rfl))) (fun _ _ _ _ _ => pts_nil) (fun _ _ _ _ _ => (pe_ix (kIX K rfl) (pv 1) (pe_call G_law_next hr (by rfl) T.m_law_next T.k_law_next T.b_law_next .nil pass0 (pa_cons (pv 0) (pa_cons (pe_callB (kLEN K rfl) (by rfl) T.z_len (by decide +kernel) (pa_cons (pv 1) pa_nil)) pa_nil))) (fun _ _ => rfl)))) pa_nil)))))), ?_⟩
  intro st hst p B
  walk_at "go"
  refine dw_lcS zC (fun c => c ∈ letL) (q := some p) (s := 0) [.un, .d (zD letL), .un] ?_
  refine di_rng1 ?_
  walk_at "go"
  refine ⟨(st, 4), 0, some p, _, ⟨hst, by simp, by simp⟩, rfl, rfl, rfl, ?_⟩
  rintro _ _ ⟨st1, k, hst1, rfl, rfl, hk⟩
  have hk : k < 4 := hk
  obtain ⟨m, hm, hm0, hm1⟩ := many_ok hk
  walk_at "go"
  refine rw_ixL (ds := manyL.map nD) rfl (ati hm) ?_
  walk_at "go"
  refine ⟨(st1, m), 0, some p, _, ⟨hst1, hm0, by show m < 2 ^ 71; omega⟩, rfl, rfl, rfl, ?_⟩
  rintro _ _ ⟨st2, n, hst2, rfl, rfl, hn⟩
  have hn : n < m := hn
  walk_at "go"
  refine ⟨by omega, by omega, n, st2, by simp [rngD], by omega, hst2, rfl, fun B' d st' hst' => ?_, fun l st' hl ho hst' => ?_⟩
  · walk_at "go"
    refine rn_lenS (zz (by decide)) ?_
    walk_at "go"
    refine ⟨(st', letL.length), 0, some p, _, ⟨hst', by show 0 < letL.length; decide, by show letL.length < 2 ^ 71; decide⟩, rfl, rfl, rfl, ?_⟩
    rintro _ _ ⟨st3, j, hst3, rfl, rfl, hj⟩
    have hj : j < letL.length := hj
    obtain ⟨c, hc⟩ : ∃ c, letL[j]? = some c := ⟨_, List.getElem?_eq_getElem hj⟩
    walk_at "go"
    refine rw_ixS (z := letL) (zz (by decide)) (atn hc) ?_
    walk_at "go"
    exact ⟨c, st3, List.mem_of_getElem? hc, hst3, rfl, rfl⟩
  · walk_at "go"
    refine rm_join0 rfl (by omega) ?_
    exact rt_E1 rfl ⟨st', l, hst', rfl, rfl, by omega, fun c hc => let_ok (ho c hc)⟩
theorem ok_law_drawn_deed (T : Tx K mg a) (G_law_next : FnOk P w K mg base CX0 1 a.f18 a.d18 ["state", "limit"] (spN K)) (G_law_drawn_number : FnOk P w K mg base CX0 2 a.f32 a.d32 ["state"] (spA K nD okN)) (G_law_drawn_text : FnOk P w K mg base CX0 2 a.f33 a.d33 ["state"] (spA K zD okT)) :
    FnOk P w K mg base CX0 3 a.f34 a.d34 ["state"] (spA K encDd okD) := by
  replace G_law_next := G_law_next.mono (k := 2) (by decide)
  refine fnJ T.F_law_drawn_deed sc_law_drawn_deed (fun x => ⟨rfl, by decide⟩) fun cdv A outer s H E hr => ⟨_, (pss_cons (ps_if (pt_cmpR (kEQ K rfl hr.units) (pe_call G_law_next hr (by rfl) T.m_law_next T.k_law_next T.b_law_next .nil pass0 (pa_cons (pv 0) (pa_cons pe_int pa_nil))) pe_int (nomark _)) (pss_one (ps_ret (pe_tup (pa_cons (pe_strM [98, 97, 99, 107] rfl) (pa_cons (pe_call G_law_drawn_number hr (by rfl) T.m_law_drawn_number T.k_law_drawn_number T.b_law_drawn_number .nil pass0 (pa_cons (pv 0) pa_nil)) pa_nil))))) pss_nil) (pss_cons (ps_set (i := 1) sc_law_drawn_deed.nd rfl (Or.inl rfl) (pe_callTy (kTUP K rfl) (by rfl) T.z_tuple (by decide +kernel) (pa_cons (pe_lc (own := [("k", 3)]) (g := gName 3) (by rfl) sc_law_drawn_deed.nd (pi_range1 (by rfl) T.z_range (pa_cons (pe_call G_law_next hr (by rfl) T.m_law_next T.k_law_next T.b_law_next .nil pass0 (pa_cons (pv 0) (pa_cons pe_int pa_nil))) pa_nil)) (blkOk_by (own := [("k", 3)]) (N := ["state", "marks", "behind", "k"]) (sc := defScope s_law_drawn_deed) (by decide +kernel)) (fun _ _ _ _ _ => (pg_name (i := 3) sc_law_drawn_deed.nd rfl (by first | exact Or.inl rfl | exact Or.inr rfl))) (fun _ _ _ _ _ => pts_nil) (fun _ _ _ _ _ => (pe_tup (pa_cons (pe_call G_law_drawn_number hr (by rfl) T.m_law_drawn_number T.k_law_drawn_number T.b_law_drawn_number .nil pass0 (pa_cons (pv 0) pa_nil)) (pa_cons (pe_call G_law_next hr (by rfl) T.m_law_next T.k_law_next T.b_law_next .nil pass0 (pa_cons (pv 0) (pa_cons pe_int pa_nil))) pa_nil))))) pa_nil))) (pss_cons (ps_set (i := 2) sc_law_drawn_deed.nd rfl (Or.inl rfl) (pe_ix (kIX K rfl) (pe_lst (pa_cons pe_non (pa_cons (pe_tup (pa_cons (pe_call G_law_drawn_number hr (by rfl) T.m_law_drawn_number T.k_law_drawn_number T.b_law_drawn_number .nil pass0 (pa_cons (pv 0) pa_nil)) (pa_cons (pe_call G_law_next hr (by rfl) T.m_law_next T.k_law_next T.b_law_next .nil pass0 (pa_cons (pv 0) (pa_cons pe_int pa_nil))) pa_nil))) pa_nil))) (pe_call G_law_next hr (by rfl) T.m_law_next T.k_law_next T.b_law_next .nil pass0 (pa_cons (pv 0) (pa_cons pe_int pa_nil))) (fun _ _ => rfl))) (pss_one (ps_ret (pe_tup (pa_cons (pe_strM [99, 104, 97, 110, 103, 101] rfl) (pa_cons (pe_call G_law_drawn_text hr (by rfl) T.m_law_drawn_text T.k_law_drawn_text T.b_law_drawn_text .nil pass0 (pa_cons (pv 0) pa_nil)) (pa_cons (pv 1) (pa_cons (pv 2) (pa_cons (pe_call G_law_drawn_number hr (by rfl) T.m_law_drawn_number T.k_law_drawn_number T.b_law_drawn_number .nil pass0 (pa_cons (pv 0) pa_nil)) (pa_cons (pe_call G_law_drawn_text hr (by rfl) T.m_law_drawn_text T.k_law_drawn_text T.b_law_drawn_text .nil pass0 (pa_cons (pv 0) pa_nil)) pa_nil)))))))))))), ?_⟩
  intro st hst p B
  walk_at "go"
  refine ⟨(st, 3), 0, some p, _, ⟨hst, by simp, by simp⟩, rfl, rfl, rfl, ?_⟩
  rintro _ _ ⟨st1, k, hst1, rfl, rfl, hk⟩
  walk_at "go"
  refine ite_k (fun c => ?_) (fun c => ?_)
  · walk_at "go"
    refine ⟨st1, 0, some p, _, hst1, rfl, rfl, rfl, ?_⟩
    rintro _ _ ⟨st2, n, hst2, rfl, rfl, hn⟩
    walk_at "go"
    exact rt_E1 rfl ⟨st2, .back n, hst2, rfl, rfl, hn⟩
  walk_at "go"
  refine dw_lcS encMk okM (q := some p) (s := 0) [.un, .un, .un, .un] ?_
  refine di_rng1 ?_
  walk_at "go"
  refine ⟨(st1, 4), 0, some p, _, ⟨hst1, by simp, by simp⟩, rfl, rfl, rfl, ?_⟩
  rintro _ _ ⟨st2, n, hst2, rfl, rfl, hn⟩
  have hn : n < 4 := hn
  walk_at "go"
  refine ⟨by omega, by omega, n, st2, by simp [rngD], by omega, hst2, rfl, fun B' d st' hst' => ?_, fun l st' hl ho hst' => ?_⟩
  · walk_at "go"
    refine ⟨st', 0, some p, _, hst', rfl, rfl, rfl, ?_⟩
    rintro _ _ ⟨st3, m1, hst3, rfl, rfl, hm1⟩
    walk_at "go"
    refine ⟨(st3, 8), 0, some p, _, ⟨hst3, by simp, by simp⟩, rfl, rfl, rfl, ?_⟩
    rintro _ _ ⟨st4, m2, hst4, rfl, rfl, hm2⟩
    have hm2 : m2 < 8 := hm2
    walk_at "go"
    exact ⟨(m1, m2), st4, ⟨hm1, okN_s (by omega)⟩, hst4, rfl, rfl⟩
  walk_at "go"
  refine rn_tupL rfl ?_
  walk_at "go"
  refine ⟨st', 0, some p, _, hst', rfl, rfl, rfl, ?_⟩
  rintro _ _ ⟨st3, m1, hst3, rfl, rfl, hm1⟩
  walk_at "go"
  refine ⟨(st3, 8), 0, some p, _, ⟨hst3, by simp, by simp⟩, rfl, rfl, rfl, ?_⟩
  rintro _ _ ⟨st4, m2, hst4, rfl, rfl, hm2⟩
  have hm2 : m2 < 8 := hm2
  walk_at "go"
  refine ⟨(st4, 2), 0, some p, _, ⟨hst4, by simp, by simp⟩, rfl, rfl, rfl, ?_⟩
  rintro _ _ ⟨st5, k2, hst5, rfl, rfl, hk2⟩
  have hk2 : k2 < 2 := hk2
  walk_at "go"
  obtain ⟨b, hb, hb2⟩ : ∃ b : Option (Nat × Nat), ([none, some (m1, m2)] : List (Option (Nat × Nat)))[k2]? = some b ∧ ∀ x, b = some x → okM x := by
    match k2, hk2 with
    | 0, _ => exact ⟨none, rfl, fun x z => nomatch z⟩
    | 1, _ => exact ⟨some (m1, m2), rfl, fun x z => by cases z; exact ⟨hm1, okN_s (by omega)⟩⟩
  refine rw_ixL (ds := ([none, some (m1, m2)] : List (Option (Nat × Nat))).map encOm) rfl (ati hb) ?_
  walk_at "go"
  refine ⟨st5, 0, some p, _, hst5, rfl, rfl, rfl, ?_⟩
  rintro _ _ ⟨st6, t1, hst6, rfl, rfl, ht1⟩
  walk_at "go"
  refine ⟨st6, 0, some p, _, hst6, rfl, rfl, rfl, ?_⟩
  rintro _ _ ⟨st7, n7, hst7, rfl, rfl, hn7⟩
  walk_at "go"
  refine ⟨st7, 0, some p, _, hst7, rfl, rfl, rfl, ?_⟩
  rintro _ _ ⟨st8, t8, hst8, rfl, rfl, ht8⟩
  walk_at "go"
  exact rt_E1 rfl ⟨st8, .chg t1 l b n7 t8, hst8, rfl, rfl, ht1, ⟨by omega, ho⟩, hb2, hn7, ht8⟩
abbrev bytL : List Nat := [0, 1, 2, 37, 127, 128, 255]
abbrev limL : List Nat := [3, 256]
theorem at_some {l : List Nat} {k : Nat} (h : k < l.length) : ∃ b, l[k]? = some b := ⟨_, List.getElem?_eq_getElem h⟩
theorem lim_ok {k : Nat} (h : k < 2) : ∃ n, limL[k]? = some n ∧ 0 < n ∧ n ≤ 256 := by
  match k, h with
  | 0, _ => exact ⟨_, rfl, by decide, by decide⟩
  | 1, _ => exact ⟨_, rfl, by decide, by decide⟩
def resP (_ : Stt × List Nat) (l : List PyData) (d : PyData) : Prop := ∃ (st : Stt) (ds : List Nat), st.ok ∧ l = encS st ∧ d = bD ds ∧ ds.length ≤ 100000
abbrev spP (K : PySem.W.Frag) := spJ K (fun x : Stt × List Nat => encS x.1) (fun x => [bD x.2]) (fun x => x.1.ok ∧ x.2.length ≤ 60000) resP
theorem ok_law_spoilt (T : Tx K mg a) (G_law_next : FnOk P w K mg base CX0 1 a.f18 a.d18 ["state", "limit"] (spN K)) : FnOk P w K mg base CX0 2 a.f35 a.d35 ["state", "data"] (spP K) := by
  refine fnJ T.F_law_spoilt sc_law_spoilt (fun x => ⟨rfl, by decide⟩) fun cdv A outer s H E hr => ⟨_, (pss_cons (ps_set (i := 2) sc_law_spoilt.nd rfl (Or.inl rfl) (pe_call G_law_next hr (by rfl) T.m_law_next T.k_law_next T.b_law_next .nil pass0 (pa_cons (pv 0) (pa_cons (pe_op (kADD K rfl) (pe_callB (kLEN K rfl) (by rfl) T.z_len (by decide +kernel) (pa_cons (pv 1) pa_nil)) pe_int) pa_nil)))) (pss_cons (ps_set (i := 3) sc_law_spoilt.nd rfl (Or.inl rfl) (pe_ix (kIX K rfl) (pe_lst (pa_cons pe_int (pa_cons pe_int (pa_cons pe_int (pa_cons pe_int (pa_cons pe_int (pa_cons pe_int (pa_cons pe_int pa_nil)))))))) (pe_call G_law_next hr (by rfl) T.m_law_next T.k_law_next T.b_law_next .nil pass0 (pa_cons (pv 0) (pa_cons pe_int pa_nil))) (fun _ _ => rfl))) (pss_cons (ps_set (i := 4) sc_law_spoilt.nd rfl (Or.inl rfl) (pe_call G_law_next hr (by rfl) T.m_law_next T.k_law_next T.b_law_next .nil pass0 (pa_cons (pv 0) (pa_cons pe_int pa_nil)))) (pss_cons (ps_if (pt_cmpR (kEQ K rfl hr.units) (pv 4) pe_int (nomark _)) (pss_one (ps_ret (pe_slice (kSLC K rfl) (pv 1) po_none (po_some (pv 2))))) pss_nil) (pss_cons (ps_if (pt_cmpR (kEQ K rfl hr.units) (pv 4) pe_int (nomark _)) (pss_one (ps_ret (pe_op (kADD K rfl) (pe_slice (kSLC K rfl) (pv 1) po_none (po_some (pv 2))) (pe_slice (kSLC K rfl) (pv 1) (po_some (pe_op (kADD K rfl) (pv 2) pe_int)) po_none)))) pss_nil) (pss_cons (ps_if (pt_cmpR (kEQ K rfl hr.units) (pv 4) pe_int (nomark _)) (pss_one (ps_ret (pe_op (kADD K rfl) (pe_op (kADD K rfl) (pe_slice (kSLC K rfl) (pv 1) po_none (po_some (pv 2))) (pe_lst (pa_cons (pv 3) pa_nil))) (pe_slice (kSLC K rfl) (pv 1) (po_some (pv 2)) po_none)))) pss_nil) (pss_cons (ps_if (pt_cmpR (kEQ K rfl hr.units) (pv 4) pe_int (nomark _)) (pss_one (ps_ret (pe_op (kADD K rfl) (pe_op (kADD K rfl) (pe_slice (kSLC K rfl) (pv 1) po_none (po_some (pv 2))) (pe_lst (pa_cons (pv 3) pa_nil))) (pe_slice (kSLC K rfl) (pv 1) (po_some (pe_op (kADD K rfl) (pv 2) pe_int)) po_none)))) pss_nil) (pss_one (ps_ret (pe_lc (own := [("k", 5)]) (g := gName 5) (by rfl) sc_law_spoilt.nd (pi_range1 (by rfl) T.z_range (pa_cons (pe_call G_law_next hr (by rfl) T.m_law_next T.k_law_next T.b_law_next .nil pass0 (pa_cons (pv 0) (pa_cons pe_int pa_nil))) pa_nil)) (blkOk_by (own := [("k", 5)]) (N := ["state", "data", "place", "byte", "pick", "k"]) (sc := defScope s_law_spoilt) (by decide +kernel)) (fun _ _ _ _ _ => (pg_name (i := 5) sc_law_spoilt.nd rfl (by first | exact Or.inl rfl | exact Or.inr rfl))) (fun _ _ _ _ _ => pts_nil) (fun _ _ _ _ _ => (pe_call G_law_next hr (by rfl) T.m_law_next T.k_law_next T.b_law_next .nil pass0 (pa_cons (pv 0) (pa_cons (pe_ix (kIX K rfl) (pe_lst (pa_cons pe_int (pa_cons pe_int pa_nil))) (pe_call G_law_next hr (by rfl) T.m_law_next T.k_law_next T.b_law_next .nil pass0 (pa_cons (pv 0) (pa_cons pe_int pa_nil))) (fun _ _ => rfl)) pa_nil)))))))))))))), ?_⟩
  rintro ⟨st, ds⟩ ⟨hst, h1⟩ p B
  have h1 : ds.length ≤ 60000 := h1
  dsimp only
  walk_at "go"
  refine ⟨(st, ds.length + 1), 0, some p, _, ⟨hst, by simp, by show ds.length + 1 < 2 ^ 71; omega⟩, rfl, by rw [List.length_map]; rfl, rfl, ?_⟩
  rintro _ _ ⟨st1, pl, hst1, rfl, rfl, hpl⟩
  have hpl : pl < ds.length + 1 := hpl
  walk_at "go"
  refine ⟨(st1, 7), 0, some p, _, ⟨hst1, by simp, by simp⟩, rfl, rfl, rfl, ?_⟩
  rintro _ _ ⟨st2, k2, hst2, rfl, rfl, hk2⟩
  have hk2 : k2 < 7 := hk2
  obtain ⟨b, hb⟩ := at_some (l := bytL) hk2
  walk_at "go"
  refine rw_ixL (ds := bytL.map nD) rfl (ati hb) ?_
  walk_at "go"
  refine ⟨(st2, 5), 0, some p, _, ⟨hst2, by simp, by simp⟩, rfl, rfl, rfl, ?_⟩
  rintro _ _ ⟨st3, pk, hst3, rfl, rfl, hpk⟩
  have ep : (pl : Int) + 1 = ((pl + 1 : Nat) : Int) := by omega
  walk_at "go"
  refine ite_k (fun c => ?_) (fun c => ?_)
  · walk_at "go"
    refine rs_Lto rfl ?_
    exact rt_E1o (o := none) rfl ⟨st3, ds.take pl, hst3, rfl, by rw [bD, List.map_take], by rw [List.length_take]; omega⟩
  walk_at "go"
  refine ite_k (fun c => ?_) (fun c => ?_)
  · walk_at "go"
    refine rs_Lto rfl ?_
    walk_at "go"
    refine rs_L rfl ?_
    rw [ep, cut_from]
    walk_at "go"
    refine rw_addL rfl rfl (zz (by simp; omega)) ?_
    exact rt_E1o (o := none) rfl ⟨st3, ds.take pl ++ ds.drop (pl + 1), hst3, rfl, by rw [bD, List.map_append, List.map_take, List.map_drop], by simp; omega⟩
  walk_at "go"
  refine ite_k (fun c => ?_) (fun c => ?_)
  · walk_at "go"
    refine rs_Lto rfl ?_
    walk_at "go"
    refine rw_addL rfl rfl (zz (by simp; omega)) ?_
    walk_at "go"
    refine rs_L rfl ?_
    rw [cut_from]
    walk_at "go"
    refine rw_addL rfl rfl (zz (by simp; omega)) ?_
    exact rt_E1o (o := none) rfl ⟨st3, ds.take pl ++ [b] ++ ds.drop pl, hst3, rfl, by simp [bD, List.map_take, List.map_drop], by simp; omega⟩
  walk_at "go"
  refine ite_k (fun c => ?_) (fun c => ?_)
  · walk_at "go"
    refine rs_Lto rfl ?_
    walk_at "go"
    refine rw_addL rfl rfl (zz (by simp; omega)) ?_
    walk_at "go"
    refine rs_L rfl ?_
    rw [ep, cut_from]
    walk_at "go"
    refine rw_addL rfl rfl (zz (by simp; omega)) ?_
    exact rt_E1o (o := none) rfl ⟨st3, ds.take pl ++ [b] ++ ds.drop (pl + 1), hst3, rfl, by simp [bD, List.map_take, List.map_drop], by simp; omega⟩
  walk_at "go"
  refine dw_lcS nD (fun _ => True) (q := some p) (s := 0) [.un, .d (bD ds), .d (nD pl), .d (nD b), .d (nD pk), .un] ?_
  refine di_rng1 ?_
  walk_at "go"
  refine ⟨(st3, 12), 0, some p, _, ⟨hst3, by simp, by simp⟩, rfl, rfl, rfl, ?_⟩
  rintro _ _ ⟨st4, n, hst4, rfl, rfl, hn⟩
  have hn : n < 12 := hn
  walk_at "go"
  refine ⟨by omega, by omega, n, st4, by simp [rngD], by omega, hst4, rfl, fun B' d st' hst' => ?_, fun l st' hl ho hst' => ?_⟩
  · walk_at "go"
    refine ⟨(st', 2), 0, some p, _, ⟨hst', by simp, by simp⟩, rfl, rfl, rfl, ?_⟩
    rintro _ _ ⟨st5, k5, hst5, rfl, rfl, hk5⟩
    have hk5 : k5 < 2 := hk5
    obtain ⟨m, hm, hm0, hm1⟩ := lim_ok hk5
    walk_at "go"
    refine rw_ixL (ds := limL.map nD) rfl (ati hm) ?_
    walk_at "go"
    refine ⟨(st5, m), 0, some p, _, ⟨hst5, hm0, by show m < 2 ^ 71; omega⟩, rfl, rfl, rfl, ?_⟩
    rintro _ _ ⟨st6, j, hst6, rfl, rfl, hj⟩
    exact ⟨j, st6, True.intro, hst6, rfl, rfl⟩
  · exact rt_E1o (o := none) rfl ⟨st', l, hst', rfl, rfl, by omega⟩
end
end K12
namespace K12
open PySem PySem.Spec PyProof.Rows L2 DL
local macro_rules | `(tactic| walk_at "st") => `(tactic| with_reducible first
  | refine pw_p ?_ | refine pw_o ?_ | refine dw_op ?_ | refine dw_un ?_ | refine dw_int ?_ | refine dw_str ?_ | refine dw_bl ?_ | refine dw_non ?_ | refine dw_ty ?_ | refine da_nil' ?_ | refine da_cons' ?_ | refine dw_sortSetT ?_ | refine dw_CB ?_ | refine dw_BM ?_ | refine dw_BM0 ?_
  | refine dw_tup ?_ | refine dw_lst ?_ | refine dw_notV ?_ | refine dw_and ?_ | refine dw_or ?_ | refine dw_if ?_ | refine dw_chain ?_ | refine dw_sl3 ?_ | refine dw_revT ?_ | refine dw_tupRg1 ?_ | refine dw_lstRg1 ?_ | refine dw_callI ?_ | refine dw_callJ ?_
  | refine dt_test ?_ | refine dt_B ?_ | refine dt_and ?_ | refine dt_or ?_ | refine dt_not ?_ | refine dt_yes ?_ | refine dt_truth ?_
  | refine ds_ret ?_ | refine ds_retN ?_ | refine ds_next ?_ | refine ds_break ?_ | refine ds_cont ?_ | refine ds_drop ?_ | refine ds_if ?_ | refine ds_set ?_
  | refine nx_nxt ?_ | refine rt_nxt ?_ | refine bk_nxt ?_ | refine ct_nxt ?_ | refine nx_lp ?_ | refine rt_lp ?_ | refine bk_lp ?_ | refine ct_lp ?_ | refine asn_d ?_ | refine asn_fr ?_ | refine rt_E0 ?_ | refine rt_E0o ?_ | refine nx_E0 ?_
  | refine dw_newK ?_ | refine dw_dInK ?_ | refine dw_dNotInK ?_ | refine dw_dGetK ?_ | refine ds_dPutK ?_
  | refine tr_b ?_ | refine tr_i ?_ | refine tr_n ?_ | refine tr_T ?_ | refine tr_L ?_
  | refine do_none ?_ | refine do_some ?_ | refine ite_t ?_ | refine ite_f ?_
  | refine rw_addI ?_ | refine rw_sub ?_ | refine rw_cmp ?_ | refine rw_eqI ?_ | refine rw_neI ?_ | refine rw_eqZ ?_ | refine rw_neZ ?_ | refine rw_eqS ?_ | refine rw_neS ?_ | refine rw_eqB ?_ | refine rw_neB ?_ | refine isN_d ?_ | refine notN_d ?_ | refine rw_isB ?_ | refine rw_notB ?_
  | refine rn_intI ?_ | refine rn_intB ?_ | refine rn_max ?_ | refine rn_min ?_ | refine rn_lenT ?_ | refine rn_lenD ?_ | refine rm_sw ?_ | refine isi_int ?_ | refine isi_bool ?_ | refine isi_str ?_ | refine isi_tuple ?_ | refine isi_list ?_ | refine rn_tupT ?_ | refine rn_listT ?_
  | refine ⟨_, rfl, ?_⟩
  | fail)
local macro_rules | `(tactic| walk_at "va") => `(tactic| first
  | ((with_reducible apply dw_var); rfl) | ((with_reducible apply dw_sl); rfl) | ((with_reducible apply dw_slK); rfl) | ((with_reducible apply dw_ob); rfl) | (refine dw_fld (by assumption) (by assumption) rfl rfl ?_)
  | ((with_reducible apply rw_ixL); rfl; rfl) | ((with_reducible apply rw_ixT); rfl)
  | ((with_reducible apply ite_T); rfl) | ((with_reducible apply ite_F); rfl) | ((with_reducible apply tr_o); rfl)
  | refine ⟨_, rfl, szl (Nat.le_of_ble_eq_true rfl), ?_⟩
  | (with_reducible refine rw_mod (by omega) ?_)
  | (with_reducible refine rw_fdiv (by unfold CDiv; omega) ?_)
  | (with_reducible refine rw_mul (by unfold CMul; omega) ?_)
  | refine ⟨szl (Nat.le_of_ble_eq_true rfl), ?_⟩
  | refine ⟨⟨rfl, _, _, rfl⟩, ?_⟩
  | refine ⟨rfl, ?_⟩
  | rfl
  | fail)
local macro_rules | `(tactic| walk_at "go") => `(tactic| repeat' (first | walk_at "st" | (with_reducible refine ds_seq' ?_) | walk_at "va" | fail))
local macro_rules | `(tactic| walk_at "gs") => `(tactic| repeat' (first | walk_at "st" | walk_at "va" | fail))
/-- a reader is made of a list, which is only copied -/
def spInit (K : PySem.W.Frag) (C : Addr) : Sp := fun vs H Q _ => ∃ x dx p us, vs = [.ref x, .ref p] ∧ H x = some (.ins C dx []) ∧ H p = some (.lst us) ∧
  ∀ q, H q = none → Q .non (upd (upd (upd H q (.lst us)) x (.ins C dx [("data", .ref q)])) x (.ins C dx (L2.putF "at" (.int 0) [("data", .ref q)])))
section
variable {P : Program} {w : World} {K : PySem.W.Frag} {mg : Str → Option Value} {base : Heap} {a : Ad}
theorem ok_init (T : Tx K mg a) : FnOk P w K mg base CX0 1 a.f8_0 a.d8_0 ["self", "data"] (spInit K a.c_Reader) := by
  refine T.F_Reader_init.ok sc_Reader_init (fun vs H Q E h => ?_) (fun cdv A outer s H vs Q E hr h => ?_)
  · obtain ⟨x, dx, p, us, rfl, _⟩ := h
    rfl
  · obtain ⟨x, dx, p, us, rfl, hx, hp, q⟩ := h
    refine ⟨_, (pss_cons (kSFLD K rfl (ps_fld (pv 0) (pe_callTy (kLIST K rfl) (by rfl) T.z_list (by decide +kernel) (pa_cons (pv 1) pa_nil)) rfl)) (pss_one (kSFLD K rfl (ps_fld (pv 0) pe_int rfl)))), ?_⟩
    have hq : ∀ c, H c = none → x ≠ c := fun c hc z => by
      subst z
      rw [hx] at hc
      cases hc
    exact ⟨V.ref p, rfl, p, us, rfl, .inl (SqL.of hp), fun c hc => ⟨V.ref x, rfl, x, a.c_Reader, dx, [], rfl, by rw [upd_ne (hq c hc)]; exact hx, T.cl_Reader, T.na_Reader_data, by decide, V.ref x, rfl, x, a.c_Reader, dx, _, rfl, upd_same, T.cl_Reader, T.na_Reader_at, (by show 1 < 1000; decide), q c hc⟩⟩
theorem dw_mkR {C : Addr} {B : Bs} {G : En} {Po0 : Po} {t : TA} {E : XK} (h : DA K B G t fun G1 ws => ∃ w ds, ws = [w] ∧ wd G1 w = some (bD ds) ∧ Po0 G1 (.fr (Sl.ob K C (rdF ds 0) none))) : DW K B G (tMake C (spInit K C) [] E t) Po0 := fun S F H Q I k => by
  refine h S F H _ I fun vs F1 H1 G1 ws e1 I1 hv ⟨w, ds, hw, hd, hp⟩ x dx nx nd hne => ?_
  subst hw
  obtain ⟨v, rfl, h1⟩ := vws1 hv
  obtain ⟨p, us, rfl, hpp, ha⟩ := wd_list I1 h1 hd
  have px : p ≠ x := fun z => by
    rw [z, nx] at hpp
    cases hpp
  have pd : p ≠ dx := fun z => by
    rw [z, nd] at hpp
    cases hpp
  refine ⟨x, dx, p, us, rfl, upd_same, by rw [upd_ne px, upd_ne pd]; exact hpp, fun q hq => ⟨rfl, ?_⟩⟩
  have qx : q ≠ x := fun z => by
    rw [z, upd_same] at hq
    cases hq
  have qd : q ≠ dx := fun z => by
    rw [z, upd_ne hne, upd_same] at hq
    cases hq
  have nq : H1 q = none := by
    rw [upd_ne qx, upd_ne qd] at hq
    exact hq
  have old : ∀ b o, H1 b = some o → b ≠ x ∧ b ≠ dx ∧ b ≠ q := fun b o hb => ⟨fun z => (by rw [z, nx] at hb; cases hb), fun z => (by rw [z, nd] at hb; cases hb), fun z => (by rw [z, nq] at hb; cases hb)⟩
  have eH : Ex H1 (upd (upd (upd (upd (upd H1 dx (.own x)) x (.ins C dx [])) q (.lst us)) x (.ins C dx [("data", .ref q)])) x (.ins C dx (L2.putF "at" (.int 0) [("data", .ref q)]))) := fun b o hb => by
    obtain ⟨z1, z2, z3⟩ := old b o hb
    rw [upd_ne z1, upd_ne z1, upd_ne z3, upd_ne z1, upd_ne z2]
    exact hb
  have nF : F1 q = none := I1.fnone nq
  have hQq : (upd (upd (upd (upd (upd H1 dx (.own x)) x (.ins C dx [])) q (.lst us)) x (.ins C dx [("data", .ref q)])) x (.ins C dx (L2.putF "at" (.int 0) [("data", .ref q)]))) q = some (.lst us) := by
    rw [upd_ne qx, upd_ne qx, upd_same]
  have eq : L2.putF "at" (V.int 0) [(("data" : Str), V.ref q)] = zf (rdF ds 0) [.ref q, .int 0] := by
    show (if ("data" : Str) = "at" then _ else _ :: _) = _
    rw [if_neg (by decide)]
    rfl
  refine k (.ref x) (upd F1 q (.lst us)) _ G1 (.fr (Sl.ob K C (rdF ds 0) none)) (e1.trans (Ex.new nF)) ?_ hp
  refine I1.add (Ex.new nF) eH (fun b o hb => ?_) (fun b o hb hn => ?_) (some (.ref x)) (fun b => b = x ∨ b = dx) (.inr ⟨_, rfl, ⟨x, dx, [.ref q, .int 0], rfl, ?_, ?_, hne, ?_, .inl rfl, .inr rfl⟩, fun _ z => nomatch z⟩) fun b hb => ⟨?_, ?_, ?_⟩
  · by_cases z : b = q
    · subst z
      rw [upd_same] at hb
      rw [hQq]
      exact hb
    · rw [upd_ne z] at hb
      exact eH b o (I1.ex b o hb)
  · by_cases z : b = q
    · subst z
      exact nq
    · rw [upd_ne z, hn] at hb
      cases hb
  · rw [upd_same, eq]
  · rw [upd_ne hne, upd_ne hne, upd_ne (Ne.symm qd), upd_ne hne, upd_same]
  · exact .cons (.lst upd_same (da_mono (Ex.new nF) ha)) (.cons (.int 0) .nil)
  · rcases hb with z | z
    · rw [z]
      exact nx
    · rw [z]
      exact nd
  · rcases hb with z | z
    · rw [z, upd_ne (Ne.symm qx)]
      exact I1.fnone nx
    · rw [z, upd_ne (Ne.symm qd)]
      exact I1.fnone nd
  · rcases hb with z | z
    · rw [z, upd_same]
      exact fun z => by cases z
    · rw [z, upd_ne hne, upd_ne hne, upd_ne (Ne.symm qd), upd_ne hne, upd_same]
      exact fun z => by cases z
end
end K12
namespace K12
open PySem PySem.Spec PyProof.Rows L2 DL
local macro_rules | `(tactic| walk_at "st") => `(tactic| with_reducible first
  | refine pw_p ?_ | refine pw_o ?_ | refine dw_op ?_ | refine dw_un ?_ | refine dw_int ?_ | refine dw_str ?_ | refine dw_bl ?_ | refine dw_non ?_ | refine dw_ty ?_ | refine da_nil' ?_ | refine da_cons' ?_ | refine dw_sortSetT ?_ | refine dw_CB ?_ | refine dw_BM ?_ | refine dw_BM0 ?_
  | refine dw_tup ?_ | refine dw_lst ?_ | refine dw_notV ?_ | refine dw_and ?_ | refine dw_or ?_ | refine dw_if ?_ | refine dw_chain ?_ | refine dw_sl3 ?_ | refine dw_revT ?_ | refine dw_tupRg1 ?_ | refine dw_lstRg1 ?_ | refine dw_callI ?_ | refine dw_callJ ?_
  | refine dt_test ?_ | refine dt_B ?_ | refine dt_and ?_ | refine dt_or ?_ | refine dt_not ?_ | refine dt_yes ?_ | refine dt_truth ?_
  | refine ds_ret ?_ | refine ds_retN ?_ | refine ds_next ?_ | refine ds_break ?_ | refine ds_cont ?_ | refine ds_drop ?_ | refine ds_if ?_ | refine ds_set ?_
  | refine nx_nxt ?_ | refine rt_nxt ?_ | refine bk_nxt ?_ | refine ct_nxt ?_ | refine nx_lp ?_ | refine rt_lp ?_ | refine bk_lp ?_ | refine ct_lp ?_ | refine asn_d ?_ | refine asn_fr ?_ | refine rt_E0 ?_ | refine rt_E0o ?_ | refine nx_E0 ?_
  | refine dw_newK ?_ | refine dw_dInK ?_ | refine dw_dNotInK ?_ | refine dw_dGetK ?_ | refine ds_dPutK ?_
  | refine tr_b ?_ | refine tr_i ?_ | refine tr_n ?_ | refine tr_T ?_ | refine tr_L ?_
  | refine do_none ?_ | refine do_some ?_ | refine ite_t ?_ | refine ite_f ?_
  | refine rw_addI ?_ | refine rw_sub ?_ | refine rw_cmp ?_ | refine rw_eqI ?_ | refine rw_neI ?_ | refine rw_eqZ ?_ | refine rw_neZ ?_ | refine rw_eqS ?_ | refine rw_neS ?_ | refine rw_eqB ?_ | refine rw_neB ?_ | refine isN_d ?_ | refine notN_d ?_ | refine rw_isB ?_ | refine rw_notB ?_
  | refine rn_intI ?_ | refine rn_intB ?_ | refine rn_max ?_ | refine rn_min ?_ | refine rn_lenT ?_ | refine rn_lenD ?_ | refine rm_sw ?_ | refine isi_int ?_ | refine isi_bool ?_ | refine isi_str ?_ | refine isi_tuple ?_ | refine isi_list ?_ | refine rn_tupT ?_ | refine rn_listT ?_
  | refine ⟨_, rfl, ?_⟩
  | fail)
local macro_rules | `(tactic| walk_at "va") => `(tactic| first
  | ((with_reducible apply dw_var); rfl) | ((with_reducible apply dw_sl); rfl) | ((with_reducible apply dw_slK); rfl) | ((with_reducible apply dw_ob); rfl) | (refine dw_fld (by assumption) (by assumption) rfl rfl ?_)
  | ((with_reducible apply rw_ixL); rfl; rfl) | ((with_reducible apply rw_ixT); rfl)
  | ((with_reducible apply ite_T); rfl) | ((with_reducible apply ite_F); rfl) | ((with_reducible apply tr_o); rfl)
  | refine ⟨_, rfl, szl (Nat.le_of_ble_eq_true rfl), ?_⟩
  | (with_reducible refine rw_mod (by omega) ?_)
  | (with_reducible refine rw_fdiv (by unfold CDiv; omega) ?_)
  | (with_reducible refine rw_mul (by unfold CMul; omega) ?_)
  | refine ⟨szl (Nat.le_of_ble_eq_true rfl), ?_⟩
  | refine ⟨⟨rfl, _, _, rfl⟩, ?_⟩
  | refine ⟨rfl, ?_⟩
  | rfl
  | fail)
local macro_rules | `(tactic| walk_at "go") => `(tactic| repeat' (first | walk_at "st" | (with_reducible refine ds_seq' ?_) | walk_at "va" | fail))
local macro_rules | `(tactic| walk_at "gs") => `(tactic| repeat' (first | walk_at "st" | walk_at "va" | fail))
def rdEnd : Rd' Unit := fun ds i => if i < ds.length then none else some ((), i)
section
variable {P : Program} {w : World} {K : PySem.W.Frag} {mg : Str → Option Value} {base : Heap} {a : Ad}
/-- x.m() within try -/
theorem dw_RE {α : Type} {C D : Addr} {f : Rd' α} {enc : α → Rs} {m : Str} {ds : List Nat} {i n : Nat} {B : Bs} {G : En} {q0 : Option Addr} {W : WX} {Po0 : Po} {ex0 : Value → En → Prop} (hG : G[n]? = some (Sl.ob K C (rdF ds i) q0)) (h1 : ds.length ≤ 1000000) (h2 : i ≤ ds.length) (hE : TkW K B ex0 W)
    (hm : (rdF ds i).lookup m = none) (q : ∀ b j, f ds i = some (b, j) → Po0 (G.set n (Sl.ob K C (rdF ds j) q0)) (enc b)) (qx : ∀ s, f ds i = none → ex0 (.ref D) (G.set n s)) :
    DW K B G (tMethE C m (spR K C D f enc) (WE W) (tVar n) tNil) Po0 := by
  refine dw_methE hG hm ?_
  refine dw_callHS hE ?_
  refine da_cons' (dw_ob hG (pw_p (da_nil' ?_)))
  refine ⟨(ds, i), n, _, ⟨h1, h2⟩, rfl, hG, rfl, rfl, ?_, ?_⟩
  · rintro s' r ht ⟨b, j, hf, rfl, rfl⟩
    exact q b j hf
  · rintro s' c ht ⟨hf, rfl⟩
    exact qx _ hf
theorem ok_law_told (T : Tx K mg a) (G_Reader_init : FnOk P w K mg base CX0 1 a.f8_0 a.d8_0 ["self", "data"] (spInit K a.c_Reader)) (G_Reader_read_number : FnOk P w K mg base (L2.CX P w) 2 a.f8_4 a.d8_4 ["self"] (spR K a.c_Reader a.c_DamagedPacket rdNum (pd nD)))
    (G_Reader_read_string : FnOk P w K mg base (L2.CX P w) 4 a.f8_7 a.d8_7 ["self"] (spR K a.c_Reader a.c_DamagedPacket rdStr (pd zD))) (G_Reader_read_deed : FnOk P w K mg base (L2.CX P w) 5 a.f8_9 a.d8_9 ["self"] (spR K a.c_Reader a.c_DamagedPacket rdDeed (pd encDd)))
    (G_Reader_read_triples : FnOk P w K mg base (L2.CX P w) 7 a.f8_12 a.d8_12 ["self"] (spR K a.c_Reader a.c_DamagedPacket rdTriples (lst encTr))) (G_Reader_read_packet : FnOk P w K mg base (L2.CX P w) 8 a.f8_13 a.d8_13 ["self"] (spR K a.c_Reader a.c_DamagedPacket rdPacket (lst encTr)))
    (G_Reader_end : FnOk P w K mg base (L2.CX P w) 1 a.f8_3 a.d8_3 ["self"] (spR K a.c_Reader a.c_DamagedPacket rdEnd (fun _ => .p (.d .none)))) :
    FnOk P w K mg base CX0 10 a.f36 a.d36 ["kind", "data"] (spO K) := by
  have hC := T.cl_Reader
  have hD := T.na_Reader_data
  have hA := T.na_Reader_at
  replace G_Reader_init := G_Reader_init.mono (k := 8) (by decide)
  replace G_Reader_read_number := G_Reader_read_number.mono (k := 9) (by decide)
  replace G_Reader_read_string := G_Reader_read_string.mono (k := 9) (by decide)
  replace G_Reader_read_deed := G_Reader_read_deed.mono (k := 9) (by decide)
  replace G_Reader_read_triples := G_Reader_read_triples.mono (k := 9) (by decide)
  replace G_Reader_read_packet := G_Reader_read_packet.mono (k := 9) (by decide)
  replace G_Reader_end := G_Reader_end.mono (k := 9) (by decide)
  refine fnI T.F_law_told sc_law_told (fun x => ⟨rfl, by decide⟩) fun cdv A outer s H E hr => ⟨_, (pss_cons (ps_set (i := 2) sc_law_told.nd rfl (Or.inl rfl) (pe_make T.mk_Reader G_Reader_init hr (by rfl) T.m_Reader T.b_Reader_init .nil pass0 (pa_cons (pe_callTy (kLIST K rfl) (by rfl) T.z_list (by decide +kernel) (pa_cons (pv 1) pa_nil)) pa_nil))) (pss_cons (ps_try_only (Wout := fun _ _ _ _ => False) rfl rfl ⟨by rfl, by decide, Or.inl T.x_DamagedPacket.g⟩ takes0 (fun W pn xe tk _ => (pss_one (ps_if (pt_cmpR (kEQ K rfl hr.units) (pv 0) pe_int (nomark _)) (pss_one (ps_set (i := 3) sc_law_told.nd rfl (Or.inl rfl) (pe_methE0 (pv 2) T.cl_Reader T.mt_Reader_read_number G_Reader_read_number hr T.b_Reader_read_number (fun σ => passAt tk σ)))) (pss_one (ps_if (pt_cmpR (kEQ K rfl hr.units) (pv 0) pe_int (nomark _)) (pss_one (ps_set (i := 3) sc_law_told.nd rfl (Or.inl rfl) (pe_methE0 (pv 2) T.cl_Reader T.mt_Reader_read_string G_Reader_read_string hr T.b_Reader_read_string (fun σ => passAt tk σ)))) (pss_one (ps_if (pt_cmpR (kEQ K rfl hr.units) (pv 0) pe_int (nomark _)) (pss_one (ps_set (i := 3) sc_law_told.nd rfl (Or.inl rfl) (pe_methE0 (pv 2) T.cl_Reader T.mt_Reader_read_deed G_Reader_read_deed hr T.b_Reader_read_deed (fun σ => passAt tk σ)))) (pss_one (ps_if (pt_cmpR (kEQ K rfl hr.units) (pv 0) pe_int (nomark _)) (pss_one (ps_set (i := 3) sc_law_told.nd rfl (Or.inl rfl) (pe_methE0 (pv 2) T.cl_Reader T.mt_Reader_read_triples G_Reader_read_triples hr T.b_Reader_read_triples (fun σ => passAt tk σ)))) (pss_one (ps_set (i := 3) sc_law_told.nd rfl (Or.inl rfl) (pe_methE0 (pv 2) T.cl_Reader T.mt_Reader_read_packet G_Reader_read_packet hr T.b_Reader_read_packet (fun σ => passAt tk σ))))))))))))) (fun a oe cls d pn hz hf => (pss_one (ps_ret pe_non)))) (pss_cons (ps_set (i := 4) sc_law_told.nd rfl (Or.inl rfl) (kFLD K rfl (pe_fld (pv 2) rfl))) (pss_cons (ps_try_only (Wout := fun _ _ _ _ => False) rfl rfl ⟨by rfl, by decide, Or.inl T.x_DamagedPacket.g⟩ takes0 (fun W pn xe tk _ => (pss_cons (ps_expr (pe_methE0 (pv 2) T.cl_Reader T.mt_Reader_end G_Reader_end hr T.b_Reader_end (fun σ => passAt tk σ))) (pss_one (ps_set (i := 5) sc_law_told.nd rfl (Or.inl rfl) pe_bl)))) (fun a oe cls d pn hz hf => (pss_one (ps_set (i := 5) sc_law_told.nd rfl (Or.inl rfl) pe_bl)))) (pss_one (ps_ret (pe_ifExp (pt_cmpR (kEQ K rfl hr.units) (pv 5) (pe_cmpR (kEQ K rfl hr.units) (pv 4) (pe_callB (kLEN K rfl) (by rfl) T.z_len (by decide +kernel) (pa_cons (pv 1) pa_nil)) (nomark _)) (nomark _)) (pe_tup (pa_cons (pv 3) (pa_cons (pv 4) pa_nil))) (pe_tup (pa_cons (pe_strM [119, 114, 111, 110, 103, 32, 101, 110, 100] rfl) (pa_cons (pv 4) pa_nil)))))))))), ?_⟩
  rintro ⟨k, ds⟩ ⟨hk, h1⟩ B
  have hk : k < 5 := hk
  have h1 : ds.length ≤ 1000000 := h1
  dsimp only
  show DS K B [.d (nD k), .d (bD ds), .un, .un, .un, .un] _ _
  refine ds_seq' ?_
  refine ds_set ?_
  refine dw_mkR ?_
  walk_at "go"
  refine rn_listL rfl ?_
  walk_at "go"
  refine ⟨_, ds, rfl, rfl, ?_⟩
  walk_at "gs"
  refine ds_mid' (fun G => ∃ d j, ownO k ds = .tuple [d, nD j] ∧ j ≤ ds.length ∧ G = [.d (nD k), .d (bD ds), Sl.ob K a.c_Reader (rdF ds j) none, .d d, .un, .un]) ?_ ?_
  · refine ds_tryOnly (K := K) (c := .ref a.c_DamagedPacket) (Wout := fun _ _ _ _ => False) (ts := fun _ _ _ => tRet (tC .non))
      (tb := fun W => tIfS (tTest (tOp (rEQ K) (tVar 0) (tC (.int 0)))) (tAsg (tMethE a.c_Reader ("read_number" : Str) (spR K a.c_Reader a.c_DamagedPacket rdNum (pd nD)) (WE W) (tVar 2) tNil) (gName 3))
        (tIfS (tTest (tOp (rEQ K) (tVar 0) (tC (.int 1)))) (tAsg (tMethE a.c_Reader ("read_string" : Str) (spR K a.c_Reader a.c_DamagedPacket rdStr (pd zD)) (WE W) (tVar 2) tNil) (gName 3))
        (tIfS (tTest (tOp (rEQ K) (tVar 0) (tC (.int 2)))) (tAsg (tMethE a.c_Reader ("read_deed" : Str) (spR K a.c_Reader a.c_DamagedPacket rdDeed (pd encDd)) (WE W) (tVar 2) tNil) (gName 3))
        (tIfS (tTest (tOp (rEQ K) (tVar 0) (tC (.int 3)))) (tAsg (tMethE a.c_Reader ("read_triples" : Str) (spR K a.c_Reader a.c_DamagedPacket rdTriples (lst encTr)) (WE W) (tVar 2) tNil) (gName 3))
          (tAsg (tMethE a.c_Reader ("read_packet" : Str) (spR K a.c_Reader a.c_DamagedPacket rdPacket (lst encTr)) (WE W) (tVar 2) tNil) (gName 3))))))
      (exc := fun cls _ => cls = .ref a.c_DamagedPacket ∧ ownO k ds = .none) (fun B' W hW => ?_) fun cls G1 ⟨hc, ho⟩ => ⟨by subst hc; exact T.x_DamagedPacket.exm, fun B' aa => ?_⟩
    · walk_at "go"
      refine ite_k (fun c => ?_) (fun c => ?_)
      · have c : k = 0 := by simp at c; omega
        subst c
        refine ds_setF ?_
        refine dw_RE rfl h1 (Nat.zero_le _) hW rfl (fun b j hf => ?_) fun s hf => ⟨rfl, by show encO nD (rdNum ds 0) = _; rw [hf]; rfl⟩
        exact ⟨_, rfl, _, j, by show encO nD (rdNum ds 0) = _; rw [hf]; rfl, (num_fits _ _ _ hf).2, rfl⟩
      have c : ¬ k = 0 := by simp at c; omega
      walk_at "go"
      refine ite_k (fun c1 => ?_) (fun c1 => ?_)
      · have c1 : k = 1 := by simp at c1; omega
        subst c1
        refine ds_setF ?_
        refine dw_RE rfl h1 (Nat.zero_le _) hW rfl (fun b j hf => ?_) fun s hf => ⟨rfl, by show encO zD (rdStr ds 0) = _; rw [hf]; rfl⟩
        exact ⟨_, rfl, _, j, by show encO zD (rdStr ds 0) = _; rw [hf]; rfl, (str_fits _ _ _ hf).2, rfl⟩
      have c1 : ¬ k = 1 := by simp at c1; omega
      walk_at "go"
      refine ite_k (fun c2 => ?_) (fun c2 => ?_)
      · have c2 : k = 2 := by simp at c2; omega
        subst c2
        refine ds_setF ?_
        refine dw_RE rfl h1 (Nat.zero_le _) hW rfl (fun b j hf => ?_) fun s hf => ⟨rfl, by show encO encDd (rdDeed ds 0) = _; rw [hf]; rfl⟩
        exact ⟨_, rfl, _, j, by show encO encDd (rdDeed ds 0) = _; rw [hf]; rfl, (deed_fits _ _ _ hf).2, rfl⟩
      have c2 : ¬ k = 2 := by simp at c2; omega
      walk_at "go"
      refine ite_k (fun c3 => ?_) (fun c3 => ?_)
      · have c3 : k = 3 := by simp at c3; omega
        subst c3
        refine ds_setF ?_
        refine dw_RE rfl h1 (Nat.zero_le _) hW rfl (fun b j hf => ?_) fun s hf => ⟨rfl, by show encO encTs (rdTriples ds 0) = _; rw [hf]; rfl⟩
        exact ⟨_, rfl, _, j, by show encO encTs (rdTriples ds 0) = _; rw [hf]; rfl, (triples_fits _ _ _ hf).2, rfl⟩
      have c3 : ¬ k = 3 := by simp at c3; omega
      have c4 : k = 4 := by omega
      subst c4
      refine ds_setF ?_
      refine dw_RE rfl h1 (Nat.zero_le _) hW rfl (fun b j hf => ?_) fun s hf => ⟨rfl, by show encO encTs (rdPacket ds 0) = _; rw [hf]; rfl⟩
      exact ⟨_, rfl, _, j, by show encO encTs (rdPacket ds 0) = _; rw [hf]; rfl, (packet_fits _ _ _ hf).2, rfl⟩
    · walk_at "go"
      rw [ho]
  · rintro _ ⟨d, j, ho, hj, rfl⟩
    walk_at "gs"
    refine ds_seq' ?_
    walk_at "gs"
    refine ds_mid' (fun G => ∃ s2, G = [.d (nD k), .d (bD ds), s2, .d d, .d (nD j), .d (.bool (decide (j = ds.length)))]) ?_ ?_
    · refine ds_tryOnly (K := K) (c := .ref a.c_DamagedPacket) (Wout := fun _ _ _ _ => False) (ts := fun _ _ _ => tAsg (tC (.bl false)) (gName 5))
        (tb := fun W => tSeq (tDrop (tMethE a.c_Reader ("end" : Str) (spR K a.c_Reader a.c_DamagedPacket rdEnd (fun _ => .p (.d .none))) (WE W) (tVar 2) tNil)) (tAsg (tC (.bl true)) (gName 5)))
        (exc := fun cls G => cls = .ref a.c_DamagedPacket ∧ j < ds.length ∧ ∃ s2, G = [.d (nD k), .d (bD ds), s2, .d d, .d (nD j), .un]) (fun B' W hW => ?_) fun cls G1 ⟨hc, ho2, s2, hG⟩ => ⟨by subst hc; exact T.x_DamagedPacket.exm, fun B' aa => ?_⟩
      · walk_at "gs"
        refine ds_seq' ?_
        refine ds_drop ?_
        refine dw_RE rfl h1 hj hW rfl (fun b j2 hf => ?_) fun s hf => ⟨rfl, ?_, s, rfl⟩
        · have e : ¬ j < ds.length := fun z => by
            unfold rdEnd at hf
            rw [if_pos z] at hf
            cases hf
          have e : decide (j = ds.length) = true := decide_eq_true (by omega)
          rw [e]
          walk_at "go"
          exact ⟨_, rfl⟩
        · by_cases z : j < ds.length
          · exact z
          · unfold rdEnd at hf
            rw [if_neg z] at hf
            cases hf
      · subst hG
        have e : decide (j = ds.length) = false := decide_eq_false (by omega)
        rw [e]
        walk_at "go"
        exact ⟨_, rfl⟩
    · rintro _ ⟨s2, rfl⟩
      walk_at "go"
      refine ite_T (by rw [List.length_map]; exact decide_eq_true (decide_eq_decide.mpr (by omega))) ?_
      walk_at "go"
      rw [ho]
end
end K12
namespace K12
open PySem PySem.Spec PyProof.Rows L2 DL
/-! what is written is read back -/
def Back {α : Type} (f : Rd' α) (w : List Nat) (x : α) : Prop := ∀ (pre post : List Nat), f (pre ++ (w ++ post)) pre.length = some (x, pre.length + w.length)
theorem Back.at {α : Type} {f : Rd' α} {w : List Nat} {x : α} {ds : List Nat} {i : Nat} (h : Back f w x) (pre post : List Nat) (e : ds = pre ++ (w ++ post)) (hi : i = pre.length) : f ds i = some (x, i + w.length) := by
  subst e hi
  exact h pre post
theorem at_pre {pre w : List Nat} {b : Nat} : (pre ++ (b :: w))[pre.length]? = some b := by simp
theorem wr_pos (n : Nat) : 1 ≤ (wrNum n).length := by
  by_cases h : n < 128
  · rw [wr_small h]
    simp
  · rw [wr_big h]
    simp
theorem go_back : ∀ (n : Nat) (fuel k t f : Nat) (pre post : List Nat), (wrNum n).length ≤ fuel → (0 < k → n ≠ 0) → numGo (pre ++ (wrNum n ++ post)) fuel k t f pre.length = some (t + n * f, pre.length + (wrNum n).length) := by
  intro n
  induction n using Nat.strongRecOn with
  | ind n ih =>
    intro fuel k t f pre post hf hk
    by_cases h : n < 128
    · rw [wr_small h] at hf ⊢
      obtain ⟨m, rfl⟩ : ∃ m, fuel = m + 1 := ⟨fuel - 1, by simp at hf; omega⟩
      unfold numGo
      rw [show pre ++ ([n] ++ post) = pre ++ (n :: post) from rfl, at_pre]
      show (if n < 128 then (if n = 0 ∧ 0 < k then none else some (t + n % 128 * f, pre.length + 1)) else _) = _
      rw [if_pos h, if_neg (fun z => hk z.2 z.1), Nat.mod_eq_of_lt h]
      rfl
    · rw [wr_big h] at hf ⊢
      obtain ⟨m, rfl⟩ : ∃ m, fuel = m + 1 := ⟨fuel - 1, by simp at hf; omega⟩
      unfold numGo
      rw [show pre ++ ((n % 128 + 128) :: wrNum (n / 128) ++ post) = pre ++ ((n % 128 + 128) :: (wrNum (n / 128) ++ post)) from rfl, at_pre]
      show (if n % 128 + 128 < 128 then (if n % 128 + 128 = 0 ∧ 0 < k then none else some (t + (n % 128 + 128) % 128 * f, pre.length + 1)) else numGo _ m (k + 1) (t + (n % 128 + 128) % 128 * f) (f * 128) (pre.length + 1)) = _
      rw [if_neg (by omega)]
      have e := ih (n / 128) (by omega) m (k + 1) (t + (n % 128 + 128) % 128 * f) (f * 128) (pre ++ [n % 128 + 128]) post (by simp at hf; omega) (fun _ => by omega)
      rw [List.length_append] at e
      rw [show pre ++ ((n % 128 + 128) :: (wrNum (n / 128) ++ post)) = pre ++ [n % 128 + 128] ++ (wrNum (n / 128) ++ post) by simp]
      show numGo _ m (k + 1) _ (f * 128) (pre.length + [n % 128 + 128].length) = _
      rw [e]
      have e1 : (n % 128 + 128) % 128 = n % 128 := by omega
      have e2 : n % 128 * f + n / 128 * (f * 128) = n * f := by
        have : n = n % 128 + 128 * (n / 128) := by omega
        conv => rhs; rw [this]
        rw [Nat.add_mul, Nat.mul_comm f 128, ← Nat.mul_assoc, Nat.mul_comm (n / 128) 128]
      rw [e1, Nat.add_assoc, e2]
      congr 2
      simp
      omega
theorem num_back {n : Nat} (h : okN n) : Back rdNum (wrNum n) n := fun pre post => by
  have := num_len h
  show numGo _ 60 0 0 1 _ = _
  rw [go_back n 60 0 0 1 pre post (by omega) (fun z => absurd z (by decide))]
  congr 2
  omega
theorem char_back {c : Nat} (h : okc c = true) : Back rdChar (wrNum c) c := fun pre post => by
  show (rdNum _ _).bind _ = _
  rw [num_back (okN_s (by have := okc_s h; omega)) pre post]
  exact if_pos h
theorem many_back {α : Type} {f : Rd' α} {wr : α → List Nat} : ∀ (xs : List α) (pre post : List Nat), (∀ x ∈ xs, Back f (wr x) x) → rdMany (f (pre ++ ((xs.map wr).flatten ++ post))) xs.length pre.length = some (xs, pre.length + ((xs.map wr).flatten).length)
  | [], pre, post, _ => by simp [rdMany]
  | x :: r, pre, post, h => by
    show (f _ pre.length).bind _ = _
    rw [(h x (by simp)).at pre ((r.map wr).flatten ++ post) (by simp) rfl]
    show Option.map _ (rdMany _ r.length (pre.length + (wr x).length)) = _
    have e := many_back r (pre ++ wr x) post fun y hy => h y (List.mem_cons_of_mem _ hy)
    rw [List.length_append] at e
    rw [show pre ++ (((x :: r).map wr).flatten ++ post) = pre ++ wr x ++ ((r.map wr).flatten ++ post) by simp, e]
    simp
    omega
theorem flat_pos {xs : List (List Nat)} (h : ∀ l ∈ xs, 1 ≤ l.length) : xs.length ≤ xs.flatten.length := by
  induction xs with
  | nil => simp
  | cons a r ih =>
    have h1 := h a (by simp)
    have h2 := ih fun l hl => h l (List.mem_cons_of_mem _ hl)
    rw [List.flatten_cons, List.length_append, List.length_cons]
    omega
theorem list_back {α : Type} {f : Rd' α} {wr : α → List Nat} {xs : List α} (hn : xs.length ≤ 1000000) (h : ∀ x ∈ xs, Back f (wr x) x) (hp : ∀ x ∈ xs, 1 ≤ (wr x).length) (pre post : List Nat) :
    ((rdCount (pre ++ (wrList (xs.map wr) ++ post)) pre.length).bind fun x => rdMany (f (pre ++ (wrList (xs.map wr) ++ post))) x.1 x.2) = some (xs, pre.length + (wrList (xs.map wr)).length) := by
  have hfl := flat_pos (xs := xs.map wr) fun l hl => by
    obtain ⟨x, hx, rfl⟩ := List.mem_map.mp hl
    exact hp x hx
  rw [List.length_map] at hfl
  have e0 : wrList (xs.map wr) = wrNum xs.length ++ (xs.map wr).flatten := by rw [wrList, List.length_map]
  have e1 : rdCount (pre ++ (wrList (xs.map wr) ++ post)) pre.length = some (xs.length, pre.length + (wrNum xs.length).length) := by
    show (rdNum _ _).bind _ = _
    rw [(num_back (okN_s hn)).at pre ((xs.map wr).flatten ++ post) (by rw [e0]; simp) rfl]
    exact if_neg (by rw [e0]; simp only [List.length_append]; omega)
  rw [e1]
  show rdMany _ xs.length _ = _
  have e2 := many_back xs (pre ++ wrNum xs.length) post h
  rw [List.length_append] at e2
  rw [show pre ++ (wrList (xs.map wr) ++ post) = pre ++ wrNum xs.length ++ ((xs.map wr).flatten ++ post) by rw [e0]; simp, e2, e0]
  simp
  omega
theorem text_back {t : List Nat} (h : okT t) : Back rdStr (wrText t) t := fun pre post =>
  list_back (f := rdChar) (wr := wrNum) (by have := h.1; omega) (fun c hc => char_back (h.2 c hc)) (fun c _ => wr_pos c) pre post
theorem mk_back {m : Nat × Nat} (h : okM m) : Back rdMark (wrMk m) m := fun pre post => by
  show (rdNum _ _).bind _ = _
  rw [(num_back h.1).at pre (wrNum m.2 ++ post) (by simp [wrMk]) rfl]
  show Option.map _ (rdNum _ _) = _
  rw [(num_back h.2).at (pre ++ wrNum m.1) post (by simp [wrMk]) (by simp)]
  simp [wrMk]
  omega
theorem mks_back {r : List (Nat × Nat)} (h : r.length ≤ 10) (h2 : ∀ x ∈ r, okM x) : Back rdMarks (wrList (r.map wrMk)) r := fun pre post =>
  list_back (f := rdMark) (wr := wrMk) (by omega) (fun c hc => mk_back (h2 c hc)) (fun c _ => by have := wr_pos c.1; simp [wrMk]; omega) pre post
theorem choice_at {pre w : List Nat} {b : Nat} (h : b < 2) : rdChoice 2 (pre ++ (b :: w)) pre.length = some (b, pre.length + 1) := by
  show (Option.map _ _).bind _ = _
  rw [at_pre]
  exact if_neg (by show ¬ 2 ≤ b; omega)
theorem bh_back {b : Option (Nat × Nat)} (h : ∀ x, b = some x → okM x) : Back rdBehind (wrBh b) b := fun pre post => by
  cases b with
  | none =>
    show (rdChoice 2 (pre ++ (0 :: post)) _).bind _ = _
    rw [choice_at (by decide)]
    rfl
  | some m =>
    show (rdChoice 2 (pre ++ (1 :: (wrMk m ++ post))) _).bind _ = _
    rw [choice_at (by decide)]
    show Option.map _ (rdMark _ _) = _
    rw [(mk_back (h m rfl)).at (pre ++ [1]) post (by simp [wrBh]) (by simp)]
    simp [wrBh]
    omega
theorem dd_back {d : Deed} (h : okD d) : Back rdDeed (wrDd d) d := fun pre post => by
  cases d with
  | back n =>
    show (rdChoice 2 (pre ++ (1 :: (wrNum n ++ post))) _).bind _ = _
    rw [choice_at (by decide)]
    show Option.map _ (rdNum _ _) = _
    rw [(num_back (n := n) h).at (pre ++ [1]) post (by simp [wrDd]) (by simp)]
    simp [wrDd]
    omega
  | chg m r b n t =>
    obtain ⟨h1, h2, h3, h4, h5⟩ := h
    have ed : wrDd (.chg m r b n t) ++ post = 0 :: (wrText m ++ (wrList (r.map wrMk) ++ (wrBh b ++ (wrNum n ++ (wrText t ++ post))))) := by simp [wrDd]
    rw [ed]
    show (rdChoice 2 (pre ++ (0 :: _)) _).bind _ = _
    rw [choice_at (by decide)]
    show (rdStr _ _).bind _ = _
    rw [(text_back h1).at (pre ++ [0]) (wrList (r.map wrMk) ++ (wrBh b ++ (wrNum n ++ (wrText t ++ post)))) (by simp) (by simp)]
    show (rdMarks _ _).bind _ = _
    rw [(mks_back h2.1 h2.2).at (pre ++ [0] ++ wrText m) (wrBh b ++ (wrNum n ++ (wrText t ++ post))) (by simp) (by simp; omega)]
    show (rdBehind _ _).bind _ = _
    rw [(bh_back h3).at (pre ++ [0] ++ wrText m ++ wrList (r.map wrMk)) (wrNum n ++ (wrText t ++ post)) (by simp) (by simp; omega)]
    show (rdNum _ _).bind _ = _
    rw [(num_back h4).at (pre ++ [0] ++ wrText m ++ wrList (r.map wrMk) ++ wrBh b) (wrText t ++ post) (by simp) (by simp; omega)]
    show Option.map _ (rdStr _ _) = _
    rw [(text_back h5).at (pre ++ [0] ++ wrText m ++ wrList (r.map wrMk) ++ wrBh b ++ wrNum n) post (by simp) (by simp; omega)]
    simp [wrDd]
    omega
theorem tr_back {x : Nat × Nat × Deed} (h : okX x) : Back rdTriple (wrTr x) x := fun pre post => by
  have ed : wrTr x ++ post = wrNum x.1 ++ (wrNum x.2.1 ++ (wrDd x.2.2 ++ post)) := by simp [wrTr]
  rw [ed]
  show (rdNum _ _).bind _ = _
  rw [(num_back h.1).at pre (wrNum x.2.1 ++ (wrDd x.2.2 ++ post)) rfl rfl]
  show (rdNum _ _).bind _ = _
  rw [(num_back h.2.1).at (pre ++ wrNum x.1) (wrDd x.2.2 ++ post) (by simp) (by simp)]
  show Option.map _ (rdDeed _ _) = _
  rw [(dd_back h.2.2).at (pre ++ wrNum x.1 ++ wrNum x.2.1) post (by simp) (by simp; omega)]
  simp [wrTr]
  omega
theorem ts_back {l : List (Nat × Nat × Deed)} (h : okL l) : Back rdTriples (wrTs l) l := fun pre post =>
  list_back (f := rdTriple) (wr := wrTr) (by have := h.1; omega) (fun c hc => tr_back (h.2 c hc)) (fun c _ => by have := wr_pos c.1; simp [wrTr]; omega) pre post
theorem pk_back {l : List (Nat × Nat × Deed)} (h : okL l) : Back rdPacket (1 :: wrTs l) l := fun pre post => by
  show (Option.map _ ((pre ++ (1 :: (wrTs l ++ post)))[pre.length]?)).bind _ = _
  rw [at_pre]
  show rdTriples _ (pre.length + 1) = _
  rw [(ts_back h).at (pre ++ [1]) post (by simp) (by simp)]
  simp
  omega
end K12
namespace K12
open PySem PySem.Spec PyProof.Rows L2 DL
local macro_rules | `(tactic| walk_at "st") => `(tactic| with_reducible first
  | refine pw_p ?_ | refine pw_o ?_ | refine dw_op ?_ | refine dw_un ?_ | refine dw_int ?_ | refine dw_str ?_ | refine dw_bl ?_ | refine dw_non ?_ | refine dw_ty ?_ | refine da_nil' ?_ | refine da_cons' ?_ | refine dw_sortSetT ?_ | refine dw_CB ?_ | refine dw_BM ?_ | refine dw_BM0 ?_
  | refine dw_tup ?_ | refine dw_lst ?_ | refine dw_notV ?_ | refine dw_and ?_ | refine dw_or ?_ | refine dw_if ?_ | refine dw_chain ?_ | refine dw_sl3 ?_ | refine dw_revT ?_ | refine dw_tupRg1 ?_ | refine dw_lstRg1 ?_ | refine dw_callI ?_ | refine dw_callJ ?_
  | refine dt_test ?_ | refine dt_B ?_ | refine dt_and ?_ | refine dt_or ?_ | refine dt_not ?_ | refine dt_yes ?_ | refine dt_truth ?_
  | refine ds_ret ?_ | refine ds_retN ?_ | refine ds_next ?_ | refine ds_break ?_ | refine ds_cont ?_ | refine ds_drop ?_ | refine ds_if ?_ | refine ds_set ?_
  | refine nx_nxt ?_ | refine rt_nxt ?_ | refine bk_nxt ?_ | refine ct_nxt ?_ | refine nx_lp ?_ | refine rt_lp ?_ | refine bk_lp ?_ | refine ct_lp ?_ | refine asn_d ?_ | refine asn_fr ?_ | refine rt_E0 ?_ | refine rt_E0o ?_ | refine nx_E0 ?_
  | refine dw_newK ?_ | refine dw_dInK ?_ | refine dw_dNotInK ?_ | refine dw_dGetK ?_ | refine ds_dPutK ?_
  | refine tr_b ?_ | refine tr_i ?_ | refine tr_n ?_ | refine tr_T ?_ | refine tr_L ?_
  | refine do_none ?_ | refine do_some ?_ | refine ite_t ?_ | refine ite_f ?_
  | refine rw_addI ?_ | refine rw_sub ?_ | refine rw_cmp ?_ | refine rw_eqI ?_ | refine rw_neI ?_ | refine rw_eqZ ?_ | refine rw_neZ ?_ | refine rw_eqS ?_ | refine rw_neS ?_ | refine rw_eqB ?_ | refine rw_neB ?_ | refine isN_d ?_ | refine notN_d ?_ | refine rw_isB ?_ | refine rw_notB ?_
  | refine rn_intI ?_ | refine rn_intB ?_ | refine rn_max ?_ | refine rn_min ?_ | refine rn_lenT ?_ | refine rn_lenD ?_ | refine rm_sw ?_ | refine isi_int ?_ | refine isi_bool ?_ | refine isi_str ?_ | refine isi_tuple ?_ | refine isi_list ?_ | refine rn_tupT ?_ | refine rn_listT ?_
  | refine ⟨_, rfl, ?_⟩
  | fail)
local macro_rules | `(tactic| walk_at "va") => `(tactic| first
  | ((with_reducible apply dw_var); rfl) | ((with_reducible apply dw_sl); rfl) | ((with_reducible apply dw_slK); rfl) | ((with_reducible apply dw_ob); rfl) | (refine dw_fld (by assumption) (by assumption) rfl rfl ?_)
  | ((with_reducible apply rw_ixL); rfl; rfl) | ((with_reducible apply rw_ixT); rfl)
  | ((with_reducible apply ite_T); rfl) | ((with_reducible apply ite_F); rfl) | ((with_reducible apply tr_o); rfl)
  | refine ⟨_, rfl, szl (Nat.le_of_ble_eq_true rfl), ?_⟩
  | (with_reducible refine rw_mod (by omega) ?_)
  | (with_reducible refine rw_fdiv (by unfold CDiv; omega) ?_)
  | (with_reducible refine rw_mul (by unfold CMul; omega) ?_)
  | refine ⟨szl (Nat.le_of_ble_eq_true rfl), ?_⟩
  | refine ⟨⟨rfl, _, _, rfl⟩, ?_⟩
  | refine ⟨rfl, ?_⟩
  | rfl
  | fail)
local macro_rules | `(tactic| walk_at "go") => `(tactic| repeat' (first | walk_at "st" | (with_reducible refine ds_seq' ?_) | walk_at "va" | fail))
local macro_rules | `(tactic| walk_at "gs") => `(tactic| repeat' (first | walk_at "st" | walk_at "va" | fail))
theorem SD_map {α : Type} {n : Nat} {enc : α → PyData} {l : List α} (h : l.length ≤ 1000000) (h2 : ∀ x, SD n (enc x)) : SD (n + 1) (.list (l.map enc)) := ⟨by rw [List.length_map]; exact h, fun x hx => by
  obtain ⟨y, _, rfl⟩ := List.mem_map.mp hx
  exact h2 y⟩
theorem SD_mapT {α : Type} {n : Nat} {enc : α → PyData} {l : List α} (h : l.length ≤ 1000000) (h2 : ∀ x, SD n (enc x)) : SD (n + 1) (.tuple (l.map enc)) := ⟨by rw [List.length_map]; exact h, fun x hx => by
  obtain ⟨y, _, rfl⟩ := List.mem_map.mp hx
  exact h2 y⟩
theorem SD_two {n : Nat} {x y : PyData} (h1 : SD n x) (h2 : SD n y) : SD (n + 1) (.tuple [x, y]) := ⟨by show 2 ≤ 1000000; decide, fun z hz => by
  simp at hz
  rcases hz with rfl | rfl
  · exact h1
  · exact h2⟩
theorem SD_mk {n : Nat} {m : Nat × Nat} : SD (n + 2) (encMk m) := SD_two (n := n + 1) True.intro True.intro
/-- small enough to be compared -/
def smD : Deed → Prop
  | .back _ => True
  | .chg _ r _ _ _ => r.length ≤ 1000000
theorem SD_dd {n : Nat} {d : Deed} (h : smD d) : SD (n + 4) (encDd d) := by
  cases d with
  | back k => exact SD_two (n := n + 3) True.intro True.intro
  | chg m r b k t =>
    refine ⟨by show 6 ≤ 1000000; decide, fun z hz => ?_⟩
    simp at hz
    rcases hz with rfl | rfl | rfl | rfl | rfl | rfl
    · exact True.intro
    · exact True.intro
    · exact SD_mapT (n := n + 2) h fun x => SD_mk
    · cases b with
      | none => exact True.intro
      | some x => exact SD_mk (n := n + 1)
    · exact True.intro
    · exact True.intro
def smX (x : Nat × Nat × Deed) : Prop := smD x.2.2
theorem SD_tr {n : Nat} {x : Nat × Nat × Deed} (h : smX x) : SD (n + 5) (encTr x) := by
  refine ⟨by show 3 ≤ 1000000; decide, fun z hz => ?_⟩
  simp at hz
  rcases hz with rfl | rfl | rfl
  · exact True.intro
  · exact True.intro
  · exact SD_dd h
theorem SD_ts {n : Nat} {l : List (Nat × Nat × Deed)} (h : l.length ≤ 1000000) (h2 : ∀ x ∈ l, smX x) : SD (n + 6) (encTs l) := ⟨by rw [List.length_map]; exact h, fun z hz => by
  obtain ⟨y, hy, rfl⟩ := List.mem_map.mp hz
  exact SD_tr (h2 y hy)⟩
theorem okD_sm {d : Deed} (h : okD d) : smD d := by
  cases d with
  | back n => exact True.intro
  | chg m r b n t =>
    have := h.2.1.1
    show r.length ≤ 1000000
    omega
theorem okL_sm {l : List (Nat × Nat × Deed)} (h : okL l) : ∀ x ∈ l, smX x := fun x hx => okD_sm (h.2 x hx).2.2
section
variable {P : Program} {w : World} {K : PySem.W.Frag} {mg : Str → Option Value} {base : Heap} {a : Ad}
/-- x.m() where nothing is raised -/
theorem dw_RN {α : Type} {C D : Addr} {f : Rd' α} {enc : α → Rs} {m : Str} {ds : List Nat} {i n : Nat} {B : Bs} {G : En} {q0 : Option Addr} {E : XK} {Po0 : Po} {b : α} {j : Nat} (hG : G[n]? = some (Sl.ob K C (rdF ds i) q0)) (h1 : ds.length ≤ 1000000) (h2 : i ≤ ds.length)
    (hm : (rdF ds i).lookup m = none) (hf : f ds i = some (b, j)) (q : Po0 (G.set n (Sl.ob K C (rdF ds j) q0)) (enc b)) :
    DW K B G (tMeth C m (spR K C D f enc) [] E (tVar n) tNil) Po0 := by
  refine dw_meth hG hm ?_
  refine dw_callH ?_
  refine da_cons' (dw_ob hG (pw_p (da_nil' ?_)))
  refine ⟨(ds, i), n, _, ⟨h1, h2⟩, rfl, hG, rfl, rfl, ?_, ?_⟩
  · rintro s' r ht ⟨b', j', hf', rfl, rfl⟩
    have hf' : f ds i = some (b', j') := hf'
    rw [hf] at hf'
    cases hf'
    exact q
  · rintro s' c ⟨hf', _⟩
    have hf' : f ds i = none := hf'
    rw [hf] at hf'
    cases hf'
abbrev Five := Nat × List Nat × Deed × List (Nat × Nat × Deed)
def okF (x : Five) : Prop := okN x.1 ∧ okT x.2.1 ∧ okD x.2.2.1 ∧ okL x.2.2.2
def wrF (x : Five) : List (List Nat) := [wrNum x.1, wrText x.2.1, wrDd x.2.2.1, wrTs x.2.2.2, 1 :: wrTs x.2.2.2]
def thF (x : Five) : List PyData := [nD x.1, zD x.2.1, encDd x.2.2.1, encTs x.2.2.2, encTs x.2.2.2]
theorem SD_th {x : Five} (h : okF x) : SD 7 (.list (thF x)) := by
  have h4 := h.2.2.2.1
  refine ⟨by show 5 ≤ 1000000; decide, fun z hz => ?_⟩
  have hz : z ∈ [nD x.1, zD x.2.1, encDd x.2.2.1, encTs x.2.2.2, encTs x.2.2.2] := hz
  simp at hz
  rcases hz with rfl | rfl | rfl | rfl
  · exact True.intro
  · exact True.intro
  · exact SD_dd (n := 2) (okD_sm h.2.2.1)
  · exact SD_ts (n := 0) (by omega) (okL_sm h.2.2.2)
abbrev spRow (K : PySem.W.Frag) := spI K (fun x : Five => [.list (thF x), .list ((wrF x).map bD)]) okF (fun _ r => r = .p (.d (.bool true)))
theorem ok_law_in_a_row (T : Tx K mg a) (G_Reader_init : FnOk P w K mg base CX0 1 a.f8_0 a.d8_0 ["self", "data"] (spInit K a.c_Reader)) (G_Reader_read_number : FnOk P w K mg base (L2.CX P w) 2 a.f8_4 a.d8_4 ["self"] (spR K a.c_Reader a.c_DamagedPacket rdNum (pd nD)))
    (G_Reader_read_string : FnOk P w K mg base (L2.CX P w) 4 a.f8_7 a.d8_7 ["self"] (spR K a.c_Reader a.c_DamagedPacket rdStr (pd zD))) (G_Reader_read_deed : FnOk P w K mg base (L2.CX P w) 5 a.f8_9 a.d8_9 ["self"] (spR K a.c_Reader a.c_DamagedPacket rdDeed (pd encDd)))
    (G_Reader_read_triples : FnOk P w K mg base (L2.CX P w) 7 a.f8_12 a.d8_12 ["self"] (spR K a.c_Reader a.c_DamagedPacket rdTriples (lst encTr))) (G_Reader_read_packet : FnOk P w K mg base (L2.CX P w) 8 a.f8_13 a.d8_13 ["self"] (spR K a.c_Reader a.c_DamagedPacket rdPacket (lst encTr)))
    (G_Reader_end : FnOk P w K mg base (L2.CX P w) 1 a.f8_3 a.d8_3 ["self"] (spR K a.c_Reader a.c_DamagedPacket rdEnd (fun _ => .p (.d .none)))) (G_law_same : FnOk P w K mg base CX0 8 a.f19 a.d19 ["actual", "expected"] (spQ K 7)) :
    FnOk P w K mg base CX0 10 a.f38 a.d38 ["things", "written"] (spRow K) := by
  have hC := T.cl_Reader
  have hD := T.na_Reader_data
  have hA := T.na_Reader_at
  replace G_Reader_init := G_Reader_init.mono (k := 8) (by decide)
  replace G_Reader_read_number := G_Reader_read_number.mono (k := 9) (by decide)
  replace G_Reader_read_string := G_Reader_read_string.mono (k := 9) (by decide)
  replace G_Reader_read_deed := G_Reader_read_deed.mono (k := 9) (by decide)
  replace G_Reader_read_triples := G_Reader_read_triples.mono (k := 9) (by decide)
  replace G_Reader_read_packet := G_Reader_read_packet.mono (k := 9) (by decide)
  replace G_Reader_end := G_Reader_end.mono (k := 9) (by decide)
  replace G_law_same := G_law_same.mono (k := 9) (by decide)
  refine fnI T.F_law_in_a_row sc_law_in_a_row (fun x => ⟨rfl, by decide⟩) fun cdv A outer s H E hr => ⟨_, (pss_cons (ps_set (i := 2) sc_law_in_a_row.nd rfl (Or.inl rfl) (pe_lst pa_nil)) (pss_cons (ps_for PassesOwn.never rfl (kANY K rfl (pv 1)) (pg_name (i := 3) sc_law_in_a_row.nd rfl (Or.inl rfl)) (pss_one (ps_set (i := 2) sc_law_in_a_row.nd rfl (Or.inl rfl) (pe_op (kADD K rfl) (pv 2) (pv 3))))) (pss_cons (ps_set (i := 4) sc_law_in_a_row.nd rfl (Or.inl rfl) (pe_make T.mk_Reader G_Reader_init hr (by rfl) T.m_Reader T.b_Reader_init .nil pass0 (pa_cons (pv 2) pa_nil))) (pss_cons (ps_expr (kBM K rfl (pe_bm PySem.F.plainAttrs_list PySem.F.slot_list_append PySem.F.type_list_append mt_append (pv 2) (pa_cons pe_int pa_nil)))) (pss_cons (ps_if (pt_cmpR (kNE K rfl hr.units) (kFLD K rfl (pe_fld (pv 4) rfl)) pe_int (nomark _)) (pss_one (ps_ret pe_bl)) pss_nil) (pss_cons (ps_set (i := 5) sc_law_in_a_row.nd rfl (Or.inl rfl) (pe_lst (pa_cons (pe_meth0 (pv 4) T.cl_Reader T.mt_Reader_read_number G_Reader_read_number hr T.b_Reader_read_number .nil passL) (pa_cons (pe_meth0 (pv 4) T.cl_Reader T.mt_Reader_read_string G_Reader_read_string hr T.b_Reader_read_string .nil passL) (pa_cons (pe_meth0 (pv 4) T.cl_Reader T.mt_Reader_read_deed G_Reader_read_deed hr T.b_Reader_read_deed .nil passL) (pa_cons (pe_meth0 (pv 4) T.cl_Reader T.mt_Reader_read_triples G_Reader_read_triples hr T.b_Reader_read_triples .nil passL) (pa_cons (pe_meth0 (pv 4) T.cl_Reader T.mt_Reader_read_packet G_Reader_read_packet hr T.b_Reader_read_packet .nil passL) pa_nil))))))) (pss_cons (ps_expr (pe_meth0 (pv 4) T.cl_Reader T.mt_Reader_end G_Reader_end hr T.b_Reader_end .nil passL)) (pss_one (ps_ret (pe_call G_law_same hr (by rfl) T.m_law_same T.k_law_same T.b_law_same .nil pass0 (pa_cons (pv 5) (pa_cons (pv 0) pa_nil)))))))))))), ?_⟩
  rintro x hx B
  obtain ⟨n, t, d, l⟩ := x
  obtain ⟨q1, q2, q3, q4⟩ := hx
  have q1 : okN n := q1
  have q2 : okT t := q2
  have q3 : okD d := q3
  have q4 : okL l := q4
  have l1 := num_len q1
  have l2 := text_len q2
  have l3 := dd_len q3
  have l4 := ts_len q4
  walk_at "go"
  refine ds_forE' (ch := [3]) ?_
  refine di_anyL (di_list ?_)
  walk_at "go"
  refine ⟨fun k G => ∃ s3, G = [.d (.list (thF (n, t, d, l))), .d (.list ((wrF (n, t, d, l)).map bD)), .o none ((((wrF (n, t, d, l)).take k).flatten).map nD), s3, .un, .un], ⟨_, rfl⟩, fun k G2 dd hd ⟨s3, hG⟩ => ?_, fun G2 ⟨s3, hG⟩ => ?_⟩
  · subst hG
    rw [List.getElem?_map] at hd
    obtain ⟨y, hy, rfl⟩ := Option.map_eq_some_iff.mp hd
    have hfl := flat_len (xs := (wrF (n, t, d, l)).take k) (m := 60000) fun z hz => by
      have hz := List.mem_of_mem_take hz
      have hz : z ∈ [wrNum n, wrText t, wrDd d, wrTs l, 1 :: wrTs l] := hz
      simp at hz
      rcases hz with rfl | rfl | rfl | rfl | rfl
      · omega
      · omega
      · omega
      · omega
      · simp
        omega
    have hyl : y.length ≤ 60000 := by
      have hz : y ∈ [wrNum n, wrText t, wrDd d, wrTs l, 1 :: wrTs l] := List.mem_of_getElem? hy
      simp at hz
      rcases hz with rfl | rfl | rfl | rfl | rfl
      · omega
      · omega
      · omega
      · omega
      · simp
        omega
    have hl5 : ((wrF (n, t, d, l)).take k).length ≤ 5 := by
      rw [List.length_take]
      show min k 5 ≤ 5
      omega
    have et : (wrF (n, t, d, l)).take (k + 1) = (wrF (n, t, d, l)).take k ++ [y] := by
      rw [List.take_succ, hy]
      rfl
    have hb : ((wrF (n, t, d, l)).take k).length * 60000 ≤ 5 * 60000 := Nat.mul_le_mul_right _ hl5
    refine dg_name ?_
    walk_at "go"
    refine rw_addL rfl rfl (zz (by rw [List.length_map, List.length_map]; omega)) ?_
    walk_at "go"
    refine ⟨.d (bD y), ?_⟩
    rw [et, List.flatten_append, List.map_append]
    simp
  · subst hG
    have e5 : (((wrF (n, t, d, l)).take ((wrF (n, t, d, l)).map bD).length).flatten) = wrNum n ++ (wrText t ++ (wrDd d ++ (wrTs l ++ (1 :: wrTs l)))) := by
      rw [List.length_map, List.take_length]
      show [wrNum n, wrText t, wrDd d, wrTs l, 1 :: wrTs l].flatten = _
      simp
    rw [e5]
    generalize hds : wrNum n ++ (wrText t ++ (wrDd d ++ (wrTs l ++ (1 :: wrTs l)))) = ds
    have hdl : ds.length ≤ 1000000 := by
      rw [← hds]
      simp only [List.length_append, List.length_cons]
      omega
    have r1 := (num_back q1).at (ds := ds) (i := 0) [] (wrText t ++ (wrDd d ++ (wrTs l ++ (1 :: wrTs l)))) hds.symm rfl
    have r2 := (text_back q2).at (ds := ds) (i := 0 + (wrNum n).length) (wrNum n) (wrDd d ++ (wrTs l ++ (1 :: wrTs l))) hds.symm (by simp)
    have r3 := (dd_back q3).at (ds := ds) (i := 0 + (wrNum n).length + (wrText t).length) (wrNum n ++ wrText t) (wrTs l ++ (1 :: wrTs l)) (by rw [← hds]; simp) (by simp)
    have r4 := (ts_back q4).at (ds := ds) (i := 0 + (wrNum n).length + (wrText t).length + (wrDd d).length) (wrNum n ++ wrText t ++ wrDd d) (1 :: wrTs l) (by rw [← hds]; simp) (by simp; omega)
    have r5 := (pk_back q4).at (ds := ds) (i := 0 + (wrNum n).length + (wrText t).length + (wrDd d).length + (wrTs l).length) (wrNum n ++ wrText t ++ wrDd d ++ wrTs l) [] (by rw [← hds]; simp) (by simp; omega)
    have f1 := (num_fits _ _ _ r1).2
    have f2 := (str_fits _ _ _ r2).2
    have f3 := (deed_fits _ _ _ r3).2
    have f4 := (triples_fits _ _ _ r4).2
    have f5 := (packet_fits _ _ _ r5).2
    walk_at "gs"
    refine ds_seq' ?_
    refine ds_set ?_
    refine dw_mkR ?_
    walk_at "go"
    refine ⟨_, ds, rfl, rfl, ?_⟩
    walk_at "go"
    refine rm_app rfl (by rw [List.length_map, sizeLine_eq]; omega) ?_
    walk_at "go"
    refine dw_RN rfl hdl (Nat.zero_le _) rfl r1 ?_
    walk_at "go"
    refine dw_RN rfl hdl f1 rfl r2 ?_
    walk_at "go"
    refine dw_RN rfl hdl f2 rfl r3 ?_
    walk_at "go"
    refine dw_RN rfl hdl f3 rfl r4 ?_
    walk_at "go"
    refine dw_RN rfl hdl f4 rfl r5 ?_
    walk_at "gs"
    refine ds_freeze 5 rfl ?_
    walk_at "go"
    refine dw_RN (f := rdEnd) (b := ()) (j := 0 + (wrNum n).length + (wrText t).length + (wrDd d).length + (wrTs l).length + (1 :: wrTs l).length) rfl hdl f5 rfl (if_neg ?_) ?_
    · rw [← hds]
      simp only [List.length_append, List.length_cons]
      omega
    walk_at "go"
    refine ⟨.list (thF (n, t, d, l)), SD_th ⟨q1, q2, q3, q4⟩, rfl, ?_⟩
    rintro _ rfl
    walk_at "go"
end
end K12
namespace K12
open PySem PySem.Spec PyProof.Rows L2 DL
local macro_rules | `(tactic| walk_at "st") => `(tactic| with_reducible first
  | refine pw_p ?_ | refine pw_o ?_ | refine dw_op ?_ | refine dw_un ?_ | refine dw_int ?_ | refine dw_str ?_ | refine dw_bl ?_ | refine dw_non ?_ | refine dw_ty ?_ | refine da_nil' ?_ | refine da_cons' ?_ | refine dw_sortSetT ?_ | refine dw_CB ?_ | refine dw_BM ?_ | refine dw_BM0 ?_
  | refine dw_tup ?_ | refine dw_lst ?_ | refine dw_notV ?_ | refine dw_and ?_ | refine dw_or ?_ | refine dw_if ?_ | refine dw_chain ?_ | refine dw_sl3 ?_ | refine dw_revT ?_ | refine dw_tupRg1 ?_ | refine dw_lstRg1 ?_ | refine dw_callI ?_ | refine dw_callJ ?_
  | refine dt_test ?_ | refine dt_B ?_ | refine dt_and ?_ | refine dt_or ?_ | refine dt_not ?_ | refine dt_yes ?_ | refine dt_truth ?_
  | refine ds_ret ?_ | refine ds_retN ?_ | refine ds_next ?_ | refine ds_break ?_ | refine ds_cont ?_ | refine ds_drop ?_ | refine ds_if ?_ | refine ds_set ?_
  | refine nx_nxt ?_ | refine rt_nxt ?_ | refine bk_nxt ?_ | refine ct_nxt ?_ | refine nx_lp ?_ | refine rt_lp ?_ | refine bk_lp ?_ | refine ct_lp ?_ | refine asn_d ?_ | refine asn_fr ?_ | refine rt_E0 ?_ | refine rt_E0o ?_ | refine nx_E0 ?_
  | refine dw_newK ?_ | refine dw_dInK ?_ | refine dw_dNotInK ?_ | refine dw_dGetK ?_ | refine ds_dPutK ?_
  | refine tr_b ?_ | refine tr_i ?_ | refine tr_n ?_ | refine tr_T ?_ | refine tr_L ?_
  | refine do_none ?_ | refine do_some ?_ | refine ite_t ?_ | refine ite_f ?_
  | refine rw_addI ?_ | refine rw_sub ?_ | refine rw_cmp ?_ | refine rw_eqI ?_ | refine rw_neI ?_ | refine rw_eqZ ?_ | refine rw_neZ ?_ | refine rw_eqS ?_ | refine rw_neS ?_ | refine rw_eqB ?_ | refine rw_neB ?_ | refine isN_d ?_ | refine notN_d ?_ | refine rw_isB ?_ | refine rw_notB ?_
  | refine rn_intI ?_ | refine rn_intB ?_ | refine rn_max ?_ | refine rn_min ?_ | refine rn_lenT ?_ | refine rn_lenD ?_ | refine rm_sw ?_ | refine isi_int ?_ | refine isi_bool ?_ | refine isi_str ?_ | refine isi_tuple ?_ | refine isi_list ?_ | refine rn_tupT ?_ | refine rn_listT ?_
  | refine ⟨_, rfl, ?_⟩
  | fail)
local macro_rules | `(tactic| walk_at "va") => `(tactic| first
  | ((with_reducible apply dw_var); rfl) | ((with_reducible apply dw_sl); rfl) | ((with_reducible apply dw_slK); rfl) | ((with_reducible apply dw_ob); rfl) | (refine dw_fld (by assumption) (by assumption) rfl rfl ?_)
  | ((with_reducible apply rw_ixL); rfl; rfl) | ((with_reducible apply rw_ixT); rfl)
  | ((with_reducible apply ite_T); rfl) | ((with_reducible apply ite_F); rfl) | ((with_reducible apply tr_o); rfl)
  | refine ⟨_, rfl, szl (Nat.le_of_ble_eq_true rfl), ?_⟩
  | (with_reducible refine rw_mod (by omega) ?_)
  | (with_reducible refine rw_fdiv (by unfold CDiv; omega) ?_)
  | (with_reducible refine rw_mul (by unfold CMul; omega) ?_)
  | refine ⟨szl (Nat.le_of_ble_eq_true rfl), ?_⟩
  | refine ⟨⟨rfl, _, _, rfl⟩, ?_⟩
  | refine ⟨rfl, ?_⟩
  | rfl
  | fail)
local macro_rules | `(tactic| walk_at "go") => `(tactic| repeat' (first | walk_at "st" | (with_reducible refine ds_seq' ?_) | walk_at "va" | fail))
local macro_rules | `(tactic| walk_at "gs") => `(tactic| repeat' (first | walk_at "st" | walk_at "va" | fail))
/-! what is told is small -/
theorem deed_sm {ds : List Nat} {i : Nat} {x : Deed × Nat} (h1 : ds.length ≤ 1000000) (h : rdDeed ds i = some x) : smD x.1 := by
  unfold rdDeed at h
  rw [Option.bind_eq_some_iff] at h
  obtain ⟨y, e, h⟩ := h
  split at h
  · rw [Option.map_eq_some_iff] at h
    obtain ⟨z, e2, rfl⟩ := h
    exact True.intro
  · rw [Option.bind_eq_some_iff] at h
    obtain ⟨m, e2, h⟩ := h
    rw [Option.bind_eq_some_iff] at h
    obtain ⟨r, e3, h⟩ := h
    rw [Option.bind_eq_some_iff] at h
    obtain ⟨b, e4, h⟩ := h
    rw [Option.bind_eq_some_iff] at h
    obtain ⟨n, e5, h⟩ := h
    rw [Option.map_eq_some_iff] at h
    obtain ⟨t, e6, rfl⟩ := h
    have := many_len (f := rdMark) (l := r.1) (j := r.2) e3
    show r.1.length ≤ 1000000
    omega
theorem many_all {α : Type} {f : Nat → Option (α × Nat)} {p : α → Prop} (hf : ∀ i x, f i = some x → p x.1) : ∀ {n i : Nat} {x : List α × Nat}, rdMany f n i = some x → ∀ y ∈ x.1, p y
  | 0, i, x, h => by
    cases h
    exact fun y hy => nomatch hy
  | n + 1, i, x, h => by
    unfold rdMany at h
    rw [Option.bind_eq_some_iff] at h
    obtain ⟨y, e, h⟩ := h
    rw [Option.map_eq_some_iff] at h
    obtain ⟨z, e2, rfl⟩ := h
    intro w hw
    rcases List.mem_cons.mp hw with rfl | hw
    · exact hf _ _ e
    · exact many_all hf e2 w hw
theorem triple_sm {ds : List Nat} {i : Nat} {x : (Nat × Nat × Deed) × Nat} (h1 : ds.length ≤ 1000000) (h : rdTriple ds i = some x) : smX x.1 := by
  unfold rdTriple at h
  rw [Option.bind_eq_some_iff] at h
  obtain ⟨r, e, h⟩ := h
  rw [Option.bind_eq_some_iff] at h
  obtain ⟨p, e2, h⟩ := h
  rw [Option.map_eq_some_iff] at h
  obtain ⟨d, e3, rfl⟩ := h
  exact deed_sm (x := d) h1 e3
theorem triples_sm {ds : List Nat} {i : Nat} {x : List (Nat × Nat × Deed) × Nat} (h1 : ds.length ≤ 1000000) (h : rdTriples ds i = some x) : x.1.length ≤ 1000000 ∧ ∀ y ∈ x.1, smX y := by
  have h2 := many_len (f := rdTriple) (l := x.1) (j := x.2) h
  unfold rdTriples at h
  rw [Option.bind_eq_some_iff] at h
  obtain ⟨y, e, h⟩ := h
  exact ⟨by omega, many_all (fun i x hx => triple_sm h1 hx) h⟩
theorem SD_enc {α : Type} {n : Nat} {enc : α → PyData} {o : Option (α × Nat)} (h : ∀ x, o = some x → SD (n + 1) (enc x.1)) : SD (n + 2) (encO enc o) := by
  cases o with
  | none => exact True.intro
  | some x => exact SD_two (h x rfl) True.intro
theorem SD_own {k : Nat} {ds : List Nat} (h1 : ds.length ≤ 1000000) : SD 7 (ownO k ds) := by
  match k with
  | 0 => exact SD_enc (n := 5) fun x hx => True.intro
  | 1 => exact SD_enc (n := 5) fun x hx => True.intro
  | 2 => exact SD_enc (n := 5) fun x hx => SD_dd (n := 2) (deed_sm h1 hx)
  | 3 => exact SD_enc (n := 5) fun x hx => SD_ts (n := 0) (triples_sm h1 hx).1 (triples_sm h1 hx).2
  | k + 4 =>
    refine SD_enc (n := 5) fun x hx => ?_
    have hx : rdPacket ds 0 = some x := hx
    unfold rdPacket at hx
    rw [Option.bind_eq_some_iff] at hx
    obtain ⟨y, e, hx⟩ := hx
    split at hx
    · exact SD_ts (n := 0) (triples_sm h1 hx).1 (triples_sm h1 hx).2
    · cases hx
/-- the k-th thing, what is written of it -/
theorem own_back {x : Five} (h : okF x) {k : Nat} {w : List Nat} {d : PyData} (hw : (wrF x)[k]? = some w) (hd : (thF x)[k]? = some d) : ownO k w = .tuple [d, nD w.length] := by
  obtain ⟨n, t, dd, l⟩ := x
  obtain ⟨q1, q2, q3, q4⟩ := h
  have at0 : ∀ {α : Type} {f : Rd' α} {w : List Nat} {x : α}, Back f w x → f w 0 = some (x, w.length) := fun {α f w x} hb => by
    have := hb.at (ds := w) (i := 0) [] [] (by simp) rfl
    rw [this, Nat.zero_add]
  match k, hw, hd with
  | 0, hw, hd =>
    cases hw
    cases hd
    show encO nD (rdNum _ 0) = _
    rw [at0 (num_back q1)]
    rfl
  | 1, hw, hd =>
    cases hw
    cases hd
    show encO zD (rdStr _ 0) = _
    rw [at0 (text_back q2)]
    rfl
  | 2, hw, hd =>
    cases hw
    cases hd
    show encO encDd (rdDeed _ 0) = _
    rw [at0 (dd_back q3)]
    rfl
  | 3, hw, hd =>
    cases hw
    cases hd
    show encO encTs (rdTriples _ 0) = _
    rw [at0 (ts_back q4)]
    rfl
  | 4, hw, hd =>
    cases hw
    cases hd
    show encO encTs (rdPacket _ 0) = _
    rw [at0 (pk_back q4)]
    rfl
  | k + 5, hw, hd => cases hw
theorem wrF_len {x : Five} (h : okF x) {k : Nat} {w : List Nat} (hw : (wrF x)[k]? = some w) : w.length ≤ 60000 := by
  obtain ⟨n, t, d, l⟩ := x
  obtain ⟨q1, q2, q3, q4⟩ := h
  have l1 := num_len q1
  have l2 := text_len q2
  have l3 := dd_len q3
  have l4 := ts_len q4
  have l1 : (wrNum n).length ≤ 12 := l1
  have l2 : (wrText t).length ≤ 1812 := l2
  have l3 : (wrDd d).length ≤ 4000 := l3
  have l4 : (wrTs l).length ≤ 50000 := l4
  have hz : w ∈ [wrNum n, wrText t, wrDd d, wrTs l, 1 :: wrTs l] := List.mem_of_getElem? hw
  simp at hz
  rcases hz with rfl | rfl | rfl | rfl | rfl
  · omega
  · omega
  · omega
  · omega
  · simp
    omega
section
variable {P : Program} {w : World} {K : PySem.W.Frag} {mg : Str → Option Value} {base : Heap} {a : Ad}
theorem ok_law (T : Tx K mg a) (N1 : FnOk P w K mg base CX0 1 a.f18 a.d18 ["state", "limit"] (spN K)) (N2 : FnOk P w K mg base CX0 8 a.f19 a.d19 ["actual", "expected"] (spQ K 7))
    (N3 : FnOk P w K mg base CX0 2 a.f32 a.d32 ["state"] (spA K nD okN)) (N4 : FnOk P w K mg base CX0 2 a.f33 a.d33 ["state"] (spA K zD okT)) (N5 : FnOk P w K mg base CX0 3 a.f34 a.d34 ["state"] (spA K encDd okD))
    (N6 : FnOk P w K mg base CX0 1 a.f10 a.d10 ["number"] (spW K)) (N7 : FnOk P w K mg base CX0 3 a.f12 a.d12 ["text"] (spWT K)) (N8 : FnOk P w K mg base CX0 4 a.f14 a.d14 ["deed"] (spWD K)) (N9 : FnOk P w K mg base CX0 5 a.f15 a.d15 ["triples"] (spWX K))
    (N10 : FnOk P w K mg base CX0 6 a.f16 a.d16 ["packet"] (spI K (fun l : List (Nat × Nat × Deed) => [encTs l]) okL (fun l r => r = bR (1 :: wrTs l))))
    (N11 : FnOk P w K mg base CX0 1 a.f20 a.d20 ["number"] (spW K)) (N12 : FnOk P w K mg base CX0 2 a.f21 a.d21 ["text"] (spWT K)) (N13 : FnOk P w K mg base CX0 3 a.f23 a.d23 ["deed"] (spWD K)) (N14 : FnOk P w K mg base CX0 4 a.f24 a.d24 ["triples"] (spWX K))
    (N15 : FnOk P w K mg base CX0 10 a.f38 a.d38 ["things", "written"] (spRow K)) (N16 : FnOk P w K mg base CX0 10 a.f36 a.d36 ["kind", "data"] (spO K)) (N17 : FnOk P w K mg base CX0 6 a.f37 a.d37 ["kind", "data"] (spO K)) (N18 : FnOk P w K mg base CX0 2 a.f35 a.d35 ["state", "data"] (spP K)) :
    FnOk P w K mg base CX0 11 a.f39 a.d39 ["script"] (spLaw K 63) := by
  have G_law_next := N1.mono (show 1 ≤ 10 by decide)
  have G_law_same := N2.mono (show 8 ≤ 10 by decide)
  have G_law_drawn_number := N3.mono (show 2 ≤ 10 by decide)
  have G_law_drawn_text := N4.mono (show 2 ≤ 10 by decide)
  have G_law_drawn_deed := N5.mono (show 3 ≤ 10 by decide)
  have G_write_number := N6.mono (show 1 ≤ 10 by decide)
  have G_write_string := N7.mono (show 3 ≤ 10 by decide)
  have G_write_deed := N8.mono (show 4 ≤ 10 by decide)
  have G_write_triples := N9.mono (show 5 ≤ 10 by decide)
  have G_write_packet := N10.mono (show 6 ≤ 10 by decide)
  have G_law_number := N11.mono (show 1 ≤ 10 by decide)
  have G_law_text := N12.mono (show 2 ≤ 10 by decide)
  have G_law_deed := N13.mono (show 3 ≤ 10 by decide)
  have G_law_triples := N14.mono (show 4 ≤ 10 by decide)
  have G_law_in_a_row := N15
  have G_law_told := N16
  have G_law_own := N17.mono (show 6 ≤ 10 by decide)
  have G_law_spoilt := N18.mono (show 2 ≤ 10 by decide)
  refine fnLaw T.F_law sc_law (by decide) fun cdv A outer s H E hr => ⟨_, (pss_cons (ps_set (i := 1) sc_law.nd rfl (Or.inr rfl) (pe_lst (pa_cons (pe_callTy (kLIST K rfl) (by rfl) T.z_list (by decide +kernel) (pa_cons (pv 0) pa_nil)) (pa_cons pe_int (pa_cons pe_int (pa_cons pe_int pa_nil)))))) (pss_cons (ps_for PassesOwn.never rfl (pi_range1 (by rfl) T.z_range (pa_cons pe_int pa_nil)) (pg_name (i := 2) sc_law.nd rfl (Or.inl rfl)) (pss_cons (ps_set (i := 3) sc_law.nd rfl (Or.inl rfl) (pe_call G_law_drawn_number hr (by rfl) T.m_law_drawn_number T.k_law_drawn_number T.b_law_drawn_number .nil pass0 (pa_cons (pv 1) pa_nil))) (pss_cons (ps_set (i := 4) sc_law.nd rfl (Or.inl rfl) (pe_call G_law_drawn_text hr (by rfl) T.m_law_drawn_text T.k_law_drawn_text T.b_law_drawn_text .nil pass0 (pa_cons (pv 1) pa_nil))) (pss_cons (ps_set (i := 5) sc_law.nd rfl (Or.inl rfl) (pe_call G_law_drawn_deed hr (by rfl) T.m_law_drawn_deed T.k_law_drawn_deed T.b_law_drawn_deed .nil pass0 (pa_cons (pv 1) pa_nil))) (pss_cons (ps_setLc (i := 6) (own := [("j", 12)]) (g := gName 12) (by rfl) sc_law.nd rfl rfl (sw_true rfl rfl rfl (by decide +kernel)) (pi_range1 (by rfl) T.z_range (pa_cons (pe_call G_law_next hr (by rfl) T.m_law_next T.k_law_next T.b_law_next .nil pass0 (pa_cons (pv 1) (pa_cons pe_int pa_nil))) pa_nil)) (blkOk_by (own := [("j", 12)]) (N := ["script", "state", "k", "number", "text", "deed", "triples", "written", "own", "things", "long", "kind", "j", "data"]) (sc := defScope s_law) (by decide +kernel)) (fun _ _ _ _ _ => (pg_name (i := 12) sc_law.nd rfl (by first | exact Or.inl rfl | exact Or.inr rfl))) (fun _ _ _ _ _ => pts_nil) (fun _ _ _ _ _ => (pe_tup (pa_cons (pe_call G_law_next hr (by rfl) T.m_law_next T.k_law_next T.b_law_next .nil pass0 (pa_cons (pv 1) (pa_cons pe_int pa_nil))) (pa_cons (pe_call G_law_drawn_number hr (by rfl) T.m_law_drawn_number T.k_law_drawn_number T.b_law_drawn_number .nil pass0 (pa_cons (pv 1) pa_nil)) (pa_cons (pe_call G_law_drawn_deed hr (by rfl) T.m_law_drawn_deed T.k_law_drawn_deed T.b_law_drawn_deed .nil pass0 (pa_cons (pv 1) pa_nil)) pa_nil)))))) (pss_cons (ps_set (i := 7) sc_law.nd rfl (Or.inl rfl) (pe_lst (pa_cons (pe_call G_write_number hr (by rfl) T.m_write_number T.k_write_number T.b_write_number .nil pass0 (pa_cons (pv 3) pa_nil)) (pa_cons (pe_call G_write_string hr (by rfl) T.m_write_string T.k_write_string T.b_write_string .nil pass0 (pa_cons (pv 4) pa_nil)) (pa_cons (pe_call G_write_deed hr (by rfl) T.m_write_deed T.k_write_deed T.b_write_deed .nil pass0 (pa_cons (pv 5) pa_nil)) (pa_cons (pe_call G_write_triples hr (by rfl) T.m_write_triples T.k_write_triples T.b_write_triples .nil pass0 (pa_cons (pe_callTy (kLIST K rfl) (by rfl) T.z_list (by decide +kernel) (pa_cons (pv 6) pa_nil)) pa_nil)) (pa_cons (pe_call G_write_packet hr (by rfl) T.m_write_packet T.k_write_packet T.b_write_packet .nil pass0 (pa_cons (pe_callTy (kLIST K rfl) (by rfl) T.z_list (by decide +kernel) (pa_cons (pv 6) pa_nil)) pa_nil)) pa_nil))))))) (pss_cons (ps_set (i := 8) sc_law.nd rfl (Or.inl rfl) (pe_call G_law_triples hr (by rfl) T.m_law_triples T.k_law_triples T.b_law_triples .nil pass0 (pa_cons (pv 6) pa_nil))) (pss_cons (ps_if (pt_not (kTRUTH K rfl (pe_call G_law_same hr (by rfl) T.m_law_same T.k_law_same T.b_law_same .nil pass0 (pa_cons (pv 7) (pa_cons (pe_lst (pa_cons (pe_call G_law_number hr (by rfl) T.m_law_number T.k_law_number T.b_law_number .nil pass0 (pa_cons (pv 3) pa_nil)) (pa_cons (pe_call G_law_text hr (by rfl) T.m_law_text T.k_law_text T.b_law_text .nil pass0 (pa_cons (pv 4) pa_nil)) (pa_cons (pe_call G_law_deed hr (by rfl) T.m_law_deed T.k_law_deed T.b_law_deed .nil pass0 (pa_cons (pv 5) pa_nil)) (pa_cons (pv 8) (pa_cons (pe_op (kADD K rfl) (pe_lst (pa_cons pe_int pa_nil)) (pv 8)) pa_nil)))))) pa_nil))) (by intro _; rfl))) (pss_one (ps_ret pe_bl)) pss_nil) (pss_cons (ps_set (i := 9) sc_law.nd rfl (Or.inl rfl) (pe_lst (pa_cons (pv 3) (pa_cons (pv 4) (pa_cons (pv 5) (pa_cons (pv 6) (pa_cons (pv 6) pa_nil))))))) (pss_cons (ps_if (pt_not (kTRUTH K rfl (pe_call G_law_in_a_row hr (by rfl) T.m_law_in_a_row T.k_law_in_a_row T.b_law_in_a_row .nil pass0 (pa_cons (pv 9) (pa_cons (pv 7) pa_nil))) (by intro _; rfl))) (pss_one (ps_ret pe_bl)) pss_nil) (pss_cons (ps_set (i := 10) sc_law.nd rfl (Or.inl rfl) (pe_op (kADD K rfl) (pe_lc (own := [("j", 12)]) (g := gName 12) (by rfl) sc_law.nd (pi_range1 (by rfl) T.z_range (pa_cons (pe_call G_law_next hr (by rfl) T.m_law_next T.k_law_next T.b_law_next .nil pass0 (pa_cons (pv 1) (pa_cons pe_int pa_nil))) pa_nil)) (blkOk_by (own := [("j", 12)]) (N := ["script", "state", "k", "number", "text", "deed", "triples", "written", "own", "things", "long", "kind", "j", "data"]) (sc := defScope s_law) (by decide +kernel)) (fun _ _ _ _ _ => (pg_name (i := 12) sc_law.nd rfl (by first | exact Or.inl rfl | exact Or.inr rfl))) (fun _ _ _ _ _ => pts_nil) (fun _ _ _ _ _ => (pe_op (kADD K rfl) pe_int (pe_call G_law_next hr (by rfl) T.m_law_next T.k_law_next T.b_law_next .nil pass0 (pa_cons (pv 1) (pa_cons pe_int pa_nil)))))) (pe_lst (pa_cons (pe_call G_law_next hr (by rfl) T.m_law_next T.k_law_next T.b_law_next .nil pass0 (pa_cons (pv 1) (pa_cons pe_int pa_nil))) pa_nil)))) (pss_cons (ps_if (pt_not (kTRUTH K rfl (pe_call G_law_same hr (by rfl) T.m_law_same T.k_law_same T.b_law_same .nil pass0 (pa_cons (pe_call G_law_told hr (by rfl) T.m_law_told T.k_law_told T.b_law_told .nil pass0 (pa_cons pe_int (pa_cons (pv 10) pa_nil))) (pa_cons (pe_call G_law_own hr (by rfl) T.m_law_own T.k_law_own T.b_law_own .nil pass0 (pa_cons pe_int (pa_cons (pv 10) pa_nil))) pa_nil))) (by intro _; rfl))) (pss_one (ps_ret pe_bl)) pss_nil) (pss_one (ps_for PassesOwn.never rfl (pi_range1 (by rfl) T.z_range (pa_cons pe_int pa_nil)) (pg_name (i := 11) sc_law.nd rfl (Or.inl rfl)) (pss_cons (ps_if (pt_not (kTRUTH K rfl (pe_call G_law_same hr (by rfl) T.m_law_same T.k_law_same T.b_law_same .nil pass0 (pa_cons (pe_call G_law_told hr (by rfl) T.m_law_told T.k_law_told T.b_law_told .nil pass0 (pa_cons (pv 11) (pa_cons (pe_ix (kIX K rfl) (pv 7) (pv 11) (fun _ _ => rfl)) pa_nil))) (pa_cons (pe_tup (pa_cons (pe_ix (kIX K rfl) (pv 9) (pv 11) (fun _ _ => rfl)) (pa_cons (pe_callB (kLEN K rfl) (by rfl) T.z_len (by decide +kernel) (pa_cons (pe_ix (kIX K rfl) (pv 7) (pv 11) (fun _ _ => rfl)) pa_nil)) pa_nil))) pa_nil))) (by intro _; rfl))) (pss_one (ps_ret pe_bl)) pss_nil) (pss_one (ps_for PassesOwn.never rfl (pi_range1 (by rfl) T.z_range (pa_cons pe_int pa_nil)) (pg_name (i := 12) sc_law.nd rfl (Or.inl rfl)) (pss_cons (ps_set (i := 13) sc_law.nd rfl (Or.inl rfl) (pe_call G_law_spoilt hr (by rfl) T.m_law_spoilt T.k_law_spoilt T.b_law_spoilt .nil pass0 (pa_cons (pv 1) (pa_cons (pe_callTy (kLIST K rfl) (by rfl) T.z_list (by decide +kernel) (pa_cons (pe_ix (kIX K rfl) (pv 7) (pv 11) (fun _ _ => rfl)) pa_nil)) pa_nil)))) (pss_one (ps_if (pt_not (kTRUTH K rfl (pe_call G_law_same hr (by rfl) T.m_law_same T.k_law_same T.b_law_same .nil pass0 (pa_cons (pe_call G_law_told hr (by rfl) T.m_law_told T.k_law_told T.b_law_told .nil pass0 (pa_cons (pv 11) (pa_cons (pv 13) pa_nil))) (pa_cons (pe_call G_law_own hr (by rfl) T.m_law_own T.k_law_own T.b_law_own .nil pass0 (pa_cons (pv 11) (pa_cons (pv 13) pa_nil))) pa_nil))) (by intro _; rfl))) (pss_one (ps_ret pe_bl)) pss_nil)))))))))))))))))))) (pss_one (ps_ret pe_bl)))), ?_⟩
  intro ns hns B
  refine ds_seq' (ds_set (dw_lst (da_cons' (dw_CB (da_cons' (dw_scr (ns := ns) rfl (pw_p (da_nil' (rn_listScr (ns := ns) rfl ?_)))))))))
  walk_at "gs"
  refine ds_mid' (fun _ => True) ?_ ?_
  · refine ds_forE' (ch := [2]) ?_
    refine di_rng1 ?_
    walk_at "gs"
    refine ⟨by decide, by decide, fun i G => ∃ (st : Stt) (s2 s3 s4 s5 s6 s7 s8 s9 s10 s11 s12 s13 : Sl), st.ok ∧ G = [.ow (scr K ns), .o none (encS st), s2, s3, s4, s5, s6, s7, s8, s9, s10, s11, s12, s13], ⟨⟨ns, 0, 0, 1⟩, _, _, _, _, _, _, _, _, _, _, _, _, ⟨Int.le_refl 0, by show (0 : Int) ≤ 1; decide, by show (1 : Int) < 2147483647; decide, hns⟩, rfl⟩, fun i G2 d hd ⟨st, s2, s3, s4, s5, s6, s7, s8, s9, s10, s11, s12, s13, hst, hG⟩ => ?_, fun G2 _ => trivial⟩
    subst hG
    refine dg_name ?_
    walk_at "go"
    refine ⟨st, 1, none, _, hst, rfl, rfl, rfl, ?_⟩
    rintro _ _ ⟨st1, n, hst1, rfl, rfl, q1⟩
    walk_at "go"
    refine ⟨st1, 1, none, _, hst1, rfl, rfl, rfl, ?_⟩
    rintro _ _ ⟨st2, t, hst2, rfl, rfl, q2⟩
    walk_at "go"
    refine ⟨st2, 1, none, _, hst2, rfl, rfl, rfl, ?_⟩
    rintro _ _ ⟨st3, dd, hst3, rfl, rfl, q3⟩
    have l1 := num_len q1
    have l2 := text_len q2
    have l3 := dd_len q3
    walk_at "gs"
    refine ds_seq' ?_
    refine ds_setF ?_
    refine dw_lcS encTr okX (q := none) (s := 1) [.ow (scr K ns), .un, .d d, .d (nD n), .d (zD t), .d (encDd dd), s6, s7, s8, s9, s10, s11, s12, s13] ?_
    refine di_rng1 ?_
    walk_at "go"
    refine ⟨(st3, 7), 1, none, _, ⟨hst3, by simp, by simp⟩, rfl, rfl, rfl, ?_⟩
    rintro _ _ ⟨st4, m, hst4, rfl, rfl, hm⟩
    have hm : m < 7 := hm
    walk_at "go"
    refine ⟨by omega, by omega, m, st4, by simp [rngD], by omega, hst4, rfl, fun B' d' st' hst' => ?_, fun l st5 hl ho hst5 => ?_⟩
    · walk_at "go"
      refine ⟨(st', 9), 1, none, _, ⟨hst', by simp, by simp⟩, rfl, rfl, rfl, ?_⟩
      rintro _ _ ⟨st6, k9, hst6, rfl, rfl, hk9⟩
      have hk9 : k9 < 9 := hk9
      walk_at "go"
      refine ⟨st6, 1, none, _, hst6, rfl, rfl, rfl, ?_⟩
      rintro _ _ ⟨st7, n7, hst7, rfl, rfl, hn7⟩
      walk_at "go"
      refine ⟨st7, 1, none, _, hst7, rfl, rfl, rfl, ?_⟩
      rintro _ _ ⟨st8, d8, hst8, rfl, rfl, hd8⟩
      walk_at "go"
      exact ⟨(k9, n7, d8), st8, ⟨okN_s (by omega), hn7, hd8⟩, hst8, rfl, rfl⟩
    have q4 : okL l := ⟨by omega, ho⟩
    have l4 := ts_len q4
    have hF : okF (n, t, dd, l) := ⟨q1, q2, q3, q4⟩
    refine ⟨_, rfl, ?_⟩
    walk_at "gs"
    refine ds_seq' ?_
    refine ds_setF ?_
    walk_at "go"
    refine ⟨n, okN_40 q1, rfl, ?_⟩
    rintro _ rfl
    walk_at "go"
    refine ⟨t, q2, rfl, ?_⟩
    rintro _ rfl
    walk_at "go"
    refine ⟨dd, q3, rfl, ?_⟩
    rintro _ rfl
    walk_at "go"
    refine rn_listL rfl ?_
    walk_at "go"
    refine ⟨l, q4, rfl, ?_⟩
    rintro _ rfl
    walk_at "go"
    refine rn_listL rfl ?_
    walk_at "go"
    refine ⟨l, q4, rfl, ?_⟩
    rintro _ rfl
    walk_at "gs"
    have hW : ∀ z ∈ wrF (n, t, dd, l), z.length ≤ 60000 := fun z hz => by
      obtain ⟨i, hi⟩ := List.mem_iff_getElem?.mp hz
      exact wrF_len hF hi
    have sdW : SD 7 (.list ((wrF (n, t, dd, l)).map bD)) := ⟨by show 5 ≤ 1000000; decide, fun z hz => by
      obtain ⟨y, hy, rfl⟩ := List.mem_map.mp hz
      exact SD_map (n := 5) (by have := hW y hy; omega) fun _ => True.intro⟩
    refine ds_seq' ?_
    refine ds_setF ?_
    walk_at "go"
    refine ⟨l, q4, rfl, ?_⟩
    rintro _ rfl
    walk_at "go"
    refine ⟨n, okN_40 q1, rfl, ?_⟩
    rintro _ rfl
    walk_at "go"
    refine ⟨t, q2, rfl, ?_⟩
    rintro _ rfl
    walk_at "go"
    refine ⟨dd, q3, rfl, ?_⟩
    rintro _ rfl
    walk_at "go"
    refine rw_addL rfl rfl (zz (by simp; omega)) ?_
    walk_at "go"
    refine ⟨.list ((wrF (n, t, dd, l)).map bD), sdW, rfl, ?_⟩
    rintro _ rfl
    walk_at "gs"
    refine ds_seq' ?_
    refine ds_setF ?_
    walk_at "go"
    refine ⟨(n, t, dd, l), hF, rfl, ?_⟩
    rintro _ rfl
    walk_at "gs"
    refine ds_seq' ?_
    refine ds_setF ?_
    walk_at "go"
    refine dw_lcS nD (fun _ => True) (q := none) (s := 1) [.ow (scr K ns), .un, .d d, .d (nD n), .d (zD t), .d (encDd dd), .d (encTs l), .d (.list ((wrF (n, t, dd, l)).map bD)), .d (bD (wrTs l)), .d (.list (thF (n, t, dd, l))), s10, s11, .un, s13] ?_
    refine di_rng1 ?_
    walk_at "go"
    refine ⟨(st5, 63), 1, none, _, ⟨hst5, by simp, by simp⟩, rfl, rfl, rfl, ?_⟩
    rintro _ _ ⟨st6, m6, hst6, rfl, rfl, hm6⟩
    have hm6 : m6 < 63 := hm6
    walk_at "go"
    refine ⟨by omega, by omega, m6, st6, by simp [rngD], by omega, hst6, rfl, fun B' d' st' hst' => ?_, fun lg st7 hlg _ hst7 => ?_⟩
    · walk_at "go"
      refine ⟨(st', 128), 1, none, _, ⟨hst', by simp, by simp⟩, rfl, rfl, rfl, ?_⟩
      rintro _ _ ⟨st8, k8, hst8, rfl, rfl, hk8⟩
      walk_at "go"
      exact ⟨128 + k8, st8, True.intro, hst8, rfl, rfl⟩
    walk_at "go"
    refine ⟨(st7, 3), 1, none, _, ⟨hst7, by simp, by simp⟩, rfl, rfl, rfl, ?_⟩
    rintro _ _ ⟨st8, m8, hst8, rfl, rfl, hm8⟩
    walk_at "go"
    refine rw_addL rfl rfl (zz (by simp; omega)) ?_
    refine ⟨.list ((lg ++ [m8]).map nD), by rw [List.map_append]; rfl, ?_⟩
    have hlL : (lg ++ [m8]).length ≤ 1000000 := by simp; omega
    walk_at "go"
    refine ⟨(0, lg ++ [m8]), ⟨by show 0 < 5; decide, hlL⟩, rfl, ?_⟩
    rintro _ rfl
    walk_at "go"
    refine ⟨(0, lg ++ [m8]), ⟨by show 0 < 5; decide, hlL⟩, rfl, ?_⟩
    rintro _ rfl
    walk_at "go"
    refine ⟨ownO 0 (lg ++ [m8]), SD_own hlL, rfl, ?_⟩
    rintro _ rfl
    walk_at "go"
    refine ds_forE' (ch := [11]) ?_
    refine di_rng1 ?_
    walk_at "go"
    refine ⟨by decide, by decide, fun i G => ∃ (st : Stt) (s11 s12 s13 : Sl), st.ok ∧ G = [.ow (scr K ns), .o none (encS st), .d d, .d (nD n), .d (zD t), .d (encDd dd), .d (encTs l), .d (.list ((wrF (n, t, dd, l)).map bD)), .d (bD (wrTs l)), .d (.list (thF (n, t, dd, l))), .d (.list ((lg ++ [m8]).map nD)), s11, s12, s13], ⟨st8, _, _, _, hst8, rfl⟩, fun k G2 d2 hd2 ⟨sta, s11, s12, s13, hsta, hG⟩ => ?_, fun G2 ⟨sta, s11, s12, s13, hsta, hG⟩ => ?_⟩
    · subst hG
      obtain ⟨hk, rfl⟩ := rngD_get hd2
      have hk : k < 5 := by simpa using hk
      have e0 : (0 : Int) + (k : Int) = (k : Int) := by omega
      rw [e0]
      obtain ⟨wk, hwk⟩ : ∃ w, (wrF (n, t, dd, l))[k]? = some w := ⟨_, List.getElem?_eq_getElem hk⟩
      obtain ⟨tk, htk⟩ : ∃ d, (thF (n, t, dd, l))[k]? = some d := ⟨_, List.getElem?_eq_getElem hk⟩
      have hwl := wrF_len hF hwk
      have hob := own_back hF hwk htk
      refine dg_name ?_
      walk_at "go"
      refine rw_ixL rfl (ati hwk) ?_
      walk_at "go"
      refine ⟨(k, wk), ⟨hk, by show wk.length ≤ 1000000; omega⟩, rfl, ?_⟩
      rintro _ rfl
      walk_at "go"
      refine rw_ixL rfl (atn htk) ?_
      walk_at "go"
      refine rw_ixL rfl (ati hwk) ?_
      walk_at "go"
      refine ⟨ownO k wk, SD_own (by omega), by rw [List.length_map]; show some [ownO k wk, PyData.tuple [tk, nD wk.length]] = _; rw [hob], ?_⟩
      rintro _ rfl
      walk_at "go"
      refine ds_forE' (ch := [12]) ?_
      refine di_rng1 ?_
      walk_at "go"
      refine ⟨by decide, by decide, fun i G => ∃ (st : Stt) (s12 s13 : Sl), st.ok ∧ G = [.ow (scr K ns), .o none (encS st), .d d, .d (nD n), .d (zD t), .d (encDd dd), .d (encTs l), .d (.list ((wrF (n, t, dd, l)).map bD)), .d (bD (wrTs l)), .d (.list (thF (n, t, dd, l))), .d (.list ((lg ++ [m8]).map nD)), .d (nD k), s12, s13], ⟨sta, _, _, hsta, rfl⟩, fun k3 G3 d3 hd3 ⟨stb, s12, s13, hstb, hG⟩ => ?_, fun G3 ⟨stb, s12, s13, hstb, hG⟩ => ?_⟩
      · subst hG
        refine dg_name ?_
        walk_at "gs"
        refine ds_seq' ?_
        refine ds_setF ?_
        walk_at "go"
        refine rw_ixL rfl (ati hwk) ?_
        walk_at "go"
        refine rn_listL rfl ?_
        walk_at "go"
        refine ⟨(stb, wk), 1, none, _, ⟨hstb, hwl⟩, rfl, rfl, rfl, ?_⟩
        rintro _ _ ⟨stc, ds, hstc, rfl, rfl, hds⟩
        walk_at "go"
        refine ⟨(k, ds), ⟨hk, by show ds.length ≤ 1000000; omega⟩, rfl, ?_⟩
        rintro _ rfl
        walk_at "go"
        refine ⟨(k, ds), ⟨hk, by show ds.length ≤ 1000000; omega⟩, rfl, ?_⟩
        rintro _ rfl
        walk_at "go"
        refine ⟨ownO k ds, SD_own (by omega), rfl, ?_⟩
        rintro _ rfl
        walk_at "go"
        exact ⟨stc, _, _, hstc, rfl⟩
      · subst hG
        exact ⟨stb, _, _, _, hstb, rfl⟩
    · subst hG
      exact ⟨sta, _, _, _, _, _, _, _, _, _, _, _, _, hsta, rfl⟩
  · intro G _
    walk_at "go"
end
end K12
namespace K12
open PySem PySem.Spec PyProof.Rows L2 DL
theorem ok_all {P : Program} {w : World} {K : PySem.W.Frag} {mg : Str → Option Value} {base : Heap} {a : Ad} (T : Tx K mg a) : FnOk P w K mg base CX0 11 a.f39 a.d39 ["script"] (spLaw K 63) := by
  have n1 := ok_law_next (P := P) (w := w) (base := base) T
  have s7 := ok_law_same (P := P) (w := w) (base := base) T 7
  have rb := ok_read_byte (P := P) (w := w) (base := base) T
  have rc := ok_read_choice T rb
  have re := ok_end (P := P) (w := w) (base := base) T
  have rn := ok_read_number T rb
  have rcn := ok_read_count T rn
  have rch := ok_read_character T rn
  have rs := ok_read_string T rcn rch
  have rm := ok_read_mark T rn
  have rd := ok_read_deed T rc rn rcn rm rs
  have rt := ok_read_triple T rn rd
  have rts := ok_read_triples T rcn rt
  have rp := ok_read_packet T rb rts
  have i0 := ok_init (P := P) (w := w) (base := base) T
  have ln := ok_law_read_number (P := P) (w := w) (base := base) T
  have lm := ok_law_read_mark T ln
  have lt := ok_law_read_text T ln (ok_law_sign T)
  have ld := ok_law_read_deed T ln lm lt
  have lts := ok_law_read_triples T ln lm ld
  have lp := ok_law_read_packet T lts
  have lo := ok_law_own T ln lt ld lts lp
  have wn := ok_write_number (P := P) (w := w) (base := base) T
  have wl := ok_write_list T wn
  have ws := ok_write_string T wn wl
  have wm := ok_write_mark T wn
  have wd := ok_write_deed T wn wl ws wm
  have wts := ok_write_triples T wn wl wd
  have wp := ok_write_packet T wts
  have vn := ok_law_number (P := P) (w := w) (base := base) T
  have vt := ok_law_text T vn
  have vm := ok_law_mark T vn
  have vd := ok_law_deed T vn vt vm
  have vts := ok_law_triples T vn vd
  have dn := ok_law_drawn_number T n1
  have dt := ok_law_drawn_text T n1
  have dd := ok_law_drawn_deed T n1 dn dt
  have sp := ok_law_spoilt T n1
  have told := ok_law_told T i0 rn rs rd rts rp re
  have row := ok_law_in_a_row T i0 rn rs rd rts rp re s7
  exact ok_law T n1 s7 dn dt dd wn ws wd wts wp vn vt vd vts row told lo sp
theorem kit_of {K : PySem.W.Frag} {C : Addr} {T : String} (hm : PySem.W.kitMeta T = true) (h : PySem.W.subIn K (.ref C) (.type T) = some true) : PySem.W.kitOne K (.ref C) (.type T) = some true := by
  show (if ((Value.ref C) == (Value.type T)) = true then some true else if PySem.W.kitMeta T = true then PySem.W.subIn K (.ref C) (.type T) else none) = some true
  rw [if_neg (by simp), if_pos hm]
  exact h
theorem all_mk {P : Program} {w : World} {K : PySem.W.Frag} {h : Heap} {mg : Str → Option Value} {fa f8_0 f8_1 f8_2 f8_3 f8_4 f8_5 f8_6 f8_7 f8_8 f8_9 f8_11 f8_12 f8_13 f10 f11 f12 f13 f14 f15 f16 f18 f19 f20 f21 f22 f23 f24 f25 f26 f27 f28 f29 f30 f31 f32 f33 f34 f35 f36 f37 f38 f39 c0 co0 : Addr} (X : K.In h) (G : h.Ns mainGlobals mg) (hfa : mg "law" = some (.ref fa))
    {od8_0 an8_0 : Option Addr} {sl8_0 : Array (Option Value)} {oc8_0 kV8_0 dc8_0 pm8_0 cd8_0 ct8_0 : Value}
    {od8_1 an8_1 : Option Addr} {sl8_1 : Array (Option Value)} {oc8_1 kV8_1 dc8_1 pm8_1 cd8_1 ct8_1 : Value}
    {od8_2 an8_2 : Option Addr} {sl8_2 : Array (Option Value)} {oc8_2 kV8_2 dc8_2 pm8_2 cd8_2 ct8_2 : Value}
    {od8_3 an8_3 : Option Addr} {sl8_3 : Array (Option Value)} {oc8_3 kV8_3 dc8_3 pm8_3 cd8_3 ct8_3 : Value}
    {od8_4 an8_4 : Option Addr} {sl8_4 : Array (Option Value)} {oc8_4 kV8_4 dc8_4 pm8_4 cd8_4 ct8_4 : Value}
    {od8_5 an8_5 : Option Addr} {sl8_5 : Array (Option Value)} {oc8_5 kV8_5 dc8_5 pm8_5 cd8_5 ct8_5 : Value}
    {od8_6 an8_6 : Option Addr} {sl8_6 : Array (Option Value)} {oc8_6 kV8_6 dc8_6 pm8_6 cd8_6 ct8_6 : Value}
    {od8_7 an8_7 : Option Addr} {sl8_7 : Array (Option Value)} {oc8_7 kV8_7 dc8_7 pm8_7 cd8_7 ct8_7 : Value}
    {od8_8 an8_8 : Option Addr} {sl8_8 : Array (Option Value)} {oc8_8 kV8_8 dc8_8 pm8_8 cd8_8 ct8_8 : Value}
    {od8_9 an8_9 : Option Addr} {sl8_9 : Array (Option Value)} {oc8_9 kV8_9 dc8_9 pm8_9 cd8_9 ct8_9 : Value}
    {od8_11 an8_11 : Option Addr} {sl8_11 : Array (Option Value)} {oc8_11 kV8_11 dc8_11 pm8_11 cd8_11 ct8_11 : Value}
    {od8_12 an8_12 : Option Addr} {sl8_12 : Array (Option Value)} {oc8_12 kV8_12 dc8_12 pm8_12 cd8_12 ct8_12 : Value}
    {od8_13 an8_13 : Option Addr} {sl8_13 : Array (Option Value)} {oc8_13 kV8_13 dc8_13 pm8_13 cd8_13 ct8_13 : Value}
    {od10 an10 : Option Addr} {sl10 : Array (Option Value)} {oc10 kV10 dc10 pm10 cd10 ct10 : Value}
    {od11 an11 : Option Addr} {sl11 : Array (Option Value)} {oc11 kV11 dc11 pm11 cd11 ct11 : Value}
    {od12 an12 : Option Addr} {sl12 : Array (Option Value)} {oc12 kV12 dc12 pm12 cd12 ct12 : Value}
    {od13 an13 : Option Addr} {sl13 : Array (Option Value)} {oc13 kV13 dc13 pm13 cd13 ct13 : Value}
    {od14 an14 : Option Addr} {sl14 : Array (Option Value)} {oc14 kV14 dc14 pm14 cd14 ct14 : Value}
    {od15 an15 : Option Addr} {sl15 : Array (Option Value)} {oc15 kV15 dc15 pm15 cd15 ct15 : Value}
    {od16 an16 : Option Addr} {sl16 : Array (Option Value)} {oc16 kV16 dc16 pm16 cd16 ct16 : Value}
    {od18 an18 : Option Addr} {sl18 : Array (Option Value)} {oc18 kV18 dc18 pm18 cd18 ct18 : Value}
    {od19 an19 : Option Addr} {sl19 : Array (Option Value)} {oc19 kV19 dc19 pm19 cd19 ct19 : Value}
    {od20 an20 : Option Addr} {sl20 : Array (Option Value)} {oc20 kV20 dc20 pm20 cd20 ct20 : Value}
    {od21 an21 : Option Addr} {sl21 : Array (Option Value)} {oc21 kV21 dc21 pm21 cd21 ct21 : Value}
    {od22 an22 : Option Addr} {sl22 : Array (Option Value)} {oc22 kV22 dc22 pm22 cd22 ct22 : Value}
    {od23 an23 : Option Addr} {sl23 : Array (Option Value)} {oc23 kV23 dc23 pm23 cd23 ct23 : Value}
    {od24 an24 : Option Addr} {sl24 : Array (Option Value)} {oc24 kV24 dc24 pm24 cd24 ct24 : Value}
    {od25 an25 : Option Addr} {sl25 : Array (Option Value)} {oc25 kV25 dc25 pm25 cd25 ct25 : Value}
    {od26 an26 : Option Addr} {sl26 : Array (Option Value)} {oc26 kV26 dc26 pm26 cd26 ct26 : Value}
    {od27 an27 : Option Addr} {sl27 : Array (Option Value)} {oc27 kV27 dc27 pm27 cd27 ct27 : Value}
    {od28 an28 : Option Addr} {sl28 : Array (Option Value)} {oc28 kV28 dc28 pm28 cd28 ct28 : Value}
    {od29 an29 : Option Addr} {sl29 : Array (Option Value)} {oc29 kV29 dc29 pm29 cd29 ct29 : Value}
    {od30 an30 : Option Addr} {sl30 : Array (Option Value)} {oc30 kV30 dc30 pm30 cd30 ct30 : Value}
    {od31 an31 : Option Addr} {sl31 : Array (Option Value)} {oc31 kV31 dc31 pm31 cd31 ct31 : Value}
    {od32 an32 : Option Addr} {sl32 : Array (Option Value)} {oc32 kV32 dc32 pm32 cd32 ct32 : Value}
    {od33 an33 : Option Addr} {sl33 : Array (Option Value)} {oc33 kV33 dc33 pm33 cd33 ct33 : Value}
    {od34 an34 : Option Addr} {sl34 : Array (Option Value)} {oc34 kV34 dc34 pm34 cd34 ct34 : Value}
    {od35 an35 : Option Addr} {sl35 : Array (Option Value)} {oc35 kV35 dc35 pm35 cd35 ct35 : Value}
    {od36 an36 : Option Addr} {sl36 : Array (Option Value)} {oc36 kV36 dc36 pm36 cd36 ct36 : Value}
    {od37 an37 : Option Addr} {sl37 : Array (Option Value)} {oc37 kV37 dc37 pm37 cd37 ct37 : Value}
    {od38 an38 : Option Addr} {sl38 : Array (Option Value)} {oc38 kV38 dc38 pm38 cd38 ct38 : Value}
    {od39 an39 : Option Addr} {sl39 : Array (Option Value)} {oc39 kV39 dc39 pm39 cd39 ct39 : Value}
    {t_NUMBER_BYTES t_BEFORE_PERCENT t_AFTER_PERCENT : PySem.Tok}
    (oa0 : PySem.W.nsIn K mainGlobals "Reader" = some (some (.ref co0)))
    (op0 : PySem.W.plainGet K co0 Str.empty = true)
    (oh0 : PySem.W.hasDictIn K co0 = true)
    (oq0 : PySem.W.plainOver K co0 = true)
    (os0 : PySem.W.findIn K (.ref co0) "__setattr__" = some (some (.builtin "object.__setattr__")))
    (om0 : PySem.W.makesIn K co0 = true)
    (ok0 : PySem.W.keepIn K (.ref co0) = true)
    (on_data_0 : PySem.W.findIn K (.ref co0) "data" = some none)
    (on_at_0 : PySem.W.findIn K (.ref co0) "at" = some none)
    (a8_0 : PySem.W.findIn K (.ref co0) "__init__" = some (some (.ref f8_0))) (i8_0 : PySem.W.isFn K (.ref f8_0) = true)
    (l8_0 : K.lookup f8_0 = some ⟨oc8_0, od8_0, .func (PySem.W.fnOf "__init__" "Reader.__init__" (defArgs s_Reader_init) (defBody s_Reader_init) (defScope s_Reader_init) .none kV8_0 dc8_0 pm8_0 an8_0 cd8_0 ct8_0), sl8_0⟩) (e8_0 : PySem.W.codeIn K cd8_0 "Reader.__init__" = true) (k8_0 : PySem.W.keepIn K (.ref f8_0) = true)
    (a8_1 : PySem.W.findIn K (.ref co0) "read_byte" = some (some (.ref f8_1))) (i8_1 : PySem.W.isFn K (.ref f8_1) = true)
    (l8_1 : K.lookup f8_1 = some ⟨oc8_1, od8_1, .func (PySem.W.fnOf "read_byte" "Reader.read_byte" (defArgs s_Reader_read_byte) (defBody s_Reader_read_byte) (defScope s_Reader_read_byte) .none kV8_1 dc8_1 pm8_1 an8_1 cd8_1 ct8_1), sl8_1⟩) (e8_1 : PySem.W.codeIn K cd8_1 "Reader.read_byte" = true) (k8_1 : PySem.W.keepIn K (.ref f8_1) = true)
    (a8_2 : PySem.W.findIn K (.ref co0) "read_choice" = some (some (.ref f8_2))) (i8_2 : PySem.W.isFn K (.ref f8_2) = true)
    (l8_2 : K.lookup f8_2 = some ⟨oc8_2, od8_2, .func (PySem.W.fnOf "read_choice" "Reader.read_choice" (defArgs s_Reader_read_choice) (defBody s_Reader_read_choice) (defScope s_Reader_read_choice) .none kV8_2 dc8_2 pm8_2 an8_2 cd8_2 ct8_2), sl8_2⟩) (e8_2 : PySem.W.codeIn K cd8_2 "Reader.read_choice" = true) (k8_2 : PySem.W.keepIn K (.ref f8_2) = true)
    (a8_3 : PySem.W.findIn K (.ref co0) "end" = some (some (.ref f8_3))) (i8_3 : PySem.W.isFn K (.ref f8_3) = true)
    (l8_3 : K.lookup f8_3 = some ⟨oc8_3, od8_3, .func (PySem.W.fnOf "end" "Reader.end" (defArgs s_Reader_end) (defBody s_Reader_end) (defScope s_Reader_end) .none kV8_3 dc8_3 pm8_3 an8_3 cd8_3 ct8_3), sl8_3⟩) (e8_3 : PySem.W.codeIn K cd8_3 "Reader.end" = true) (k8_3 : PySem.W.keepIn K (.ref f8_3) = true)
    (a8_4 : PySem.W.findIn K (.ref co0) "read_number" = some (some (.ref f8_4))) (i8_4 : PySem.W.isFn K (.ref f8_4) = true)
    (l8_4 : K.lookup f8_4 = some ⟨oc8_4, od8_4, .func (PySem.W.fnOf "read_number" "Reader.read_number" (defArgs s_Reader_read_number) (defBody s_Reader_read_number) (defScope s_Reader_read_number) .none kV8_4 dc8_4 pm8_4 an8_4 cd8_4 ct8_4), sl8_4⟩) (e8_4 : PySem.W.codeIn K cd8_4 "Reader.read_number" = true) (k8_4 : PySem.W.keepIn K (.ref f8_4) = true)
    (a8_5 : PySem.W.findIn K (.ref co0) "read_count" = some (some (.ref f8_5))) (i8_5 : PySem.W.isFn K (.ref f8_5) = true)
    (l8_5 : K.lookup f8_5 = some ⟨oc8_5, od8_5, .func (PySem.W.fnOf "read_count" "Reader.read_count" (defArgs s_Reader_read_count) (defBody s_Reader_read_count) (defScope s_Reader_read_count) .none kV8_5 dc8_5 pm8_5 an8_5 cd8_5 ct8_5), sl8_5⟩) (e8_5 : PySem.W.codeIn K cd8_5 "Reader.read_count" = true) (k8_5 : PySem.W.keepIn K (.ref f8_5) = true)
    (a8_6 : PySem.W.findIn K (.ref co0) "read_character" = some (some (.ref f8_6))) (i8_6 : PySem.W.isFn K (.ref f8_6) = true)
    (l8_6 : K.lookup f8_6 = some ⟨oc8_6, od8_6, .func (PySem.W.fnOf "read_character" "Reader.read_character" (defArgs s_Reader_read_character) (defBody s_Reader_read_character) (defScope s_Reader_read_character) .none kV8_6 dc8_6 pm8_6 an8_6 cd8_6 ct8_6), sl8_6⟩) (e8_6 : PySem.W.codeIn K cd8_6 "Reader.read_character" = true) (k8_6 : PySem.W.keepIn K (.ref f8_6) = true)
    (a8_7 : PySem.W.findIn K (.ref co0) "read_string" = some (some (.ref f8_7))) (i8_7 : PySem.W.isFn K (.ref f8_7) = true)
    (l8_7 : K.lookup f8_7 = some ⟨oc8_7, od8_7, .func (PySem.W.fnOf "read_string" "Reader.read_string" (defArgs s_Reader_read_string) (defBody s_Reader_read_string) (defScope s_Reader_read_string) .none kV8_7 dc8_7 pm8_7 an8_7 cd8_7 ct8_7), sl8_7⟩) (e8_7 : PySem.W.codeIn K cd8_7 "Reader.read_string" = true) (k8_7 : PySem.W.keepIn K (.ref f8_7) = true)
    (a8_8 : PySem.W.findIn K (.ref co0) "read_mark" = some (some (.ref f8_8))) (i8_8 : PySem.W.isFn K (.ref f8_8) = true)
    (l8_8 : K.lookup f8_8 = some ⟨oc8_8, od8_8, .func (PySem.W.fnOf "read_mark" "Reader.read_mark" (defArgs s_Reader_read_mark) (defBody s_Reader_read_mark) (defScope s_Reader_read_mark) .none kV8_8 dc8_8 pm8_8 an8_8 cd8_8 ct8_8), sl8_8⟩) (e8_8 : PySem.W.codeIn K cd8_8 "Reader.read_mark" = true) (k8_8 : PySem.W.keepIn K (.ref f8_8) = true)
    (a8_9 : PySem.W.findIn K (.ref co0) "read_deed" = some (some (.ref f8_9))) (i8_9 : PySem.W.isFn K (.ref f8_9) = true)
    (l8_9 : K.lookup f8_9 = some ⟨oc8_9, od8_9, .func (PySem.W.fnOf "read_deed" "Reader.read_deed" (defArgs s_Reader_read_deed) (defBody s_Reader_read_deed) (defScope s_Reader_read_deed) .none kV8_9 dc8_9 pm8_9 an8_9 cd8_9 ct8_9), sl8_9⟩) (e8_9 : PySem.W.codeIn K cd8_9 "Reader.read_deed" = true) (k8_9 : PySem.W.keepIn K (.ref f8_9) = true)
    (a8_11 : PySem.W.findIn K (.ref co0) "read_triple" = some (some (.ref f8_11))) (i8_11 : PySem.W.isFn K (.ref f8_11) = true)
    (l8_11 : K.lookup f8_11 = some ⟨oc8_11, od8_11, .func (PySem.W.fnOf "read_triple" "Reader.read_triple" (defArgs s_Reader_read_triple) (defBody s_Reader_read_triple) (defScope s_Reader_read_triple) .none kV8_11 dc8_11 pm8_11 an8_11 cd8_11 ct8_11), sl8_11⟩) (e8_11 : PySem.W.codeIn K cd8_11 "Reader.read_triple" = true) (k8_11 : PySem.W.keepIn K (.ref f8_11) = true)
    (a8_12 : PySem.W.findIn K (.ref co0) "read_triples" = some (some (.ref f8_12))) (i8_12 : PySem.W.isFn K (.ref f8_12) = true)
    (l8_12 : K.lookup f8_12 = some ⟨oc8_12, od8_12, .func (PySem.W.fnOf "read_triples" "Reader.read_triples" (defArgs s_Reader_read_triples) (defBody s_Reader_read_triples) (defScope s_Reader_read_triples) .none kV8_12 dc8_12 pm8_12 an8_12 cd8_12 ct8_12), sl8_12⟩) (e8_12 : PySem.W.codeIn K cd8_12 "Reader.read_triples" = true) (k8_12 : PySem.W.keepIn K (.ref f8_12) = true)
    (a8_13 : PySem.W.findIn K (.ref co0) "read_packet" = some (some (.ref f8_13))) (i8_13 : PySem.W.isFn K (.ref f8_13) = true)
    (l8_13 : K.lookup f8_13 = some ⟨oc8_13, od8_13, .func (PySem.W.fnOf "read_packet" "Reader.read_packet" (defArgs s_Reader_read_packet) (defBody s_Reader_read_packet) (defScope s_Reader_read_packet) .none kV8_13 dc8_13 pm8_13 an8_13 cd8_13 ct8_13), sl8_13⟩) (e8_13 : PySem.W.codeIn K cd8_13 "Reader.read_packet" = true) (k8_13 : PySem.W.keepIn K (.ref f8_13) = true)
    (a10 : PySem.W.nsIn K mainGlobals "write_number" = some (some (.ref f10)))
    (l10 : K.lookup f10 = some ⟨oc10, od10, .func (PySem.W.fnOf "write_number" "write_number" (defArgs s_write_number) (defBody s_write_number) (defScope s_write_number) .none kV10 dc10 pm10 an10 cd10 ct10), sl10⟩) (e10 : PySem.W.codeIn K cd10 "write_number" = true) (k10 : PySem.W.keepIn K (.ref f10) = true)
    (a11 : PySem.W.nsIn K mainGlobals "write_list" = some (some (.ref f11)))
    (l11 : K.lookup f11 = some ⟨oc11, od11, .func (PySem.W.fnOf "write_list" "write_list" (defArgs s_write_list) (defBody s_write_list) (defScope s_write_list) .none kV11 dc11 pm11 an11 cd11 ct11), sl11⟩) (e11 : PySem.W.codeIn K cd11 "write_list" = true) (k11 : PySem.W.keepIn K (.ref f11) = true)
    (a12 : PySem.W.nsIn K mainGlobals "write_string" = some (some (.ref f12)))
    (l12 : K.lookup f12 = some ⟨oc12, od12, .func (PySem.W.fnOf "write_string" "write_string" (defArgs s_write_string) (defBody s_write_string) (defScope s_write_string) .none kV12 dc12 pm12 an12 cd12 ct12), sl12⟩) (e12 : PySem.W.codeIn K cd12 "write_string" = true) (k12 : PySem.W.keepIn K (.ref f12) = true)
    (a13 : PySem.W.nsIn K mainGlobals "write_mark" = some (some (.ref f13)))
    (l13 : K.lookup f13 = some ⟨oc13, od13, .func (PySem.W.fnOf "write_mark" "write_mark" (defArgs s_write_mark) (defBody s_write_mark) (defScope s_write_mark) .none kV13 dc13 pm13 an13 cd13 ct13), sl13⟩) (e13 : PySem.W.codeIn K cd13 "write_mark" = true) (k13 : PySem.W.keepIn K (.ref f13) = true)
    (a14 : PySem.W.nsIn K mainGlobals "write_deed" = some (some (.ref f14)))
    (l14 : K.lookup f14 = some ⟨oc14, od14, .func (PySem.W.fnOf "write_deed" "write_deed" (defArgs s_write_deed) (defBody s_write_deed) (defScope s_write_deed) .none kV14 dc14 pm14 an14 cd14 ct14), sl14⟩) (e14 : PySem.W.codeIn K cd14 "write_deed" = true) (k14 : PySem.W.keepIn K (.ref f14) = true)
    (a15 : PySem.W.nsIn K mainGlobals "write_triples" = some (some (.ref f15)))
    (l15 : K.lookup f15 = some ⟨oc15, od15, .func (PySem.W.fnOf "write_triples" "write_triples" (defArgs s_write_triples) (defBody s_write_triples) (defScope s_write_triples) .none kV15 dc15 pm15 an15 cd15 ct15), sl15⟩) (e15 : PySem.W.codeIn K cd15 "write_triples" = true) (k15 : PySem.W.keepIn K (.ref f15) = true)
    (a16 : PySem.W.nsIn K mainGlobals "write_packet" = some (some (.ref f16)))
    (l16 : K.lookup f16 = some ⟨oc16, od16, .func (PySem.W.fnOf "write_packet" "write_packet" (defArgs s_write_packet) (defBody s_write_packet) (defScope s_write_packet) .none kV16 dc16 pm16 an16 cd16 ct16), sl16⟩) (e16 : PySem.W.codeIn K cd16 "write_packet" = true) (k16 : PySem.W.keepIn K (.ref f16) = true)
    (a18 : PySem.W.nsIn K mainGlobals "_law_next" = some (some (.ref f18)))
    (l18 : K.lookup f18 = some ⟨oc18, od18, .func (PySem.W.fnOf "_law_next" "_law_next" (defArgs s_law_next) (defBody s_law_next) (defScope s_law_next) .none kV18 dc18 pm18 an18 cd18 ct18), sl18⟩) (e18 : PySem.W.codeIn K cd18 "_law_next" = true) (k18 : PySem.W.keepIn K (.ref f18) = true)
    (a19 : PySem.W.nsIn K mainGlobals "_law_same" = some (some (.ref f19)))
    (l19 : K.lookup f19 = some ⟨oc19, od19, .func (PySem.W.fnOf "_law_same" "_law_same" (defArgs s_law_same) (defBody s_law_same) (defScope s_law_same) .none kV19 dc19 pm19 an19 cd19 ct19), sl19⟩) (e19 : PySem.W.codeIn K cd19 "_law_same" = true) (k19 : PySem.W.keepIn K (.ref f19) = true)
    (a20 : PySem.W.nsIn K mainGlobals "_law_number" = some (some (.ref f20)))
    (l20 : K.lookup f20 = some ⟨oc20, od20, .func (PySem.W.fnOf "_law_number" "_law_number" (defArgs s_law_number) (defBody s_law_number) (defScope s_law_number) .none kV20 dc20 pm20 an20 cd20 ct20), sl20⟩) (e20 : PySem.W.codeIn K cd20 "_law_number" = true) (k20 : PySem.W.keepIn K (.ref f20) = true)
    (a21 : PySem.W.nsIn K mainGlobals "_law_text" = some (some (.ref f21)))
    (l21 : K.lookup f21 = some ⟨oc21, od21, .func (PySem.W.fnOf "_law_text" "_law_text" (defArgs s_law_text) (defBody s_law_text) (defScope s_law_text) .none kV21 dc21 pm21 an21 cd21 ct21), sl21⟩) (e21 : PySem.W.codeIn K cd21 "_law_text" = true) (k21 : PySem.W.keepIn K (.ref f21) = true)
    (a22 : PySem.W.nsIn K mainGlobals "_law_mark" = some (some (.ref f22)))
    (l22 : K.lookup f22 = some ⟨oc22, od22, .func (PySem.W.fnOf "_law_mark" "_law_mark" (defArgs s_law_mark) (defBody s_law_mark) (defScope s_law_mark) .none kV22 dc22 pm22 an22 cd22 ct22), sl22⟩) (e22 : PySem.W.codeIn K cd22 "_law_mark" = true) (k22 : PySem.W.keepIn K (.ref f22) = true)
    (a23 : PySem.W.nsIn K mainGlobals "_law_deed" = some (some (.ref f23)))
    (l23 : K.lookup f23 = some ⟨oc23, od23, .func (PySem.W.fnOf "_law_deed" "_law_deed" (defArgs s_law_deed) (defBody s_law_deed) (defScope s_law_deed) .none kV23 dc23 pm23 an23 cd23 ct23), sl23⟩) (e23 : PySem.W.codeIn K cd23 "_law_deed" = true) (k23 : PySem.W.keepIn K (.ref f23) = true)
    (a24 : PySem.W.nsIn K mainGlobals "_law_triples" = some (some (.ref f24)))
    (l24 : K.lookup f24 = some ⟨oc24, od24, .func (PySem.W.fnOf "_law_triples" "_law_triples" (defArgs s_law_triples) (defBody s_law_triples) (defScope s_law_triples) .none kV24 dc24 pm24 an24 cd24 ct24), sl24⟩) (e24 : PySem.W.codeIn K cd24 "_law_triples" = true) (k24 : PySem.W.keepIn K (.ref f24) = true)
    (a25 : PySem.W.nsIn K mainGlobals "_law_read_number" = some (some (.ref f25)))
    (l25 : K.lookup f25 = some ⟨oc25, od25, .func (PySem.W.fnOf "_law_read_number" "_law_read_number" (defArgs s_law_read_number) (defBody s_law_read_number) (defScope s_law_read_number) .none kV25 dc25 pm25 an25 cd25 ct25), sl25⟩) (e25 : PySem.W.codeIn K cd25 "_law_read_number" = true) (k25 : PySem.W.keepIn K (.ref f25) = true)
    (a26 : PySem.W.nsIn K mainGlobals "_law_sign" = some (some (.ref f26)))
    (l26 : K.lookup f26 = some ⟨oc26, od26, .func (PySem.W.fnOf "_law_sign" "_law_sign" (defArgs s_law_sign) (defBody s_law_sign) (defScope s_law_sign) .none kV26 dc26 pm26 an26 cd26 ct26), sl26⟩) (e26 : PySem.W.codeIn K cd26 "_law_sign" = true) (k26 : PySem.W.keepIn K (.ref f26) = true)
    (a27 : PySem.W.nsIn K mainGlobals "_law_read_text" = some (some (.ref f27)))
    (l27 : K.lookup f27 = some ⟨oc27, od27, .func (PySem.W.fnOf "_law_read_text" "_law_read_text" (defArgs s_law_read_text) (defBody s_law_read_text) (defScope s_law_read_text) .none kV27 dc27 pm27 an27 cd27 ct27), sl27⟩) (e27 : PySem.W.codeIn K cd27 "_law_read_text" = true) (k27 : PySem.W.keepIn K (.ref f27) = true)
    (a28 : PySem.W.nsIn K mainGlobals "_law_read_mark" = some (some (.ref f28)))
    (l28 : K.lookup f28 = some ⟨oc28, od28, .func (PySem.W.fnOf "_law_read_mark" "_law_read_mark" (defArgs s_law_read_mark) (defBody s_law_read_mark) (defScope s_law_read_mark) .none kV28 dc28 pm28 an28 cd28 ct28), sl28⟩) (e28 : PySem.W.codeIn K cd28 "_law_read_mark" = true) (k28 : PySem.W.keepIn K (.ref f28) = true)
    (a29 : PySem.W.nsIn K mainGlobals "_law_read_deed" = some (some (.ref f29)))
    (l29 : K.lookup f29 = some ⟨oc29, od29, .func (PySem.W.fnOf "_law_read_deed" "_law_read_deed" (defArgs s_law_read_deed) (defBody s_law_read_deed) (defScope s_law_read_deed) .none kV29 dc29 pm29 an29 cd29 ct29), sl29⟩) (e29 : PySem.W.codeIn K cd29 "_law_read_deed" = true) (k29 : PySem.W.keepIn K (.ref f29) = true)
    (a30 : PySem.W.nsIn K mainGlobals "_law_read_triples" = some (some (.ref f30)))
    (l30 : K.lookup f30 = some ⟨oc30, od30, .func (PySem.W.fnOf "_law_read_triples" "_law_read_triples" (defArgs s_law_read_triples) (defBody s_law_read_triples) (defScope s_law_read_triples) .none kV30 dc30 pm30 an30 cd30 ct30), sl30⟩) (e30 : PySem.W.codeIn K cd30 "_law_read_triples" = true) (k30 : PySem.W.keepIn K (.ref f30) = true)
    (a31 : PySem.W.nsIn K mainGlobals "_law_read_packet" = some (some (.ref f31)))
    (l31 : K.lookup f31 = some ⟨oc31, od31, .func (PySem.W.fnOf "_law_read_packet" "_law_read_packet" (defArgs s_law_read_packet) (defBody s_law_read_packet) (defScope s_law_read_packet) .none kV31 dc31 pm31 an31 cd31 ct31), sl31⟩) (e31 : PySem.W.codeIn K cd31 "_law_read_packet" = true) (k31 : PySem.W.keepIn K (.ref f31) = true)
    (a32 : PySem.W.nsIn K mainGlobals "_law_drawn_number" = some (some (.ref f32)))
    (l32 : K.lookup f32 = some ⟨oc32, od32, .func (PySem.W.fnOf "_law_drawn_number" "_law_drawn_number" (defArgs s_law_drawn_number) (defBody s_law_drawn_number) (defScope s_law_drawn_number) .none kV32 dc32 pm32 an32 cd32 ct32), sl32⟩) (e32 : PySem.W.codeIn K cd32 "_law_drawn_number" = true) (k32 : PySem.W.keepIn K (.ref f32) = true)
    (a33 : PySem.W.nsIn K mainGlobals "_law_drawn_text" = some (some (.ref f33)))
    (l33 : K.lookup f33 = some ⟨oc33, od33, .func (PySem.W.fnOf "_law_drawn_text" "_law_drawn_text" (defArgs s_law_drawn_text) (defBody s_law_drawn_text) (defScope s_law_drawn_text) .none kV33 dc33 pm33 an33 cd33 ct33), sl33⟩) (e33 : PySem.W.codeIn K cd33 "_law_drawn_text" = true) (k33 : PySem.W.keepIn K (.ref f33) = true)
    (a34 : PySem.W.nsIn K mainGlobals "_law_drawn_deed" = some (some (.ref f34)))
    (l34 : K.lookup f34 = some ⟨oc34, od34, .func (PySem.W.fnOf "_law_drawn_deed" "_law_drawn_deed" (defArgs s_law_drawn_deed) (defBody s_law_drawn_deed) (defScope s_law_drawn_deed) .none kV34 dc34 pm34 an34 cd34 ct34), sl34⟩) (e34 : PySem.W.codeIn K cd34 "_law_drawn_deed" = true) (k34 : PySem.W.keepIn K (.ref f34) = true)
    (a35 : PySem.W.nsIn K mainGlobals "_law_spoilt" = some (some (.ref f35)))
    (l35 : K.lookup f35 = some ⟨oc35, od35, .func (PySem.W.fnOf "_law_spoilt" "_law_spoilt" (defArgs s_law_spoilt) (defBody s_law_spoilt) (defScope s_law_spoilt) .none kV35 dc35 pm35 an35 cd35 ct35), sl35⟩) (e35 : PySem.W.codeIn K cd35 "_law_spoilt" = true) (k35 : PySem.W.keepIn K (.ref f35) = true)
    (a36 : PySem.W.nsIn K mainGlobals "_law_told" = some (some (.ref f36)))
    (l36 : K.lookup f36 = some ⟨oc36, od36, .func (PySem.W.fnOf "_law_told" "_law_told" (defArgs s_law_told) (defBody s_law_told) (defScope s_law_told) .none kV36 dc36 pm36 an36 cd36 ct36), sl36⟩) (e36 : PySem.W.codeIn K cd36 "_law_told" = true) (k36 : PySem.W.keepIn K (.ref f36) = true)
    (a37 : PySem.W.nsIn K mainGlobals "_law_own" = some (some (.ref f37)))
    (l37 : K.lookup f37 = some ⟨oc37, od37, .func (PySem.W.fnOf "_law_own" "_law_own" (defArgs s_law_own) (defBody s_law_own) (defScope s_law_own) .none kV37 dc37 pm37 an37 cd37 ct37), sl37⟩) (e37 : PySem.W.codeIn K cd37 "_law_own" = true) (k37 : PySem.W.keepIn K (.ref f37) = true)
    (a38 : PySem.W.nsIn K mainGlobals "_law_in_a_row" = some (some (.ref f38)))
    (l38 : K.lookup f38 = some ⟨oc38, od38, .func (PySem.W.fnOf "_law_in_a_row" "_law_in_a_row" (defArgs s_law_in_a_row) (defBody s_law_in_a_row) (defScope s_law_in_a_row) .none kV38 dc38 pm38 an38 cd38 ct38), sl38⟩) (e38 : PySem.W.codeIn K cd38 "_law_in_a_row" = true) (k38 : PySem.W.keepIn K (.ref f38) = true)
    (a39 : PySem.W.nsIn K mainGlobals "law" = some (some (.ref f39)))
    (l39 : K.lookup f39 = some ⟨oc39, od39, .func (PySem.W.fnOf "law" "law" (defArgs s_law) (defBody s_law) (defScope s_law) .none kV39 dc39 pm39 an39 cd39 ct39), sl39⟩) (e39 : PySem.W.codeIn K cd39 "law" = true) (k39 : PySem.W.keepIn K (.ref f39) = true)
    (z_bool : PySem.W.nsIn K mainGlobals "bool" = some none)
    (z_int : PySem.W.nsIn K mainGlobals "int" = some none)
    (z_isinstance : PySem.W.nsIn K mainGlobals "isinstance" = some none)
    (z_len : PySem.W.nsIn K mainGlobals "len" = some none)
    (z_list : PySem.W.nsIn K mainGlobals "list" = some none)
    (z_ord : PySem.W.nsIn K mainGlobals "ord" = some none)
    (z_range : PySem.W.nsIn K mainGlobals "range" = some none)
    (z_str : PySem.W.nsIn K mainGlobals "str" = some none)
    (z_tuple : PySem.W.nsIn K mainGlobals "tuple" = some none)
    (g_NUMBER_BYTES : PySem.W.nsIn K mainGlobals "NUMBER_BYTES" = some (some (.int 60 t_NUMBER_BYTES)))
    (g_BEFORE_PERCENT : PySem.W.nsIn K mainGlobals "BEFORE_PERCENT" = some (some (.str (" !\"#$" : Str) t_BEFORE_PERCENT)))
    (g_AFTER_PERCENT : PySem.W.nsIn K mainGlobals "AFTER_PERCENT" = some (some (.str ("&'()*+,-./0123456789:;<=>?@ABCDEFGHIJKLMNOPQRSTUVWXYZ[\\]^_`abcdefghijklmnopqrstuvwxyz{|}~" : Str) t_AFTER_PERCENT)))
    (xa0 : PySem.W.nsIn K mainGlobals "DamagedPacket" = some (some (.ref c0)))
    (xy0 : PySem.W.excIn K c0 [.type "ValueError", .type "Exception", .type "BaseException", .type "object"] "ValueError.__new__" = true)
    (xk0 : PySem.W.keepIn K (.ref c0) = true)
    (xb0 : PySem.W.subIn K (.ref c0) (.type "BaseException") = some true)
    (xt0 : PySem.W.typeIn K (.ref c0) = some (.type "type"))
    (xs0 : PySem.W.subIn K (.ref c0) (.ref c0) = some true)
    (xg0 : PySem.W.findIn K (.ref c0) "__getattribute__" = some (some (.builtin "BaseException.__getattribute__")))
    (xh0 : PySem.W.findIn K (.ref c0) "__getattr__" = some none)
    (xd0 : PySem.W.hasDictIn K c0 = true)
    (xc0 : PySem.W.findIn K (.ref c0) "__class__" = some (some (.builtin "object.__class__")))
    (xn0 : PySem.W.specialIn K (.builtin "object.__class__") "__get__" = some (some (.builtin "getset_descriptor.__get__")))
    (xm0 : PySem.W.takesIn K (.builtin "object.__class__") = some true)
    (xo0 : PySem.W.mroIn K c0 (.type "object") = some true)
    (xv0 : PySem.W.subIn K (.ref c0) (.type "ValueError") = some true)
    : ∃ fd : FuncData, (∀ (s : Shared) (u : Value), BindsTo s fd ⟨[u], []⟩ [("script", u)]) ∧ ∀ base : Heap, K.In base → base.Ns mainGlobals mg → FnOk P w K mg base CX0 11 fa fd ["script"] (spLaw K 63) := by
  have e := hfa.symm.trans (PySem.W.mg_of X G a39)
  cases e
  have F8_0 := fun_mk (st := s_Reader_init) l8_0 e8_0 k8_0
  have b8_0 := F8_0.binds (ps := ["self", "data"]) fun _ _ _ _ _ _ us hl => match us, hl with | [_, _], _ => rfl
  have F8_1 := fun_mk (st := s_Reader_read_byte) l8_1 e8_1 k8_1
  have b8_1 := F8_1.binds (ps := ["self"]) fun _ _ _ _ _ _ us hl => match us, hl with | [_], _ => rfl
  have F8_2 := fun_mk (st := s_Reader_read_choice) l8_2 e8_2 k8_2
  have b8_2 := F8_2.binds (ps := ["self", "count"]) fun _ _ _ _ _ _ us hl => match us, hl with | [_, _], _ => rfl
  have F8_3 := fun_mk (st := s_Reader_end) l8_3 e8_3 k8_3
  have b8_3 := F8_3.binds (ps := ["self"]) fun _ _ _ _ _ _ us hl => match us, hl with | [_], _ => rfl
  have F8_4 := fun_mk (st := s_Reader_read_number) l8_4 e8_4 k8_4
  have b8_4 := F8_4.binds (ps := ["self"]) fun _ _ _ _ _ _ us hl => match us, hl with | [_], _ => rfl
  have F8_5 := fun_mk (st := s_Reader_read_count) l8_5 e8_5 k8_5
  have b8_5 := F8_5.binds (ps := ["self"]) fun _ _ _ _ _ _ us hl => match us, hl with | [_], _ => rfl
  have F8_6 := fun_mk (st := s_Reader_read_character) l8_6 e8_6 k8_6
  have b8_6 := F8_6.binds (ps := ["self"]) fun _ _ _ _ _ _ us hl => match us, hl with | [_], _ => rfl
  have F8_7 := fun_mk (st := s_Reader_read_string) l8_7 e8_7 k8_7
  have b8_7 := F8_7.binds (ps := ["self"]) fun _ _ _ _ _ _ us hl => match us, hl with | [_], _ => rfl
  have F8_8 := fun_mk (st := s_Reader_read_mark) l8_8 e8_8 k8_8
  have b8_8 := F8_8.binds (ps := ["self"]) fun _ _ _ _ _ _ us hl => match us, hl with | [_], _ => rfl
  have F8_9 := fun_mk (st := s_Reader_read_deed) l8_9 e8_9 k8_9
  have b8_9 := F8_9.binds (ps := ["self"]) fun _ _ _ _ _ _ us hl => match us, hl with | [_], _ => rfl
  have F8_11 := fun_mk (st := s_Reader_read_triple) l8_11 e8_11 k8_11
  have b8_11 := F8_11.binds (ps := ["self"]) fun _ _ _ _ _ _ us hl => match us, hl with | [_], _ => rfl
  have F8_12 := fun_mk (st := s_Reader_read_triples) l8_12 e8_12 k8_12
  have b8_12 := F8_12.binds (ps := ["self"]) fun _ _ _ _ _ _ us hl => match us, hl with | [_], _ => rfl
  have F8_13 := fun_mk (st := s_Reader_read_packet) l8_13 e8_13 k8_13
  have b8_13 := F8_13.binds (ps := ["self"]) fun _ _ _ _ _ _ us hl => match us, hl with | [_], _ => rfl
  have F10 := fun_mk (st := s_write_number) l10 e10 k10
  have b10 := F10.binds (ps := ["number"]) fun _ _ _ _ _ _ us hl => match us, hl with | [_], _ => rfl
  have F11 := fun_mk (st := s_write_list) l11 e11 k11
  have b11 := F11.binds (ps := ["items"]) fun _ _ _ _ _ _ us hl => match us, hl with | [_], _ => rfl
  have F12 := fun_mk (st := s_write_string) l12 e12 k12
  have b12 := F12.binds (ps := ["text"]) fun _ _ _ _ _ _ us hl => match us, hl with | [_], _ => rfl
  have F13 := fun_mk (st := s_write_mark) l13 e13 k13
  have b13 := F13.binds (ps := ["mark"]) fun _ _ _ _ _ _ us hl => match us, hl with | [_], _ => rfl
  have F14 := fun_mk (st := s_write_deed) l14 e14 k14
  have b14 := F14.binds (ps := ["deed"]) fun _ _ _ _ _ _ us hl => match us, hl with | [_], _ => rfl
  have F15 := fun_mk (st := s_write_triples) l15 e15 k15
  have b15 := F15.binds (ps := ["triples"]) fun _ _ _ _ _ _ us hl => match us, hl with | [_], _ => rfl
  have F16 := fun_mk (st := s_write_packet) l16 e16 k16
  have b16 := F16.binds (ps := ["packet"]) fun _ _ _ _ _ _ us hl => match us, hl with | [_], _ => rfl
  have F18 := fun_mk (st := s_law_next) l18 e18 k18
  have b18 := F18.binds (ps := ["state", "limit"]) fun _ _ _ _ _ _ us hl => match us, hl with | [_, _], _ => rfl
  have F19 := fun_mk (st := s_law_same) l19 e19 k19
  have b19 := F19.binds (ps := ["actual", "expected"]) fun _ _ _ _ _ _ us hl => match us, hl with | [_, _], _ => rfl
  have F20 := fun_mk (st := s_law_number) l20 e20 k20
  have b20 := F20.binds (ps := ["number"]) fun _ _ _ _ _ _ us hl => match us, hl with | [_], _ => rfl
  have F21 := fun_mk (st := s_law_text) l21 e21 k21
  have b21 := F21.binds (ps := ["text"]) fun _ _ _ _ _ _ us hl => match us, hl with | [_], _ => rfl
  have F22 := fun_mk (st := s_law_mark) l22 e22 k22
  have b22 := F22.binds (ps := ["mark"]) fun _ _ _ _ _ _ us hl => match us, hl with | [_], _ => rfl
  have F23 := fun_mk (st := s_law_deed) l23 e23 k23
  have b23 := F23.binds (ps := ["deed"]) fun _ _ _ _ _ _ us hl => match us, hl with | [_], _ => rfl
  have F24 := fun_mk (st := s_law_triples) l24 e24 k24
  have b24 := F24.binds (ps := ["triples"]) fun _ _ _ _ _ _ us hl => match us, hl with | [_], _ => rfl
  have F25 := fun_mk (st := s_law_read_number) l25 e25 k25
  have b25 := F25.binds (ps := ["data", "at"]) fun _ _ _ _ _ _ us hl => match us, hl with | [_, _], _ => rfl
  have F26 := fun_mk (st := s_law_sign) l26 e26 k26
  have b26 := F26.binds (ps := ["code"]) fun _ _ _ _ _ _ us hl => match us, hl with | [_], _ => rfl
  have F27 := fun_mk (st := s_law_read_text) l27 e27 k27
  have b27 := F27.binds (ps := ["data", "at"]) fun _ _ _ _ _ _ us hl => match us, hl with | [_, _], _ => rfl
  have F28 := fun_mk (st := s_law_read_mark) l28 e28 k28
  have b28 := F28.binds (ps := ["data", "at"]) fun _ _ _ _ _ _ us hl => match us, hl with | [_, _], _ => rfl
  have F29 := fun_mk (st := s_law_read_deed) l29 e29 k29
  have b29 := F29.binds (ps := ["data", "at"]) fun _ _ _ _ _ _ us hl => match us, hl with | [_, _], _ => rfl
  have F30 := fun_mk (st := s_law_read_triples) l30 e30 k30
  have b30 := F30.binds (ps := ["data", "at"]) fun _ _ _ _ _ _ us hl => match us, hl with | [_, _], _ => rfl
  have F31 := fun_mk (st := s_law_read_packet) l31 e31 k31
  have b31 := F31.binds (ps := ["data", "at"]) fun _ _ _ _ _ _ us hl => match us, hl with | [_, _], _ => rfl
  have F32 := fun_mk (st := s_law_drawn_number) l32 e32 k32
  have b32 := F32.binds (ps := ["state"]) fun _ _ _ _ _ _ us hl => match us, hl with | [_], _ => rfl
  have F33 := fun_mk (st := s_law_drawn_text) l33 e33 k33
  have b33 := F33.binds (ps := ["state"]) fun _ _ _ _ _ _ us hl => match us, hl with | [_], _ => rfl
  have F34 := fun_mk (st := s_law_drawn_deed) l34 e34 k34
  have b34 := F34.binds (ps := ["state"]) fun _ _ _ _ _ _ us hl => match us, hl with | [_], _ => rfl
  have F35 := fun_mk (st := s_law_spoilt) l35 e35 k35
  have b35 := F35.binds (ps := ["state", "data"]) fun _ _ _ _ _ _ us hl => match us, hl with | [_, _], _ => rfl
  have F36 := fun_mk (st := s_law_told) l36 e36 k36
  have b36 := F36.binds (ps := ["kind", "data"]) fun _ _ _ _ _ _ us hl => match us, hl with | [_, _], _ => rfl
  have F37 := fun_mk (st := s_law_own) l37 e37 k37
  have b37 := F37.binds (ps := ["kind", "data"]) fun _ _ _ _ _ _ us hl => match us, hl with | [_, _], _ => rfl
  have F38 := fun_mk (st := s_law_in_a_row) l38 e38 k38
  have b38 := F38.binds (ps := ["things", "written"]) fun _ _ _ _ _ _ us hl => match us, hl with | [_, _], _ => rfl
  have F39 := fun_mk (st := s_law) l39 e39 k39
  have b39 := F39.binds (ps := ["script"]) fun _ _ _ _ _ _ us hl => match us, hl with | [_], _ => rfl
  have T : Tx K mg (⟨f8_0, f8_1, f8_2, f8_3, f8_4, f8_5, f8_6, f8_7, f8_8, f8_9, f8_11, f8_12, f8_13, f10, f11, f12, f13, f14, f15, f16, f18, f19, f20, f21, f22, f23, f24, f25, f26, f27, f28, f29, f30, f31, f32, f33, f34, f35, f36, f37, f38, fa, PySem.W.fnOf "__init__" "Reader.__init__" (defArgs s_Reader_init) (defBody s_Reader_init) (defScope s_Reader_init) .none kV8_0 dc8_0 pm8_0 an8_0 cd8_0 ct8_0, PySem.W.fnOf "read_byte" "Reader.read_byte" (defArgs s_Reader_read_byte) (defBody s_Reader_read_byte) (defScope s_Reader_read_byte) .none kV8_1 dc8_1 pm8_1 an8_1 cd8_1 ct8_1, PySem.W.fnOf "read_choice" "Reader.read_choice" (defArgs s_Reader_read_choice) (defBody s_Reader_read_choice) (defScope s_Reader_read_choice) .none kV8_2 dc8_2 pm8_2 an8_2 cd8_2 ct8_2, PySem.W.fnOf "end" "Reader.end" (defArgs s_Reader_end) (defBody s_Reader_end) (defScope s_Reader_end) .none kV8_3 dc8_3 pm8_3 an8_3 cd8_3 ct8_3, PySem.W.fnOf "read_number" "Reader.read_number" (defArgs s_Reader_read_number) (defBody s_Reader_read_number) (defScope s_Reader_read_number) .none kV8_4 dc8_4 pm8_4 an8_4 cd8_4 ct8_4, PySem.W.fnOf "read_count" "Reader.read_count" (defArgs s_Reader_read_count) (defBody s_Reader_read_count) (defScope s_Reader_read_count) .none kV8_5 dc8_5 pm8_5 an8_5 cd8_5 ct8_5, PySem.W.fnOf "read_character" "Reader.read_character" (defArgs s_Reader_read_character) (defBody s_Reader_read_character) (defScope s_Reader_read_character) .none kV8_6 dc8_6 pm8_6 an8_6 cd8_6 ct8_6, PySem.W.fnOf "read_string" "Reader.read_string" (defArgs s_Reader_read_string) (defBody s_Reader_read_string) (defScope s_Reader_read_string) .none kV8_7 dc8_7 pm8_7 an8_7 cd8_7 ct8_7, PySem.W.fnOf "read_mark" "Reader.read_mark" (defArgs s_Reader_read_mark) (defBody s_Reader_read_mark) (defScope s_Reader_read_mark) .none kV8_8 dc8_8 pm8_8 an8_8 cd8_8 ct8_8, PySem.W.fnOf "read_deed" "Reader.read_deed" (defArgs s_Reader_read_deed) (defBody s_Reader_read_deed) (defScope s_Reader_read_deed) .none kV8_9 dc8_9 pm8_9 an8_9 cd8_9 ct8_9, PySem.W.fnOf "read_triple" "Reader.read_triple" (defArgs s_Reader_read_triple) (defBody s_Reader_read_triple) (defScope s_Reader_read_triple) .none kV8_11 dc8_11 pm8_11 an8_11 cd8_11 ct8_11, PySem.W.fnOf "read_triples" "Reader.read_triples" (defArgs s_Reader_read_triples) (defBody s_Reader_read_triples) (defScope s_Reader_read_triples) .none kV8_12 dc8_12 pm8_12 an8_12 cd8_12 ct8_12, PySem.W.fnOf "read_packet" "Reader.read_packet" (defArgs s_Reader_read_packet) (defBody s_Reader_read_packet) (defScope s_Reader_read_packet) .none kV8_13 dc8_13 pm8_13 an8_13 cd8_13 ct8_13, PySem.W.fnOf "write_number" "write_number" (defArgs s_write_number) (defBody s_write_number) (defScope s_write_number) .none kV10 dc10 pm10 an10 cd10 ct10, PySem.W.fnOf "write_list" "write_list" (defArgs s_write_list) (defBody s_write_list) (defScope s_write_list) .none kV11 dc11 pm11 an11 cd11 ct11, PySem.W.fnOf "write_string" "write_string" (defArgs s_write_string) (defBody s_write_string) (defScope s_write_string) .none kV12 dc12 pm12 an12 cd12 ct12, PySem.W.fnOf "write_mark" "write_mark" (defArgs s_write_mark) (defBody s_write_mark) (defScope s_write_mark) .none kV13 dc13 pm13 an13 cd13 ct13, PySem.W.fnOf "write_deed" "write_deed" (defArgs s_write_deed) (defBody s_write_deed) (defScope s_write_deed) .none kV14 dc14 pm14 an14 cd14 ct14, PySem.W.fnOf "write_triples" "write_triples" (defArgs s_write_triples) (defBody s_write_triples) (defScope s_write_triples) .none kV15 dc15 pm15 an15 cd15 ct15, PySem.W.fnOf "write_packet" "write_packet" (defArgs s_write_packet) (defBody s_write_packet) (defScope s_write_packet) .none kV16 dc16 pm16 an16 cd16 ct16, PySem.W.fnOf "_law_next" "_law_next" (defArgs s_law_next) (defBody s_law_next) (defScope s_law_next) .none kV18 dc18 pm18 an18 cd18 ct18, PySem.W.fnOf "_law_same" "_law_same" (defArgs s_law_same) (defBody s_law_same) (defScope s_law_same) .none kV19 dc19 pm19 an19 cd19 ct19, PySem.W.fnOf "_law_number" "_law_number" (defArgs s_law_number) (defBody s_law_number) (defScope s_law_number) .none kV20 dc20 pm20 an20 cd20 ct20, PySem.W.fnOf "_law_text" "_law_text" (defArgs s_law_text) (defBody s_law_text) (defScope s_law_text) .none kV21 dc21 pm21 an21 cd21 ct21, PySem.W.fnOf "_law_mark" "_law_mark" (defArgs s_law_mark) (defBody s_law_mark) (defScope s_law_mark) .none kV22 dc22 pm22 an22 cd22 ct22, PySem.W.fnOf "_law_deed" "_law_deed" (defArgs s_law_deed) (defBody s_law_deed) (defScope s_law_deed) .none kV23 dc23 pm23 an23 cd23 ct23, PySem.W.fnOf "_law_triples" "_law_triples" (defArgs s_law_triples) (defBody s_law_triples) (defScope s_law_triples) .none kV24 dc24 pm24 an24 cd24 ct24, PySem.W.fnOf "_law_read_number" "_law_read_number" (defArgs s_law_read_number) (defBody s_law_read_number) (defScope s_law_read_number) .none kV25 dc25 pm25 an25 cd25 ct25, PySem.W.fnOf "_law_sign" "_law_sign" (defArgs s_law_sign) (defBody s_law_sign) (defScope s_law_sign) .none kV26 dc26 pm26 an26 cd26 ct26, PySem.W.fnOf "_law_read_text" "_law_read_text" (defArgs s_law_read_text) (defBody s_law_read_text) (defScope s_law_read_text) .none kV27 dc27 pm27 an27 cd27 ct27, PySem.W.fnOf "_law_read_mark" "_law_read_mark" (defArgs s_law_read_mark) (defBody s_law_read_mark) (defScope s_law_read_mark) .none kV28 dc28 pm28 an28 cd28 ct28, PySem.W.fnOf "_law_read_deed" "_law_read_deed" (defArgs s_law_read_deed) (defBody s_law_read_deed) (defScope s_law_read_deed) .none kV29 dc29 pm29 an29 cd29 ct29, PySem.W.fnOf "_law_read_triples" "_law_read_triples" (defArgs s_law_read_triples) (defBody s_law_read_triples) (defScope s_law_read_triples) .none kV30 dc30 pm30 an30 cd30 ct30, PySem.W.fnOf "_law_read_packet" "_law_read_packet" (defArgs s_law_read_packet) (defBody s_law_read_packet) (defScope s_law_read_packet) .none kV31 dc31 pm31 an31 cd31 ct31, PySem.W.fnOf "_law_drawn_number" "_law_drawn_number" (defArgs s_law_drawn_number) (defBody s_law_drawn_number) (defScope s_law_drawn_number) .none kV32 dc32 pm32 an32 cd32 ct32, PySem.W.fnOf "_law_drawn_text" "_law_drawn_text" (defArgs s_law_drawn_text) (defBody s_law_drawn_text) (defScope s_law_drawn_text) .none kV33 dc33 pm33 an33 cd33 ct33, PySem.W.fnOf "_law_drawn_deed" "_law_drawn_deed" (defArgs s_law_drawn_deed) (defBody s_law_drawn_deed) (defScope s_law_drawn_deed) .none kV34 dc34 pm34 an34 cd34 ct34, PySem.W.fnOf "_law_spoilt" "_law_spoilt" (defArgs s_law_spoilt) (defBody s_law_spoilt) (defScope s_law_spoilt) .none kV35 dc35 pm35 an35 cd35 ct35, PySem.W.fnOf "_law_told" "_law_told" (defArgs s_law_told) (defBody s_law_told) (defScope s_law_told) .none kV36 dc36 pm36 an36 cd36 ct36, PySem.W.fnOf "_law_own" "_law_own" (defArgs s_law_own) (defBody s_law_own) (defScope s_law_own) .none kV37 dc37 pm37 an37 cd37 ct37, PySem.W.fnOf "_law_in_a_row" "_law_in_a_row" (defArgs s_law_in_a_row) (defBody s_law_in_a_row) (defScope s_law_in_a_row) .none kV38 dc38 pm38 an38 cd38 ct38, PySem.W.fnOf "law" "law" (defArgs s_law) (defBody s_law) (defScope s_law) .none kV39 dc39 pm39 an39 cd39 ct39, 0, c0, co0⟩ : Ad) := {
    z_bool := PySem.W.mg_none_of X G z_bool,
    z_int := PySem.W.mg_none_of X G z_int,
    z_isinstance := PySem.W.mg_none_of X G z_isinstance,
    z_len := PySem.W.mg_none_of X G z_len,
    z_list := PySem.W.mg_none_of X G z_list,
    z_ord := PySem.W.mg_none_of X G z_ord,
    z_range := PySem.W.mg_none_of X G z_range,
    z_str := PySem.W.mg_none_of X G z_str,
    z_tuple := PySem.W.mg_none_of X G z_tuple,
    g_NUMBER_BYTES := ⟨_, PySem.W.mg_of X G g_NUMBER_BYTES⟩,
    g_BEFORE_PERCENT := ⟨_, (rfl : (" !\"#$" : Str) = mkS [32, 33, 34, 35, 36]) ▸ PySem.W.mg_of X G g_BEFORE_PERCENT⟩,
    g_AFTER_PERCENT := ⟨_, (rfl : ("&'()*+,-./0123456789:;<=>?@ABCDEFGHIJKLMNOPQRSTUVWXYZ[\\]^_`abcdefghijklmnopqrstuvwxyz{|}~" : Str) = mkS [38, 39, 40, 41, 42, 43, 44, 45, 46, 47, 48, 49, 50, 51, 52, 53, 54, 55, 56, 57, 58, 59, 60, 61, 62, 63, 64, 65, 66, 67, 68, 69, 70, 71, 72, 73, 74, 75, 76, 77, 78, 79, 80, 81, 82, 83, 84, 85, 86, 87, 88, 89, 90, 91, 92, 93, 94, 95, 96, 97, 98, 99, 100, 101, 102, 103, 104, 105, 106, 107, 108, 109, 110, 111, 112, 113, 114, 115, 116, 117, 118, 119, 120, 121, 122, 123, 124, 125, 126]) ▸ PySem.W.mg_of X G g_AFTER_PERCENT⟩,
    m_Reader := PySem.W.mg_of X G oa0, cl_Reader := ⟨op0, oh0, oq0, os0⟩,
    na_Reader_data := on_data_0,
    na_Reader_at := on_at_0,
    x_DamagedPacket := ⟨xy0, PySem.W.mg_of X G xa0, xk0, xb0, xt0, xs0, ⟨xg0, xh0, xb0, xd0, xc0, xn0, xm0, xo0⟩, kit_of (by decide +kernel) xv0⟩,
    mk_Reader := ⟨om0, a8_0, i8_0, ok0⟩, b_Reader_init := b8_0, F_Reader_init := F8_0,
    mt_Reader_read_byte := ⟨a8_1, i8_1, k8_1⟩, b_Reader_read_byte := b8_1, F_Reader_read_byte := F8_1,
    mt_Reader_read_choice := ⟨a8_2, i8_2, k8_2⟩, b_Reader_read_choice := b8_2, F_Reader_read_choice := F8_2,
    mt_Reader_end := ⟨a8_3, i8_3, k8_3⟩, b_Reader_end := b8_3, F_Reader_end := F8_3,
    mt_Reader_read_number := ⟨a8_4, i8_4, k8_4⟩, b_Reader_read_number := b8_4, F_Reader_read_number := F8_4,
    mt_Reader_read_count := ⟨a8_5, i8_5, k8_5⟩, b_Reader_read_count := b8_5, F_Reader_read_count := F8_5,
    mt_Reader_read_character := ⟨a8_6, i8_6, k8_6⟩, b_Reader_read_character := b8_6, F_Reader_read_character := F8_6,
    mt_Reader_read_string := ⟨a8_7, i8_7, k8_7⟩, b_Reader_read_string := b8_7, F_Reader_read_string := F8_7,
    mt_Reader_read_mark := ⟨a8_8, i8_8, k8_8⟩, b_Reader_read_mark := b8_8, F_Reader_read_mark := F8_8,
    mt_Reader_read_deed := ⟨a8_9, i8_9, k8_9⟩, b_Reader_read_deed := b8_9, F_Reader_read_deed := F8_9,
    mt_Reader_read_triple := ⟨a8_11, i8_11, k8_11⟩, b_Reader_read_triple := b8_11, F_Reader_read_triple := F8_11,
    mt_Reader_read_triples := ⟨a8_12, i8_12, k8_12⟩, b_Reader_read_triples := b8_12, F_Reader_read_triples := F8_12,
    mt_Reader_read_packet := ⟨a8_13, i8_13, k8_13⟩, b_Reader_read_packet := b8_13, F_Reader_read_packet := F8_13,
    m_write_number := PySem.W.mg_of X G a10, k_write_number := k10, b_write_number := b10, F_write_number := F10,
    m_write_list := PySem.W.mg_of X G a11, k_write_list := k11, b_write_list := b11, F_write_list := F11,
    m_write_string := PySem.W.mg_of X G a12, k_write_string := k12, b_write_string := b12, F_write_string := F12,
    m_write_mark := PySem.W.mg_of X G a13, k_write_mark := k13, b_write_mark := b13, F_write_mark := F13,
    m_write_deed := PySem.W.mg_of X G a14, k_write_deed := k14, b_write_deed := b14, F_write_deed := F14,
    m_write_triples := PySem.W.mg_of X G a15, k_write_triples := k15, b_write_triples := b15, F_write_triples := F15,
    m_write_packet := PySem.W.mg_of X G a16, k_write_packet := k16, b_write_packet := b16, F_write_packet := F16,
    m_law_next := PySem.W.mg_of X G a18, k_law_next := k18, b_law_next := b18, F_law_next := F18,
    m_law_same := PySem.W.mg_of X G a19, k_law_same := k19, b_law_same := b19, F_law_same := F19,
    m_law_number := PySem.W.mg_of X G a20, k_law_number := k20, b_law_number := b20, F_law_number := F20,
    m_law_text := PySem.W.mg_of X G a21, k_law_text := k21, b_law_text := b21, F_law_text := F21,
    m_law_mark := PySem.W.mg_of X G a22, k_law_mark := k22, b_law_mark := b22, F_law_mark := F22,
    m_law_deed := PySem.W.mg_of X G a23, k_law_deed := k23, b_law_deed := b23, F_law_deed := F23,
    m_law_triples := PySem.W.mg_of X G a24, k_law_triples := k24, b_law_triples := b24, F_law_triples := F24,
    m_law_read_number := PySem.W.mg_of X G a25, k_law_read_number := k25, b_law_read_number := b25, F_law_read_number := F25,
    m_law_sign := PySem.W.mg_of X G a26, k_law_sign := k26, b_law_sign := b26, F_law_sign := F26,
    m_law_read_text := PySem.W.mg_of X G a27, k_law_read_text := k27, b_law_read_text := b27, F_law_read_text := F27,
    m_law_read_mark := PySem.W.mg_of X G a28, k_law_read_mark := k28, b_law_read_mark := b28, F_law_read_mark := F28,
    m_law_read_deed := PySem.W.mg_of X G a29, k_law_read_deed := k29, b_law_read_deed := b29, F_law_read_deed := F29,
    m_law_read_triples := PySem.W.mg_of X G a30, k_law_read_triples := k30, b_law_read_triples := b30, F_law_read_triples := F30,
    m_law_read_packet := PySem.W.mg_of X G a31, k_law_read_packet := k31, b_law_read_packet := b31, F_law_read_packet := F31,
    m_law_drawn_number := PySem.W.mg_of X G a32, k_law_drawn_number := k32, b_law_drawn_number := b32, F_law_drawn_number := F32,
    m_law_drawn_text := PySem.W.mg_of X G a33, k_law_drawn_text := k33, b_law_drawn_text := b33, F_law_drawn_text := F33,
    m_law_drawn_deed := PySem.W.mg_of X G a34, k_law_drawn_deed := k34, b_law_drawn_deed := b34, F_law_drawn_deed := F34,
    m_law_spoilt := PySem.W.mg_of X G a35, k_law_spoilt := k35, b_law_spoilt := b35, F_law_spoilt := F35,
    m_law_told := PySem.W.mg_of X G a36, k_law_told := k36, b_law_told := b36, F_law_told := F36,
    m_law_own := PySem.W.mg_of X G a37, k_law_own := k37, b_law_own := b37, F_law_own := F37,
    m_law_in_a_row := PySem.W.mg_of X G a38, k_law_in_a_row := k38, b_law_in_a_row := b38, F_law_in_a_row := F38,
    m_law := PySem.W.mg_of X G a39, k_law := k39, b_law := b39, F_law := F39 }
  exact ⟨PySem.W.fnOf "law" "law" (defArgs s_law) (defBody s_law) (defScope s_law) .none kV39 dc39 pm39 an39 cd39 ct39, fun s u => .of_eq rfl, fun base _ _ => ok_all T⟩
end K12
open PySem PySem.W PyProof.Rows
set_option maxRecDepth 100000 in
set_option maxHeartbeats 0 in
theorem PySem.Challenge.cw_chipgate_k12_bytes_written_and_read_holds : PySem.Challenge.rw_chipgate_k12_bytes_written_and_read.Holds := by
  w_on; o_law; k_head; (case hw => w_witness2)
  k_fill
  refine L2.walk_ofK (l := PySem.Challenge.rw_chipgate_k12_bytes_written_and_read) (n := 63) (k := 11) (CX := L2.CX0) (x := "script") (sp := fun K => DL.spLaw K 63) rfl (by decide) rfl ⟨rfl, by decide, by decide⟩ (fun w h Y => PySem.W.kIn_of Y) ?F ?S (fun _ _ _ _ z => z)
  case F =>
    intro w mg fa h KX G hmg
    refine' K12.all_mk KX G hmg ?oa0 ?op0 ?oh0 ?oq0 ?os0 ?om0 ?ok0 ?on_data_0 ?on_at_0 ?a8_0 ?i8_0 ?l8_0 ?e8_0 ?k8_0 ?a8_1 ?i8_1 ?l8_1 ?e8_1 ?k8_1 ?a8_2 ?i8_2 ?l8_2 ?e8_2 ?k8_2 ?a8_3 ?i8_3 ?l8_3 ?e8_3 ?k8_3 ?a8_4 ?i8_4 ?l8_4 ?e8_4 ?k8_4 ?a8_5 ?i8_5 ?l8_5 ?e8_5 ?k8_5 ?a8_6 ?i8_6 ?l8_6 ?e8_6 ?k8_6 ?a8_7 ?i8_7 ?l8_7 ?e8_7 ?k8_7 ?a8_8 ?i8_8 ?l8_8 ?e8_8 ?k8_8 ?a8_9 ?i8_9 ?l8_9 ?e8_9 ?k8_9 ?a8_11 ?i8_11 ?l8_11 ?e8_11 ?k8_11 ?a8_12 ?i8_12 ?l8_12 ?e8_12 ?k8_12 ?a8_13 ?i8_13 ?l8_13 ?e8_13 ?k8_13 ?a10 ?l10 ?e10 ?k10 ?a11 ?l11 ?e11 ?k11 ?a12 ?l12 ?e12 ?k12 ?a13 ?l13 ?e13 ?k13 ?a14 ?l14 ?e14 ?k14 ?a15 ?l15 ?e15 ?k15 ?a16 ?l16 ?e16 ?k16 ?a18 ?l18 ?e18 ?k18 ?a19 ?l19 ?e19 ?k19 ?a20 ?l20 ?e20 ?k20 ?a21 ?l21 ?e21 ?k21 ?a22 ?l22 ?e22 ?k22 ?a23 ?l23 ?e23 ?k23 ?a24 ?l24 ?e24 ?k24 ?a25 ?l25 ?e25 ?k25 ?a26 ?l26 ?e26 ?k26 ?a27 ?l27 ?e27 ?k27 ?a28 ?l28 ?e28 ?k28 ?a29 ?l29 ?e29 ?k29 ?a30 ?l30 ?e30 ?k30 ?a31 ?l31 ?e31 ?k31 ?a32 ?l32 ?e32 ?k32 ?a33 ?l33 ?e33 ?k33 ?a34 ?l34 ?e34 ?k34 ?a35 ?l35 ?e35 ?k35 ?a36 ?l36 ?e36 ?k36 ?a37 ?l37 ?e37 ?k37 ?a38 ?l38 ?e38 ?k38 ?a39 ?l39 ?e39 ?k39 ?z_bool ?z_int ?z_isinstance ?z_len ?z_list ?z_ord ?z_range ?z_str ?z_tuple ?g_NUMBER_BYTES ?g_BEFORE_PERCENT ?g_AFTER_PERCENT ?xa0 ?xy0 ?xk0 ?xb0 ?xt0 ?xs0 ?xg0 ?xh0 ?xd0 ?xc0 ?xn0 ?xm0 ?xo0 ?xv0
    (case oa0 => k_is)
    (case op0 => k_is)
    (case oh0 => k_is)
    (case oq0 => k_is)
    (case os0 => k_is)
    (case om0 => k_is)
    (case ok0 => k_is)
    (case on_data_0 => k_is)
    (case on_at_0 => k_is)
    (case a8_0 => k_is)
    (case i8_0 => k_is)
    (case l8_0 => k_is)
    (case e8_0 => k_is)
    (case k8_0 => k_is)
    (case a8_1 => k_is)
    (case i8_1 => k_is)
    (case l8_1 => k_is)
    (case e8_1 => k_is)
    (case k8_1 => k_is)
    (case a8_2 => k_is)
    (case i8_2 => k_is)
    (case l8_2 => k_is)
    (case e8_2 => k_is)
    (case k8_2 => k_is)
    (case a8_3 => k_is)
    (case i8_3 => k_is)
    (case l8_3 => k_is)
    (case e8_3 => k_is)
    (case k8_3 => k_is)
    (case a8_4 => k_is)
    (case i8_4 => k_is)
    (case l8_4 => k_is)
    (case e8_4 => k_is)
    (case k8_4 => k_is)
    (case a8_5 => k_is)
    (case i8_5 => k_is)
    (case l8_5 => k_is)
    (case e8_5 => k_is)
    (case k8_5 => k_is)
    (case a8_6 => k_is)
    (case i8_6 => k_is)
    (case l8_6 => k_is)
    (case e8_6 => k_is)
    (case k8_6 => k_is)
    (case a8_7 => k_is)
    (case i8_7 => k_is)
    (case l8_7 => k_is)
    (case e8_7 => k_is)
    (case k8_7 => k_is)
    (case a8_8 => k_is)
    (case i8_8 => k_is)
    (case l8_8 => k_is)
    (case e8_8 => k_is)
    (case k8_8 => k_is)
    (case a8_9 => k_is)
    (case i8_9 => k_is)
    (case l8_9 => k_is)
    (case e8_9 => k_is)
    (case k8_9 => k_is)
    (case a8_11 => k_is)
    (case i8_11 => k_is)
    (case l8_11 => k_is)
    (case e8_11 => k_is)
    (case k8_11 => k_is)
    (case a8_12 => k_is)
    (case i8_12 => k_is)
    (case l8_12 => k_is)
    (case e8_12 => k_is)
    (case k8_12 => k_is)
    (case a8_13 => k_is)
    (case i8_13 => k_is)
    (case l8_13 => k_is)
    (case e8_13 => k_is)
    (case k8_13 => k_is)
    (case a10 => k_is)
    (case l10 => k_is)
    (case e10 => k_is)
    (case k10 => k_is)
    (case a11 => k_is)
    (case l11 => k_is)
    (case e11 => k_is)
    (case k11 => k_is)
    (case a12 => k_is)
    (case l12 => k_is)
    (case e12 => k_is)
    (case k12 => k_is)
    (case a13 => k_is)
    (case l13 => k_is)
    (case e13 => k_is)
    (case k13 => k_is)
    (case a14 => k_is)
    (case l14 => k_is)
    (case e14 => k_is)
    (case k14 => k_is)
    (case a15 => k_is)
    (case l15 => k_is)
    (case e15 => k_is)
    (case k15 => k_is)
    (case a16 => k_is)
    (case l16 => k_is)
    (case e16 => k_is)
    (case k16 => k_is)
    (case a18 => k_is)
    (case l18 => k_is)
    (case e18 => k_is)
    (case k18 => k_is)
    (case a19 => k_is)
    (case l19 => k_is)
    (case e19 => k_is)
    (case k19 => k_is)
    (case a20 => k_is)
    (case l20 => k_is)
    (case e20 => k_is)
    (case k20 => k_is)
    (case a21 => k_is)
    (case l21 => k_is)
    (case e21 => k_is)
    (case k21 => k_is)
    (case a22 => k_is)
    (case l22 => k_is)
    (case e22 => k_is)
    (case k22 => k_is)
    (case a23 => k_is)
    (case l23 => k_is)
    (case e23 => k_is)
    (case k23 => k_is)
    (case a24 => k_is)
    (case l24 => k_is)
    (case e24 => k_is)
    (case k24 => k_is)
    (case a25 => k_is)
    (case l25 => k_is)
    (case e25 => k_is)
    (case k25 => k_is)
    (case a26 => k_is)
    (case l26 => k_is)
    (case e26 => k_is)
    (case k26 => k_is)
    (case a27 => k_is)
    (case l27 => k_is)
    (case e27 => k_is)
    (case k27 => k_is)
    (case a28 => k_is)
    (case l28 => k_is)
    (case e28 => k_is)
    (case k28 => k_is)
    (case a29 => k_is)
    (case l29 => k_is)
    (case e29 => k_is)
    (case k29 => k_is)
    (case a30 => k_is)
    (case l30 => k_is)
    (case e30 => k_is)
    (case k30 => k_is)
    (case a31 => k_is)
    (case l31 => k_is)
    (case e31 => k_is)
    (case k31 => k_is)
    (case a32 => k_is)
    (case l32 => k_is)
    (case e32 => k_is)
    (case k32 => k_is)
    (case a33 => k_is)
    (case l33 => k_is)
    (case e33 => k_is)
    (case k33 => k_is)
    (case a34 => k_is)
    (case l34 => k_is)
    (case e34 => k_is)
    (case k34 => k_is)
    (case a35 => k_is)
    (case l35 => k_is)
    (case e35 => k_is)
    (case k35 => k_is)
    (case a36 => k_is)
    (case l36 => k_is)
    (case e36 => k_is)
    (case k36 => k_is)
    (case a37 => k_is)
    (case l37 => k_is)
    (case e37 => k_is)
    (case k37 => k_is)
    (case a38 => k_is)
    (case l38 => k_is)
    (case e38 => k_is)
    (case k38 => k_is)
    (case a39 => k_is)
    (case l39 => k_is)
    (case e39 => k_is)
    (case k39 => k_is)
    (case z_bool => k_is)
    (case z_int => k_is)
    (case z_isinstance => k_is)
    (case z_len => k_is)
    (case z_list => k_is)
    (case z_ord => k_is)
    (case z_range => k_is)
    (case z_str => k_is)
    (case z_tuple => k_is)
    (case g_NUMBER_BYTES => k_is)
    (case g_BEFORE_PERCENT => k_is)
    (case g_AFTER_PERCENT => k_is)
    (case xa0 => k_is)
    (case xy0 => k_exc)
    (case xk0 => k_is)
    (case xb0 => k_is)
    (case xt0 => k_is)
    (case xs0 => first | rfl | k_is)
    (case xg0 => k_is)
    (case xh0 => k_is)
    (case xd0 => k_is)
    (case xc0 => k_is)
    (case xn0 => k_is)
    (case xm0 => k_is)
    (case xo0 => k_is)
    (case xv0 => k_is)
  case S => exact fun K H a ns hl _ hs => ⟨a, ns, rfl, hl, hs, fun _ => rfl⟩
