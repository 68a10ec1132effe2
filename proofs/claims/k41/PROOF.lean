import PyProof.Rows.All
import Wide.All
import OpenK.AllK
import Wide.FinOn
import HandS.ForMost
import HandS.Evl
import HandS.TupAny
import HandS.TupMul
import HandS.SortInts
import HandS.IsInst
import HandS.Wide
import HandS.Flow
import HandS.Style
import HandS.Zip
import HandS.Codes
import KE.KSortedM
import PyProof.SeqIndex
import HandS.SetFor
import PySem.Challenge.RW_awaitrounds_k41_tests_known_by_hand
set_option Elab.async false
set_option linter.all false
section
set_option maxRecDepth 100000
set_option maxHeartbeats 1000000
/-! Z1: data, slots, states: the core of a layer that reads pure Python over plain data. -/
namespace Z
open PySem PySem.Spec L2
abbrev D := PyData
abbrev Ex := Evl.Ex

def keyD : L2.Key → D
  | .inl i => .int i
  | .inr x => .str x
/-- the script: a list that is locked; no operation but len and item knows it -/
def scr (ds : List D) : D := .dict [(.list ds, .none)]
/-- what zip, enumerate hand on: a tuple to be taken apart -/
def rawT (ds : List D) : D := .dict [(.tuple ds, .none)]
mutual
/-- the value v is, over the steady heap I, the datum d -/
inductive Dr (I : Hp) : V → D → Prop
  | non : Dr I .non .none
  | bl (b : Bool) : Dr I (.bl b) (.bool b)
  | int (i : Int) : Dr I (.int i) (.int i)
  | str (x : Str) : Dr I (.str x) (.str x)
  | lst {a : Addr} {xs : List V} {ds : List D} : I a = some (.lst xs) → DrA I xs ds → Dr I (.ref a) (.list ds)
  | frz {a : Addr} {o : Obj} {xs : List V} {ds : List D} : I a = some (.frz o (.lst xs)) → DrA I xs ds → Dr I (.ref a) (scr ds)
  | tup {a : Addr} {o : Obj} {xs : List V} {ds : List D} : I a = some (.frz o (.tup xs)) → o.dict = .none → DrA I xs ds → Dr I (.ref a) (.tuple ds)
  | raw {a : Addr} {xs : List V} {ds : List D} : I a = some (.tup xs) → DrA I xs ds → Dr I (.ref a) (rawT ds)
  | dic {a : Addr} {kvs : List (L2.Key × V)} {ds : List (D × D)} : I a = some (.dK kvs) → DrK I kvs ds → Dr I (.ref a) (.dict ds)
inductive DrA (I : Hp) : List V → List D → Prop
  | nil : DrA I [] []
  | cons {v : V} {vs : List V} {d : D} {ds : List D} : Dr I v d → DrA I vs ds → DrA I (v :: vs) (d :: ds)
inductive DrK (I : Hp) : List (L2.Key × V) → List (D × D) → Prop
  | nil : DrK I [] []
  | cons {k : L2.Key} {v : V} {vs : List (L2.Key × V)} {d : D} {ds : List (D × D)} : Dr I v d → DrK I vs ds → DrK I ((k, v) :: vs) ((keyD k, d) :: ds)
end
mutual
theorem Dr.mono {I I' : Hp} (e : Ex I I') : ∀ {v : V} {d : D}, Dr I v d → Dr I' v d
  | _, _, .non => .non
  | _, _, .bl b => .bl b
  | _, _, .int b => .int b
  | _, _, .str b => .str b
  | _, _, .lst h r => .lst (e _ _ h) (DrA.mono e r)
  | _, _, .frz h r => .frz (e _ _ h) (DrA.mono e r)
  | _, _, .tup h z r => .tup (e _ _ h) z (DrA.mono e r)
  | _, _, .raw h r => .raw (e _ _ h) (DrA.mono e r)
  | _, _, .dic h r => .dic (e _ _ h) (DrK.mono e r)
theorem DrA.mono {I I' : Hp} (e : Ex I I') : ∀ {v : List V} {d : List D}, DrA I v d → DrA I' v d
  | _, _, .nil => .nil
  | _, _, .cons h r => .cons (Dr.mono e h) (DrA.mono e r)
theorem DrK.mono {I I' : Hp} (e : Ex I I') : ∀ {v : List (L2.Key × V)} {d : List (D × D)}, DrK I v d → DrK I' v d
  | _, _, .nil => .nil
  | _, _, .cons h r => .cons (Dr.mono e h) (DrK.mono e r)
end
section
variable {I : Hp}
theorem drk_key : ∀ {kvs : List (L2.Key × V)} {ds : List (D × D)}, DrK I kvs ds → ∀ p ∈ ds, ∃ k, p.1 = keyD k
  | _, _, .nil, p, hp => by cases hp
  | _, _, .cons h r, p, hp => by
    rcases List.mem_cons.mp hp with rfl | hp
    · exact ⟨_, rfl⟩
    · exact drk_key r p hp
theorem DrA.len : ∀ {vs : List V} {ds : List D}, DrA I vs ds → vs.length = ds.length
  | _, _, .nil => rfl
  | _, _, .cons _ r => congrArg (· + 1) r.len
theorem DrA.get : ∀ {vs : List V} {ds : List D} {i : Nat} {d : D}, DrA I vs ds → ds[i]? = some d → ∃ v, vs[i]? = some v ∧ Dr I v d
  | _, _, _, _, .nil, h => by simp at h
  | _, _, 0, _, .cons h r, e => by simp at e; subst e; exact ⟨_, rfl, h⟩
  | _, _, i + 1, _, .cons h r, e => by simpa using DrA.get (i := i) r (by simpa using e)
theorem DrA.append : ∀ {vs : List V} {ds : List D} {us : List V} {es : List D}, DrA I vs ds → DrA I us es → DrA I (vs ++ us) (ds ++ es)
  | _, _, _, _, .nil, s => s
  | _, _, _, _, .cons h r, s => .cons h (DrA.append r s)
theorem DrA.take : ∀ (n : Nat) {vs : List V} {ds : List D}, DrA I vs ds → DrA I (vs.take n) (ds.take n)
  | 0, _, _, _ => .nil
  | _ + 1, _, _, .nil => .nil
  | n + 1, _, _, .cons h r => .cons h (DrA.take n r)
theorem DrA.drop : ∀ (n : Nat) {vs : List V} {ds : List D}, DrA I vs ds → DrA I (vs.drop n) (ds.drop n)
  | 0, _, _, h => h
  | _ + 1, _, _, .nil => .nil
  | n + 1, _, _, .cons h r => DrA.drop n r
theorem DrA.reverse : ∀ {vs : List V} {ds : List D}, DrA I vs ds → DrA I vs.reverse ds.reverse
  | _, _, .nil => .nil
  | _, _, .cons h r => by
    rw [List.reverse_cons, List.reverse_cons]
    exact DrA.append (DrA.reverse r) (.cons h .nil)
theorem DrA.set : ∀ {vs : List V} {ds : List D} (i : Nat) {v : V} {d : D}, DrA I vs ds → Dr I v d → DrA I (vs.set i v) (ds.set i d)
  | _, _, _, _, _, .nil, _ => .nil
  | _, _, 0, _, _, .cons h r, e => .cons e r
  | _, _, i + 1, _, _, .cons h r, e => .cons h (DrA.set i r e)
theorem DrA.rep : ∀ (n : Nat) {vs : List V} {ds : List D}, DrA I vs ds → DrA I (List.replicate n vs).flatten (List.replicate n ds).flatten
  | 0, _, _, _ => .nil
  | n + 1, _, _, h => by
    rw [List.replicate_succ, List.replicate_succ, List.flatten_cons, List.flatten_cons]
    exact DrA.append h (DrA.rep n h)
theorem DrA.dropLast {vs : List V} {ds : List D} (h : DrA I vs ds) : DrA I vs.dropLast ds.dropLast := by
  rw [List.dropLast_eq_take, List.dropLast_eq_take, h.len]
  exact h.take _
end

/-! ### slots -/
inductive Slot where
  | no
  | dat (d : D)
  | own (xs : List D)
abbrev DS := List Slot
def Owned (σ : St) (s : DS) (a : Addr) : Prop := ∃ (i : Nat) (xs : List D), s[i]? = some (.own xs) ∧ σ[i]? = some (some (.ref a))
structure SR (I H : Hp) (σ : St) (s : DS) : Prop where
  ext : Ex I H
  len : s.length = σ.length
  dat : ∀ (i : Nat) (d : D), s[i]? = some (.dat d) → ∃ v, σ[i]? = some (some v) ∧ Dr I v d
  own : ∀ (i : Nat) (xs : List D), s[i]? = some (.own xs) → ∃ a vs, σ[i]? = some (some (.ref a)) ∧ I a = none ∧ H a = some (.lst vs) ∧ DrA I vs xs
  dis : ∀ (i j : Nat) (xs ys : List D) (a : Addr), s[i]? = some (.own xs) → s[j]? = some (.own ys) → σ[i]? = some (some (.ref a)) → σ[j]? = some (some (.ref a)) → i = j
structure Stp (np : Nat) (I H : Hp) (σ : St) (s : DS) (I' H' : Hp) (σ' : St) (s' : DS) : Prop where
  ie : Ex I I'
  sr : SR I' H' σ' s'
  fr : ∀ a, I a = none → H a ≠ none → ¬ Owned σ s a → I' a = none
  ob : ∀ a, Owned σ' s' a → Owned σ s a ∨ H a = none
  kp : ∀ a o, H a = some o → ¬ Owned σ s a → H' a = some o
  nn : ∀ a, H a ≠ none → H' a ≠ none
  pr : ∀ (i : Nat), i < np → ∀ (xs : List D), s[i]? = some (.own xs) → σ'[i]? = σ[i]? ∧ ∃ ys, s'[i]? = some (.own ys)
section
variable {np : Nat} {I H I1 H1 I2 H2 : Hp} {σ σ1 σ2 : St} {s s1 s2 : DS}
theorem SR.ownH (S : SR I H σ s) {a : Addr} (h : Owned σ s a) : ∃ vs, H a = some (.lst vs) ∧ I a = none := by
  obtain ⟨i, xs, h1, h2⟩ := h
  obtain ⟨b, vs, e1, e2, e3, _⟩ := S.own i xs h1
  rw [h2] at e1
  cases e1
  exact ⟨vs, e3, e2⟩
theorem SR.noI (S : SR I H σ s) {a : Addr} (h : H a = none) : I a = none := by
  cases q : I a with
  | none => rfl
  | some o => rw [S.ext a o q] at h; cases h
theorem Stp.refl (S : SR I H σ s) : Stp np I H σ s I H σ s :=
  ⟨fun _ _ h => h, S, fun _ h _ _ => h, fun _ h => .inl h, fun _ _ h _ => h, fun _ h => h, fun i _ xs h => ⟨rfl, xs, h⟩⟩
theorem Stp.trans (A : Stp np I H σ s I1 H1 σ1 s1) (B : Stp np I1 H1 σ1 s1 I2 H2 σ2 s2) : Stp np I H σ s I2 H2 σ2 s2 where
  ie := A.ie.trans B.ie
  sr := B.sr
  fr := fun a h1 h2 h3 => by
    refine B.fr a (A.fr a h1 h2 h3) (A.nn a h2) fun h4 => ?_
    rcases A.ob a h4 with h | h
    · exact h3 h
    · exact h2 h
  ob := fun a h => by
    rcases B.ob a h with h | h
    · exact A.ob a h
    · refine .inr ?_
      cases q : H a with
      | none => rfl
      | some o => exact absurd h (A.nn a (by rw [q]; exact fun z => nomatch z))
  kp := fun a o h1 h2 => by
    refine B.kp a o (A.kp a o h1 h2) fun h4 => ?_
    rcases A.ob a h4 with h | h
    · exact h2 h
    · rw [h] at h1; cases h1
  nn := fun a h => B.nn a (A.nn a h)
  pr := fun i hi xs h => by
    obtain ⟨e1, ys, e2⟩ := A.pr i hi xs h
    obtain ⟨e3, zs, e4⟩ := B.pr i hi ys e2
    exact ⟨e3.trans e1, zs, e4⟩
/-- a step that only makes new things -/
structure Al (I H I' H' : Hp) : Prop where
  ie : Ex I I'
  he : Ex H H'
  ih : Ex I' H'
  fr : ∀ a, I a = none → H a ≠ none → I' a = none
theorem Al.refl (e : Ex I H) : Al I H I H := ⟨fun _ _ h => h, fun _ _ h => h, e, fun _ h _ => h⟩
theorem Al.new {a : Addr} {o : HO} (e : Ex I H) (h : H a = none) : Al I H (upd I a o) (upd H a o) := by
  have hi : I a = none := by
    cases q : I a with
    | none => rfl
    | some u => rw [e a u q] at h; cases h
  refine ⟨Evl.Ex.new hi, Evl.Ex.new h, fun b u hb => ?_, fun b h1 h2 => ?_⟩
  · by_cases z : b = a
    · subst z; rw [upd_same] at hb ⊢; exact hb
    · rw [upd_ne z] at hb ⊢; exact e b u hb
  · rw [upd_ne (fun z => h2 (by rw [z]; exact h))]
    exact h1
theorem Al.newT {a : Addr} {o : HO} (e : Ex I H) (h : H a = none) : Al I H I (upd H a o) :=
  ⟨fun _ _ h => h, Evl.Ex.new h, fun b u hb => by
    rw [upd_ne (fun z => by rw [z] at hb; rw [e _ _ hb] at h; cases h)]
    exact e b u hb, fun _ h _ => h⟩
theorem Al.trans (A : Al I H I1 H1) (B : Al I1 H1 I2 H2) : Al I H I2 H2 :=
  ⟨A.ie.trans B.ie, A.he.trans B.he, B.ih, fun a h1 h2 => B.fr a (A.fr a h1 h2) (by
    cases q : H a with
    | none => exact absurd q h2
    | some o => rw [A.he a o q]; exact fun z => nomatch z)⟩
theorem Al.stp (S : SR I H σ s) (A : Al I H I1 H1) : Stp np I H σ s I1 H1 σ s where
  ie := A.ie
  sr := ⟨A.ih, S.len, fun i d h => let ⟨v, h1, h2⟩ := S.dat i d h; ⟨v, h1, h2.mono A.ie⟩, fun i xs h => by
    obtain ⟨a, vs, h1, h2, h3, h4⟩ := S.own i xs h
    exact ⟨a, vs, h1, A.fr a h2 (by rw [h3]; exact fun z => nomatch z), A.he _ _ h3, h4.mono A.ie⟩, S.dis⟩
  fr := fun a h1 h2 _ => A.fr a h1 h2
  ob := fun a h => .inl h
  kp := fun a o h _ => A.he a o h
  nn := fun a h => by
    cases q : H a with
    | none => exact absurd q h
    | some o => rw [A.he a o q]; exact fun z => nomatch z
  pr := fun i _ xs h => ⟨rfl, xs, h⟩
end

/-! ### results -/
inductive R where
  | d (x : D)
  | t (xs : List D)
  | o (i : Nat)
/-- what came: a steady datum, a new list of nobody's, a slot's own list -/
def RR (H0 I H : Hp) (σ : St) (s : DS) (v : V) : R → Prop
  | .d x => Dr I v x
  | .t xs => ∃ p vs, v = .ref p ∧ H0 p = none ∧ I p = none ∧ ¬ Owned σ s p ∧ H p = some (.lst vs) ∧ DrA I vs xs
  | .o i => σ[i]? = some (some v)
/-- of an operation on values -/
def RZ (H0 I H : Hp) (v : V) : R → Prop
  | .d x => Dr I v x
  | .t xs => ∃ p vs, v = .ref p ∧ H0 p = none ∧ I p = none ∧ H p = some (.lst vs) ∧ DrA I vs xs
  | .o _ => False
def rv (s : DS) : R → Option D
  | .d x => some x
  | .t xs => some (.list xs)
  | .o i => match s[i]? with
    | some (.dat d) => some d
    | some (.own xs) => some (.list xs)
    | _ => none
/-- readable now -/
def RD (I H : Hp) (v : V) (d : D) : Prop := Dr I v d ∨ ∃ a vs ds, v = .ref a ∧ d = .list ds ∧ H a = some (.lst vs) ∧ DrA I vs ds
section
variable {np : Nat} {I0 H0 I H I1 H1 I2 H2 : Hp} {σ σ0 σ1 σ2 : St} {s s0 s1 s2 : DS} {v : V} {r : R} {d : D}
theorem RR.step (h : RR H0 I1 H1 σ s1 v r) (A : Stp np I1 H1 σ s1 I2 H2 σ s2) : RR H0 I2 H2 σ s2 v r := by
  cases r with
  | d x => exact Dr.mono A.ie h
  | o i => exact h
  | t xs =>
    obtain ⟨p, vs, e, h0, hi, hn, hp, hd⟩ := h
    have hp' : H1 p ≠ none := by rw [hp]; exact fun z => nomatch z
    refine ⟨p, vs, e, h0, A.fr p hi hp' hn, fun z => ?_, A.kp p _ hp hn, hd.mono A.ie⟩
    rcases A.ob p z with h | h
    · exact hn h
    · exact hp' h
theorem RR.rd (S : SR I H σ s) (h : RR H0 I H σ s v r) (e : rv s r = some d) : RD I H v d := by
  cases r with
  | d x => cases e; exact .inl h
  | t xs =>
    cases e
    obtain ⟨p, vs, e, h0, hi, hn, hp, hd⟩ := h
    exact .inr ⟨p, vs, xs, e, rfl, hp, hd⟩
  | o i =>
    have h : σ[i]? = some (some v) := h
    dsimp only [rv] at e
    cases q : s[i]? with
    | none => rw [q] at e; cases e
    | some z =>
      rw [q] at e
      cases z with
      | no => cases e
      | dat x =>
        cases e
        obtain ⟨w, h1, h2⟩ := S.dat i _ q
        rw [h] at h1; cases h1
        exact .inl h2
      | own xs =>
        cases e
        obtain ⟨a, vs, h1, h2, h3, h4⟩ := S.own i _ q
        rw [h] at h1; cases h1
        exact .inr ⟨a, vs, xs, rfl, rfl, h3, h4⟩
/-- from the start of the whole -/
theorem RR.of_z (A : Stp np I0 H0 σ s0 I H σ s) (al : Al I H I1 H1) (h : RZ H I1 H1 v r) : RR H0 I1 H1 σ s v r := by
  cases r with
  | d x => exact h
  | o i => exact h.elim
  | t xs =>
    obtain ⟨p, vs, e, h0, hi, hp, hd⟩ := h
    refine ⟨p, vs, e, ?_, hi, fun z => ?_, hp, hd⟩
    · cases q : H0 p with
      | none => rfl
      | some o => exact absurd h0 (A.nn p (by rw [q]; exact fun z => nomatch z))
    · obtain ⟨vs', h1, _⟩ := A.sr.ownH z
      rw [h1] at h0; cases h0
theorem RR.base (A : Stp np I0 H0 σ s0 I1 H1 σ s1) (h : RR H1 I H σ s v r) : RR H0 I H σ s v r := by
  cases r with
  | d x => exact h
  | o i => exact h
  | t xs =>
    obtain ⟨p, vs, e, h0, q⟩ := h
    refine ⟨p, vs, e, ?_, q⟩
    cases q : H0 p with
    | none => rfl
    | some o => exact absurd h0 (A.nn p (by rw [q]; exact fun z => nomatch z))

/-- make it steady -/
def fz (np : Nat) (s : DS) : R → Option (D × DS)
  | .d x => some (x, s)
  | .t xs => some (.list xs, s)
  | .o i => match s[i]? with
    | some (.dat d) => some (d, s)
    | some (.own xs) => if i < np then none else some (.list xs, s.set i (.dat (.list xs)))
    | _ => none
theorem upd_ext {a : Addr} {o : HO} (e : Ex I H) (h : H a = some o) : Ex (upd I a o) H := fun b u hb => by
  by_cases z : b = a
  · subst z; rw [upd_same] at hb; cases hb; exact h
  · rw [upd_ne z] at hb; exact e b u hb
theorem fz_ok (A : Stp np I0 H0 σ0 s0 I H σ s) (h : RR H0 I H σ s v r) (e : fz np s r = some (d, s1)) :
    ∃ I', Stp np I0 H0 σ0 s0 I' H σ s1 ∧ Dr I' v d ∧ Ex I I' := by
  cases r with
  | d x => cases e; exact ⟨I, A, h, fun _ _ z => z⟩
  | t xs =>
    cases e
    obtain ⟨p, vs, rfl, h0, hi, hn, hp, hd⟩ := h
    have ie : Ex I (upd I p (.lst vs)) := Evl.Ex.new hi
    have S := A.sr
    refine ⟨upd I p (.lst vs), ⟨A.ie.trans ie, ⟨upd_ext S.ext hp, S.len, fun i d h => let ⟨v, h1, h2⟩ := S.dat i d h; ⟨v, h1, h2.mono ie⟩, fun i xs h => ?_, S.dis⟩, fun a h1 h2 h3 => ?_, A.ob, A.kp, A.nn, A.pr⟩, .lst upd_same (hd.mono ie), ie⟩
    · obtain ⟨a, ws, h1, h2, h3, h4⟩ := S.own i xs h
      have na : a ≠ p := fun z => hn ⟨i, xs, h, by rw [← z]; exact h1⟩
      exact ⟨a, ws, h1, by rw [upd_ne na]; exact h2, h3, h4.mono ie⟩
    · rw [upd_ne (fun z => h2 (by rw [z]; exact h0))]
      exact A.fr a h1 h2 h3
  | o i =>
    have h : σ[i]? = some (some v) := h
    dsimp only [fz] at e
    cases q : s[i]? with
    | none => rw [q] at e; cases e
    | some z =>
      rw [q] at e
      cases z with
      | no => cases e
      | dat x =>
        cases e
        obtain ⟨w, h1, h2⟩ := A.sr.dat i _ q
        rw [h] at h1; cases h1
        exact ⟨I, A, h2, fun _ _ z => z⟩
      | own xs =>
        by_cases hi : i < np
        · simp only [hi, if_true] at e; cases e
        · simp only [hi, if_false, Option.some.injEq, Prod.mk.injEq] at e
          obtain ⟨rfl, rfl⟩ := e
          have S := A.sr
          obtain ⟨a, vs, h1, h2, h3, h4⟩ := S.own i _ q
          rw [h] at h1; cases h1
          have il : i < s.length := (List.getElem?_eq_some_iff.mp q).1
          have ie : Ex I (upd I a (.lst vs)) := Evl.Ex.new h2
          have gs : ∀ (j : Nat) (xs' : List D), (s.set i (.dat (.list xs)))[j]? = some (.own xs') → j ≠ i ∧ s[j]? = some (.own xs') := fun j xs' hj => by
            by_cases z : i = j
            · subst z; rw [List.getElem?_set_self il] at hj; cases hj
            · rw [List.getElem?_set_ne z] at hj; exact ⟨fun w => z w.symm, hj⟩
          refine ⟨upd I a (.lst vs), ⟨A.ie.trans ie, ⟨upd_ext S.ext h3, by rw [List.length_set]; exact S.len, fun j d hj => ?_, fun j xs' hj => ?_, fun j k xs' ys' b hj hk => S.dis j k xs' ys' b (gs j _ hj).2 (gs k _ hk).2⟩, fun b h5 h6 h7 => ?_, fun b hb => ?_, A.kp, A.nn, fun j hj xs' hs => ?_⟩, .lst upd_same (h4.mono ie), ie⟩
          · by_cases z : i = j
            · subst z
              rw [List.getElem?_set_self il] at hj
              cases hj
              exact ⟨.ref a, h, .lst upd_same (h4.mono ie)⟩
            · rw [List.getElem?_set_ne z] at hj
              obtain ⟨w, e1, e2⟩ := S.dat j d hj
              exact ⟨w, e1, e2.mono ie⟩
          · obtain ⟨nj, hj⟩ := gs j xs' hj
            obtain ⟨b, ws, e1, e2, e3, e4⟩ := S.own j xs' hj
            have nb : b ≠ a := fun z => nj (S.dis j i _ _ a hj q (by rw [← z]; exact e1) h)
            exact ⟨b, ws, e1, by rw [upd_ne nb]; exact e2, e3, e4.mono ie⟩
          · have nb : b ≠ a := fun z => by
              subst z
              rcases A.ob b ⟨i, xs, q, h⟩ with w | w
              · exact h7 w
              · exact h6 w
            rw [upd_ne nb]
            exact A.fr b h5 h6 h7
          · obtain ⟨j, ys, e1, e2⟩ := hb
            exact A.ob b ⟨j, ys, (gs j _ e1).2, e2⟩
          · obtain ⟨e1, ys, e2⟩ := A.pr j hj xs' hs
            refine ⟨e1, ys, ?_⟩
            rw [List.getElem?_set_ne (fun z => hi (by rw [z]; exact hj))]
            exact e2
end
end Z
end
section
set_option maxRecDepth 100000
set_option maxHeartbeats 1000000
/-! Z2: readings of expressions, tests, arguments over states. -/
namespace Z
open PySem PySem.Spec L2
abbrev XM := DS → Option (R × DS)
abbrev TM := DS → Option (Bool × DS)
def SE (np : Nat) (t : TE) (f : XM) : Prop := ∀ (I H : Hp) (σ : L2.St) (s : DS) (r : R) (s' : DS) (Q : VK), SR I H σ s → f s = some (r, s') →
  (∀ I' H' v, Stp np I H σ s I' H' σ s' → RR H I' H' σ s' v r → Q v H') → t σ H Q
def ST (np : Nat) (t : TT) (f : TM) : Prop := ∀ (I H : Hp) (σ : L2.St) (s : DS) (b : Bool) (s' : DS) (Q : Bool → Hp → Prop), SR I H σ s → f s = some (b, s') →
  (∀ I' H', Stp np I H σ s I' H' σ s' → Q b H') → t σ H Q
def SA (np : Nat) (t : TA) (f : DS → Option (List R × DS)) : Prop := ∀ (I H : Hp) (σ : L2.St) (s : DS) (rs : List R) (s' : DS) (Q : List V → Hp → Prop), SR I H σ s → f s = some (rs, s') →
  (∀ I' H' vs, Stp np I H σ s I' H' σ s' → Paired (RR H I' H' σ s') vs rs → Q vs H') → t σ H Q
/-- steady items -/
def SD (np : Nat) (t : TA) (f : DS → Option (List D × DS)) : Prop := ∀ (I H : Hp) (σ : L2.St) (s : DS) (ds : List D) (s' : DS) (Q : List V → Hp → Prop), SR I H σ s → f s = some (ds, s') →
  (∀ I' H' vs, Stp np I H σ s I' H' σ s' → DrA I' vs ds → Q vs H') → t σ H Q
/-- an argument of a def: steady, or a slot's own list, lent -/
inductive A where
  | d (x : D)
  | m (i : Nat)
def AR (I : Hp) (σ : L2.St) (v : V) : A → Prop
  | .d x => Dr I v x
  | .m i => σ[i]? = some (some v)
def SP (np : Nat) (t : TA) (f : DS → Option (List A × DS)) : Prop := ∀ (I H : Hp) (σ : L2.St) (s : DS) (as : List A) (s' : DS) (Q : List V → Hp → Prop), SR I H σ s → f s = some (as, s') →
  (∀ I' H' vs, Stp np I H σ s I' H' σ s' → Paired (AR I' σ) vs as → Q vs H') → t σ H Q

/-! ### operations on values -/
def Op1 (r : V → Hp → VK → Prop) (g : D → Option R) : Prop := ∀ (I H : Hp) (x : V) (dx : D) (z : R) (Q : VK), Ex I H → RD I H x dx → g dx = some z → (∀ I' H' v, Al I H I' H' → RZ H I' H' v z → Q v H') → r x H Q
def Op2 (r : R2) (g : D → D → Option R) : Prop := ∀ (I H : Hp) (x y : V) (dx dy : D) (z : R) (Q : VK), Ex I H → RD I H x dx → RD I H y dy → g dx dy = some z → (∀ I' H' v, Al I H I' H' → RZ H I' H' v z → Q v H') → r x y H Q
def Cl (r : List V → Hp → VK → Prop) (g : List D → Option R) : Prop := ∀ (I H : Hp) (xs : List V) (ds : List D) (z : R) (Q : VK), Ex I H → Paired (RD I H) xs ds → g ds = some z → (∀ I' H' v, Al I H I' H' → RZ H I' H' v z → Q v H') → r xs H Q
def rvs (s : DS) : List R → Option (List D)
  | [] => some []
  | r :: rs => (rv s r).bind fun d => (rvs s rs).bind fun ds => some (d :: ds)

/-! ### combinators -/
def xc (d : D) : XM := fun s => some (.d d, s)
def xv (i : Nat) : XM := fun s => match s[i]? with
  | some (.dat d) => some (.d d, s)
  | some (.own _) => some (.o i, s)
  | _ => none
def x1 (g : D → Option R) (a : XM) : XM := fun s => (a s).bind fun p => (rv p.2 p.1).bind fun d => (g d).bind fun z => some (z, p.2)
def x2 (g : D → D → Option R) (a b : XM) : XM := fun s => (a s).bind fun p => (b p.2).bind fun q => (rv q.2 p.1).bind fun dx => (rv q.2 q.1).bind fun dy => (g dx dy).bind fun z => some (z, q.2)
def xif (t : TM) (a b : XM) : XM := fun s => (t s).bind fun p => if p.1 = true then a p.2 else b p.2
def bl1 : R → Option Bool
  | .d (.bool b) => some b
  | _ => none
def xand (a b : XM) : XM := fun s => (a s).bind fun p => (bl1 p.1).bind fun c => if c = true then b p.2 else some (.d (.bool false), p.2)
def xor (a b : XM) : XM := fun s => (a s).bind fun p => (bl1 p.1).bind fun c => if c = true then some (.d (.bool true), p.2) else b p.2
def xnot (a : XM) : XM := fun s => (a s).bind fun p => (bl1 p.1).bind fun c => some (.d (.bool (!c)), p.2)
def anil : DS → Option (List R × DS) := fun s => some ([], s)
def acons (a : XM) (b : DS → Option (List R × DS)) : DS → Option (List R × DS) := fun s => (a s).bind fun p => (b p.2).bind fun q => some (p.1 :: q.1, q.2)
def dnil : DS → Option (List D × DS) := fun s => some ([], s)
def dcons (np : Nat) (a : XM) (b : DS → Option (List D × DS)) : DS → Option (List D × DS) := fun s => (a s).bind fun p => (fz np p.2 p.1).bind fun q => (b q.2).bind fun w => some (q.1 :: w.1, w.2)
def pnil : DS → Option (List A × DS) := fun s => some ([], s)
def pcons (np : Nat) (a : XM) (b : DS → Option (List A × DS)) : DS → Option (List A × DS) := fun s => (a s).bind fun p => (fz np p.2 p.1).bind fun q => (b q.2).bind fun w => some (.d q.1 :: w.1, w.2)
def pmut (i : Nat) (b : DS → Option (List A × DS)) : DS → Option (List A × DS) := fun s => (b s).bind fun w => some (.m i :: w.1, w.2)
def xcb (g : List D → Option R) (a : DS → Option (List R × DS)) : XM := fun s => (a s).bind fun p => (rvs p.2 p.1).bind fun ds => (g ds).bind fun z => some (z, p.2)
def xtup (a : DS → Option (List D × DS)) : XM := fun s => (a s).bind fun p => if p.1.length ≤ 1000 then some (.d (.tuple p.1), p.2) else none
def xlst (a : DS → Option (List D × DS)) : XM := fun s => (a s).bind fun p => if p.1.length ≤ 1000 then some (.t p.1, p.2) else none
def tb (a : XM) : TM := fun s => (a s).bind fun p => (bl1 p.1).bind fun c => some (c, p.2)
def tand (a b : TM) : TM := fun s => (a s).bind fun p => if p.1 = true then b p.2 else some (false, p.2)
def tor (a b : TM) : TM := fun s => (a s).bind fun p => if p.1 = true then some (true, p.2) else b p.2
def tnot (a : TM) : TM := fun s => (a s).bind fun p => some (!p.1, p.2)

theorem bind_eq {α β : Type} {x : Option α} {f : α → Option β} {b : β} (h : x.bind f = some b) : ∃ a, x = some a ∧ f a = some b := by
  cases x with
  | none => cases h
  | some a => exact ⟨a, rfl, h⟩
section
variable {np : Nat} {ta tb' te : TE} {fa fb fe : XM} {tt tu : TT} {ft fu : TM} {tl : TA}
theorem se_c {d : D} {v : V} (h : ∀ I, Dr I v d) : SE np (tC v) (xc d) := fun I H σ s r s' Q S e k => by
  cases e
  exact k I H v (Stp.refl S) (h I)
theorem se_var {i : Nat} : SE np (tVar i) (xv i) := fun I H σ s r s' Q S e k => by
  dsimp only [xv] at e
  cases q : s[i]? with
  | none => rw [q] at e; cases e
  | some z =>
    rw [q] at e
    cases z with
    | no => cases e
    | dat d =>
      cases e
      obtain ⟨v, h1, h2⟩ := S.dat i d q
      exact ⟨v, h1, k I H v (Stp.refl S) h2⟩
    | own xs =>
      cases e
      obtain ⟨a, vs, h1, _⟩ := S.own i xs q
      exact ⟨.ref a, h1, k I H _ (Stp.refl S) h1⟩
theorem se_un {r : V → Hp → VK → Prop} {g : D → Option R} (ha : SE np ta fa) (h : Op1 r g) : SE np (tUn r ta) (x1 g fa) := fun I H σ s z s' Q S e k => by
  obtain ⟨⟨ra, s1⟩, e1, e⟩ := bind_eq e
  obtain ⟨d, e2, e⟩ := bind_eq e
  obtain ⟨w, e3, e⟩ := bind_eq e
  cases e
  refine ha I H σ s ra s1 _ S e1 fun I1 H1 v A1 r1 => ?_
  exact h I1 H1 v d _ _ A1.sr.ext (r1.rd A1.sr e2) e3 fun I' H' v' al rz => k I' H' v' (A1.trans (al.stp A1.sr)) (RR.of_z A1 al rz)
theorem se_op {r : R2} {g : D → D → Option R} (ha : SE np ta fa) (hb : SE np tb' fb) (h : Op2 r g) : SE np (tOp r ta tb') (x2 g fa fb) := fun I H σ s z s' Q S e k => by
  obtain ⟨⟨ra, s1⟩, e1, e⟩ := bind_eq e
  obtain ⟨⟨rb, s2⟩, e2, e⟩ := bind_eq e
  obtain ⟨dx, e3, e⟩ := bind_eq e
  obtain ⟨dy, e4, e⟩ := bind_eq e
  obtain ⟨w, e5, e⟩ := bind_eq e
  cases e
  refine ha I H σ s ra s1 _ S e1 fun I1 H1 v1 A1 r1 => ?_
  refine hb I1 H1 σ s1 rb s2 _ A1.sr e2 fun I2 H2 v2 A2 r2 => ?_
  have A12 := A1.trans A2
  exact h I2 H2 v1 v2 dx dy _ _ A2.sr.ext ((r1.step A2).rd A2.sr e3) (r2.rd A2.sr e4) e5 fun I' H' v' al rz => k I' H' v' (A12.trans (al.stp A2.sr)) (RR.of_z A12 al rz)
theorem se_if (ht : ST np tt ft) (ha : SE np ta fa) (hb : SE np tb' fb) : SE np (tIf tt ta tb') (xif ft fa fb) := fun I H σ s z s' Q S e k => by
  obtain ⟨⟨c, s1⟩, e1, e⟩ := bind_eq e
  refine ht I H σ s c s1 _ S e1 fun I1 H1 A1 => ?_
  cases c with
  | true =>
    rw [if_pos rfl] at e ⊢
    exact ha I1 H1 σ s1 z s' _ A1.sr e fun I' H' v A2 r2 => k I' H' v (A1.trans A2) (RR.base A1 r2)
  | false =>
    rw [if_neg Bool.false_ne_true] at e ⊢
    exact hb I1 H1 σ s1 z s' _ A1.sr e fun I' H' v A2 r2 => k I' H' v (A1.trans A2) (RR.base A1 r2)
theorem bl1_of {H0 I H : Hp} {σ : L2.St} {s : DS} {v : V} {r : R} {c : Bool} (e : bl1 r = some c) (h : RR H0 I H σ s v r) : v = .bl c := by
  cases r with
  | d x =>
    cases x <;> first | (cases e; cases (show Dr I v (.bool _) from h); rfl) | cases e
  | t xs => cases e
  | o i => cases e
theorem se_and (ha : SE np ta fa) (hb : SE np tb' fb) : SE np (tAndV ta tb') (xand fa fb) := fun I H σ s z s' Q S e k => by
  obtain ⟨⟨ra, s1⟩, e1, e⟩ := bind_eq e
  obtain ⟨c, e2, e⟩ := bind_eq e
  refine ha I H σ s ra s1 _ S e1 fun I1 H1 v A1 r1 => ⟨c, bl1_of e2 r1, ?_⟩
  cases c with
  | true =>
    rw [if_pos rfl] at e ⊢
    exact hb I1 H1 σ s1 z s' _ A1.sr e fun I' H' v A2 r2 => k I' H' v (A1.trans A2) (RR.base A1 r2)
  | false =>
    rw [if_neg Bool.false_ne_true] at e ⊢
    cases e
    exact k I1 H1 _ A1 (Dr.bl false)
theorem se_or (ha : SE np ta fa) (hb : SE np tb' fb) : SE np (tOrV ta tb') (xor fa fb) := fun I H σ s z s' Q S e k => by
  obtain ⟨⟨ra, s1⟩, e1, e⟩ := bind_eq e
  obtain ⟨c, e2, e⟩ := bind_eq e
  refine ha I H σ s ra s1 _ S e1 fun I1 H1 v A1 r1 => ⟨c, bl1_of e2 r1, ?_⟩
  cases c with
  | true =>
    rw [if_pos rfl] at e ⊢
    cases e
    exact k I1 H1 _ A1 (Dr.bl true)
  | false =>
    rw [if_neg Bool.false_ne_true] at e ⊢
    exact hb I1 H1 σ s1 z s' _ A1.sr e fun I' H' v A2 r2 => k I' H' v (A1.trans A2) (RR.base A1 r2)
theorem se_not (ha : SE np ta fa) : SE np (tNotV ta) (xnot fa) := fun I H σ s z s' Q S e k => by
  obtain ⟨⟨ra, s1⟩, e1, e⟩ := bind_eq e
  obtain ⟨c, e2, e⟩ := bind_eq e
  cases e
  exact ha I H σ s ra s1 _ S e1 fun I1 H1 v A1 r1 => ⟨c, bl1_of e2 r1, k I1 H1 _ A1 (Dr.bl _)⟩
theorem st_test (ha : SE np ta fa) : ST np (tTest ta) (tb fa) := fun I H σ s b s' Q S e k => by
  obtain ⟨⟨ra, s1⟩, e1, e⟩ := bind_eq e
  obtain ⟨c, e2, e⟩ := bind_eq e
  cases e
  exact ha I H σ s ra s1 _ S e1 fun I1 H1 v A1 r1 => ⟨_, bl1_of e2 r1, k I1 H1 A1⟩
theorem st_B (ha : SE np ta fa) : ST np (tB ta) (tb fa) := st_test ha
theorem st_and (ha : ST np tt ft) (hb : ST np tu fu) : ST np (tAnd tt tu) (tand ft fu) := fun I H σ s b s' Q S e k => by
  obtain ⟨⟨c, s1⟩, e1, e⟩ := bind_eq e
  refine ha I H σ s c s1 _ S e1 fun I1 H1 A1 => ?_
  cases c with
  | true =>
    rw [if_pos rfl] at e ⊢
    exact hb I1 H1 σ s1 b s' _ A1.sr e fun I' H' A2 => k I' H' (A1.trans A2)
  | false =>
    rw [if_neg Bool.false_ne_true] at e ⊢
    cases e
    exact k I1 H1 A1
theorem st_or (ha : ST np tt ft) (hb : ST np tu fu) : ST np (tOr tt tu) (tor ft fu) := fun I H σ s b s' Q S e k => by
  obtain ⟨⟨c, s1⟩, e1, e⟩ := bind_eq e
  refine ha I H σ s c s1 _ S e1 fun I1 H1 A1 => ?_
  cases c with
  | true =>
    rw [if_pos rfl] at e ⊢
    cases e
    exact k I1 H1 A1
  | false =>
    rw [if_neg Bool.false_ne_true] at e ⊢
    exact hb I1 H1 σ s1 b s' _ A1.sr e fun I' H' A2 => k I' H' (A1.trans A2)
theorem st_not (ha : ST np tt ft) : ST np (tNot tt) (tnot ft) := fun I H σ s b s' Q S e k => by
  obtain ⟨⟨c, s1⟩, e1, e⟩ := bind_eq e
  cases e
  exact ha I H σ s c s1 _ S e1 fun I1 H1 A1 => k I1 H1 A1
theorem sa_nil : SA np tNil anil := fun I H σ s rs s' Q S e k => by
  cases e
  exact k I H [] (Stp.refl S) .nil
theorem paired_step {H0 I1 H1 I2 H2 : Hp} {σ : L2.St} {s1 s2 : DS} (A : Stp np I1 H1 σ s1 I2 H2 σ s2) : ∀ {vs : List V} {rs : List R}, Paired (RR H0 I1 H1 σ s1) vs rs → Paired (RR H0 I2 H2 σ s2) vs rs
  | _, _, .nil => .nil
  | _, _, .cons h t => .cons (h.step A) (paired_step A t)
theorem paired_base {H0 H1 I0 I1 I2 H2 : Hp} {σ : L2.St} {s0 s1 s2 : DS} (A : Stp np I0 H0 σ s0 I1 H1 σ s1) : ∀ {vs : List V} {rs : List R}, Paired (RR H1 I2 H2 σ s2) vs rs → Paired (RR H0 I2 H2 σ s2) vs rs
  | _, _, .nil => .nil
  | _, _, .cons h t => .cons (h.base A) (paired_base A t)
theorem sa_cons {tr : TA} {fr : DS → Option (List R × DS)} (ha : SE np ta fa) (hr : SA np tr fr) : SA np (tCons ta tr) (acons fa fr) := fun I H σ s rs s' Q S e k => by
  obtain ⟨⟨ra, s1⟩, e1, e⟩ := bind_eq e
  obtain ⟨⟨rb, s2⟩, e2, e⟩ := bind_eq e
  cases e
  refine ha I H σ s ra s1 _ S e1 fun I1 H1 v1 A1 r1 => ?_
  exact hr I1 H1 σ s1 rb s2 _ A1.sr e2 fun I2 H2 vs A2 r2 => k I2 H2 _ (A1.trans A2) (.cons (r1.step A2) (paired_base A1 r2))
theorem rvs_rd {H0 I H : Hp} {σ : L2.St} {s : DS} (S : SR I H σ s) : ∀ {vs : List V} {rs : List R} {ds : List D}, Paired (RR H0 I H σ s) vs rs → rvs s rs = some ds → Paired (RD I H) vs ds
  | _, _, _, .nil, e => by cases e; exact .nil
  | _, _, _, .cons h t, e => by
    obtain ⟨d, e1, e⟩ := bind_eq e
    obtain ⟨ds, e2, e⟩ := bind_eq e
    cases e
    exact .cons (h.rd S e1) (rvs_rd S t e2)
theorem se_cb {r : List V → Hp → VK → Prop} {g : List D → Option R} {fl : DS → Option (List R × DS)} (ha : SA np tl fl) (h : Cl r g) : SE np (tCB r tl) (xcb g fl) := fun I H σ s z s' Q S e k => by
  obtain ⟨⟨rs, s1⟩, e1, e⟩ := bind_eq e
  obtain ⟨ds, e2, e⟩ := bind_eq e
  obtain ⟨w, e3, e⟩ := bind_eq e
  cases e
  refine ha I H σ s rs s1 _ S e1 fun I1 H1 vs A1 r1 => ?_
  exact h I1 H1 vs ds _ _ A1.sr.ext (rvs_rd A1.sr r1 e2) e3 fun I' H' v' al rz => k I' H' v' (A1.trans (al.stp A1.sr)) (RR.of_z A1 al rz)
theorem sd_nil : SD np tNil dnil := fun I H σ s rs s' Q S e k => by
  cases e
  exact k I H [] (Stp.refl S) .nil
theorem sd_cons {tr : TA} {fr : DS → Option (List D × DS)} (ha : SE np ta fa) (hr : SD np tr fr) : SD np (tCons ta tr) (dcons np fa fr) := fun I H σ s rs s' Q S e k => by
  obtain ⟨⟨ra, s1⟩, e1, e⟩ := bind_eq e
  obtain ⟨⟨d, s2⟩, e2, e⟩ := bind_eq e
  obtain ⟨⟨ds, s3⟩, e3, e⟩ := bind_eq e
  cases e
  refine ha I H σ s ra s1 _ S e1 fun I1 H1 v1 A1 r1 => ?_
  obtain ⟨I2, A2, h2, _⟩ := fz_ok A1 r1 e2
  exact hr I2 H1 σ s2 ds s3 _ A2.sr e3 fun I3 H3 vs A3 r3 => k I3 H3 _ (A2.trans A3) (.cons (h2.mono A3.ie) r3)
theorem sp_nil : SP np tNil pnil := fun I H σ s rs s' Q S e k => by
  cases e
  exact k I H [] (Stp.refl S) .nil
theorem sp_cons {tr : TA} {fr : DS → Option (List A × DS)} (ha : SE np ta fa) (hr : SP np tr fr) : SP np (tCons ta tr) (pcons np fa fr) := fun I H σ s rs s' Q S e k => by
  obtain ⟨⟨ra, s1⟩, e1, e⟩ := bind_eq e
  obtain ⟨⟨d, s2⟩, e2, e⟩ := bind_eq e
  obtain ⟨⟨ds, s3⟩, e3, e⟩ := bind_eq e
  cases e
  refine ha I H σ s ra s1 _ S e1 fun I1 H1 v1 A1 r1 => ?_
  obtain ⟨I2, A2, h2, _⟩ := fz_ok A1 r1 e2
  exact hr I2 H1 σ s2 ds s3 _ A2.sr e3 fun I3 H3 vs A3 r3 => k I3 H3 _ (A2.trans A3) (.cons (show AR I3 σ v1 (.d d) from h2.mono A3.ie) r3)
/-- a slot is lent: its value must be there; what it is is asked at the call -/
def pmutC (i : Nat) (b : DS → Option (List A × DS)) : DS → Option (List A × DS) := fun s => match s[i]? with
  | some (.own _) => pmut i b s
  | _ => none
theorem sp_mut {i : Nat} {tr : TA} {fr : DS → Option (List A × DS)} (hr : SP np tr fr) : SP np (tCons (tVar i) tr) (pmutC i fr) := fun I H σ s rs s' Q S e k => by
  dsimp only [pmutC] at e
  cases q : s[i]? with
  | none => rw [q] at e; cases e
  | some z =>
    rw [q] at e
    cases z with
    | no => cases e
    | dat d => cases e
    | own xs =>
      obtain ⟨⟨ds, s3⟩, e3, e⟩ := bind_eq e
      cases e
      obtain ⟨a, vs, h1, _⟩ := S.own i xs q
      exact ⟨.ref a, h1, hr I H σ s ds s3 _ S e3 fun I3 H3 vs A3 r3 => k I3 H3 _ A3 (.cons (show AR I3 σ (.ref a) (.m i) from h1) r3)⟩
theorem sz1000 {n : Nat} (h : n ≤ 1000) : n ≤ sizeLine := Nat.le_of_lt (small1000 h)
/-- a tuple that is written down: its object bears no dict -/
def tTupF (t : TA) : TE := fun σ H Q => t σ H fun xs H1 => xs.length ≤ sizeLine ∧ ∀ (p : Addr) (o : Obj), H1 p = .none → o.dict = .none → Q (.ref p) (upd H1 p (.frz o (.tup xs)))
theorem frz_new {X : Cx} {pins : List (Addr × Obj)} {σ : L2.St} {s : Shared} {H : Hp} {xs : List V} {us : List Value} (I : Inv X pins σ H s) (r : Vals xs us) (z : xs.length ≤ sizeLine) :
    ∃ o : Obj, o.dict = .none ∧ H s.heap.objs.size = .none ∧ Inv X pins σ (upd H s.heap.objs.size (.frz o (.tup xs))) { s with heap := s.heap.push { cls := .type "tuple", data := .seq us.toArray } } := by
  refine ⟨{ cls := .type "tuple", data := .seq us.toArray }, rfl, I.hok.fresh (Nat.le_refl _), ?_⟩
  have g : (s.heap.push { cls := .type "tuple", data := .seq us.toArray }).get? s.heap.objs.size = some { cls := .type "tuple", data := .seq us.toArray } := Heap.get?_push_size _ rfl
  exact I.laid (t' := s.toks) (fun _ _ q => Heap.get?_push_of_some _ q) (Nat.le_refl _) ⟨g, z, us, r, PyProof.Rows.IsTup.new _ _⟩
theorem pe_tupF {X : Cx} {es : List Expr} {t : TA} {k : Nat} {pos : Pos} (h : PA X es t) : PE X (.Tuple es k pos) (tTupF t) := ⟨fun pins s σ H Q I hq => by
  refine PySem.wpAny_Tuple_spliced (thn (h.run pos pins s σ H _ I hq) fun us s1 ⟨xs, H1, I1, r, z, q⟩ => ⟨?_, ?_⟩)
  · rw [← r.length]
    exact z
  · obtain ⟨o, g1, g2, J⟩ := frz_new I1 r z
    exact ⟨.ref s1.heap.objs.size, _, J, rfl, q _ o g2 g1⟩⟩
theorem se_tup {fl : DS → Option (List D × DS)} (ha : SD np tl fl) : SE np (tTupF tl) (xtup fl) := fun I H σ s z s' Q S e k => by
  obtain ⟨⟨ds, s1⟩, e1, e⟩ := bind_eq e
  by_cases hl : ds.length ≤ 1000
  · simp only [hl, if_true] at e
    cases e
    refine ha I H σ s ds _ _ S e1 fun I1 H1 vs A1 r1 => ⟨by rw [r1.len]; exact sz1000 hl, fun p o hp ho => ?_⟩
    have al := Al.new (o := .frz o (.tup vs)) A1.sr.ext hp
    exact k _ _ _ (A1.trans (al.stp A1.sr)) (Dr.tup upd_same ho (r1.mono al.ie))
  · simp only [hl, if_false] at e
    cases e
theorem se_lst {fl : DS → Option (List D × DS)} (ha : SD np tl fl) : SE np (tLst tl) (xlst fl) := fun I H σ s z s' Q S e k => by
  obtain ⟨⟨ds, s1⟩, e1, e⟩ := bind_eq e
  by_cases hl : ds.length ≤ 1000
  · simp only [hl, if_true] at e
    cases e
    refine ha I H σ s ds _ _ S e1 fun I1 H1 vs A1 r1 => ⟨by rw [r1.len]; exact sz1000 hl, fun p hp => ?_⟩
    have al := Al.newT (o := .lst vs) A1.sr.ext hp
    exact k _ _ _ (A1.trans (al.stp A1.sr)) (RR.of_z A1 al (r := .t ds) ⟨p, vs, rfl, hp, A1.sr.noI hp, upd_same, r1⟩)
  · simp only [hl, if_false] at e
    cases e
end

/-! ### the call of a def -/
inductive Rt where
  | d (x : D)
  | t (xs : List D)
def Rt.r : Rt → R
  | .d x => .d x
  | .t xs => .t xs
abbrev FM := DS → Option (Rt × DS)
/-- a def's promise -/
def spOf (f : FM) : Sp := fun vs H Q _ => ∃ (I : Hp) (as : DS) (r : Rt) (os : DS), SR I H (vs.map some) as ∧ f as = some (r, os) ∧
  ∀ I' H' v, Stp as.length I H (vs.map some) as I' H' (vs.map some) os → RR H I' H' (vs.map some) os v r.r → Q v H'
def argS (s : DS) : List A → Option DS
  | [] => some []
  | .d x :: r => (argS s r).bind fun as => some (.dat x :: as)
  | .m i :: r => match s[i]? with
    | some (.own xs) => (argS s r).bind fun as => some (.own xs :: as)
    | _ => none
/-- the lent lists come back -/
def back : List A → DS → DS → DS
  | .m i :: r, o :: os, s => back r os (s.set i o)
  | _ :: r, _ :: os, s => back r os s
  | _, _, s => s
def lent : List A → List Nat
  | [] => []
  | .d _ :: r => lent r
  | .m i :: r => i :: lent r
def xcall (f : FM) (a : DS → Option (List A × DS)) : XM := fun s => (a s).bind fun p => (argS p.2 p.1).bind fun as =>
  if (lent p.1).Nodup then (f as).bind fun q => some (q.1.r, back p.1 q.2 p.2) else none
section
variable {np : Nat} {I H I1 H1 : Hp} {σ : L2.St} {s : DS}
theorem argS_len : ∀ {as : List A} {os : DS}, argS s as = some os → os.length = as.length
  | [], _, e => by cases e; rfl
  | .d x :: r, _, e => by
    obtain ⟨o, e1, e⟩ := bind_eq e
    cases e
    rw [List.length_cons, List.length_cons, argS_len e1]
  | .m i :: r, _, e => by
    dsimp only [argS] at e
    cases q : s[i]? with
    | none => rw [q] at e; cases e
    | some z =>
      rw [q] at e
      cases z with
      | no => cases e
      | dat d => cases e
      | own xs =>
        obtain ⟨o, e1, e⟩ := bind_eq e
        cases e
        rw [List.length_cons, List.length_cons, argS_len e1]
/-- place by place -/
theorem argS_get : ∀ {as : List A} {os : DS}, argS s as = some os → ∀ (j : Nat) (z : Slot), os[j]? = some z →
    (∃ x, as[j]? = some (.d x) ∧ z = .dat x) ∨ (∃ (i : Nat) (xs : List D), as[j]? = some (.m i) ∧ s[i]? = some (.own xs) ∧ z = .own xs)
  | [], _, e, j, z, h => by cases e; simp at h
  | .d x :: r, _, e, j, z, h => by
    obtain ⟨o, e1, e⟩ := bind_eq e
    cases e
    cases j with
    | zero => cases h; exact .inl ⟨x, rfl, rfl⟩
    | succ j => simpa using argS_get e1 j z (by simpa using h)
  | .m i :: r, _, e, j, z, h => by
    dsimp only [argS] at e
    cases q : s[i]? with
    | none => rw [q] at e; cases e
    | some y =>
      rw [q] at e
      cases y with
      | no => cases e
      | dat d => cases e
      | own xs =>
        obtain ⟨o, e1, e⟩ := bind_eq e
        cases e
        cases j with
        | zero => cases h; exact .inr ⟨i, xs, rfl, q, rfl⟩
        | succ j => simpa using argS_get e1 j z (by simpa using h)
theorem lent_mem : ∀ {as : List A} {i : Nat}, i ∈ lent as ↔ ∃ j : Nat, as[j]? = some (.m i)
  | [], i => by simp [lent]
  | .d x :: r, i => by
    rw [show lent (.d x :: r) = lent r from rfl, lent_mem]
    constructor
    · rintro ⟨j, h⟩; exact ⟨j + 1, by simpa using h⟩
    · rintro ⟨j, h⟩
      cases j with
      | zero => cases h
      | succ j => exact ⟨j, by simpa using h⟩
  | .m k :: r, i => by
    rw [show lent (.m k :: r) = k :: lent r from rfl, List.mem_cons, lent_mem]
    constructor
    · rintro (rfl | ⟨j, h⟩)
      · exact ⟨0, rfl⟩
      · exact ⟨j + 1, by simpa using h⟩
    · rintro ⟨j, h⟩
      cases j with
      | zero => cases h; exact .inl rfl
      | succ j => exact .inr ⟨j, by simpa using h⟩
theorem lent_inj : ∀ {as : List A}, (lent as).Nodup → ∀ (j k i : Nat), as[j]? = some (.m i) → as[k]? = some (.m i) → j = k
  | [], _, j, k, i, h, _ => by simp at h
  | .d x :: r, nd, j, k, i, h1, h2 => by
    cases j with
    | zero => cases h1
    | succ j =>
      cases k with
      | zero => cases h2
      | succ k => exact congrArg (· + 1) (lent_inj (as := r) nd j k i (by simpa using h1) (by simpa using h2))
  | .m l :: r, nd, j, k, i, h1, h2 => by
    have nd' : l ∉ lent r ∧ (lent r).Nodup := List.nodup_cons.mp nd
    cases j with
    | zero =>
      cases h1
      cases k with
      | zero => rfl
      | succ k => exact absurd (lent_mem.mpr ⟨k, by simpa using h2⟩) nd'.1
    | succ j =>
      cases k with
      | zero =>
        cases h2
        exact absurd (lent_mem.mpr ⟨j, by simpa using h1⟩) nd'.1
      | succ k => exact congrArg (· + 1) (lent_inj (as := r) nd'.2 j k i (by simpa using h1) (by simpa using h2))
theorem back_len : ∀ (as : List A) (os s : DS), (back as os s).length = s.length
  | [], _, _ => rfl
  | .d _ :: r, [], _ => rfl
  | .m _ :: r, [], _ => rfl
  | .d _ :: r, o :: os, s => back_len r os s
  | .m i :: r, o :: os, s => (back_len r os (s.set i o)).trans (List.length_set ..)
theorem back_out : ∀ (as : List A) (os s : DS) (i : Nat), i ∉ lent as → (back as os s)[i]? = s[i]?
  | [], _, _, _, _ => rfl
  | .d _ :: r, [], _, _, _ => rfl
  | .m _ :: r, [], _, _, _ => rfl
  | .d _ :: r, o :: os, s, i, h => back_out r os s i h
  | .m k :: r, o :: os, s, i, h => by
    have h' : ¬ (i = k ∨ i ∈ lent r) := fun z => h (List.mem_cons.mpr z)
    rw [show back (.m k :: r) (o :: os) s = back r os (s.set k o) from rfl, back_out r os _ i (fun z => h' (.inr z)), List.getElem?_set_ne (fun z => h' (.inl z.symm))]
theorem back_in : ∀ (as : List A) (os s : DS), (lent as).Nodup → ∀ (j i : Nat) (o : Slot), as[j]? = some (.m i) → os[j]? = some o → i < s.length → (back as os s)[i]? = some o
  | [], _, _, _, j, i, o, h, _, _ => by simp at h
  | .d _ :: r, [], _, _, j, i, o, _, h, _ => by simp at h
  | .m _ :: r, [], _, _, j, i, o, _, h, _ => by simp at h
  | .d _ :: r, u :: os, s, nd, j, i, o, h1, h2, hl => by
    cases j with
    | zero => cases h1
    | succ j => exact back_in r os s nd j i o (by simpa using h1) (by simpa using h2) hl
  | .m k :: r, u :: os, s, nd, j, i, o, h1, h2, hl => by
    have nd' : k ∉ lent r ∧ (lent r).Nodup := List.nodup_cons.mp nd
    rw [show back (.m k :: r) (u :: os) s = back r os (s.set k u) from rfl]
    cases j with
    | zero =>
      cases h1
      cases h2
      rw [back_out r os _ k nd'.1, List.getElem?_set_self hl]
    | succ j => exact back_in r os _ nd'.2 j i o (by simpa using h1) (by simpa using h2) (by rw [List.length_set]; exact hl)
theorem paired_get {α β : Type} {F : α → β → Prop} : ∀ {xs : List α} {ys : List β} {j : Nat} {y : β}, Paired F xs ys → ys[j]? = some y → ∃ x, xs[j]? = some x ∧ F x y
  | _, _, _, _, .nil, e => by simp at e
  | _, _, 0, _, .cons r _, e => by simp at e; subst e; exact ⟨_, rfl, r⟩
  | _, _, j + 1, y, .cons _ t, e => by simpa using paired_get (j := j) t (by simpa using e)
/-- the state that the callee meets -/
theorem args_ok (S : SR I H σ s) {as : List A} {vs : List V} {os : DS} (hp : Paired (AR I σ) vs as) (e : argS s as = some os) (nd : (lent as).Nodup) : SR I H (vs.map some) os ∧
    (∀ a, Owned (vs.map some) os a → Owned σ s a) := by
  have gv : ∀ (j : Nat) (a : A), as[j]? = some a → ∃ v, vs[j]? = some v ∧ (vs.map some)[j]? = some (some v) ∧ AR I σ v a := fun j a h => by
    obtain ⟨v, h1, h2⟩ := paired_get hp h
    exact ⟨v, h1, by rw [List.getElem?_map, h1]; rfl, h2⟩
  have lenv : vs.length = as.length := Paired.length hp
  have mown : ∀ (j : Nat) (xs : List D), os[j]? = some (.own xs) → ∃ i : Nat, as[j]? = some (.m i) ∧ s[i]? = some (.own xs) ∧ (vs.map some)[j]? = σ[i]? := fun j xs h => by
    rcases argS_get e j _ h with ⟨x, _, z⟩ | ⟨i, ys, h1, h2, z⟩
    · cases z
    · cases z
      obtain ⟨v, _, h3, h4⟩ := gv j _ h1
      exact ⟨i, h1, h2, h3.trans (show σ[i]? = some (some v) from h4).symm⟩
  refine ⟨⟨S.ext, by rw [argS_len e, List.length_map, lenv], fun j d h => ?_, fun j xs h => ?_, fun j k xs ys a h1 h2 h3 h4 => ?_⟩, fun a ⟨j, xs, h1, h2⟩ => ?_⟩
  · rcases argS_get e j _ h with ⟨x, h1, z⟩ | ⟨i, ys, h1, h2, z⟩
    · cases z
      obtain ⟨v, _, h3, h4⟩ := gv j _ h1
      exact ⟨v, h3, h4⟩
    · cases z
  · obtain ⟨i, h1, h2, h3⟩ := mown j xs h
    obtain ⟨a, ws, e1, e2⟩ := S.own i xs h2
    exact ⟨a, ws, h3.trans e1, e2⟩
  · obtain ⟨i, q1, q2, q3⟩ := mown j xs h1
    obtain ⟨i', q1', q2', q3'⟩ := mown k ys h2
    have ei := S.dis i i' xs ys a q2 q2' (by rw [← q3]; exact h3) (by rw [← q3']; exact h4)
    subst ei
    exact lent_inj nd j k i q1 q1'
  · obtain ⟨i, q1, q2, q3⟩ := mown j xs h1
    exact ⟨i, xs, q2, by rw [← q3]; exact h2⟩
theorem se_call {tl : TA} {f : FM} {fl : DS → Option (List A × DS)} {E : XK} (ha : SP np tl fl) : SE np (tCall (spOf f) [] E tl) (xcall f fl) := fun I H σ s z s' Q S e k => by
  obtain ⟨⟨as, s1⟩, e1, e⟩ := bind_eq e
  obtain ⟨os, e2, e⟩ := bind_eq e
  by_cases nd : (lent as).Nodup
  · simp only [nd, if_true] at e
    obtain ⟨⟨r, us⟩, e3, e⟩ := bind_eq e
    cases e
    refine ha I H σ s as s1 _ S e1 fun I1 H1 vs A1 r1 => ?_
    have S1 := A1.sr
    obtain ⟨Sa, oa⟩ := args_ok S1 r1 e2 nd
    rw [List.append_nil]
    refine ⟨I1, os, r, us, Sa, e3, fun I' H' v B rb => ?_⟩
    have lo : os.length = as.length := argS_len e2
    have lu : us.length = as.length := by
      rw [B.sr.len, List.length_map, Paired.length r1]
    -- a lent slot
    have lentOf : ∀ i : Nat, i ∈ lent as → ∃ (j : Nat) (xs ys : List D), as[j]? = some (.m i) ∧ s1[i]? = some (.own xs) ∧ os[j]? = some (.own xs) ∧ us[j]? = some (.own ys) ∧ (vs.map some)[j]? = σ[i]? ∧ (back as us s1)[i]? = some (.own ys) := fun i hi => by
      obtain ⟨j, hj⟩ := lent_mem.mp hi
      have jl : j < os.length := by rw [lo]; exact (List.getElem?_eq_some_iff.mp hj).1
      obtain ⟨v, hv, hv2⟩ := paired_get r1 hj
      rcases argS_get e2 j _ (List.getElem?_eq_getElem jl) with ⟨x, q, _⟩ | ⟨i', xs, q, q2, q3⟩
      · rw [hj] at q; cases q
      · rw [hj] at q; cases q
        have q4 : os[j]? = some (.own xs) := (List.getElem?_eq_getElem jl).trans (congrArg some q3)
        obtain ⟨_, ys, q5⟩ := B.pr j jl xs q4
        refine ⟨j, xs, ys, hj, q2, q4, q5, ?_, back_in as us s1 nd j i _ hj q5 (List.getElem?_eq_some_iff.mp q2).1⟩
        rw [List.getElem?_map, hv]
        exact (show σ[i]? = some (some v) from hv2).symm
    have st : Stp np I1 H1 σ s1 I' H' σ (back as us s1) := by
      refine ⟨B.ie, ⟨B.sr.ext, by rw [back_len]; exact S1.len, fun i d hd => ?_, fun i xs hx => ?_, fun i j xs ys a h1 h2 h3 h4 => ?_⟩, fun a h1 h2 h3 => B.fr a h1 h2 fun z => h3 (oa a z), fun a h => .inl ?_, fun a o h1 h2 => B.kp a o h1 fun z => h2 (oa a z), B.nn, fun i hi xs hx => ⟨rfl, ?_⟩⟩
      · by_cases hm : i ∈ lent as
        · obtain ⟨j, xs, ys, _, _, _, _, _, q⟩ := lentOf i hm
          rw [q] at hd; cases hd
        · rw [back_out as us s1 i hm] at hd
          obtain ⟨v, q1, q2⟩ := S1.dat i d hd
          exact ⟨v, q1, q2.mono B.ie⟩
      · by_cases hm : i ∈ lent as
        · obtain ⟨j, xs', ys, _, _, _, q5, q6, q⟩ := lentOf i hm
          rw [q] at hx; cases hx
          obtain ⟨a, ws, p1, p2⟩ := B.sr.own j _ q5
          exact ⟨a, ws, q6.symm.trans p1, p2⟩
        · rw [back_out as us s1 i hm] at hx
          obtain ⟨a, ws, p1, p2, p3, p4⟩ := S1.own i xs hx
          have no : ¬ Owned (vs.map some) os a := fun ⟨j, ys, w1, w2⟩ => by
            rcases argS_get e2 j _ w1 with ⟨x, _, z⟩ | ⟨i', ys', w3, w4, z⟩
            · cases z
            · cases z
              obtain ⟨v, hv, hv2⟩ := paired_get r1 w3
              rw [List.getElem?_map, hv] at w2
              have hv2 : σ[i']? = some (some v) := hv2
              have w5 : σ[i']? = some (some (.ref a)) := by rw [hv2]; exact w2
              have := S1.dis i i' xs ys a hx w4 p1 w5
              subst this
              exact hm (lent_mem.mpr ⟨j, w3⟩)
          have hne : H1 a ≠ none := by rw [p3]; exact fun z => nomatch z
          exact ⟨a, ws, p1, B.fr a p2 hne no, B.kp a _ p3 no, p4.mono B.ie⟩
      · have own0 : ∀ (i : Nat) (xs : List D), (back as us s1)[i]? = some (.own xs) → ∃ ys, s1[i]? = some (.own ys) := fun i xs h => by
          by_cases hm : i ∈ lent as
          · obtain ⟨j, xs', ys, _, q2, _⟩ := lentOf i hm
            exact ⟨xs', q2⟩
          · rw [back_out as us s1 i hm] at h
            exact ⟨xs, h⟩
        obtain ⟨xs', g1⟩ := own0 i xs h1
        obtain ⟨ys', g2⟩ := own0 j ys h2
        exact S1.dis i j _ _ a g1 g2 h3 h4
      · obtain ⟨i, xs, h1, h2⟩ := h
        by_cases hm : i ∈ lent as
        · obtain ⟨j, xs', ys, _, q2, _⟩ := lentOf i hm
          exact ⟨i, xs', q2, h2⟩
        · rw [back_out as us s1 i hm] at h1
          exact ⟨i, xs, h1, h2⟩
      · by_cases hm : i ∈ lent as
        · obtain ⟨j, xs', ys, _, _, _, _, _, q⟩ := lentOf i hm
          exact ⟨ys, q⟩
        · exact ⟨xs, by rw [back_out as us s1 i hm]; exact hx⟩
    refine k I' H' v (A1.trans st) (RR.base A1 ?_)
    cases r with
    | d x => exact rb
    | t xs =>
      obtain ⟨p, ws, w1, w2, w3, w4, w5, w6⟩ := rb
      refine ⟨p, ws, w1, w2, w3, fun z => ?_, w5, w6⟩
      rcases st.ob p z with y | y
      · obtain ⟨ys, y1, _⟩ := S1.ownH y
        rw [y1] at w2; cases w2
      · obtain ⟨i, xs', y1, y2⟩ := z
        have : ∃ ys, s1[i]? = some (.own ys) := by
          by_cases hm : i ∈ lent as
          · obtain ⟨j, xs'', ys, _, q2, _⟩ := lentOf i hm
            exact ⟨xs'', q2⟩
          · rw [back_out as us s1 i hm] at y1
            exact ⟨xs', y1⟩
        obtain ⟨ys, y3⟩ := this
        obtain ⟨ys', y4, _⟩ := S1.ownH ⟨i, ys, y3, y2⟩
        rw [y4] at w2; cases w2
  · simp only [nd, if_false] at e
    cases e
end
end Z
end
section
set_option maxRecDepth 100000
set_option maxHeartbeats 1000000
/-! Z3: statements, loops, comprehensions, a def's run. -/
namespace Z
open PySem PySem.Spec L2
inductive Out where
  | nx
  | rt (r : Rt)
  | bk
  | ct
abbrev SM := DS → Option (Out × DS)
def RtR (np : Nat) (H : Hp) (σ : L2.St) (s : DS) (I' H' : Hp) (σ' : L2.St) (s' : DS) (v : V) : Rt → Prop
  | .d x => Dr I' v x
  | .t xs => ∃ p vs, v = .ref p ∧ (Owned σ s p ∨ H p = none) ∧ I' p = none ∧ (∀ (i : Nat), i < np → ∀ ys : List D, s'[i]? = some (.own ys) → σ'[i]? ≠ some (some (.ref p))) ∧ H' p = some (.lst vs) ∧ DrA I' vs xs
def Goal (np : Nat) (I H : Hp) (σ : L2.St) (s : DS) (D : Ends) (s' : DS) : Out → Prop
  | .nx => ∀ I' H' σ', Stp np I H σ s I' H' σ' s' → D.nx σ' H'
  | .bk => ∀ I' H' σ', Stp np I H σ s I' H' σ' s' → D.bk σ' H'
  | .ct => ∀ I' H' σ', Stp np I H σ s I' H' σ' s' → D.ct σ' H'
  | .rt r => ∀ I' H' σ' v, Stp np I H σ s I' H' σ' s' → RtR np H σ s I' H' σ' s' v r → D.rt v H'
def SS (np : Nat) (t : TS) (g : SM) : Prop := ∀ (I H : Hp) (σ : L2.St) (s : DS) (o : Out) (s' : DS) (D : Ends), SR I H σ s → g s = some (o, s') → Goal np I H σ s D s' o → t D σ H
/-- a target: what it stores, in which slots -/
def SG (np : Nat) (ws : List Nat) (g : TG) (f : D → DS → Option DS) : Prop := ∀ (I0 H0 : Hp) (σ0 : L2.St) (s0 : DS) (I H : Hp) (σ : L2.St) (s : DS) (v : V) (d : D) (s' : DS) (Q : L2.St → Hp → Prop), Stp np I0 H0 σ0 s0 I H σ s → Dr I v d → f d s = some s' →
  (∀ σ', Stp np I0 H0 σ0 s0 I H σ' s' → (∀ j, j ∉ ws → σ'[j]? = σ[j]?) → σ'.length = σ.length → Q σ' H) → g v σ H Q
def SGs (np : Nat) (ws : List Nat) (g : TGs) (f : List D → DS → Option DS) : Prop := ∀ (I0 H0 : Hp) (σ0 : L2.St) (s0 : DS) (I H : Hp) (σ : L2.St) (s : DS) (vs : List V) (ds : List D) (s' : DS) (Q : L2.St → Hp → Prop), Stp np I0 H0 σ0 s0 I H σ s → DrA I vs ds → f ds s = some s' →
  (∀ σ', Stp np I0 H0 σ0 s0 I H σ' s' → (∀ j, j ∉ ws → σ'[j]? = σ[j]?) → σ'.length = σ.length → Q σ' H) → g vs σ H Q

/-! ### storing -/
/-- a def's own list, lent by its caller, is never let go -/
def blk (np : Nat) (s : DS) (i : Nat) : Bool := decide (i < np) && (match s[i]? with | some (.own _) => true | _ => false)
def put (np i : Nat) (z : Slot) (s : DS) : Option DS := if blk np s i = true then none else if i < s.length then some (s.set i z) else none
def gn (np i : Nat) : D → DS → Option DS := fun d s => put np i (.dat d) s
def gnil : List D → DS → Option DS
  | [], s => some s
  | _, _ => none
def gcons (f : D → DS → Option DS) (g : List D → DS → Option DS) : List D → DS → Option DS
  | d :: ds, s => (f d s).bind (g ds)
  | [], _ => none
def gtup (f : List D → DS → Option DS) : D → DS → Option DS
  | .tuple ds, s => f ds s
  | .dict [(.tuple ds, .none)], s => f ds s
  | _, _ => none
section
variable {np : Nat} {I0 H0 I H : Hp} {σ0 σ : L2.St} {s0 s s' : DS} {v : V} {d : D} {i : Nat}
theorem get_set_ne {α : Type} {l : List α} {i j : Nat} {a : α} (h : j ≠ i) : (l.set i a)[j]? = l[j]? := List.getElem?_set_ne fun z => h z.symm
theorem put_of {z : Slot} (e : put np i z s = some s') : blk np s i = false ∧ i < s.length ∧ s' = s.set i z := by
  unfold put at e
  cases hb : blk np s i with
  | true => rw [hb, if_pos rfl] at e; cases e
  | false =>
    rw [hb, if_neg Bool.false_ne_true] at e
    by_cases hl : i < s.length
    · rw [if_pos hl] at e
      exact ⟨rfl, hl, (Option.some.inj e).symm⟩
    · rw [if_neg hl] at e; cases e
theorem blk_pr {xs : List D} {j : Nat} (hb : blk np s i = false) (hj : j < np) (hs : s[j]? = some (.own xs)) : j ≠ i := fun z => by
  subst z
  unfold blk at hb
  rw [hs, decide_eq_true hj] at hb
  cases hb
theorem put_dat (A : Stp np I0 H0 σ0 s0 I H σ s) (h : Dr I v d) (e : put np i (.dat d) s = some s') : Stp np I0 H0 σ0 s0 I H (σ.set i (some v)) s' := by
  obtain ⟨hb, hl, rfl⟩ := put_of e
  have S := A.sr
  have hlσ : i < σ.length := by rw [← S.len]; exact hl
  have gs : ∀ (j : Nat) (xs : List D), (s.set i (.dat d))[j]? = some (.own xs) → j ≠ i ∧ s[j]? = some (.own xs) := fun j xs hj => by
    by_cases z : j = i
    · subst z; rw [List.getElem?_set_self hl] at hj; cases hj
    · rw [get_set_ne z] at hj; exact ⟨z, hj⟩
  refine ⟨A.ie, ⟨S.ext, by rw [List.length_set, List.length_set]; exact S.len, fun j x hj => ?_, fun j xs hj => ?_, fun j k xs ys a h1 h2 h3 h4 => ?_⟩, A.fr, fun a h => ?_, A.kp, A.nn, fun j hj xs hs => ?_⟩
  · by_cases z : j = i
    · subst z
      rw [List.getElem?_set_self hl] at hj
      cases hj
      exact ⟨v, List.getElem?_set_self hlσ, h⟩
    · rw [get_set_ne z] at hj
      obtain ⟨w, e1, e2⟩ := S.dat j x hj
      exact ⟨w, (get_set_ne z).trans e1, e2⟩
  · obtain ⟨n, hj⟩ := gs j xs hj
    obtain ⟨a, vs, e1, e2⟩ := S.own j xs hj
    exact ⟨a, vs, (get_set_ne n).trans e1, e2⟩
  · obtain ⟨n1, g1⟩ := gs j xs h1
    obtain ⟨n2, g2⟩ := gs k ys h2
    rw [get_set_ne n1] at h3
    rw [get_set_ne n2] at h4
    exact S.dis j k xs ys a g1 g2 h3 h4
  · obtain ⟨j, xs, h1, h2⟩ := h
    obtain ⟨n1, g1⟩ := gs j xs h1
    rw [get_set_ne n1] at h2
    exact A.ob a ⟨j, xs, g1, h2⟩
  · obtain ⟨e1, ys, e2⟩ := A.pr j hj xs hs
    have n := blk_pr hb hj e2
    exact ⟨(get_set_ne n).trans e1, ys, (get_set_ne n).trans e2⟩
theorem put_own {p : Addr} {vs : List V} {xs : List D} (A : Stp np I0 H0 σ0 s0 I H σ s) (h0 : H0 p = none) (hi : I p = none) (hn : ¬ Owned σ s p) (hp : H p = some (.lst vs)) (hd : DrA I vs xs)
    (e : put np i (.own xs) s = some s') : Stp np I0 H0 σ0 s0 I H (σ.set i (some (.ref p))) s' := by
  obtain ⟨hb, hl, rfl⟩ := put_of e
  have S := A.sr
  have hlσ : i < σ.length := by rw [← S.len]; exact hl
  have gs : ∀ (j : Nat) (ys : List D), (s.set i (.own xs))[j]? = some (.own ys) → (j = i ∧ ys = xs) ∨ (j ≠ i ∧ s[j]? = some (.own ys)) := fun j ys hj => by
    by_cases z : j = i
    · subst z; rw [List.getElem?_set_self hl] at hj; cases hj; exact .inl ⟨rfl, rfl⟩
    · rw [get_set_ne z] at hj; exact .inr ⟨z, hj⟩
  refine ⟨A.ie, ⟨S.ext, by rw [List.length_set, List.length_set]; exact S.len, fun j x hj => ?_, fun j ys hj => ?_, fun j k ys zs a h1 h2 h3 h4 => ?_⟩, A.fr, fun a h => ?_, A.kp, A.nn, fun j hj ys hs => ?_⟩
  · by_cases z : j = i
    · subst z
      rw [List.getElem?_set_self hl] at hj
      cases hj
    · rw [get_set_ne z] at hj
      obtain ⟨w, e1, e2⟩ := S.dat j x hj
      exact ⟨w, (get_set_ne z).trans e1, e2⟩
  · rcases gs j ys hj with ⟨rfl, rfl⟩ | ⟨n, hj⟩
    · exact ⟨p, vs, List.getElem?_set_self hlσ, hi, hp, hd⟩
    · obtain ⟨a, ws, e1, e2⟩ := S.own j ys hj
      exact ⟨a, ws, (get_set_ne n).trans e1, e2⟩
  · rcases gs j ys h1 with ⟨rfl, rfl⟩ | ⟨n1, g1⟩
    · rcases gs k zs h2 with ⟨rfl, rfl⟩ | ⟨n2, g2⟩
      · rfl
      · rw [List.getElem?_set_self hlσ] at h3
        cases h3
        rw [get_set_ne n2] at h4
        exact absurd ⟨k, zs, g2, h4⟩ hn
    · rcases gs k zs h2 with ⟨rfl, rfl⟩ | ⟨n2, g2⟩
      · rw [List.getElem?_set_self hlσ] at h4
        cases h4
        rw [get_set_ne n1] at h3
        exact absurd ⟨j, ys, g1, h3⟩ hn
      · rw [get_set_ne n1] at h3
        rw [get_set_ne n2] at h4
        exact S.dis j k ys zs a g1 g2 h3 h4
  · obtain ⟨j, ys, h1, h2⟩ := h
    rcases gs j ys h1 with ⟨rfl, rfl⟩ | ⟨n1, g1⟩
    · rw [List.getElem?_set_self hlσ] at h2
      cases h2
      exact .inr h0
    · rw [get_set_ne n1] at h2
      exact A.ob a ⟨j, ys, g1, h2⟩
  · obtain ⟨e1, zs, e2⟩ := A.pr j hj ys hs
    have n := blk_pr hb hj e2
    exact ⟨(get_set_ne n).trans e1, zs, (get_set_ne n).trans e2⟩
theorem sg_name : SG np [i] (gName i) (gn np i) := fun I0 H0 σ0 s0 I H σ s v d s' Q A h e k =>
  k _ (put_dat A h e) (fun j hj => get_set_ne fun z => hj (by rw [z]; exact List.mem_singleton.mpr rfl)) (List.length_set ..)
theorem sgs_nil : SGs np [] gNil gnil := fun I0 H0 σ0 s0 I H σ s vs ds s' Q A h e k => by
  cases h with
  | nil =>
    cases e
    exact ⟨rfl, k σ A (fun _ _ => rfl) rfl⟩
  | cons _ _ => cases e
theorem sgs_cons {w1 w2 : List Nat} {g : TG} {gs : TGs} {f : D → DS → Option DS} {fs : List D → DS → Option DS} (h1 : SG np w1 g f) (h2 : SGs np w2 gs fs) : SGs np (w1 ++ w2) (gCons g gs) (gcons f fs) := fun I0 H0 σ0 s0 I H σ s vs ds s' Q A h e k => by
  cases h with
  | nil => cases e
  | @cons v vs d ds h hr =>
    obtain ⟨s1, e1, e⟩ := bind_eq e
    refine ⟨v, vs, rfl, h1 I0 H0 σ0 s0 I H σ s v d s1 _ A h e1 fun σ1 A1 k1 l1 => ?_⟩
    refine h2 I0 H0 σ0 s0 I H σ1 s1 vs ds s' _ A1 hr e fun σ2 A2 k2 l2 => ?_
    exact k σ2 A2 (fun j hj => (k2 j fun z => hj (List.mem_append_right _ z)).trans (k1 j fun z => hj (List.mem_append_left _ z))) (l2.trans l1)
/-- how many names -/
def gsize : (ds : List D) → (n : Nat) → Prop := fun ds n => ds.length = n
theorem sg_tup {K : PySem.W.Frag} {n : Nat} {ws : List Nat} {gs : TGs} {fs : List D → DS → Option DS} (h : SGs np ws gs fs) (hn : ∀ ds s s', fs ds s = some s' → ds.length = n) : SG np ws (gTup K n gs) (gtup fs) := fun I0 H0 σ0 s0 I H σ s v d s' Q A hd e k => by
  cases hd with
  | tup ha _ hs =>
    exact ⟨_, _, rfl, .inl (.inr ⟨_, A.sr.ext _ _ ha⟩), by rw [hs.len]; exact hn _ _ _ e, h I0 H0 σ0 s0 I H σ s _ _ s' Q A hs e k⟩
  | raw ha hs =>
    exact ⟨_, _, rfl, SqT.of (A.sr.ext _ _ ha), by rw [hs.len]; exact hn _ _ _ e, h I0 H0 σ0 s0 I H σ s _ _ s' Q A hs e k⟩
  | dic ha hs =>
    unfold gtup at e
    split at e
    · rename_i q
      cases q
    · rename_i q
      cases q
      obtain ⟨j, hj⟩ := drk_key hs _ (List.mem_singleton.mpr rfl)
      cases j <;> cases hj
    · cases e
  | _ => cases e
theorem gnil_len {ds : List D} {s s' : DS} (e : gnil ds s = some s') : ds.length = 0 := by
  cases ds with
  | nil => rfl
  | cons _ _ => cases e
theorem gcons_len {f : D → DS → Option DS} {g : List D → DS → Option DS} {n : Nat} (h : ∀ ds s s', g ds s = some s' → ds.length = n) : ∀ ds s s', gcons f g ds s = some s' → ds.length = n + 1 := fun ds s s' e => by
  cases ds with
  | nil => cases e
  | cons d ds =>
    obtain ⟨s1, _, e⟩ := bind_eq e
    rw [List.length_cons, h ds s1 s' e]

/-! ### settled results: no slot's own list among them -/
def settle (np : Nat) (s : DS) (r : R) : Option (R × DS) := match r with
  | .o _ => (fz np s r).bind fun p => some (.d p.1, p.2)
  | r => some (r, s)
def asg (np i : Nat) : R → DS → Option DS
  | .d x, s => put np i (.dat x) s
  | .t xs, s => put np i (.own xs) s
  | .o _, _ => none
theorem settle_ok {r r' : R} (A : Stp np I0 H0 σ0 s0 I H σ s) (h : RR H0 I H σ s v r) (e : settle np s r = some (r', s')) : ∃ I', Stp np I0 H0 σ0 s0 I' H σ s' ∧ RR H0 I' H σ s' v r' ∧ Ex I I' ∧
    (∀ a, I a = none → ¬ Owned σ s a → I' a = none) ∧ (∀ a, Owned σ s' a → Owned σ s a) := by
  cases r with
  | d x => cases e; exact ⟨I, A, h, fun _ _ z => z, fun _ z _ => z, fun _ z => z⟩
  | t xs => cases e; exact ⟨I, A, h, fun _ _ z => z, fun _ z _ => z, fun _ z => z⟩
  | o i =>
    obtain ⟨⟨d, s1⟩, e1, e⟩ := bind_eq e
    cases e
    -- the same as fz_ok, with what it leaves
    have h : σ[i]? = some (some v) := h
    dsimp only [fz] at e1
    cases q : s[i]? with
    | none => rw [q] at e1; cases e1
    | some z =>
      rw [q] at e1
      cases z with
      | no => cases e1
      | dat x =>
        cases e1
        obtain ⟨w, h1, h2⟩ := A.sr.dat i _ q
        rw [h] at h1; cases h1
        exact ⟨I, A, h2, fun _ _ z => z, fun _ z _ => z, fun _ z => z⟩
      | own xs =>
        obtain ⟨I', A', h', ie⟩ := fz_ok (np := np) (s1 := s1) (d := d) A (show RR H0 I H σ s v (.o i) from h) (by dsimp only [fz]; rw [q]; exact e1)
        -- look at fz_ok's own heap again
        by_cases hi : i < np
        · simp only [hi, if_true] at e1; cases e1
        · simp only [hi, if_false, Option.some.injEq, Prod.mk.injEq] at e1
          obtain ⟨rfl, rfl⟩ := e1
          obtain ⟨a, vs, h1, h2, h3, h4⟩ := A.sr.own i _ q
          rw [h] at h1; cases h1
          have il : i < s.length := (List.getElem?_eq_some_iff.mp q).1
          -- the steady heap that knows a and no more
          have ie2 : Ex I (upd I a (.lst vs)) := Evl.Ex.new h2
          have sub : Ex (upd I a (.lst vs)) I' := fun b u hb => by
            by_cases z : b = a
            · subst z
              rw [upd_same] at hb
              cases hb
              cases h' with
              | lst g _ => rw [g]; rw [A'.sr.ext _ _ g] at h3; exact h3
            · rw [upd_ne z] at hb
              exact ie b u hb
          refine ⟨upd I a (.lst vs), ⟨A.ie.trans ie2, ⟨upd_ext A.sr.ext h3, A'.sr.len, fun j d hj => ?_, fun j ys hj => ?_, A'.sr.dis⟩, fun b g1 g2 g3 => ?_, A'.ob, A.kp, A.nn, A'.pr⟩, .lst upd_same (h4.mono ie2), ie2, fun b g1 g2 => ?_, fun b ⟨j, ys, g1, g2⟩ => ?_⟩
          · by_cases z : j = i
            · subst z
              rw [List.getElem?_set_self il] at hj
              cases hj
              exact ⟨.ref a, h, .lst upd_same (h4.mono ie2)⟩
            · rw [get_set_ne z] at hj
              obtain ⟨w, f1, f2⟩ := A.sr.dat j d hj
              exact ⟨w, f1, f2.mono ie2⟩
          · by_cases z : j = i
            · subst z
              rw [List.getElem?_set_self il] at hj
              cases hj
            · rw [get_set_ne z] at hj
              obtain ⟨b, ws, f1, f2, f3, f4⟩ := A.sr.own j ys hj
              have nb : b ≠ a := fun y => z (A.sr.dis j i _ _ a hj q (by rw [← y]; exact f1) h)
              exact ⟨b, ws, f1, by rw [upd_ne nb]; exact f2, f3, f4.mono ie2⟩
          · have g4 := A'.fr b g1 g2 g3
            cases q2 : upd I a (.lst vs) b with
            | none => rfl
            | some u => rw [sub b u q2] at g4; cases g4
          · rw [upd_ne (fun z => g2 (by rw [z]; exact ⟨i, xs, q, h⟩))]
            exact g1
          · by_cases z : j = i
            · subst z
              rw [List.getElem?_set_self il] at g1
              cases g1
            · rw [get_set_ne z] at g1
              exact ⟨j, ys, g1, g2⟩
theorem asg_ok {r : R} (A : Stp np I0 H0 σ0 s0 I H σ s) (h : RR H0 I H σ s v r) (e : asg np i r s = some s') : Stp np I0 H0 σ0 s0 I H (σ.set i (some v)) s' := by
  cases r with
  | d x => exact put_dat A h e
  | o j => cases e
  | t xs =>
    obtain ⟨p, vs, rfl, h0, hi, hn, hp, hd⟩ := h
    exact put_own A h0 hi hn hp hd e
end
/-- x = e -/
def sasg (np i : Nat) (a : XM) : SM := fun s => (a s).bind fun p => (settle np p.2 p.1).bind fun q => (asg np i q.1 q.2).bind fun s' => some (.nx, s')
/-- (x, y) = e -/
def sunp (np : Nat) (g : D → DS → Option DS) (a : XM) : SM := fun s => (a s).bind fun p => (fz np p.2 p.1).bind fun q => (g q.1 q.2).bind fun s' => some (.nx, s')
def sdrop (a : XM) : SM := fun s => (a s).bind fun p => some (.nx, p.2)
def snx : SM := fun s => some (.nx, s)
def sbk : SM := fun s => some (.bk, s)
def sct : SM := fun s => some (.ct, s)
def snever : SM := fun _ => none
def sseq (a b : SM) : SM := fun s => (a s).bind fun p => match p.1 with
  | .nx => b p.2
  | o => some (o, p.2)
def sif (t : TM) (a b : SM) : SM := fun s => (t s).bind fun p => if p.1 = true then a p.2 else b p.2
def rtOf (np : Nat) (s : DS) : R → Option Rt
  | .d x => some (.d x)
  | .t xs => some (.t xs)
  | .o i => match s[i]? with
    | some (.dat d) => some (.d d)
    | some (.own xs) => if i < np then none else some (.t xs)
    | _ => none
def sret (np : Nat) (a : XM) : SM := fun s => (a s).bind fun p => (rtOf np p.2 p.1).bind fun r => some (.rt r, p.2)
section
variable {np : Nat} {te ta tb' : TE} {fe fa fb : XM} {t u : TS} {a b : SM} {tt : TT} {ft : TM} {i : Nat}
theorem RtR.base {I0 H0 I1 H1 I' H' : Hp} {σ0 σ1 σ' : L2.St} {s0 s1 s' : DS} {v : V} {r : Rt} (A : Stp np I0 H0 σ0 s0 I1 H1 σ1 s1) (h : RtR np H1 σ1 s1 I' H' σ' s' v r) : RtR np H0 σ0 s0 I' H' σ' s' v r := by
  cases r with
  | d x => exact h
  | t xs =>
    obtain ⟨p, vs, e, h0, q⟩ := h
    refine ⟨p, vs, e, ?_, q⟩
    rcases h0 with z | z
    · exact A.ob p z
    · refine .inr ?_
      cases w : H0 p with
      | none => rfl
      | some o => exact absurd z (A.nn p (by rw [w]; exact fun z => nomatch z))
theorem Goal.step {I H I1 H1 : Hp} {σ σ1 : L2.St} {s s1 s' : DS} {D : Ends} {o : Out} (A : Stp np I H σ s I1 H1 σ1 s1) (g : Goal np I H σ s D s' o) : Goal np I1 H1 σ1 s1 D s' o := by
  cases o with
  | nx => exact fun I' H' σ' B => g I' H' σ' (A.trans B)
  | bk => exact fun I' H' σ' B => g I' H' σ' (A.trans B)
  | ct => exact fun I' H' σ' B => g I' H' σ' (A.trans B)
  | rt r => exact fun I' H' σ' v B h => g I' H' σ' v (A.trans B) (RtR.base A h)
theorem ss_asg (h : SE np te fe) : SS np (tAsg te (gName i)) (sasg np i fe) := fun I H σ s o s' D S e g => by
  obtain ⟨⟨r, s1⟩, e1, e⟩ := bind_eq e
  obtain ⟨⟨r2, s2⟩, e2, e⟩ := bind_eq e
  obtain ⟨s3, e3, e⟩ := bind_eq e
  cases e
  refine h I H σ s r s1 _ S e1 fun I1 H1 v A1 r1 => ?_
  obtain ⟨I2, A2, q2, _⟩ := settle_ok A1 r1 e2
  exact g I2 H1 _ (asg_ok A2 q2 e3)
theorem ss_unp {ws : List Nat} {g : TG} {f : D → DS → Option DS} (h : SE np te fe) (hg : SG np ws g f) : SS np (tAsg te g) (sunp np f fe) := fun I H σ s o s' D S e gl => by
  obtain ⟨⟨r, s1⟩, e1, e⟩ := bind_eq e
  obtain ⟨⟨d, s2⟩, e2, e⟩ := bind_eq e
  obtain ⟨s3, e3, e⟩ := bind_eq e
  cases e
  refine h I H σ s r s1 _ S e1 fun I1 H1 v A1 r1 => ?_
  obtain ⟨I2, A2, q2, ie⟩ := fz_ok A1 r1 e2
  exact hg I H σ s I2 H1 σ s2 v d s' _ A2 q2 e3 fun σ' A3 _ _ => gl I2 H1 σ' A3
theorem ss_drop (h : SE np te fe) : SS np (tDrop te) (sdrop fe) := fun I H σ s o s' D S e g => by
  obtain ⟨⟨r, s1⟩, e1, e⟩ := bind_eq e
  cases e
  exact h I H σ s r _ _ S e1 fun I1 H1 v A1 _ => g I1 H1 σ A1
theorem ss_nx : SS np tNext snx := fun I H σ s o s' D S e g => by
  cases e
  exact g I H σ (Stp.refl S)
theorem ss_bk : SS np tBreak sbk := fun I H σ s o s' D S e g => by
  cases e
  exact g I H σ (Stp.refl S)
theorem ss_ct : SS np tCont sct := fun I H σ s o s' D S e g => by
  cases e
  exact g I H σ (Stp.refl S)
theorem ss_never : SS np tNever snever := fun I H σ s o s' D S e g => by cases e
theorem ss_seq (h1 : SS np t a) (h2 : SS np u b) : SS np (tSeq t u) (sseq a b) := fun I H σ s o s' D S e g => by
  obtain ⟨⟨o1, s1⟩, e1, e⟩ := bind_eq e
  refine h1 I H σ s o1 s1 _ S e1 ?_
  cases o1 with
  | nx => exact fun I1 H1 σ1 A1 => h2 I1 H1 σ1 s1 o s' D A1.sr e (g.step A1)
  | bk => cases e; exact g
  | ct => cases e; exact g
  | rt r => cases e; exact g
theorem ss_if (ht : ST np tt ft) (h1 : SS np t a) (h2 : SS np u b) : SS np (tIfS tt t u) (sif ft a b) := fun I H σ s o s' D S e g => by
  obtain ⟨⟨c, s1⟩, e1, e⟩ := bind_eq e
  refine ht I H σ s c s1 _ S e1 fun I1 H1 A1 => ?_
  cases c with
  | true =>
    rw [if_pos rfl] at e ⊢
    exact h1 I1 H1 σ s1 o s' D A1.sr e (g.step A1)
  | false =>
    rw [if_neg Bool.false_ne_true] at e ⊢
    exact h2 I1 H1 σ s1 o s' D A1.sr e (g.step A1)
theorem ss_ret (h : SE np te fe) : SS np (tRet te) (sret np fe) := fun I H σ s o s' D S e g => by
  obtain ⟨⟨r, s1⟩, e1, e⟩ := bind_eq e
  obtain ⟨r2, e2, e⟩ := bind_eq e
  cases e
  refine h I H σ s r _ _ S e1 fun I1 H1 v A1 r1 => g I1 H1 σ v A1 ?_
  cases r with
  | d x => cases e2; exact r1
  | t xs =>
    cases e2
    obtain ⟨p, vs, rfl, h0, hi, hn, hp, hd⟩ := r1
    exact ⟨p, vs, rfl, .inr h0, hi, fun i _ ys y1 y2 => hn ⟨i, ys, y1, y2⟩, hp, hd⟩
  | o i =>
    have r1 : σ[i]? = some (some v) := r1
    dsimp only [rtOf] at e2
    cases q : s1[i]? with
    | none => rw [q] at e2; cases e2
    | some z =>
      rw [q] at e2
      cases z with
      | no => cases e2
      | dat x =>
        cases e2
        obtain ⟨w, h1, h2⟩ := A1.sr.dat i _ q
        rw [r1] at h1; cases h1
        exact h2
      | own xs =>
        by_cases hi : i < np
        · simp only [hi, if_true] at e2; cases e2
        · simp only [hi, if_false, Option.some.injEq] at e2
          subst e2
          obtain ⟨p, vs, h1, h2, h3, h4⟩ := A1.sr.own i _ q
          rw [r1] at h1; cases h1
          exact ⟨p, vs, rfl, A1.ob p ⟨i, xs, q, r1⟩, h2, fun j hj ys y1 y2 => hi (by rw [← A1.sr.dis j i _ _ p y1 q y2 r1]; exact hj), h3, h4⟩
/-- x, y = e1, e2 -/
def spar (np i j : Nat) (a b : XM) : SM := fun s => (a s).bind fun p => (b p.2).bind fun q => (settle np q.2 p.1).bind fun p' => (settle np p'.2 q.1).bind fun q' =>
  (asg np i p'.1 q'.2).bind fun s1 => (asg np j q'.1 s1).bind fun s2 => some (.nx, s2)
/-- a result that no slot holds, carried over a settling -/
theorem RR.kept {H0 I I' H : Hp} {σ : L2.St} {s s' : DS} {v : V} {r : R} (ie : Ex I I') (k : ∀ a, I a = none → ¬ Owned σ s a → I' a = none) (ow : ∀ a, Owned σ s' a → Owned σ s a) (h : RR H0 I H σ s v r) : RR H0 I' H σ s' v r := by
  cases r with
  | d x => exact Dr.mono ie h
  | o i => exact h
  | t xs =>
    obtain ⟨p, vs, e, h0, hi, hn, hp, hd⟩ := h
    exact ⟨p, vs, e, h0, k p hi hn, fun z => hn (ow p z), hp, hd.mono ie⟩
theorem own_put {σ : L2.St} {s s' : DS} {z : Slot} {w : V} {p : Addr} (e : put np i z s = some s') (h : Owned (σ.set i (some w)) s' p) : Owned σ s p ∨ (∃ xs, z = .own xs ∧ w = .ref p) := by
  obtain ⟨hb, hl, rfl⟩ := put_of e
  obtain ⟨j, xs, h1, h2⟩ := h
  by_cases y : j = i
  · subst y
    rw [List.getElem?_set_self hl] at h1
    cases h1
    have : j < σ.length := by
      by_cases hh : j < σ.length
      · exact hh
      · rw [List.getElem?_eq_none (by rw [List.length_set]; omega)] at h2; cases h2
    rw [List.getElem?_set_self this] at h2
    cases h2
    exact .inr ⟨xs, rfl, rfl⟩
  · rw [get_set_ne y] at h1 h2
    exact .inl ⟨j, xs, h1, h2⟩
theorem ss_par {j : Nat} (ha : SE np ta fa) (hb : SE np tb' fb) (hij : i ≠ j) : SS np (tPar i j (tCons ta (tCons tb' tNil))) (spar np i j fa fb) := fun I H σ s o s' D S e g => by
  obtain ⟨⟨ra, s1⟩, e1, e⟩ := bind_eq e
  obtain ⟨⟨rb, s2⟩, e2, e⟩ := bind_eq e
  obtain ⟨⟨ra', s3⟩, e3, e⟩ := bind_eq e
  obtain ⟨⟨rb', s4⟩, e4, e⟩ := bind_eq e
  obtain ⟨s5, e5, e⟩ := bind_eq e
  obtain ⟨s6, e6, e⟩ := bind_eq e
  cases e
  refine ha I H σ s ra s1 _ S e1 fun I1 H1 v1 A1 r1 => ?_
  refine hb I1 H1 σ s1 rb s2 _ A1.sr e2 fun I2 H2 v2 A2 r2 => ?_
  refine ⟨v1, v2, rfl, ?_⟩
  have A12 := A1.trans A2
  have r1' := r1.step A2
  -- the first one's list stood when the second was made
  have apart : ∀ p xs q ys, ra = .t xs → v1 = .ref p → rb = .t ys → v2 = .ref q → p ≠ q := fun p xs q ys h1 h2 h3 h4 z => by
    subst h1 h2 h3 h4 z
    obtain ⟨p', _, w1, _, _, _, w2, _⟩ := r1
    cases w1
    obtain ⟨q', _, w3, w4, _⟩ := r2
    cases w3
    rw [w4] at w2; cases w2
  obtain ⟨I3, A3, q3, ie3, k3, o3⟩ := settle_ok A12 r1' e3
  have r2a : RR H I3 H2 σ s3 v2 rb := (RR.base A1 r2).kept ie3 k3 o3
  obtain ⟨I4, A4, q4, ie4, k4, o4⟩ := settle_ok A3 r2a e4
  have q3b : RR H I4 H2 σ s4 v1 ra' := q3.kept ie4 k4 o4
  have A5 := asg_ok A4 q3b e5
  have q5 : RR H I4 H2 (σ.set i (some v1)) s5 v2 rb' := by
    cases rb' with
    | d x => exact q4
    | o k => cases e6
    | t ys =>
      obtain ⟨q, vs, w1, w2, w3, w4, w5, w6⟩ := q4
      have hrb : rb = .t ys := by
        cases rb with
        | d x => cases e4
        | o k =>
          obtain ⟨_, _, z⟩ := bind_eq e4
          cases z
        | t zs => cases e4; rfl
      refine ⟨q, vs, w1, w2, w3, fun z => ?_, w5, w6⟩
      cases ra' with
      | o k => cases e5
      | d x =>
        rcases own_put e5 z with y | ⟨_, y, _⟩
        · exact w4 y
        · cases y
      | t xs =>
        rcases own_put e5 z with y | ⟨_, y, y2⟩
        · exact w4 y
        · have hra : ra = .t xs := by
            cases ra with
            | d x => cases e3
            | o k =>
              obtain ⟨_, _, z⟩ := bind_eq e3
              cases z
            | t zs => cases e3; rfl
          exact apart q xs q ys hra y2 hrb w1 rfl
  exact g I4 H2 _ (asg_ok A5 q5 e6)
/-- a list is read into names: x.append(e) -/
def sapp (np i : Nat) (a : XM) : SM := fun s => match s[i]? with
  | some (.own _) => (a s).bind fun p => (fz np p.2 p.1).bind fun q => match q.2[i]? with
    | some (.own xs) => if xs.length < 100000 then some (.nx, q.2.set i (.own (xs ++ [q.1]))) else none
    | _ => none
  | _ => none
def sext (np i : Nat) (a : XM) : SM := fun s => match s[i]? with
  | some (.own _) => (a s).bind fun p => (fz np p.2 p.1).bind fun q => match q.2[i]?, q.1 with
    | some (.own xs), .list ys => if xs.length + ys.length ≤ 100000 then some (.nx, q.2.set i (.own (xs ++ ys))) else none
    | _, _ => none
  | _ => none
/-- the own list at i is written -/
theorem own_write {I0 H0 I H : Hp} {σ0 σ : L2.St} {s0 s : DS} {a : Addr} {xs ys : List D} {ws : List V} (A : Stp np I0 H0 σ0 s0 I H σ s) (h1 : s[i]? = some (.own xs)) (h2 : σ[i]? = some (some (.ref a))) (hd : DrA I ws ys) :
    Stp np I0 H0 σ0 s0 I (upd H a (.lst ws)) σ (s.set i (.own ys)) := by
  have S := A.sr
  have il : i < s.length := (List.getElem?_eq_some_iff.mp h1).1
  obtain ⟨vs0, ha, ia⟩ := S.ownH ⟨i, xs, h1, h2⟩
  have gs : ∀ (j : Nat) (zs : List D), (s.set i (.own ys))[j]? = some (.own zs) → (j = i ∧ zs = ys) ∨ (j ≠ i ∧ s[j]? = some (.own zs)) := fun j zs hj => by
    by_cases z : j = i
    · subst z; rw [List.getElem?_set_self il] at hj; cases hj; exact .inl ⟨rfl, rfl⟩
    · rw [get_set_ne z] at hj; exact .inr ⟨z, hj⟩
  have own0 : ∀ b, Owned σ (s.set i (.own ys)) b → Owned σ s b := fun b ⟨j, zs, g1, g2⟩ => by
    rcases gs j zs g1 with ⟨rfl, rfl⟩ | ⟨_, g3⟩
    · exact ⟨j, xs, h1, g2⟩
    · exact ⟨j, zs, g3, g2⟩
  refine ⟨A.ie, ⟨fun b o hb => ?_, by rw [List.length_set]; exact S.len, fun j x hj => ?_, fun j zs hj => ?_, fun j k zs us b g1 g2 g3 g4 => ?_⟩, A.fr, fun b h => A.ob b (own0 b h), fun b o g1 g2 => ?_, fun b h => ?_, fun j hj zs hs => ?_⟩
  · rw [upd_ne (fun z => by rw [z, ia] at hb; cases hb)]
    exact S.ext b o hb
  · by_cases z : j = i
    · subst z; rw [List.getElem?_set_self il] at hj; cases hj
    · rw [get_set_ne z] at hj
      exact S.dat j x hj
  · rcases gs j zs hj with ⟨rfl, rfl⟩ | ⟨n, hj⟩
    · exact ⟨a, ws, h2, ia, upd_same, hd⟩
    · obtain ⟨b, us, e1, e2, e3, e4⟩ := S.own j zs hj
      have nb : b ≠ a := fun z => n (S.dis j i _ _ a hj h1 (by rw [← z]; exact e1) h2)
      exact ⟨b, us, e1, e2, by rw [upd_ne nb]; exact e3, e4⟩
  · rcases gs j zs g1 with ⟨rfl, rfl⟩ | ⟨_, g5⟩
    · rcases gs k us g2 with ⟨rfl, rfl⟩ | ⟨_, g6⟩
      · rfl
      · exact S.dis j k _ _ b h1 g6 g3 g4
    · rcases gs k us g2 with ⟨rfl, rfl⟩ | ⟨_, g6⟩
      · exact S.dis j k _ _ b g5 h1 g3 g4
      · exact S.dis j k _ _ b g5 g6 g3 g4
  · have na : b ≠ a := fun z => by
      subst z
      rcases A.ob b ⟨i, xs, h1, h2⟩ with w | w
      · exact g2 w
      · rw [w] at g1; cases g1
    rw [upd_ne na]
    exact A.kp b o g1 g2
  · by_cases z : b = a
    · rw [z, upd_same]; exact fun w => nomatch w
    · rw [upd_ne z]; exact A.nn b h
  · obtain ⟨e1, us, e2⟩ := A.pr j hj zs hs
    by_cases z : j = i
    · subst z
      exact ⟨e1, ys, List.getElem?_set_self il⟩
    · exact ⟨e1, us, (get_set_ne z).trans e2⟩
theorem sz1e5 {n : Nat} (h : n ≤ 100000) : n ≤ sizeLine := Evl.sz_of h
theorem lst_ty {K : PySem.W.Frag} {H : Hp} {a : Addr} {vs : List V} (h : H a = some (.lst vs)) : tyV K "list" (.ref a) H := Or.inl ⟨rfl, _, Or.inl (Or.inl h)⟩
theorem ss_app {K : PySem.W.Frag} (h : SE np te fe) : SS np (tDrop (tBM K "list" rAppend (tVar i) (tCons te tNil))) (sapp np i fe) := fun I H σ s o s' D S e g => by
  dsimp only [sapp] at e
  cases q : s[i]? with
  | none => rw [q] at e; cases e
  | some z =>
    rw [q] at e
    cases z with
    | no => cases e
    | dat d => cases e
    | own xs0 =>
      obtain ⟨⟨r, s1⟩, e1, e⟩ := bind_eq e
      obtain ⟨⟨d, s2⟩, e2, e⟩ := bind_eq e
      obtain ⟨a, vs0, h1, h2, h3, h4⟩ := S.own i _ q
      refine ⟨.ref a, h1, lst_ty h3, ?_⟩
      refine h I H σ s r s1 _ S e1 fun I1 H1 v A1 r1 => ?_
      obtain ⟨I2, A2, q2, _⟩ := fz_ok A1 r1 e2
      dsimp only at e
      cases q3 : s2[i]? with
      | none => rw [q3] at e; cases e
      | some z =>
        rw [q3] at e
        cases z with
        | no => cases e
        | dat d => cases e
        | own xs =>
          dsimp only at e
          by_cases hl : xs.length < 100000
          · simp only [hl, if_true] at e
            cases e
            obtain ⟨b, vs, g1, g2, g3, g4⟩ := A2.sr.own i _ q3
            rw [h1] at g1; cases g1
            refine ⟨a, vs, v, rfl, rfl, g3, by rw [g4.len]; exact Evl.sz_lt hl, ?_⟩
            exact g I2 _ σ (own_write A2 q3 h1 (DrA.append g4 (.cons q2 .nil)))
          · simp only [hl, if_false] at e; cases e
theorem ss_ext {K : PySem.W.Frag} (h : SE np te fe) : SS np (tDrop (tBM K "list" rExtend (tVar i) (tCons te tNil))) (sext np i fe) := fun I H σ s o s' D S e g => by
  dsimp only [sext] at e
  cases q : s[i]? with
  | none => rw [q] at e; cases e
  | some z =>
    rw [q] at e
    cases z with
    | no => cases e
    | dat d => cases e
    | own xs0 =>
      obtain ⟨⟨r, s1⟩, e1, e⟩ := bind_eq e
      obtain ⟨⟨d, s2⟩, e2, e⟩ := bind_eq e
      obtain ⟨a, vs0, h1, h2, h3, h4⟩ := S.own i _ q
      refine ⟨.ref a, h1, lst_ty h3, ?_⟩
      refine h I H σ s r s1 _ S e1 fun I1 H1 v A1 r1 => ?_
      obtain ⟨I2, A2, q2, _⟩ := fz_ok A1 r1 e2
      dsimp only at e
      cases q3 : s2[i]? with
      | none => rw [q3] at e; cases e
      | some z =>
        rw [q3] at e
        cases z with
        | no => cases e
        | dat d => cases e
        | own xs =>
          cases d with
          | list ys =>
            dsimp only at e
            by_cases hl : xs.length + ys.length ≤ 100000
            · simp only [hl, if_true] at e
              cases e
              obtain ⟨b, vs, g1, g2, g3, g4⟩ := A2.sr.own i _ q3
              rw [h1] at g1; cases g1
              cases q2 with
              | lst f1 f2 =>
                refine ⟨a, _, vs, _, rfl, rfl, g3, A2.sr.ext _ _ f1, by rw [g4.len, f2.len]; exact sz1e5 hl, ?_⟩
                exact g I2 _ σ (own_write A2 q3 h1 (DrA.append g4 f2))
            · simp only [hl, if_false] at e; cases e
          | _ => cases e
end
end Z
end
section
set_option maxRecDepth 100000
set_option maxHeartbeats 1000000
/-! Z4: what is walked, for, while, comprehensions, the run of a def. -/
namespace Z
open PySem PySem.Spec L2
/-- J hands out the items, one a turn, over any state that knows I -/
def ItOk (I : Hp) (J : It) (items : List D) : Prop := ∀ (I' H' : Hp), Ex I I' → Ex I' H' →
  (∀ i, i < items.length → J.go i H' ∧ ∀ x H2, J.yld i H' x H2 → ∃ I2 d, Al I' H' I2 H2 ∧ items[i]? = some d ∧ Dr I2 x d) ∧ ∀ i, items.length ≤ i → J.stop i H'
def SI (np : Nat) (wi : TI) (f : DS → Option (List D × DS)) : Prop := ∀ (I H : Hp) (σ : L2.St) (s : DS) (items : List D) (s' : DS) (Q : It → Hp → Prop), SR I H σ s → f s = some (items, s') →
  (∀ I' H' J, Stp np I H σ s I' H' σ s' → ItOk I' J items → Q J H') → wi σ H Q
def ilst (np : Nat) (a : XM) : DS → Option (List D × DS) := fun s => (a s).bind fun p => (fz np p.2 p.1).bind fun q => match q.1 with
  | .list ds => some (ds, q.2)
  | _ => none
def itup (np : Nat) (a : XM) : DS → Option (List D × DS) := fun s => (a s).bind fun p => (fz np p.2 p.1).bind fun q => match q.1 with
  | .tuple ds => some (ds, q.2)
  | _ => none
def intsD (lo : Int) (n : Nat) : List D := (List.range n).map fun k => .int (lo + (k : Nat))
def smallI (i : Int) : Bool := decide (-(2 ^ 62) ≤ i) && decide (i < 2 ^ 62)
def irng1 (a : DS → Option (List D × DS)) : DS → Option (List D × DS) := fun s => (a s).bind fun p => match p.1 with
  | [.int j] => if smallI j = true then some (intsD 0 j.toNat, p.2) else none
  | _ => none
def irng2 (a : DS → Option (List D × DS)) : DS → Option (List D × DS) := fun s => (a s).bind fun p => match p.1 with
  | [.int i, .int j] => if (smallI i && smallI j) = true then some (intsD i (j - i).toNat, p.2) else none
  | _ => none
def intsC (lo c : Int) (n : Nat) : List D := (List.range n).map fun k => .int (lo + (k : Nat) * c)
def irng3 (n : Nat) (a : DS → Option (List D × DS)) : DS → Option (List D × DS) := fun s => (a s).bind fun p => match p.1 with
  | [.int i, .int j, .int c] => if c ≠ 0 ∧ c.natAbs < 1073741824 ∧ Builtin.Range.small i j c = true ∧ Builtin.Range.rangeSize i j c = n then some (intsC i c n, p.2) else none
  | _ => none
def ienum (a : DS → Option (List D × DS)) : DS → Option (List D × DS) := fun s => (a s).bind fun p => match p.1 with
  | [.list ds] => some ((List.range ds.length).zipWith (fun k d => rawT [.int (k : Nat), d]) ds, p.2)
  | _ => none
def izip (a : DS → Option (List D × DS)) : DS → Option (List D × DS) := fun s => (a s).bind fun p => match p.1 with
  | [.list xs, .list ys] => some (List.zipWith (fun x y => rawT [x, y]) xs ys, p.2)
  | [.tuple xs, .tuple ys] => some (List.zipWith (fun x y => rawT [x, y]) xs ys, p.2)
  | _ => none
section
variable {np : Nat} {te : TE} {fe : XM} {ta : TA} {fa : DS → Option (List D × DS)} {K : PySem.W.Frag}
theorem sq_l {I H : Hp} {a : Addr} {xs : List V} (e : Ex I H) (h : I a = some (.lst xs)) : SqL K H a xs := SqL.of (e _ _ h)
theorem sq_t {I H : Hp} {a : Addr} {o : Obj} {xs : List V} (e : Ex I H) (h : I a = some (.frz o (.tup xs))) : SqT K H a xs := .inl (.inr ⟨o, e _ _ h⟩)
theorem getD_some {α β : Type} {xs : List α} {ds : List β} (h : xs.length = ds.length) {i : Nat} (hi : i < ds.length) : ∃ x d, xs[i]? = some x ∧ ds[i]? = some d :=
  ⟨xs[i]'(by omega), ds[i], List.getElem?_eq_getElem (by omega), List.getElem?_eq_getElem hi⟩
theorem DrA.at {I : Hp} {vs : List V} {ds : List D} {i : Nat} {v : V} {d : D} (h : DrA I vs ds) (h1 : vs[i]? = some v) (h2 : ds[i]? = some d) : Dr I v d := by
  obtain ⟨w, h3, h4⟩ := h.get h2
  rw [h1] at h3; cases h3
  exact h4
theorem si_list (h : SE np te fe) : SI np (iList K te) (ilst np fe) := fun I H σ s items s' Q S e k => by
  obtain ⟨⟨r, s1⟩, e1, e⟩ := bind_eq e
  obtain ⟨⟨d, s2⟩, e2, e⟩ := bind_eq e
  refine h I H σ s r s1 _ S e1 fun I1 H1 v A1 r1 => ?_
  obtain ⟨I2, A2, q2, _⟩ := fz_ok A1 r1 e2
  cases d with
  | list ds =>
    cases e
    cases q2 with
    | @lst a xs _ f1 f2 =>
      refine ⟨a, rfl, ⟨xs, sq_l A2.sr.ext f1⟩, k I2 H1 _ A2 fun I' H' e1 e2 => ⟨fun i hi => ?_, fun i hi => ⟨xs, sq_l e2 (e1 _ _ f1), by rw [f2.len]; exact hi⟩⟩⟩
      obtain ⟨x, d, g1, g2⟩ := getD_some f2.len hi
      refine ⟨⟨xs, x, sq_l e2 (e1 _ _ f1), g1⟩, fun y H2 ⟨hy, hq⟩ => ?_⟩
      subst hy
      have g3 := hq xs (sq_l e2 (e1 _ _ f1))
      exact ⟨I', d, Al.refl e2, g2, (f2.mono e1).at g3 g2⟩
  | _ => cases e
theorem si_tup (h : SE np te fe) : SI np (iTup K te) (itup np fe) := fun I H σ s items s' Q S e k => by
  obtain ⟨⟨r, s1⟩, e1, e⟩ := bind_eq e
  obtain ⟨⟨d, s2⟩, e2, e⟩ := bind_eq e
  refine h I H σ s r s1 _ S e1 fun I1 H1 v A1 r1 => ?_
  obtain ⟨I2, A2, q2, _⟩ := fz_ok A1 r1 e2
  cases d with
  | tuple ds =>
    cases e
    cases q2 with
    | @tup a _ xs _ f1 _ f2 =>
      refine ⟨a, rfl, ⟨xs, sq_t A2.sr.ext f1⟩, k I2 H1 _ A2 fun I' H' e1 e2 => ⟨fun i hi => ?_, fun i hi => ⟨xs, sq_t e2 (e1 _ _ f1), by rw [f2.len]; exact hi⟩⟩⟩
      obtain ⟨x, d, g1, g2⟩ := getD_some f2.len hi
      refine ⟨⟨xs, x, sq_t e2 (e1 _ _ f1), g1⟩, fun y H2 ⟨hy, hq⟩ => ?_⟩
      subst hy
      have g3 := hq xs (sq_t e2 (e1 _ _ f1))
      exact ⟨I', d, Al.refl e2, g2, (f2.mono e1).at g3 g2⟩
  | _ => cases e
theorem intsD_len {lo : Int} {n : Nat} : (intsD lo n).length = n := by simp [intsD]
theorem intsD_get {lo : Int} {n i : Nat} (h : i < n) : (intsD lo n)[i]? = some (.int (lo + (i : Nat))) := by simp [intsD, h]
theorem itok_range {I : Hp} {lo : Int} {n : Nat} : ItOk I (Itr lo n) (intsD lo n) := fun I' H' e1 e2 => by
  refine ⟨fun i hi => ?_, fun i hi => by rw [intsD_len] at hi; exact hi⟩
  rw [intsD_len] at hi
  refine ⟨hi, fun x H2 ⟨hy, hx⟩ => ?_⟩
  subst hy hx
  exact ⟨I', _, Al.refl e2, intsD_get hi, Dr.int _⟩
theorem smallI_of {i : Int} (h : smallI i = true) : -(2 ^ 62) ≤ i ∧ i < 2 ^ 62 := by
  unfold smallI at h
  rw [Bool.and_eq_true, decide_eq_true_eq, decide_eq_true_eq] at h
  exact h
theorem si_rng1 (h : SD np ta fa) : SI np (iRng1 ta) (irng1 fa) := fun I H σ s items s' Q S e k => by
  obtain ⟨⟨ds, s1⟩, e1, e⟩ := bind_eq e
  refine h I H σ s ds s1 _ S e1 fun I1 H1 vs A1 r1 => ?_
  dsimp only at e
  split at e
  · rename_i j
    by_cases hs : smallI j = true
    · rw [if_pos hs] at e
      cases e
      obtain ⟨g1, g2⟩ := smallI_of hs
      cases r1 with
      | cons a b =>
        cases b
        cases a
        exact ⟨j, rfl, g1, g2, k I1 H1 _ A1 itok_range⟩
    · rw [if_neg hs] at e; cases e
  all_goals cases e
theorem si_rng2 (h : SD np ta fa) : SI np (iRng2 ta) (irng2 fa) := fun I H σ s items s' Q S e k => by
  obtain ⟨⟨ds, s1⟩, e1, e⟩ := bind_eq e
  refine h I H σ s ds s1 _ S e1 fun I1 H1 vs A1 r1 => ?_
  dsimp only at e
  split at e
  · rename_i i j
    by_cases hs : (smallI i && smallI j) = true
    · rw [if_pos hs] at e
      cases e
      rw [Bool.and_eq_true] at hs
      obtain ⟨g1, g2⟩ := smallI_of hs.1
      obtain ⟨g3, g4⟩ := smallI_of hs.2
      cases r1 with
      | cons a b =>
        cases b with
        | cons c d =>
          cases d
          cases a
          cases c
          exact ⟨i, j, rfl, ⟨g1, g2, g3, g4⟩, k I1 H1 _ A1 itok_range⟩
    · rw [if_neg hs] at e; cases e
  all_goals cases e
theorem si_rng3 {n : Nat} (h : SD np ta fa) : SI np (iRng3 ta) (irng3 n fa) := fun I H σ s items s' Q S e k => by
  obtain ⟨⟨ds, s1⟩, e1, e⟩ := bind_eq e
  refine h I H σ s ds s1 _ S e1 fun I1 H1 vs A1 r1 => ?_
  dsimp only at e
  split at e
  · rename_i i j c
    by_cases hs : c ≠ 0 ∧ c.natAbs < 1073741824 ∧ Builtin.Range.small i j c = true ∧ Builtin.Range.rangeSize i j c = n
    · rw [if_pos hs] at e
      cases e
      cases r1 with
      | cons a b =>
        cases b with
        | cons x y =>
          cases y with
          | cons z w =>
            cases w
            cases a
            cases x
            cases z
            refine ⟨i, j, c, n, rfl, hs, k I1 H1 _ A1 fun I' H' e1 e2 => ⟨fun m hm => ?_, fun m hm => ?_⟩⟩
            · have hm' : m < n := by simpa [intsC] using hm
              refine ⟨hm', fun x H2 ⟨hy, hx⟩ => ?_⟩
              subst hy hx
              exact ⟨I', .int (i + (m : Nat) * c), Al.refl e2, by simp [intsC, hm'], Dr.int _⟩
            · show n ≤ m
              simpa [intsC] using hm
    · rw [if_neg hs] at e; cases e
  all_goals cases e
theorem si_enum (h : SD np ta fa) : SI np (iEnum K ta) (ienum fa) := fun I H σ s items s' Q S e k => by
  obtain ⟨⟨ds, s1⟩, e1, e⟩ := bind_eq e
  refine h I H σ s ds s1 _ S e1 fun I1 H1 vs A1 r1 => ?_
  dsimp only at e
  split at e
  · rename_i ds
    cases e
    cases r1 with
    | cons a b =>
      cases b
      cases a with
      | @lst a xs _ f1 f2 =>
        have hlen : ((List.range ds.length).zipWith (fun (k : Nat) (d : D) => rawT [.int (k : Nat), d]) ds).length = ds.length := by simp
        refine ⟨a, xs, rfl, sq_l A1.sr.ext f1, k I1 H1 _ A1 fun I' H' e1 e2 => ⟨fun i hi => ?_, fun i hi => ⟨xs, sq_l e2 (e1 _ _ f1), by rw [f2.len, ← hlen]; exact hi⟩⟩⟩
        rw [hlen] at hi
        obtain ⟨x, d, g1, g2⟩ := getD_some f2.len hi
        refine ⟨⟨xs, x, sq_l e2 (e1 _ _ f1), g1⟩, fun y H2 ⟨T, z, hy, hT, hH, hq⟩ => ?_⟩
        subst hy hH
        have al := Al.new (o := .tup [.int (i : Nat), z]) e2 hT
        have g3 := hq xs (sq_l e2 (e1 _ _ f1))
        refine ⟨_, rawT [.int (i : Nat), d], al, ?_, .raw upd_same (.cons (.int _) (.cons (((f2.mono e1).at g3 g2).mono al.ie) .nil))⟩
        rw [List.getElem?_zipWith, List.getElem?_range hi, g2]
  all_goals cases e
theorem zip_ok {I : Hp} {xs ys : List D} {i : Nat} (hi : i < (List.zipWith (fun x y => rawT [x, y]) xs ys).length) : ∃ x y, xs[i]? = some x ∧ ys[i]? = some y ∧ (List.zipWith (fun x y => rawT [x, y]) xs ys)[i]? = some (rawT [x, y]) := by
  rw [List.length_zipWith] at hi
  refine ⟨xs[i]'(by omega), ys[i]'(by omega), List.getElem?_eq_getElem (by omega), List.getElem?_eq_getElem (by omega), ?_⟩
  rw [List.getElem?_zipWith, List.getElem?_eq_getElem (show i < xs.length by omega), List.getElem?_eq_getElem (show i < ys.length by omega)]
theorem si_zip (h : SD np ta fa) : SI np (_root_.RZ.iZipA K ta) (izip fa) := fun I H σ s items s' Q S e k => by
  obtain ⟨⟨ds, s1⟩, e1, e⟩ := bind_eq e
  refine h I H σ s ds s1 _ S e1 fun I1 H1 vs A1 r1 => ?_
  dsimp only at e
  split at e
  · rename_i xs ys
    cases e
    cases r1 with
    | cons a b =>
      cases b with
      | cons b c =>
        cases c
        cases a with
        | @lst a us _ f1 f2 =>
          cases b with
          | @lst b ws _ g1 g2 =>
            refine ⟨a, b, us, ws, rfl, .inl ⟨sq_l A1.sr.ext f1, sq_l A1.sr.ext g1, k I1 H1 _ A1 fun I' H' e1 e2 => ⟨fun i hi => ?_, fun i hi => ⟨us, ws, sq_l e2 (e1 _ _ f1), sq_l e2 (e1 _ _ g1), ?_⟩⟩⟩⟩
            · obtain ⟨x, y, q1, q2, q3⟩ := zip_ok (I := I) hi
              obtain ⟨u, w1, w2⟩ := f2.get q1
              obtain ⟨w, w3, w4⟩ := g2.get q2
              refine ⟨⟨us, ws, u, w, sq_l e2 (e1 _ _ f1), sq_l e2 (e1 _ _ g1), w1, w3⟩, fun z H2 ⟨T, u', w', hy, hT, hH, hq1, hq2⟩ => ?_⟩
              subst hy hH
              have al := Al.new (o := .tup [u', w']) e2 hT
              have p1 := hq1 us (sq_l e2 (e1 _ _ f1))
              have p2 := hq2 ws (sq_l e2 (e1 _ _ g1))
              rw [w1] at p1; cases p1
              rw [w3] at p2; cases p2
              exact ⟨_, rawT [x, y], al, q3, .raw upd_same (.cons ((w2.mono e1).mono al.ie) (.cons ((w4.mono e1).mono al.ie) .nil))⟩
            · rw [List.length_zipWith] at hi
              rw [f2.len, g2.len]
              omega
  · rename_i xs ys
    cases e
    cases r1 with
    | cons a b =>
      cases b with
      | cons b c =>
        cases c
        cases a with
        | @tup a _ us _ f1 z1 f2 =>
          cases b with
          | @tup b _ ws _ g1 z2 g2 =>
            refine ⟨a, b, us, ws, rfl, .inr ⟨sq_t A1.sr.ext f1, sq_t A1.sr.ext g1, k I1 H1 _ A1 fun I' H' e1 e2 => ⟨fun i hi => ?_, fun i hi => ⟨us, ws, sq_t e2 (e1 _ _ f1), sq_t e2 (e1 _ _ g1), ?_⟩⟩⟩⟩
            · obtain ⟨x, y, q1, q2, q3⟩ := zip_ok (I := I) hi
              obtain ⟨u, w1, w2⟩ := f2.get q1
              obtain ⟨w, w3, w4⟩ := g2.get q2
              refine ⟨⟨us, ws, u, w, sq_t e2 (e1 _ _ f1), sq_t e2 (e1 _ _ g1), w1, w3⟩, fun z H2 ⟨T, u', w', hy, hT, hH, hq1, hq2⟩ => ?_⟩
              subst hy hH
              have al := Al.new (o := .tup [u', w']) e2 hT
              have p1 := hq1 us (sq_t e2 (e1 _ _ f1))
              have p2 := hq2 ws (sq_t e2 (e1 _ _ g1))
              rw [w1] at p1; cases p1
              rw [w3] at p2; cases p2
              exact ⟨_, rawT [x, y], al, q3, .raw upd_same (.cons ((w2.mono e1).mono al.ie) (.cons ((w4.mono e1).mono al.ie) .nil))⟩
            · rw [List.length_zipWith] at hi
              rw [f2.len, g2.len]
              omega
  all_goals cases e
end

/-! ### for -/
def forL (tg : D → DS → Option DS) (body : SM) : List D → SM
  | [] => fun s => some (.nx, s)
  | x :: xs => fun s => (tg x s).bind fun s1 => (body s1).bind fun p => match p.1 with
    | .nx => forL tg body xs p.2
    | .ct => forL tg body xs p.2
    | .bk => some (.nx, p.2)
    | .rt r => some (.rt r, p.2)
def sfor (it : DS → Option (List D × DS)) (tg : D → DS → Option DS) (body : SM) : SM := fun s => (it s).bind fun p => forL tg body p.1 p.2
section
variable {np : Nat} {wi : TI} {fi : DS → Option (List D × DS)} {ws : List Nat} {g : TG} {fg : D → DS → Option DS} {t : TS} {b : SM}
theorem drop_at {α : Type} {l : List α} {i : Nat} {d : α} (h : l[i]? = some d) : l.drop i = d :: l.drop (i + 1) := by
  obtain ⟨hi, he⟩ := List.getElem?_eq_some_iff.mp h
  rw [← he]
  exact List.drop_eq_getElem_cons hi
theorem ss_for (hi : SI np wi fi) (hg : SG np ws g fg) (hb : SS np t b) : SS np (tFor wi g t) (sfor fi fg b) := fun I H σ s o s' D S e gl => by
  obtain ⟨⟨items, s1⟩, e1, e⟩ := bind_eq e
  refine hi I H σ s items s1 _ S e1 fun I1 H1 J A1 ok => ?_
  refine ⟨fun i m σ2 H2 => m = items.length - i ∧ ∃ I2 s2, Stp np I H σ s I2 H2 σ2 s2 ∧ Ex I1 I2 ∧ forL fg b (items.drop i) s2 = some (o, s'), ⟨_, rfl, I1, s1, A1, fun _ _ z => z, e⟩, ?_⟩
  rintro i m σ2 H2 ⟨rfl, I2, s2, A2, e2, e3⟩
  obtain ⟨k1, k2⟩ := ok I2 H2 e2 A2.sr.ext
  by_cases hl : i < items.length
  · refine .inr ⟨(k1 i hl).1, ?_⟩
    obtain ⟨d, hd⟩ : ∃ d, items[i]? = some d := ⟨_, List.getElem?_eq_getElem hl⟩
    rw [drop_at hd] at e3
    obtain ⟨s3, e4, e5⟩ := bind_eq e3
    obtain ⟨⟨o1, s4⟩, e6, e7⟩ := bind_eq e5
    refine ⟨fun σ' H' => ∃ I' s'', Stp np I H σ s I' H' σ' s'' ∧ Ex I1 I' ∧ forL fg b (items.drop (i + 1)) s'' = some (o, s'), fun σ' H' ⟨I', s'', q1, q2, q3⟩ => ⟨_, by omega, rfl, I', s'', q1, q2, q3⟩, fun x H3 hx => ?_⟩
    obtain ⟨I3, d', al, hd', dr⟩ := (k1 i hl).2 x H3 hx
    rw [hd] at hd'; cases hd'
    have A3 := A2.trans (al.stp (np := np) A2.sr)
    refine hg I H σ s I3 H3 σ2 s2 x d s3 _ A3 dr e4 fun σ4 A4 _ _ => ?_
    refine hb I3 H3 σ4 s3 o1 s4 _ A4.sr e6 ?_
    have ie3 : Ex I1 I3 := e2.trans al.ie
    cases o1 with
    | nx => exact fun I' H' σ' B => ⟨I', s4, A4.trans B, ie3.trans B.ie, e7⟩
    | ct => exact fun I' H' σ' B => ⟨I', s4, A4.trans B, ie3.trans B.ie, e7⟩
    | bk =>
      cases e7
      exact fun I' H' σ' B => gl I' H' σ' (A4.trans B)
    | rt r =>
      cases e7
      exact fun I' H' σ' v B h => gl I' H' σ' v (A4.trans B) (RtR.base A4 h)
  · refine .inl ⟨k2 i (by omega), ?_⟩
    rw [List.drop_eq_nil_of_le (by omega)] at e3
    cases e3
    exact gl I2 H2 σ2 A2
/-! ### while -/
def whL (c : TM) (b : SM) : Nat → SM
  | 0 => fun _ => none
  | n + 1 => fun s => (c s).bind fun p => if p.1 = true then (b p.2).bind fun q => match q.1 with
    | .nx => whL c b n q.2
    | .ct => whL c b n q.2
    | .bk => some (.nx, q.2)
    | .rt r => some (.rt r, q.2)
    else some (.nx, p.2)
theorem ss_while {tc : TT} {fc : TM} (n : Nat) (hc : ST np tc fc) (hb : SS np t b) : SS np (tWhile tc t) (whL fc b n) := fun I H σ s o s' D S e gl => by
  refine ⟨fun m σ2 H2 => ∃ I2 s2, Stp np I H σ s I2 H2 σ2 s2 ∧ whL fc b m s2 = some (o, s'), ⟨n, I, s, Stp.refl S, e⟩, ?_⟩
  rintro m σ2 H2 ⟨I2, s2, A2, e2⟩
  cases m with
  | zero => cases e2
  | succ m =>
    obtain ⟨⟨c, s3⟩, e3, e4⟩ := bind_eq e2
    refine hc I2 H2 σ2 s2 c s3 _ A2.sr e3 fun I3 H3 B => ?_
    have A3 := A2.trans B
    cases c with
    | true =>
      rw [if_pos rfl] at e4 ⊢
      obtain ⟨⟨o1, s4⟩, e5, e6⟩ := bind_eq e4
      refine ⟨fun σ' H' => ∃ I' s'', Stp np I H σ s I' H' σ' s'' ∧ whL fc b m s'' = some (o, s'), fun σ' H' ⟨I', s'', q1, q2⟩ => ⟨m, Nat.lt_succ_self m, I', s'', q1, q2⟩, ?_⟩
      refine hb I3 H3 σ2 s3 o1 s4 _ A3.sr e5 ?_
      cases o1 with
      | nx => exact fun I' H' σ' C => ⟨I', s4, A3.trans C, e6⟩
      | ct => exact fun I' H' σ' C => ⟨I', s4, A3.trans C, e6⟩
      | bk =>
        cases e6
        exact fun I' H' σ' C => gl I' H' σ' (A3.trans C)
      | rt r =>
        cases e6
        exact fun I' H' σ' v C h => gl I' H' σ' v (A3.trans C) (RtR.base A3 h)
    | false =>
      rw [if_neg Bool.false_ne_true] at e4 ⊢
      cases e4
      exact gl I3 H3 σ2 A3
end

/-! ### comprehensions -/
def wipeD (s : DS) : List Nat → DS
  | [] => s
  | v :: vs => (wipeD s vs).set v .no
/-- the slots of the block's own names come back -/
def backD (s0 s : DS) : List Nat → DS
  | [] => s
  | v :: vs => (backD s0 s vs).set v (s0.getD v .no)
def cmpL (np : Nat) (tg : D → DS → Option DS) (tt : TM) (elt : XM) (vs : List Nat) : List D → List D → DS → Option (List D × DS)
  | [], acc, s => some (acc, s)
  | x :: xs, acc, s => (tg x s).bind fun s1 => (tt s1).bind fun p => if p.1 = true then (elt p.2).bind fun q => (fz np q.2 q.1).bind fun w => if acc.length < 100000 then cmpL np tg tt elt vs xs (acc ++ [w.1]) (wipeD w.2 vs) else none
    else cmpL np tg tt elt vs xs acc (wipeD p.2 vs)
def xcmp (np : Nat) (it : DS → Option (List D × DS)) (tg : D → DS → Option DS) (tt : TM) (elt : XM) (vs : List Nat) : XM := fun s => (it s).bind fun p => (cmpL np tg tt elt vs p.1 [] (wipeD p.2 vs)).bind fun q => some (.t q.1, backD p.2 q.2 vs)
def tyes : TM := fun s => some (true, s)
section
variable {np : Nat}
theorem wipe_get (σ : L2.St) : ∀ (vs : List Nat) (j : Nat), (wipe σ vs)[j]? = if j ∈ vs then (if j < σ.length then some none else none) else σ[j]?
  | [], j => by simp [wipe]
  | v :: vs, j => by
    unfold wipe
    have ih := wipe_get σ vs j
    by_cases h : j = v
    · subst h
      by_cases hl : j < σ.length
      · rw [List.getElem?_set_self (by rw [wipe_length]; exact hl)]; simp [hl]
      · rw [List.getElem?_eq_none (by rw [List.length_set, wipe_length]; omega)]; simp [hl]
    · rw [get_set_ne h, ih]
      simp [h]
theorem wipe_eq {σ σ' : L2.St} {vs : List Nat} (hl : σ'.length = σ.length) (h : ∀ j, j ∉ vs → σ'[j]? = σ[j]?) : wipe σ' vs = wipe σ vs := by
  apply List.ext_getElem?
  intro j
  rw [wipe_get, wipe_get, hl]
  by_cases hj : j ∈ vs
  · rw [if_pos hj, if_pos hj]
  · rw [if_neg hj, if_neg hj, h j hj]
theorem wipeD_len (s : DS) : ∀ vs : List Nat, (wipeD s vs).length = s.length
  | [] => rfl
  | v :: vs => (List.length_set ..).trans (wipeD_len s vs)
theorem wipeD_get (s : DS) : ∀ (vs : List Nat) (j : Nat), (wipeD s vs)[j]? = if j ∈ vs then (if j < s.length then some .no else none) else s[j]?
  | [], j => by simp [wipeD]
  | v :: vs, j => by
    unfold wipeD
    have ih := wipeD_get s vs j
    by_cases h : j = v
    · subst h
      by_cases hl : j < s.length
      · rw [List.getElem?_set_self (by rw [wipeD_len]; exact hl)]; simp [hl]
      · rw [List.getElem?_eq_none (by rw [List.length_set, wipeD_len]; omega)]; simp [hl]
    · rw [get_set_ne h, ih]
      simp [h]
theorem backD_len (s0 s : DS) : ∀ vs : List Nat, (backD s0 s vs).length = s.length
  | [] => rfl
  | v :: vs => (List.length_set ..).trans (backD_len s0 s vs)
theorem backD_get (s0 s : DS) (hl : s0.length = s.length) : ∀ (vs : List Nat) (j : Nat), (backD s0 s vs)[j]? = if j ∈ vs then s0[j]? else s[j]?
  | [], j => by simp [backD]
  | v :: vs, j => by
    unfold backD
    have ih := backD_get s0 s hl vs j
    by_cases h : j = v
    · subst h
      by_cases hj : j < s.length
      · rw [List.getElem?_set_self (by rw [backD_len]; exact hj)]
        have hj0 : j < s0.length := by omega
        simp [List.getD, List.getElem?_eq_getElem hj0]
      · rw [List.getElem?_eq_none (by rw [List.length_set, backD_len]; omega), if_pos List.mem_cons_self, List.getElem?_eq_none (by omega)]
    · rw [get_set_ne h, ih]
      simp [h]
/-- the lent ones are not the block's own -/
theorem wipe_stp {I0 H0 I H : Hp} {σ0 σ : L2.St} {s0 s : DS} {vs : List Nat} (hv : ∀ v ∈ vs, np ≤ v) (A : Stp np I0 H0 σ0 s0 I H σ s) : Stp np I0 H0 σ0 s0 I H (wipe σ vs) (wipeD s vs) := by
  have S := A.sr
  have gs : ∀ (j : Nat) (z : Slot), (wipeD s vs)[j]? = some z → z ≠ .no → j ∉ vs ∧ s[j]? = some z := fun j z h hz => by
    rw [wipeD_get] at h
    by_cases hj : j ∈ vs
    · rw [if_pos hj] at h
      by_cases hl : j < s.length
      · rw [if_pos hl] at h; cases h; exact absurd rfl hz
      · rw [if_neg hl] at h; cases h
    · rw [if_neg hj] at h; exact ⟨hj, h⟩
  have gσ : ∀ j, j ∉ vs → (wipe σ vs)[j]? = σ[j]? := fun j hj => by rw [wipe_get, if_neg hj]
  have ow : ∀ a, Owned (wipe σ vs) (wipeD s vs) a → Owned σ s a := fun a ⟨j, xs, h1, h2⟩ => by
    obtain ⟨n, g⟩ := gs j _ h1 (fun z => nomatch z)
    rw [gσ j n] at h2
    exact ⟨j, xs, g, h2⟩
  refine ⟨A.ie, ⟨S.ext, by rw [wipeD_len, wipe_length]; exact S.len, fun j d h => ?_, fun j xs h => ?_, fun i j xs ys a h1 h2 h3 h4 => ?_⟩, A.fr, fun a h => A.ob a (ow a h), A.kp, A.nn, fun i hi xs h => ?_⟩
  · obtain ⟨n, g⟩ := gs j _ h (fun z => nomatch z)
    rw [gσ j n]
    exact S.dat j d g
  · obtain ⟨n, g⟩ := gs j _ h (fun z => nomatch z)
    rw [gσ j n]
    exact S.own j xs g
  · obtain ⟨n1, g1⟩ := gs i _ h1 (fun z => nomatch z)
    obtain ⟨n2, g2⟩ := gs j _ h2 (fun z => nomatch z)
    rw [gσ _ n1] at h3
    rw [gσ _ n2] at h4
    exact S.dis i j xs ys a g1 g2 h3 h4
  · obtain ⟨e1, ys, e2⟩ := A.pr i hi xs h
    have n : i ∉ vs := fun z => absurd (hv i z) (by omega)
    exact ⟨(gσ i n).trans e1, ys, by rw [wipeD_get, if_neg n]; exact e2⟩
/-- behind the block: the frame's own slots again -/
theorem back_stp {I0 H0 I1 H1 I2 H2 : Hp} {σ : L2.St} {σ0 : L2.St} {s0 s1 s2 : DS} {vs : List Nat} (A : Stp np I0 H0 σ0 s0 I1 H1 σ s1) (B : Stp np I1 H1 (wipe σ vs) (wipeD s1 vs) I2 H2 (wipe σ vs) s2) (hv : ∀ v ∈ vs, np ≤ v)
    (hno : ∀ v ∈ vs, ∀ z, s2[v]? = some z → z = .no) : Stp np I0 H0 σ0 s0 I2 H2 σ (backD s1 s2 vs) := by
  have S1 := A.sr
  have hl : s1.length = s2.length := by
    have := B.sr.len
    rw [wipe_length] at this
    rw [S1.len, this]
  have gσ : ∀ j, j ∉ vs → (wipe σ vs)[j]? = σ[j]? := fun j hj => by rw [wipe_get, if_neg hj]
  have bg : ∀ j, (backD s1 s2 vs)[j]? = if j ∈ vs then s1[j]? else s2[j]? := fun j => backD_get s1 s2 hl vs j
  -- an own list of the block's slots rests untouched
  have rest : ∀ (j : Nat) (xs : List D), j ∈ vs → s1[j]? = some (.own xs) → ∃ a ws, σ[j]? = some (some (.ref a)) ∧ I2 a = none ∧ H2 a = some (.lst ws) ∧ DrA I2 ws xs ∧ ¬ Owned (wipe σ vs) (wipeD s1 vs) a := fun j xs hj h => by
    obtain ⟨a, ws, g1, g2, g3, g4⟩ := S1.own j xs h
    have no : ¬ Owned (wipe σ vs) (wipeD s1 vs) a := fun ⟨k, ys, w1, w2⟩ => by
      rw [wipeD_get] at w1
      by_cases hk : k ∈ vs
      · rw [if_pos hk] at w1
        by_cases hl : k < s1.length
        · rw [if_pos hl] at w1; cases w1
        · rw [if_neg hl] at w1; cases w1
      · rw [if_neg hk] at w1
        rw [gσ k hk] at w2
        have := S1.dis j k xs ys a h w1 g1 w2
        subst this
        exact hk hj
    exact ⟨a, ws, g1, B.fr a g2 (by rw [g3]; exact fun z => nomatch z) no, B.kp a _ g3 no, g4.mono B.ie, no⟩
  have ow : ∀ a, Owned σ (backD s1 s2 vs) a → Owned σ s1 a ∨ Owned (wipe σ vs) s2 a := fun a ⟨j, xs, h1, h2⟩ => by
    rw [bg] at h1
    by_cases hj : j ∈ vs
    · rw [if_pos hj] at h1
      exact .inl ⟨j, xs, h1, h2⟩
    · rw [if_neg hj] at h1
      exact .inr ⟨j, xs, h1, by rw [gσ j hj]; exact h2⟩
  have ow1 : ∀ a, Owned (wipe σ vs) (wipeD s1 vs) a → Owned σ s1 a := fun a ⟨k, ys, w1, w2⟩ => by
    rw [wipeD_get] at w1
    by_cases hk : k ∈ vs
    · rw [if_pos hk] at w1
      by_cases hl : k < s1.length
      · rw [if_pos hl] at w1; cases w1
      · rw [if_neg hl] at w1; cases w1
    · rw [if_neg hk] at w1
      rw [gσ k hk] at w2
      exact ⟨k, ys, w1, w2⟩
  have mid : Stp np I1 H1 σ s1 I2 H2 σ (backD s1 s2 vs) := by
    refine ⟨B.ie, ⟨B.sr.ext, by rw [backD_len, ← hl]; exact S1.len, fun j d h => ?_, fun j xs h => ?_, fun i j xs ys a h1 h2 h3 h4 => ?_⟩, fun a h1 h2 h3 => B.fr a h1 h2 fun z => h3 (ow1 a z), fun a h => ?_, fun a o h1 h2 => B.kp a o h1 fun z => h2 (ow1 a z), B.nn, fun i hi xs h => ?_⟩
    · rw [bg] at h
      by_cases hj : j ∈ vs
      · rw [if_pos hj] at h
        obtain ⟨v, g1, g2⟩ := S1.dat j d h
        exact ⟨v, g1, g2.mono B.ie⟩
      · rw [if_neg hj] at h
        rw [← gσ j hj]
        exact B.sr.dat j d h
    · rw [bg] at h
      by_cases hj : j ∈ vs
      · rw [if_pos hj] at h
        obtain ⟨a, ws, g1, g2, g3, g4, _⟩ := rest j xs hj h
        exact ⟨a, ws, g1, g2, g3, g4⟩
      · rw [if_neg hj] at h
        rw [← gσ j hj]
        exact B.sr.own j xs h
    · rw [bg] at h1 h2
      by_cases hi : i ∈ vs
      · rw [if_pos hi] at h1
        by_cases hj : j ∈ vs
        · rw [if_pos hj] at h2
          exact S1.dis i j xs ys a h1 h2 h3 h4
        · rw [if_neg hj] at h2
          obtain ⟨a', ws, g1, g2, g3, g4, g5⟩ := rest i xs hi h1
          rw [h3] at g1; cases g1
          rcases B.ob a ⟨j, ys, h2, by rw [gσ j hj]; exact h4⟩ with z | z
          · exact absurd z g5
          · obtain ⟨ws', w1, _⟩ := S1.ownH ⟨i, xs, h1, h3⟩
            rw [w1] at z; cases z
      · rw [if_neg hi] at h1
        by_cases hj : j ∈ vs
        · rw [if_pos hj] at h2
          obtain ⟨a', ws, g1, g2, g3, g4, g5⟩ := rest j ys hj h2
          rw [h4] at g1; cases g1
          rcases B.ob a ⟨i, xs, h1, by rw [gσ i hi]; exact h3⟩ with z | z
          · exact absurd z g5
          · obtain ⟨ws', w1, _⟩ := S1.ownH ⟨j, ys, h2, h4⟩
            rw [w1] at z; cases z
        · rw [if_neg hj] at h2
          exact B.sr.dis i j xs ys a h1 h2 (by rw [gσ i hi]; exact h3) (by rw [gσ j hj]; exact h4)
    · rcases ow a h with z | z
      · exact .inl z
      · rcases B.ob a z with y | y
        · exact .inl (ow1 a y)
        · exact .inr y
    · have n : i ∉ vs := fun z => absurd (hv i z) (by omega)
      obtain ⟨_, ys, e2⟩ := B.pr i hi xs (by rw [wipeD_get, if_neg n]; exact h)
      exact ⟨rfl, ys, by rw [bg, if_neg n]; exact e2⟩
  exact A.trans mid
theorem wipeD_no {s : DS} {vs : List Nat} : ∀ v ∈ vs, ∀ z, (wipeD s vs)[v]? = some z → z = .no := fun v hv z h => by
  rw [wipeD_get, if_pos hv] at h
  by_cases hl : v < s.length
  · rw [if_pos hl] at h; cases h; rfl
  · rw [if_neg hl] at h; cases h
theorem wipeD_wipeD {σ : L2.St} {vs : List Nat} : wipe (wipe σ vs) vs = wipe σ vs := wipe_eq (wipe_length σ vs) fun j hj => by rw [wipe_get, if_neg hj]
theorem se_cmp {wi : TI} {fi : DS → Option (List D × DS)} {ws vs : List Nat} {g : TG} {fg : D → DS → Option DS} {tt : TT} {ft : TM} {te : TE} {fe : XM} (hi : SI np wi fi) (hg : SG np ws g fg) (ht : ST np tt ft) (he : SE np te fe)
    (hws : ∀ j ∈ ws, j ∈ vs) (hv : ∀ v ∈ vs, np ≤ v) : SE np (tLc wi g tt te vs) (xcmp np fi fg ft fe vs) := fun I H σ s r s' Q S e k => by
  obtain ⟨⟨items, s1⟩, e1, e⟩ := bind_eq e
  obtain ⟨⟨out, s2⟩, e2, e⟩ := bind_eq e
  cases e
  refine hi I H σ s items s1 _ S e1 fun I1 H1 J A1 ok P hP => ?_
  have iP : I1 P = none := A1.sr.noI hP
  have S1 := A1.sr
  have W0 : Stp np I1 H1 (wipe σ vs) (wipeD s1 vs) I1 H1 (wipe σ vs) (wipeD s1 vs) := Stp.refl (wipe_stp hv A1).sr
  have Wnew : Stp np I1 H1 (wipe σ vs) (wipeD s1 vs) I1 (upd H1 P (.lst [])) (wipe σ vs) (wipeD s1 vs) := W0.trans ((Al.newT (o := .lst []) S1.ext hP).stp W0.sr)
  have nP : ¬ Owned (wipe σ vs) (wipeD s1 vs) P := fun z => by
    obtain ⟨ws', w1, _⟩ := W0.sr.ownH z
    rw [w1] at hP; cases hP
  -- one turn's word
  refine ⟨fun i m H2 => m = items.length - i ∧ ∃ I2 sw acc vacc, Stp np I1 H1 (wipe σ vs) (wipeD s1 vs) I2 H2 (wipe σ vs) sw ∧ Ex I1 I2 ∧ I2 P = none ∧ H2 P = some (.lst vacc) ∧ DrA I2 vacc acc ∧ ¬ Owned (wipe σ vs) sw P ∧ (∀ v ∈ vs, ∀ z, sw[v]? = some z → z = .no) ∧
    cmpL np fg ft fe vs (items.drop i) acc sw = some (out, s2), ⟨_, rfl, I1, _, [], [], Wnew, fun _ _ z => z, iP, upd_same, .nil, nP, wipeD_no, e2⟩, ?_⟩
  rintro i m H2 ⟨rfl, I2, sw, acc, vacc, A2, ie2, iP2, hP2, dacc, nP2, no2, e3⟩
  obtain ⟨k1, k2⟩ := ok I2 H2 ie2 A2.sr.ext
  by_cases hl : i < items.length
  · refine .inr ⟨(k1 i hl).1, ?_⟩
    obtain ⟨d, hd⟩ : ∃ d, items[i]? = some d := ⟨_, List.getElem?_eq_getElem hl⟩
    rw [drop_at hd] at e3
    obtain ⟨s3, e4, e5⟩ := bind_eq e3
    obtain ⟨⟨c, s4⟩, e6, e7⟩ := bind_eq e5
    refine ⟨fun H' => ∃ I' sw' acc' vacc', Stp np I1 H1 (wipe σ vs) (wipeD s1 vs) I' H' (wipe σ vs) sw' ∧ Ex I1 I' ∧ I' P = none ∧ H' P = some (.lst vacc') ∧ DrA I' vacc' acc' ∧ ¬ Owned (wipe σ vs) sw' P ∧ (∀ v ∈ vs, ∀ z, sw'[v]? = some z → z = .no) ∧
      cmpL np fg ft fe vs (items.drop (i + 1)) acc' sw' = some (out, s2), fun H' q => ⟨_, by omega, rfl, q⟩, fun x H3 hx => ?_⟩
    obtain ⟨I3, d', al, hd', dr⟩ := (k1 i hl).2 x H3 hx
    rw [hd] at hd'; cases hd'
    have B3 := al.stp (np := np) A2.sr
    have A3 := A2.trans B3
    have iP3 : I3 P = none := al.fr P iP2 (by rw [hP2]; exact fun z => nomatch z)
    have hP3 : H3 P = some (.lst vacc) := al.he P _ hP2
    -- steps from this turn's start: P stays
    have stay : ∀ {I' H' : Hp} {σ' : L2.St} {s'' : DS}, Stp np I3 H3 (wipe σ vs) sw I' H' σ' s'' → I' P = none ∧ H' P = some (.lst vacc) ∧ DrA I' vacc acc ∧ ¬ Owned σ' s'' P := fun {I' H' σ' s''} B => by
      refine ⟨B.fr P iP3 (by rw [hP3]; exact fun z => nomatch z) nP2, B.kp P _ hP3 nP2, (dacc.mono al.ie).mono B.ie, fun z => ?_⟩
      rcases B.ob P z with y | y
      · exact nP2 y
      · rw [hP3] at y; cases y
    refine hg I3 H3 (wipe σ vs) sw I3 H3 (wipe σ vs) sw x d s3 _ (Stp.refl A3.sr) dr e4 fun σ4 A4 q4 l4 => ?_
    have wσ : wipe σ4 vs = wipe σ vs := (wipe_eq l4 fun j hj => q4 j fun z => hj (hws j z)).trans wipeD_wipeD
    refine ⟨wσ, ?_⟩
    refine ht I3 H3 σ4 s3 c s4 _ A4.sr e6 fun I5 H5 A5 => ?_
    have A45 := A4.trans A5
    cases c with
    | true =>
      rw [if_pos rfl] at e7 ⊢
      obtain ⟨⟨r1, s5⟩, e8, e9⟩ := bind_eq e7
      obtain ⟨⟨z, s6⟩, e10, e11⟩ := bind_eq e9
      by_cases hacc : acc.length < 100000
      · rw [if_pos hacc] at e11
        refine he I5 H5 σ4 s4 r1 s5 _ A5.sr e8 fun I6 H6 y A6 r6 => ?_
        obtain ⟨I7, A7, q7, ie7⟩ := fz_ok A6 r6 e10
        have A47 := A45.trans A7
        obtain ⟨p1, p2, p3, p4⟩ := stay A47
        refine ⟨vacc, p2, by rw [dacc.len]; exact Evl.sz_lt hacc, ?_⟩
        have A8 := A3.trans A47
        -- the new list grows
        have W8 := wipe_stp hv A8
        rw [wσ] at W8
        have nP8 : ¬ Owned (wipe σ vs) (wipeD s6 vs) P := fun w => by
          rcases (wipe_stp hv A47).ob P (by rw [wσ]; exact w) with y' | y'
          · exact nP2 y'
          · rw [hP3] at y'; cases y'
        refine ⟨I7, wipeD s6 vs, acc ++ [z], vacc ++ [y], ?_, (ie2.trans al.ie).trans A47.ie, p1, upd_same, DrA.append p3 (.cons q7 .nil), nP8, wipeD_no, e11⟩
        refine ⟨W8.ie, ⟨fun b o hb => ?_, W8.sr.len, W8.sr.dat, fun j xs hj => ?_, W8.sr.dis⟩, W8.fr, W8.ob, fun a o h1 h2 => ?_, fun a h => ?_, W8.pr⟩
        · rw [upd_ne (fun w => by rw [w, p1] at hb; cases hb)]
          exact W8.sr.ext b o hb
        · obtain ⟨a, us, g1, g2, g3, g4⟩ := W8.sr.own j xs hj
          exact ⟨a, us, g1, g2, by rw [upd_ne (fun w => nP8 ⟨j, xs, hj, by rw [← w]; exact g1⟩)]; exact g3, g4⟩
        · rw [upd_ne (fun w => by rw [w, hP] at h1; cases h1)]
          exact W8.kp a o h1 h2
        · by_cases w : a = P
          · rw [w, upd_same]; exact fun w => nomatch w
          · rw [upd_ne w]; exact W8.nn a h
      · rw [if_neg hacc] at e11; cases e11
    | false =>
      rw [if_neg Bool.false_ne_true] at e7 ⊢
      obtain ⟨p1, p2, p3, p4⟩ := stay A45
      have A8 := A3.trans A45
      have W8 := wipe_stp hv A8
      rw [wσ] at W8
      refine ⟨I5, wipeD s4 vs, acc, vacc, W8, (ie2.trans al.ie).trans A45.ie, p1, p2, p3, fun w => ?_, wipeD_no, e7⟩
      rcases (wipe_stp hv A45).ob P (by rw [wσ]; exact w) with y' | y'
      · exact nP2 y'
      · rw [hP3] at y'; cases y'
  · refine .inl ⟨k2 i (by omega), ?_⟩
    rw [List.drop_eq_nil_of_le (by omega)] at e3
    cases e3
    have Z1 := back_stp A1 A2 hv no2
    refine k I2 H2 (.ref P) Z1 ⟨P, vacc, rfl, ?_, iP2, fun z => ?_, hP2, dacc⟩
    · cases q : H P with
      | none => rfl
      | some o => exact absurd hP (A1.nn P (by rw [q]; exact fun z => nomatch z))
    · obtain ⟨j, xs, h1, h2⟩ := z
      have hlen : s1.length = s2.length := by
        have := A2.sr.len
        rw [wipe_length] at this
        rw [S1.len, this]
      rw [backD_get s1 s2 hlen] at h1
      by_cases hj : j ∈ vs
      · rw [if_pos hj] at h1
        obtain ⟨us, w1, _⟩ := S1.ownH ⟨j, xs, h1, h2⟩
        rw [w1] at hP; cases hP
      · rw [if_neg hj] at h1
        exact nP2 ⟨j, xs, h1, by rw [wipe_get, if_neg hj]; exact h2⟩
theorem st_yes : ST np tYes tyes := fun I H σ s b s' Q S e k => by
  cases e
  exact k I H (Stp.refl S)
end
end Z
end
section
set_option maxRecDepth 100000
set_option maxHeartbeats 1000000
/-! Z5: operations on data. -/
namespace Z
open PySem PySem.Spec L2
/-! ### flat data -/
/-- t + u, and what is new bears no dict -/
def rCatF (K : PySem.W.Frag) : R2 := fun x y H Q => ∃ (a b : Addr) (xs ys : List V), x = .ref a ∧ y = .ref b ∧ (SqT K H a xs ∧ SqT K H b ys ∧ xs.length + ys.length ≤ sizeLine) ∧ (xs = [] → Q (.ref b) H) ∧ (xs ≠ [] → ys = [] → Q (.ref a) H) ∧
  (xs ≠ [] → ys ≠ [] → ∀ (p : Addr) (o : Obj), H p = .none → o.dict = .none → Q (.ref p) (upd H p (.frz o (.tup (xs ++ ys)))))
theorem cat_core {X : Cx} {op : Value → Value → Sem Value}
    (h : ∀ (s : Shared) (a b : Addr) (us ws : List Value) (Q : Value → Shared → Prop), PyProof.Rows.IsTup s.heap a us.toArray → PyProof.Rows.IsTup s.heap b ws.toArray → us.length + ws.length ≤ sizeLine → (us = [] → Q (.ref b) s) → (us ≠ [] → ws = [] → Q (.ref a) s) →
      (us ≠ [] → ws ≠ [] → Q (.ref s.heap.objs.size) { s with heap := s.heap.push { cls := .type "tuple", data := .seq (us ++ ws).toArray } }) → wpAny (model X.prog X.w) X.A (op (.ref a) (.ref b)) Q X.xe s) : OpR X op (rCatF X.K) := by
  rintro pins s σ H x y v u Q I rx ry ⟨a, b, xs, ys, rfl, rfl, ⟨ha, hb, hz⟩, q0, q1, q2⟩
  cases rx; cases ry
  obtain ⟨us, r1, p1, _⟩ := I.tuple ha
  obtain ⟨ws, r2, p2, _⟩ := I.tuple hb
  have n1 := r1.nil_iff
  have n2 := r2.nil_iff
  refine h s a b us ws _ p1 p2 ?_ (fun z => ⟨.ref b, H, I, rfl, q0 (n1.mp z)⟩) (fun z1 z2 => ⟨.ref a, H, I, rfl, q1 (z1 ∘ n1.mpr) (n2.mp z2)⟩) fun z1 z2 => ?_
  · rw [← r1.length, ← r2.length]
    exact hz
  · obtain ⟨o, g1, g2, J⟩ := frz_new I (r1.append r2) (by rw [List.length_append]; exact hz)
    exact ⟨.ref s.heap.objs.size, _, J, rfl, q2 (z1 ∘ n1.mpr) (z2 ∘ n2.mpr) _ o g2 g1⟩
theorem op_catF {X : Cx} : OpR X (binaryOp .Add) (rCatF X.K) := cat_core fun s a b us ws Q ha hb hz q0 q1 q2 => by
  by_cases e : us = []
  · subst e
    exact cat_tup0 ha hb (q0 rfl)
  · exact HT.cat_tup ha hb e (q1 e) (q2 e) hz
def scalD : D → D → Option Bool
  | .str a, .str b => some (decide (a = b))
  | .int a, .int b => some (decide (a = b))
  | .bool a, .bool b => some (decide (a = b))
  | .none, .none => some true
  | .none, .int _ => some false
  | .int _, .none => some false
  | .none, .str _ => some false
  | .str _, .none => some false
  | .none, .bool _ => some false
  | .bool _, .none => some false
  | .int _, .str _ => some false
  | .str _, .int _ => some false
  | _, _ => none
def gEq (neg : Bool) (x y : D) : Option R := match scalD x y with
  | some b => some (.d (.bool (if neg then !b else b)))
  | none => if (SeqAt.shaped x && SeqAt.shaped y) = true then some (.d (.bool (if neg then !PyData.eqv x y else PyData.eqv x y))) else none
def flatD : D → Bool
  | .none => true
  | .bool _ => true
  | .int _ => true
  | .str _ => true
  | _ => false
def eqF : D → D → Bool
  | .none, .none => true
  | .bool a, .bool b => a == b
  | .bool a, .int b => (if a then 1 else 0) == b
  | .int a, .bool b => a == (if b then 1 else 0)
  | .int a, .int b => a == b
  | .str a, .str b => a == b
  | _, _ => false
def inD (x : D) (ds : List D) : Bool := ds.any fun y => eqF y x
def itemsD : D → Option (List D)
  | .list ds => some ds
  | .tuple ds => some ds
  | _ => none
def gIn (neg : Bool) (x y : D) : Option R := (itemsD y).bind fun ds => if (flatD x && ds.all flatD) = true then some (.d (.bool (if neg then !inD x ds else inD x ds))) else none
def isNo : D → Bool
  | .none => true
  | _ => false
def gIs (neg : Bool) : D → D → Option R
  | x, .none => some (.d (.bool (if neg then !isNo x else isNo x)))
  | .bool a, .bool b => some (.d (.bool (if neg then !decide (a = b) else decide (a = b))))
  | _, _ => none
def gCmp (f : Int → Int → Bool) : D → D → Option R
  | .int i, .int j => some (.d (.bool (f i j)))
  | _, _ => none
def gLt := gCmp fun i j => decide (i < j)
def gLe := gCmp fun i j => decide (i ≤ j)
def gGt := gCmp fun i j => decide (j < i)
def gGe := gCmp fun i j => decide (j ≤ i)
def gAdd : D → D → Option R
  | .int i, .int j => some (.d (.int (i + j)))
  | .tuple xs, .tuple ys => if xs.length + ys.length ≤ 100000 then some (.d (.tuple (xs ++ ys))) else none
  | .list xs, .list ys => if xs.length + ys.length ≤ 100000 then some (.t (xs ++ ys)) else none
  | _, _ => none
def gSub : D → D → Option R
  | .int i, .int j => some (.d (.int (i - j)))
  | _, _ => none
def gMul : D → D → Option R
  | .int i, .int j => if i.natAbs.log2 + j.natAbs.log2 < 1000000 then some (.d (.int (i * j))) else none
  | .list xs, .int k => if -(2 ^ 63) ≤ k ∧ k < 2 ^ 63 ∧ xs.length * k.toNat ≤ 100000 then some (.t (List.replicate k.toNat xs).flatten) else none
  | _, _ => none
def gDiv : D → D → Option R
  | .int i, .int j => if 0 < j ∧ j.natAbs.log2 < 9000 then some (.d (.int (i / j))) else none
  | _, _ => none
def gMod : D → D → Option R
  | .int i, .int j => if 0 < j then some (.d (.int (i % j))) else none
  | _, _ => none
def gPow : D → D → Option R
  | .int i, .int j => if 0 ≤ j ∧ j ≤ 1000000 ∧ i.natAbs < 2 ^ 64 then some (.d (.int (i ^ j.toNat))) else none
  | _, _ => none
def gNeg : D → Option R
  | .int i => some (.d (.int (-i)))
  | _ => none
def gIx : D → D → Option R
  | .list xs, .int i => (atI xs i).bind fun d => some (.d d)
  | .tuple xs, .int i => (atI xs i).bind fun d => some (.d d)
  | .dict [(.list xs, .none)], .int i => (atI xs i).bind fun d => some (.d d)
  | _, _ => none
def cutD (xs : List D) (lo hi : Option Int) : List D := (xs.drop (HT.sIx xs.length 0 lo)).take (HT.sIx xs.length xs.length hi - HT.sIx xs.length 0 lo)
def gSl (lo hi : Option Int) : D → Option R
  | .list xs => some (.t (cutD xs lo hi))
  | .tuple xs => some (.d (.tuple (cutD xs lo hi)))
  | _ => none
def gRev : D → Option R
  | .list xs => some (.t xs.reverse)
  | _ => none
section
variable {I H : Hp} {v w : V} {d e : D}
theorem rd_flat (h : RD I H v d) (f : flatD d = true) : Dr I v d := by
  rcases h with h | ⟨a, vs, ds, _, rfl, _⟩
  · exact h
  · cases f
theorem rd_int {i : Int} (h : RD I H v (.int i)) : v = .int i := by
  cases rd_flat h rfl
  rfl
theorem rd_str {x : Str} (h : RD I H v (.str x)) : v = .str x := by
  cases rd_flat h rfl
  rfl
theorem rd_bl {b : Bool} (h : RD I H v (.bool b)) : v = .bl b := by
  cases rd_flat h rfl
  rfl
theorem rd_no (h : RD I H v .none) : v = .non := by
  cases rd_flat h rfl
  rfl
theorem rd_list {xs : List D} (x : Ex I H) (h : RD I H v (.list xs)) : ∃ a vs, v = .ref a ∧ H a = some (.lst vs) ∧ DrA I vs xs := by
  rcases h with h | ⟨a, vs, ds, rfl, e, h1, h2⟩
  · cases h with
    | lst h1 h2 => exact ⟨_, _, rfl, x _ _ h1, h2⟩
  · cases e
    exact ⟨a, vs, rfl, h1, h2⟩
theorem rd_tup {xs : List D} (h : RD I H v (.tuple xs)) : ∃ a o vs, v = .ref a ∧ I a = some (.frz o (.tup vs)) ∧ o.dict = .none ∧ DrA I vs xs := by
  rcases h with h | ⟨a, vs, ds, rfl, e, h1, h2⟩
  · cases h with
    | tup h1 z h2 => exact ⟨_, _, _, rfl, h1, z, h2⟩
  · cases e
theorem rd_scr {xs : List D} (h : RD I H v (.dict [(.list xs, .none)])) : ∃ a o vs, v = .ref a ∧ I a = some (.frz o (.lst vs)) ∧ DrA I vs xs := by
  rcases h with h | ⟨a, vs, ds, rfl, e, h1, h2⟩
  · generalize hd : PyData.dict [(.list xs, .none)] = d at h
    cases h with
    | frz h1 h2 =>
      cases hd
      exact ⟨_, _, _, rfl, h1, h2⟩
    | dic h1 h2 =>
      cases hd
      obtain ⟨k, hk⟩ := drk_key h2 _ (List.mem_singleton.mpr rfl)
      cases k <;> cases hk
    | _ => cases hd
  · cases e
theorem dr_no {x : V} (h : RD I H v d) : decide (v = .non) = isNo d := by
  rcases h with h | ⟨a, vs, ds, rfl, rfl, _⟩
  · cases h <;> rfl
  · rfl
/-! ### they are what the rules say -/
theorem dr_flat (h : RD I H v d) : flatV v = flatD d := by
  rcases h with h | ⟨a, vs, ds, rfl, rfl, _⟩
  · cases h <;> rfl
  · rfl
theorem dra_flat : ∀ {vs : List V} {ds : List D}, DrA I vs ds → vs.all flatV = ds.all flatD
  | _, _, .nil => rfl
  | _, _, .cons h r => by rw [List.all_cons, List.all_cons, dra_flat r, dr_flat (H := I) (.inl h)]
theorem dr_eqF {x y : V} {dx dy : D} (h1 : RD I H x dx) (h2 : RD I H y dy) (f1 : flatD dx = true) (f2 : flatD dy = true) : eqV x y = eqF dx dy := by
  cases rd_flat h1 f1 <;> cases rd_flat h2 f2 <;> first | rfl | cases f1 | cases f2
theorem dra_in {x : V} {dx : D} (hx : RD I H x dx) (f : flatD dx = true) : ∀ {vs : List V} {ds : List D}, DrA I vs ds → ds.all flatD = true → inV x vs = inD dx ds
  | _, _, .nil, _ => rfl
  | _, _, .cons h r, g => by
    rw [List.all_cons, Bool.and_eq_true] at g
    show (eqV _ x || inV x _) = (eqF _ dx || inD dx _)
    rw [dra_in hx f r g.2, dr_eqF (H := H) (.inl h) hx g.1 f]
mutual
theorem Dr.dp {K : PySem.W.Frag} (x : Ex I H) : ∀ {v : V} {d : D}, Dr I v d → d.canLay0 = true → Dp K H v d
  | _, _, .non, _ => .non
  | _, _, .bl b, _ => .bl b
  | _, _, .int b, _ => .int b
  | _, _, .str b, _ => .str b
  | _, _, .lst h r, c => .lst (SqL.of (x _ _ h)) (DrA.dp x r (by simpa [PyData.canLay0] using c))
  | _, _, .tup h _ r, c => .tup (sq_t x h) (DrA.dp x r (by simpa [PyData.canLay0] using c))
  | _, _, .raw h r, c => absurd c (by simp [rawT, PyData.canLay0])
  | _, _, .frz h r, c => absurd c (by simp [scr, PyData.canLay0])
  | _, _, .dic h r, c => absurd c (by simp [PyData.canLay0])
theorem DrA.dp {K : PySem.W.Frag} (x : Ex I H) : ∀ {v : List V} {d : List D}, DrA I v d → PyData.canLayAll0 d = true → DpAll K H v d
  | _, _, .nil, _ => .nil
  | _, d :: ds, .cons h r, c => by
    have c' : PyData.canLay0 d = true ∧ PyData.canLayAll0 ds = true := by simpa [PyData.canLayAll0] using c
    exact .cons (Dr.dp x h c'.1) (DrA.dp x r c'.2)
end
theorem rd_dp {K : PySem.W.Frag} (x : Ex I H) (h : RD I H v d) (c : d.canLay0 = true) : Dp K H v d := by
  rcases h with h | ⟨a, vs, ds, rfl, rfl, h1, h2⟩
  · exact h.dp x c
  · exact .lst (SqL.of h1) (DrA.dp x h2 (by simpa [PyData.canLay0] using c))
theorem rz_bool {H0 : Hp} (b : Bool) : RZ H0 I H (.bl b) (.d (.bool b)) := Dr.bl b
theorem rz_int {H0 : Hp} (b : Int) : RZ H0 I H (.int b) (.d (.int b)) := Dr.int b
theorem scal_of {x y : V} {dx dy : D} {b : Bool} (h1 : RD I H x dx) (h2 : RD I H y dy) (e : scalD dx dy = some b) : scal x y = true ∧ decide (x = y) = b := by
  have f1 : flatD dx = true := by cases dx <;> first | rfl | (cases dy <;> cases e)
  have f2 : flatD dy = true := by cases dy <;> first | rfl | (cases dx <;> cases e)
  cases rd_flat h1 f1 <;> cases rd_flat h2 f2 <;> first
    | (cases e; done)
    | (refine ⟨rfl, ?_⟩; cases e; simp)
end
section
variable {K : PySem.W.Frag}
theorem o_eq : Op2 (fun x y H Q => rEq x y H Q ∨ rEqD K x y H Q) (gEq false) := fun I H x y dx dy z Q ex h1 h2 e k => by
  unfold gEq at e
  cases q : scalD dx dy with
  | some b =>
    rw [q] at e
    cases e
    obtain ⟨g1, g2⟩ := scal_of h1 h2 q
    exact .inl ⟨g1, by rw [g2]; exact k I H _ (Al.refl ex) (rz_bool b)⟩
  | none =>
    rw [q] at e
    dsimp only at e
    by_cases hs : (SeqAt.shaped dx && SeqAt.shaped dy) = true
    · rw [if_pos hs] at e
      cases e
      rw [Bool.and_eq_true] at hs
      exact .inr ⟨dx, dy, rd_dp ex h1 (SeqAt.canLay_of_shaped hs.1), rd_dp ex h2 (SeqAt.canLay_of_shaped hs.2), hs.1, hs.2, k I H _ (Al.refl ex) (rz_bool _)⟩
    · rw [if_neg hs] at e; cases e
theorem o_ne : Op2 (fun x y H Q => rNe x y H Q ∨ rNeD K x y H Q) (gEq true) := fun I H x y dx dy z Q ex h1 h2 e k => by
  unfold gEq at e
  cases q : scalD dx dy with
  | some b =>
    rw [q] at e
    cases e
    obtain ⟨g1, g2⟩ := scal_of h1 h2 q
    exact .inl ⟨g1, by rw [g2]; exact k I H _ (Al.refl ex) (rz_bool _)⟩
  | none =>
    rw [q] at e
    dsimp only at e
    by_cases hs : (SeqAt.shaped dx && SeqAt.shaped dy) = true
    · rw [if_pos hs] at e
      cases e
      rw [Bool.and_eq_true] at hs
      exact .inr ⟨dx, dy, rd_dp ex h1 (SeqAt.canLay_of_shaped hs.1), rd_dp ex h2 (SeqAt.canLay_of_shaped hs.2), hs.1, hs.2, k I H _ (Al.refl ex) (rz_bool _)⟩
    · rw [if_neg hs] at e; cases e
theorem o_in {neg : Bool} : Op2 (rIn K neg) (gIn neg) := fun I H x y dx dy z Q ex h1 h2 e k => by
  obtain ⟨ds, e1, e⟩ := bind_eq e
  by_cases hf : (flatD dx && ds.all flatD) = true
  · rw [if_pos hf] at e
    cases e
    rw [Bool.and_eq_true] at hf
    have fin : ∀ vs : List V, DrA I vs ds → flatV x = true ∧ vs.all flatV = true ∧ Q (.bl (if neg then !inV x vs else inV x vs)) H := fun vs hv => by
      refine ⟨(dr_flat h1).trans hf.1, (dra_flat hv).trans hf.2, ?_⟩
      rw [dra_in h1 hf.1 hv hf.2]
      exact k I H _ (Al.refl ex) (rz_bool _)
    cases dy with
    | list xs =>
      cases e1
      obtain ⟨a, vs, rfl, g1, g2⟩ := rd_list ex h2
      exact ⟨a, vs, rfl, .inl (SqL.of g1), fin vs g2⟩
    | tuple xs =>
      cases e1
      obtain ⟨a, oa, vs, rfl, g1, za, g2⟩ := rd_tup h2
      exact ⟨a, vs, rfl, .inr (sq_t ex g1), fin vs g2⟩
    | _ => cases e1
  · rw [if_neg hf] at e; cases e
theorem o_is : Op2 (fun x y H Q => (y = .non ∧ Q (.bl (decide (x = .non))) H) ∨ rIsB x y H Q) (gIs false) := fun I H x y dx dy z Q ex h1 h2 e k => by
  cases dy with
  | none =>
    have e : some (R.d (.bool (isNo dx))) = some z := by cases dx <;> exact e
    cases e
    refine .inl ⟨rd_no h2, ?_⟩
    rw [dr_no (x := y) h1]
    exact k I H _ (Al.refl ex) (rz_bool _)
  | bool b =>
    cases dx with
    | bool a =>
      cases e
      cases rd_bl h1
      cases rd_bl h2
      exact .inr ⟨a, b, rfl, rfl, k I H _ (Al.refl ex) (rz_bool _)⟩
    | _ => cases e
  | _ => cases dx <;> cases e
theorem o_isnot : Op2 (fun x y H Q => (y = .non ∧ Q (.bl (!decide (x = .non))) H) ∨ rNotB x y H Q) (gIs true) := fun I H x y dx dy z Q ex h1 h2 e k => by
  cases dy with
  | none =>
    have e : some (R.d (.bool (!isNo dx))) = some z := by cases dx <;> exact e
    cases e
    refine .inl ⟨rd_no h2, ?_⟩
    rw [dr_no (x := y) h1]
    exact k I H _ (Al.refl ex) (rz_bool _)
  | bool b =>
    cases dx with
    | bool a =>
      cases e
      cases rd_bl h1
      cases rd_bl h2
      exact .inr ⟨a, b, rfl, rfl, k I H _ (Al.refl ex) (rz_bool _)⟩
    | _ => cases e
  | _ => cases dx <;> cases e
theorem o_cmp {f : Int → Int → Bool} : Op2 (rI0 fun i j => .bl (f i j)) (gCmp f) := fun I H x y dx dy z Q ex h1 h2 e k => by
  cases dx <;> cases dy <;> first | (cases e; done) | skip
  cases e
  cases rd_int h1
  cases rd_int h2
  exact ⟨_, _, rfl, rfl, k I H _ (Al.refl ex) (rz_bool _)⟩
theorem o_add : Op2 (fun x y H Q => rI0 (fun i j => .int (i + j)) x y H Q ∨ rCatF K x y H Q ∨ rCat x y H Q) gAdd := fun I H x y dx dy z Q ex h1 h2 e k => by
  cases dx <;> cases dy <;> first | (cases e; done) | skip
  · cases e
    cases rd_int h1
    cases rd_int h2
    exact .inl ⟨_, _, rfl, rfl, k I H _ (Al.refl ex) (rz_int _)⟩
  · rename_i xs ys
    dsimp only [gAdd] at e
    by_cases hl : xs.length + ys.length ≤ 100000
    · rw [if_pos hl] at e
      cases e
      obtain ⟨a, us, rfl, g1, g2⟩ := rd_list ex h1
      obtain ⟨b, ws, rfl, g3, g4⟩ := rd_list ex h2
      refine .inr (.inr ⟨a, b, us, ws, rfl, rfl, g1, g3, by rw [g2.len, g4.len]; exact sz1e5 hl, fun p hp => ?_⟩)
      have al := Al.newT (o := .lst (us ++ ws)) ex hp
      refine k I _ _ al ⟨p, us ++ ws, rfl, hp, ?_, upd_same, DrA.append g2 g4⟩
      cases q : I p with
      | none => rfl
      | some o => rw [ex p o q] at hp; cases hp
    · rw [if_neg hl] at e; cases e
  · rename_i xs ys
    dsimp only [gAdd] at e
    by_cases hl : xs.length + ys.length ≤ 100000
    · rw [if_pos hl] at e
      cases e
      obtain ⟨a, oa, us, rfl, g1, z1, g2⟩ := rd_tup h1
      obtain ⟨b, ob, ws, rfl, g3, z3, g4⟩ := rd_tup h2
      refine .inr (.inl ⟨a, b, us, ws, rfl, rfl, ⟨sq_t ex g1, sq_t ex g3, by rw [g2.len, g4.len]; exact sz1e5 hl⟩, fun hx => ?_, fun _ hy => ?_, fun _ _ p o hp ho => ?_⟩)
      · refine k I H _ (Al.refl ex) (Dr.tup g3 z3 ?_)
        have : xs = [] := by
          cases xs with
          | nil => rfl
          | cons _ _ => rw [hx] at g2; cases g2
        rw [this]
        exact g4
      · refine k I H _ (Al.refl ex) (Dr.tup g1 z1 ?_)
        have : ys = [] := by
          cases ys with
          | nil => rfl
          | cons _ _ => rw [hy] at g4; cases g4
        rw [this, List.append_nil]
        exact g2
      · have al := Al.new (o := .frz o (.tup (us ++ ws))) ex hp
        exact k _ _ _ al (Dr.tup upd_same ho (DrA.append (g2.mono al.ie) (g4.mono al.ie)))
    · rw [if_neg hl] at e; cases e
theorem o_sub : Op2 (rI0 fun i j => .int (i - j)) gSub := fun I H x y dx dy z Q ex h1 h2 e k => by
  cases dx <;> cases dy <;> first | (cases e; done) | skip
  cases e
  cases rd_int h1
  cases rd_int h2
  exact ⟨_, _, rfl, rfl, k I H _ (Al.refl ex) (rz_int _)⟩
theorem o_mul : Op2 (fun x y H Q => rI CMulW (fun i j => .int (i * j)) x y H Q ∨ rRep x y H Q) gMul := fun I H x y dx dy z Q ex h1 h2 e k => by
  cases dx <;> cases dy <;> first | (cases e; done) | skip
  · rename_i i j
    dsimp only [gMul] at e
    by_cases hl : i.natAbs.log2 + j.natAbs.log2 < 1000000
    · rw [if_pos hl] at e
      cases e
      cases rd_int h1
      cases rd_int h2
      exact .inl ⟨_, _, rfl, rfl, hl, k I H _ (Al.refl ex) (rz_int _)⟩
    · rw [if_neg hl] at e; cases e
  · rename_i xs j
    dsimp only [gMul] at e
    by_cases hl : -(2 ^ 63) ≤ j ∧ j < 2 ^ 63 ∧ xs.length * j.toNat ≤ 100000
    · rw [if_pos hl] at e
      cases e
      obtain ⟨a, us, rfl, g1, g2⟩ := rd_list ex h1
      cases rd_int h2
      refine .inr ⟨a, j, us, rfl, rfl, g1, hl.1, hl.2.1, by rw [g2.len]; exact sz1e5 hl.2.2, fun p hp => ?_⟩
      have al := Al.newT (o := .lst (List.replicate j.toNat us).flatten) ex hp
      refine k I _ _ al ⟨p, _, rfl, hp, ?_, upd_same, DrA.rep _ g2⟩
      cases q : I p with
      | none => rfl
      | some o => rw [ex p o q] at hp; cases hp
    · rw [if_neg hl] at e; cases e
theorem o_div : Op2 (rI CDivW fun i j => .int (i / j)) gDiv := fun I H x y dx dy z Q ex h1 h2 e k => by
  cases dx <;> cases dy <;> first | (cases e; done) | skip
  rename_i i j
  dsimp only [gDiv] at e
  by_cases hl : 0 < j ∧ j.natAbs.log2 < 9000
  · rw [if_pos hl] at e
    cases e
    cases rd_int h1
    cases rd_int h2
    exact ⟨_, _, rfl, rfl, hl, k I H _ (Al.refl ex) (rz_int _)⟩
  · rw [if_neg hl] at e; cases e
theorem o_mod : Op2 (rI (fun _ j => 0 < j) fun i j => .int (i % j)) gMod := fun I H x y dx dy z Q ex h1 h2 e k => by
  cases dx <;> cases dy <;> first | (cases e; done) | skip
  rename_i i j
  dsimp only [gMod] at e
  by_cases hl : 0 < j
  · rw [if_pos hl] at e
    cases e
    cases rd_int h1
    cases rd_int h2
    exact ⟨_, _, rfl, rfl, hl, k I H _ (Al.refl ex) (rz_int _)⟩
  · rw [if_neg hl] at e; cases e
theorem o_pow : Op2 (rI CPow fun i j => .int (i ^ j.toNat)) gPow := fun I H x y dx dy z Q ex h1 h2 e k => by
  cases dx <;> cases dy <;> first | (cases e; done) | skip
  rename_i i j
  dsimp only [gPow] at e
  by_cases hl : 0 ≤ j ∧ j ≤ 1000000 ∧ i.natAbs < 2 ^ 64
  · rw [if_pos hl] at e
    cases e
    cases rd_int h1
    cases rd_int h2
    exact ⟨_, _, rfl, rfl, hl, k I H _ (Al.refl ex) (rz_int _)⟩
  · rw [if_neg hl] at e; cases e
theorem o_neg : Op1 (rU fun i => .int (-i)) gNeg := fun I H x dx z Q ex h1 e k => by
  cases dx <;> first | (cases e; done) | skip
  cases e
  cases rd_int h1
  exact ⟨_, rfl, k I H _ (Al.refl ex) (rz_int _)⟩
theorem atI_dr {I : Hp} {vs : List V} {ds : List D} {i : Int} {d : D} (h : DrA I vs ds) (e : atI ds i = some d) : ∃ v, atI vs i = some v ∧ Dr I v d := by
  unfold atI at e ⊢
  obtain ⟨j, e1, e2⟩ := bind_eq e
  obtain ⟨v, h1, h2⟩ := h.get e2
  exact ⟨v, by rw [h.len, e1]; exact h1, h2⟩
theorem o_ix : Op2 (rIx K) gIx := fun I H x y dx dy z Q ex h1 h2 e k => by
  unfold gIx at e
  split at e
  · obtain ⟨d, e1, e⟩ := bind_eq e
    cases e
    cases rd_int h2
    obtain ⟨a, vs, rfl, g1, g2⟩ := rd_list ex h1
    obtain ⟨v, g3, g4⟩ := atI_dr g2 e1
    exact .inl ⟨a, vs, _, v, rfl, rfl, SqL.of g1, g3, k I H v (Al.refl ex) g4⟩
  · obtain ⟨d, e1, e⟩ := bind_eq e
    cases e
    cases rd_int h2
    obtain ⟨a, oa, vs, rfl, g1, za, g2⟩ := rd_tup h1
    obtain ⟨v, g3, g4⟩ := atI_dr g2 e1
    exact .inr (.inl ⟨a, vs, _, v, rfl, rfl, sq_t ex g1, g3, k I H v (Al.refl ex) g4⟩)
  · obtain ⟨d, e1, e⟩ := bind_eq e
    cases e
    cases rd_int h2
    obtain ⟨a, o, vs, rfl, g1, g2⟩ := rd_scr h1
    obtain ⟨v, g3, g4⟩ := atI_dr g2 e1
    exact .inl ⟨a, vs, _, v, rfl, rfl, .inl (.inr ⟨o, ex _ _ g1⟩), g3, k I H v (Al.refl ex) g4⟩
  · cases e
end
end Z
end
section
set_option maxRecDepth 100000
set_option maxHeartbeats 1000000
/-! Z6: built-in calls on data; the wrappers over a context. -/
namespace Z
open PySem PySem.Spec L2
/-! ### numbers in lists -/
def intsOf : List D → Option (List Int)
  | [] => some []
  | .int i :: r => (intsOf r).bind fun is => some (i :: is)
  | _ => none
def boolsOf : List D → Option (List Bool)
  | [] => some []
  | .bool i :: r => (boolsOf r).bind fun is => some (i :: is)
  | _ => none
def maxL : List Int → Int
  | [] => 0
  | [x] => x
  | x :: y :: r => max x (maxL (y :: r))
def minL : List Int → Int
  | [] => 0
  | [x] => x
  | x :: y :: r => min x (minL (y :: r))
def insI (x : Int) : List Int → List Int
  | [] => [x]
  | y :: r => if x ≤ y then x :: y :: r else y :: insI x r
def srtI : List Int → List Int
  | [] => []
  | x :: r => insI x (srtI r)
theorem maxL_mem : ∀ {ns : List Int}, ns ≠ [] → maxL ns ∈ ns ∧ ∀ y ∈ ns, y ≤ maxL ns
  | [], h => absurd rfl h
  | [x], _ => ⟨List.mem_singleton.mpr rfl, fun y hy => by rw [List.mem_singleton.mp hy]; exact Int.le_refl _⟩
  | x :: y :: r, _ => by
    obtain ⟨h1, h2⟩ := maxL_mem (ns := y :: r) (fun z => nomatch z)
    show max x (maxL (y :: r)) ∈ _ ∧ ∀ z ∈ _, z ≤ max x (maxL (y :: r))
    refine ⟨?_, fun z hz => ?_⟩
    · by_cases hx : maxL (y :: r) ≤ x
      · rw [Int.max_eq_left hx]; exact List.mem_cons_self
      · rw [Int.max_eq_right (by omega)]; exact List.mem_cons_of_mem _ h1
    · rcases List.mem_cons.mp hz with rfl | hz
      · exact Int.le_max_left _ _
      · exact Int.le_trans (h2 z hz) (Int.le_max_right _ _)
theorem minL_mem : ∀ {ns : List Int}, ns ≠ [] → minL ns ∈ ns ∧ ∀ y ∈ ns, minL ns ≤ y
  | [], h => absurd rfl h
  | [x], _ => ⟨List.mem_singleton.mpr rfl, fun y hy => by rw [List.mem_singleton.mp hy]; exact Int.le_refl _⟩
  | x :: y :: r, _ => by
    obtain ⟨h1, h2⟩ := minL_mem (ns := y :: r) (fun z => nomatch z)
    show min x (minL (y :: r)) ∈ _ ∧ ∀ z ∈ _, min x (minL (y :: r)) ≤ z
    refine ⟨?_, fun z hz => ?_⟩
    · by_cases hx : x ≤ minL (y :: r)
      · rw [Int.min_eq_left hx]; exact List.mem_cons_self
      · rw [Int.min_eq_right (by omega)]; exact List.mem_cons_of_mem _ h1
    · rcases List.mem_cons.mp hz with rfl | hz
      · exact Int.min_le_left _ _
      · exact Int.le_trans (Int.min_le_right _ _) (h2 z hz)
theorem insI_perm (x : Int) : ∀ l : List Int, (insI x l).Perm (x :: l)
  | [] => List.Perm.refl _
  | y :: r => by
    unfold insI
    split
    · exact List.Perm.refl _
    · exact ((insI_perm x r).cons y).trans (List.Perm.swap x y r)
theorem srtI_perm : ∀ l : List Int, (srtI l).Perm l
  | [] => List.Perm.refl _
  | x :: r => (insI_perm x _).trans ((srtI_perm r).cons x)
theorem insI_pw (x : Int) : ∀ {l : List Int}, l.Pairwise (· ≤ ·) → (insI x l).Pairwise (· ≤ ·)
  | [], _ => List.pairwise_singleton _ _
  | y :: r, h => by
    have h' := List.pairwise_cons.mp h
    unfold insI
    split
    · rename_i hxy
      refine List.pairwise_cons.mpr ⟨fun z hz => ?_, h⟩
      rcases List.mem_cons.mp hz with rfl | hz
      · exact hxy
      · exact Int.le_trans hxy (h'.1 z hz)
    · rename_i hxy
      refine List.pairwise_cons.mpr ⟨fun z hz => ?_, insI_pw x h'.2⟩
      rcases List.mem_cons.mp ((insI_perm x r).mem_iff.mp hz) with rfl | hz
      · omega
      · exact h'.1 z hz
theorem srtI_pw : ∀ l : List Int, (srtI l).Pairwise (· ≤ ·)
  | [] => List.Pairwise.nil
  | x :: r => insI_pw x (srtI_pw r)
section
variable {I H : Hp}
theorem ints_of : ∀ {vs : List V} {ds : List D} {ns : List Int}, DrA I vs ds → intsOf ds = some ns → vs = ns.map V.int
  | _, _, _, .nil, e => by cases e; rfl
  | _, d :: ds, ns, .cons h r, e => by
    cases d <;> first | (cases e; done) | skip
    obtain ⟨ms, e1, e2⟩ := bind_eq e
    cases e2
    cases h
    rw [List.map_cons, ints_of r e1]
theorem bools_of : ∀ {vs : List V} {ds : List D} {ns : List Bool}, DrA I vs ds → boolsOf ds = some ns → vs = ns.map V.bl
  | _, _, _, .nil, e => by cases e; rfl
  | _, d :: ds, ns, .cons h r, e => by
    cases d <;> first | (cases e; done) | skip
    obtain ⟨ms, e1, e2⟩ := bind_eq e
    cases e2
    cases h
    rw [List.map_cons, bools_of r e1]
theorem intsOf_map : ∀ ns : List Int, intsOf (ns.map PyData.int) = some ns
  | [] => rfl
  | n :: r => by
    rw [List.map_cons, intsOf, intsOf_map r]
    rfl
theorem dra_ints : ∀ ns : List Int, DrA I (ns.map V.int) (ns.map PyData.int)
  | [] => .nil
  | n :: r => .cons (.int n) (dra_ints r)
end
/-! ### what the built-ins answer -/
def gLen : List D → Option R
  | [.list ds] => some (.d (.int (ds.length : Nat)))
  | [.tuple ds] => some (.d (.int (ds.length : Nat)))
  | [.dict [(.list ds, .none)]] => some (.d (.int (ds.length : Nat)))
  | [.str z] => if z.length ≤ 100000 then some (.d (.int (z.length : Nat))) else none
  | _ => none
def gSum : List D → Option R
  | [.list ds] => (intsOf ds).bind fun ns => some (.d (.int ns.sum))
  | _ => none
def gMax1 : List D → Option R
  | [.list ds] => (intsOf ds).bind fun ns => if ns.isEmpty = true then none else some (.d (.int (maxL ns)))
  | _ => none
def gMin1 : List D → Option R
  | [.list ds] => (intsOf ds).bind fun ns => if ns.isEmpty = true then none else some (.d (.int (minL ns)))
  | _ => none
def gMax2 : List D → Option R
  | [.int i, .int j] => some (.d (.int (if j > i then j else i)))
  | _ => none
def gMin2 : List D → Option R
  | [.int i, .int j] => some (.d (.int (if j < i then j else i)))
  | _ => none
def gInt : List D → Option R
  | [.int i] => some (.d (.int i))
  | [.bool b] => some (.d (.int (if b then 1 else 0)))
  | _ => none
def gAbs : List D → Option R
  | [.int i] => some (.d (.int (if i < 0 then -i else i)))
  | _ => none
def gTup : List D → Option R
  | [.list ds] => some (.d (.tuple ds))
  | [.tuple ds] => some (.d (.tuple ds))
  | _ => none
def gLst : List D → Option R
  | [.list ds] => some (.t ds)
  | [.tuple ds] => some (.t ds)
  | _ => none
def gSrt : List D → Option R
  | [.list ds] => (intsOf ds).bind fun ns => some (.t ((srtI ns).map PyData.int))
  | _ => none
def gAll : List D → Option R
  | [.list ds] => (boolsOf ds).bind fun bs => some (.d (.bool (bs.all id)))
  | _ => none
section
variable {K : PySem.W.Frag}
theorem one_of {I H : Hp} {xs : List V} {d : D} (h : Paired (RD I H) xs [d]) : ∃ v, xs = [v] ∧ RD I H v d := by
  cases h with
  | cons a b => cases b; exact ⟨_, rfl, a⟩
theorem two_of {I H : Hp} {xs : List V} {d e : D} (h : Paired (RD I H) xs [d, e]) : ∃ v w, xs = [v, w] ∧ RD I H v d ∧ RD I H w e := by
  cases h with
  | cons a b =>
    cases b with
    | cons b c => cases c; exact ⟨_, _, rfl, a, b⟩
theorem noI {I H : Hp} {p : Addr} (ex : Ex I H) (hp : H p = none) : I p = none := by
  cases q : I p with
  | none => rfl
  | some o => rw [ex p o q] at hp; cases hp
theorem b_len : Cl (fun xs H Q => (∃ p ys, xs = [.ref p] ∧ (SqL K H p ys ∨ SqT K H p ys) ∧ Q (.int ys.length) H) ∨ (∃ z : Str, xs = [.str z] ∧ z.length ≤ sizeLine ∧ Q (.int z.length) H)) gLen := fun I H xs ds z Q ex h e k => by
  unfold gLen at e
  split at e
  · cases e
    obtain ⟨v, rfl, hv⟩ := one_of h
    obtain ⟨a, vs, rfl, g1, g2⟩ := rd_list ex hv
    refine .inl ⟨a, vs, rfl, .inl (SqL.of g1), ?_⟩
    rw [g2.len]
    exact k I H _ (Al.refl ex) (rz_int _)
  · cases e
    obtain ⟨v, rfl, hv⟩ := one_of h
    obtain ⟨a, oa, vs, rfl, g1, za, g2⟩ := rd_tup hv
    refine .inl ⟨a, vs, rfl, .inr (sq_t ex g1), ?_⟩
    rw [g2.len]
    exact k I H _ (Al.refl ex) (rz_int _)
  · cases e
    obtain ⟨v, rfl, hv⟩ := one_of h
    obtain ⟨a, o, vs, rfl, g1, g2⟩ := rd_scr hv
    refine .inl ⟨a, vs, rfl, .inl (.inl (.inr ⟨o, ex _ _ g1⟩)), ?_⟩
    rw [g2.len]
    exact k I H _ (Al.refl ex) (rz_int _)
  · rename_i z
    by_cases hl : z.length ≤ 100000
    · rw [if_pos hl] at e
      cases e
      obtain ⟨v, rfl, hv⟩ := one_of h
      cases rd_str hv
      exact .inr ⟨z, rfl, sz1e5 hl, k I H _ (Al.refl ex) (rz_int _)⟩
    · rw [if_neg hl] at e; cases e
  · cases e
theorem b_sum : Cl (rSum K) gSum := fun I H xs ds z Q ex h e k => by
  unfold gSum at e
  split at e
  · obtain ⟨ns, e1, e⟩ := bind_eq e
    cases e
    obtain ⟨v, rfl, hv⟩ := one_of h
    obtain ⟨a, vs, rfl, g1, g2⟩ := rd_list ex hv
    refine ⟨a, ns, rfl, ?_, k I H _ (Al.refl ex) (rz_int _)⟩
    rw [← ints_of g2 e1]
    exact SqL.of g1
  · cases e
theorem b_max1 : Cl (rMax K) gMax1 := fun I H xs ds z Q ex h e k => by
  unfold gMax1 at e
  split at e
  · obtain ⟨ns, e1, e⟩ := bind_eq e
    by_cases hn : ns.isEmpty = true
    · rw [if_pos hn] at e; cases e
    · rw [if_neg hn] at e
      cases e
      obtain ⟨v, rfl, hv⟩ := one_of h
      obtain ⟨a, vs, rfl, g1, g2⟩ := rd_list ex hv
      have hne : ns ≠ [] := fun z => hn (by rw [z]; rfl)
      refine ⟨a, ns, rfl, ?_, List.length_pos_iff.mpr hne, fun m hm hy => ?_⟩
      · rw [← ints_of g2 e1]
        exact SqL.of g1
      · have em : m = maxL ns := Int.le_antisymm ((maxL_mem hne).2 m hm) (hy _ (maxL_mem hne).1)
        rw [em]
        exact k I H _ (Al.refl ex) (rz_int _)
  · cases e
theorem b_min1 : Cl (rMin K) gMin1 := fun I H xs ds z Q ex h e k => by
  unfold gMin1 at e
  split at e
  · obtain ⟨ns, e1, e⟩ := bind_eq e
    by_cases hn : ns.isEmpty = true
    · rw [if_pos hn] at e; cases e
    · rw [if_neg hn] at e
      cases e
      obtain ⟨v, rfl, hv⟩ := one_of h
      obtain ⟨a, vs, rfl, g1, g2⟩ := rd_list ex hv
      have hne : ns ≠ [] := fun z => hn (by rw [z]; rfl)
      refine ⟨a, ns, rfl, ?_, List.length_pos_iff.mpr hne, fun m hm hy => ?_⟩
      · rw [← ints_of g2 e1]
        exact SqL.of g1
      · have em : m = minL ns := Int.le_antisymm (hy _ (minL_mem hne).1) ((minL_mem hne).2 m hm)
        rw [em]
        exact k I H _ (Al.refl ex) (rz_int _)
  · cases e
theorem b_max2 : Cl (fun xs H Q => ∃ i j, xs = [.int i, .int j] ∧ Q (.int (if j > i then j else i)) H) gMax2 := fun I H xs ds z Q ex h e k => by
  unfold gMax2 at e
  split at e
  · cases e
    obtain ⟨v, w, rfl, h1, h2⟩ := two_of h
    cases rd_int h1
    cases rd_int h2
    exact ⟨_, _, rfl, k I H _ (Al.refl ex) (rz_int _)⟩
  · cases e
theorem b_min2 : Cl (fun xs H Q => ∃ i j, xs = [.int i, .int j] ∧ Q (.int (if j < i then j else i)) H) gMin2 := fun I H xs ds z Q ex h e k => by
  unfold gMin2 at e
  split at e
  · cases e
    obtain ⟨v, w, rfl, h1, h2⟩ := two_of h
    cases rd_int h1
    cases rd_int h2
    exact ⟨_, _, rfl, k I H _ (Al.refl ex) (rz_int _)⟩
  · cases e
theorem b_int : Cl (fun xs H Q => (∃ i, xs = [.int i] ∧ Q (.int i) H) ∨ ∃ k, xs = [.bl k] ∧ Q (.int (if k then 1 else 0)) H) gInt := fun I H xs ds z Q ex h e k => by
  unfold gInt at e
  split at e
  · cases e
    obtain ⟨v, rfl, hv⟩ := one_of h
    cases rd_int hv
    exact .inl ⟨_, rfl, k I H _ (Al.refl ex) (rz_int _)⟩
  · cases e
    obtain ⟨v, rfl, hv⟩ := one_of h
    cases rd_bl hv
    exact .inr ⟨_, rfl, k I H _ (Al.refl ex) (rz_int _)⟩
  · cases e
theorem b_abs : Cl (fun xs H Q => ∃ i, xs = [.int i] ∧ Q (.int (if i < 0 then -i else i)) H) gAbs := fun I H xs ds z Q ex h e k => by
  unfold gAbs at e
  split at e
  · cases e
    obtain ⟨v, rfl, hv⟩ := one_of h
    cases rd_int hv
    exact ⟨_, rfl, k I H _ (Al.refl ex) (rz_int _)⟩
  · cases e
/-- tuple(x), and what is new bears no dict -/
def rcTupF (K : PySem.W.Frag) : List V → Hp → VK → Prop := fun xs H Q => ∃ (p : Addr) (ys : List V), xs = [.ref p] ∧ ((SqL K H p ys ∧ ∀ (l : Addr) (o : Obj), H l = .none → o.dict = .none → Q (.ref l) (upd H l (.frz o (.tup ys)))) ∨ (SqT K H p ys ∧ Q (.ref p) H))
theorem call_tupF {X : Cx} : CallR X (.type "tuple") (rcTupF X.K) := by
  rintro pins s σ H xs us Q I r ⟨p, ys, rfl, h⟩
  obtain ⟨u, rfl, ru⟩ := vals1 r
  cases ru
  rcases h with ⟨hs, q⟩ | ⟨hs, q⟩
  · obtain ⟨its, r2, pl, hz⟩ := I.list hs
    refine PySem.call_tuple_list pl.isList (fun h2 kp => ?_) (by rw [List.size_toArray, ← r2.length]; exact hz)
    have J : Inv X pins σ H { s with heap := h2 } := I.kept (t' := s.toks) kp
    obtain ⟨o, g1, g2, J2⟩ := frz_new J r2 hz
    exact ⟨.ref h2.objs.size, _, J2, rfl, q _ o g2 g1⟩
  · obtain ⟨its, _, pl, _⟩ := I.tuple hs
    exact call_tuple_same pl ⟨.ref p, H, I, rfl, q⟩
theorem b_tup : Cl (rcTupF K) gTup := fun I H xs ds z Q ex h e k => by
  unfold gTup at e
  split at e
  · cases e
    obtain ⟨v, rfl, hv⟩ := one_of h
    obtain ⟨a, vs, rfl, g1, g2⟩ := rd_list ex hv
    refine ⟨a, vs, rfl, .inl ⟨SqL.of g1, fun p o hp ho => ?_⟩⟩
    have al := Al.new (o := .frz o (.tup vs)) ex hp
    exact k _ _ _ al (Dr.tup upd_same ho (g2.mono al.ie))
  · cases e
    obtain ⟨v, rfl, hv⟩ := one_of h
    obtain ⟨a, oa, vs, rfl, g1, za, g2⟩ := rd_tup hv
    exact ⟨a, vs, rfl, .inr ⟨sq_t ex g1, k I H _ (Al.refl ex) (Dr.tup g1 za g2)⟩⟩
  · cases e
theorem b_lst : Cl (fun xs H Q => ∃ p ys, xs = [.ref p] ∧ (SqL K H p ys ∨ SqT K H p ys) ∧ ∀ l, H l = none → Q (.ref l) (upd H l (.lst ys))) gLst := fun I H xs ds z Q ex h e k => by
  unfold gLst at e
  split at e
  · cases e
    obtain ⟨v, rfl, hv⟩ := one_of h
    obtain ⟨a, vs, rfl, g1, g2⟩ := rd_list ex hv
    refine ⟨a, vs, rfl, .inl (SqL.of g1), fun p hp => ?_⟩
    exact k I _ _ (Al.newT (o := .lst vs) ex hp) ⟨p, vs, rfl, hp, noI ex hp, upd_same, g2⟩
  · cases e
    obtain ⟨v, rfl, hv⟩ := one_of h
    obtain ⟨a, oa, vs, rfl, g1, za, g2⟩ := rd_tup hv
    refine ⟨a, vs, rfl, .inr (sq_t ex g1), fun p hp => ?_⟩
    exact k I _ _ (Al.newT (o := .lst vs) ex hp) ⟨p, vs, rfl, hp, noI ex hp, upd_same, g2⟩
  · cases e
theorem b_srt : Cl (rSortedI K) gSrt := fun I H xs ds z Q ex h e k => by
  unfold gSrt at e
  split at e
  · obtain ⟨ns, e1, e⟩ := bind_eq e
    cases e
    obtain ⟨v, rfl, hv⟩ := one_of h
    obtain ⟨a, vs, rfl, g1, g2⟩ := rd_list ex hv
    refine ⟨a, ns, rfl, ?_, fun ms p hp hs hn => ?_⟩
    · rw [← ints_of g2 e1]
      exact SqL.of g1
    · have em : ms = srtI ns := PySem.W.ksm_same (hp.trans (srtI_perm ns).symm) hs (srtI_pw ns)
      rw [em]
      exact k I _ _ (Al.newT (o := .lst ((srtI ns).map V.int)) ex hn) ⟨p, _, rfl, hn, noI ex hn, upd_same, dra_ints _⟩
  · cases e
theorem b_all : Cl (rAll K) gAll := fun I H xs ds z Q ex h e k => by
  unfold gAll at e
  split at e
  · obtain ⟨ns, e1, e⟩ := bind_eq e
    cases e
    obtain ⟨v, rfl, hv⟩ := one_of h
    obtain ⟨a, vs, rfl, g1, g2⟩ := rd_list ex hv
    refine ⟨a, ns, rfl, ?_, k I H _ (Al.refl ex) (rz_bool _)⟩
    rw [← bools_of g2 e1]
    exact SqL.of g1
  · cases e
/-- isinstance(x, T) -/
def tyD : D → Option String
  | .none => some "NoneType"
  | .bool _ => some "bool"
  | .int _ => some "int"
  | .str _ => some "str"
  | .list _ => some "list"
  | .tuple _ => some "tuple"
  | .dict [(.list _, .none)] => none
  | .dict [(.tuple _, .none)] => none
  | .dict _ => some "dict"
def gIsi (T : String) (x : D) : Option R := (tyD x).bind fun t => (kitB t T).bind fun b => some (.d (.bool b))
theorem rd_ty {I H : Hp} {v : V} {d : D} {t : String} (ex : Ex I H) (h : RD I H v d) (e : tyD d = some t) : TyX K H v (.type t) := by
  rcases h with h | ⟨a, vs, ds, rfl, rfl, h1, h2⟩
  · cases h with
    | non => cases e; exact .base .non
    | bl b => cases e; exact .base (.bl b)
    | int b => cases e; exact .base (.int b)
    | str b => cases e; exact .base (.str b)
    | lst g _ => cases e; exact .base (.lst (ex _ _ g))
    | frz g _ => cases e
    | tup g _ _ => cases e; exact .fTuple (ex _ _ g)
    | raw g _ => cases e
    | @dic a kvs ds g g2 =>
      have : t = "dict" := by
        unfold tyD at e
        split at e <;> first | (cases e; done) | skip
        all_goals (first | (rename_i q; cases q; done) | skip)
        all_goals (cases e; rfl)
      rw [this]
      exact .base (.dK (ex _ _ g))
  · cases e
    exact .base (.lst h1)
theorem o_isi {te : TE} {fe : XM} {np : Nat} {T : String} (h : SE np te fe) : SE np (tCB (rIsi K) (tCons te (tCons (tC (.ty T)) tNil))) (x1 (gIsi T) fe) := fun I H σ s r s' Q S e k => by
  obtain ⟨⟨ra, s1⟩, e1, e⟩ := bind_eq e
  obtain ⟨d, e2, e⟩ := bind_eq e
  obtain ⟨w, e3, e⟩ := bind_eq e
  obtain ⟨t, e4, e3⟩ := bind_eq e3
  obtain ⟨b, e5, e3⟩ := bind_eq e3
  cases e3
  cases e
  refine h I H σ s ra s1 _ S e1 fun I1 H1 v A1 r1 => ?_
  exact ⟨v, .ty T, .type t, .type T, b, rfl, .ty T, rd_ty A1.sr.ext (r1.rd A1.sr e2) e4, kit_ty e5, k I1 H1 _ A1 (Dr.bl b)⟩
end
end Z
end
section
set_option maxRecDepth 100000
set_option maxHeartbeats 1000000
/-! Z7: the wrappers: a piece of syntax, its reading, what it does to data. -/
namespace Z
open PySem PySem.Spec L2
theorem blk_K {X : Cx} {s : Shared} {H : Hp} {sc : Scope} {e : Env} {fp : List Addr} : (X.blk s H sc e fp).K = X.K := rfl
/-! ### += of tuples -/
section
variable {prog : Program} {w : World} {A : Around} {E : Value → Shared → Prop} {s : Shared}
theorem itup_add {t b : Addr} {vs ws : List Value} {Q : Value → Shared → Prop} (ht : PyProof.Rows.IsTup s.heap t vs.toArray) (hb : PyProof.Rows.IsTup s.heap b ws.toArray) (h0 : vs = [] → Q (.ref b) s) (h1 : vs ≠ [] → ws = [] → Q (.ref t) s)
    (h2 : vs ≠ [] → ws ≠ [] → Q (.ref s.heap.objs.size) { s with heap := s.heap.push { cls := .type "tuple", data := .seq (vs ++ ws).toArray } }) (hsz : vs.length + ws.length ≤ sizeLine) :
    wpAny (model prog w) A (inplaceOp .Add (.ref t) (.ref b)) Q E s := by
  obtain ⟨⟨c1, d1, x1, l1⟩, g1, g2, n1, g3⟩ := id ht
  obtain ⟨⟨c2, d2, x2, l2⟩, g4, g5, n2, g6⟩ := id hb
  simp only at g2 g3 g5 g6
  subst g2 g3 g5 g6
  have ty1 : s.TypeIs (.ref t) "tuple" := ⟨_, g1, rfl⟩
  have ty2 : s.TypeIs (.ref b) "tuple" := ⟨_, g4, rfl⟩
  have go : ∀ {S : PySem.Spec}, Meets (Builtin.«tuple.__add__» ⟨[.ref t, .ref b], []⟩) S → S A (wants Q E) s → wpAny (model prog w) A (inplaceOp .Add (.ref t) (.ref b)) Q E s := fun m hS =>
    wpAny_inplaceOp_concat ty1 ty2 (by rfl) noFill_tuple_add seq_tuple_add (call_meets PySem.F.slot_tuple_add ty1 PySem.F.entry_tuple_add (PySem.F.args_tuple_add_2 _ _) m hS)
  by_cases hv : vs = []
  · exact go (PyProof.Rows.tuple_addW0 t b vs.toArray ws.toArray n1 n2 d1 d2 l1 l2 (by simp [hv])) ⟨g1, g4, h0 hv⟩
  · by_cases hw : ws = []
    · exact go (PyProof.Rows.tuple_addW1 t b vs.toArray ws.toArray n1 n2 d1 d2 l1 l2 (by simpa using hv) (by simp [hw])) ⟨g1, g4, h1 hv hw⟩
    · refine go (PyProof.Rows.tuple_addW2 t b vs.toArray ws.toArray n1 n2 d1 d2 l1 l2 (by simpa using hv) (by simpa using hw) (by simpa using hsz)) ⟨g1, g4, ?_⟩
      rw [show vs.toArray ++ ws.toArray = (vs ++ ws).toArray by simp]
      exact h2 hv hw
end
theorem iop_catF {X : Cx} : OpR X (inplaceOp .Add) (rCatF X.K) := cat_core fun s a b us ws Q ha hb hz q0 q1 q2 => itup_add ha hb q0 q1 q2 hz
/-! ### t[lo:hi], what is new bears no dict -/
def rSlF (K : PySem.W.Frag) : V → Option Int → Option Int → Hp → VK → Prop := fun x lo hi H Q => ∃ (a : Addr) (xs : List V), x = .ref a ∧ SqT K H a xs ∧ ((HT.sIx xs.length 0 lo = 0 ∧ HT.sIx xs.length xs.length hi = xs.length) → Q (.ref a) H) ∧
  (¬ (HT.sIx xs.length 0 lo = 0 ∧ HT.sIx xs.length xs.length hi = xs.length) → ∀ (p : Addr) (o : Obj), H p = .none → o.dict = .none → Q (.ref p) (upd H p (.frz o (.tup (cutV xs lo hi)))))
theorem sl_tupF {X : Cx} : L2.SlR X (rSlF X.K) := by
  rintro pins s σ H x v vl vu lo hi sl Q I rx hs pl pu ⟨a, xs, rfl, hx, q1, q2⟩
  cases rx
  obtain ⟨its, r, ht, hz⟩ := I.tuple hx
  have hn : its.toArray.size = xs.length := List.size_toArray.trans r.length.symm
  refine ⟨"tuple", _, PyProof.Rows.slot_tuple_getitem.lookup, ht.typeIs, ?_⟩
  by_cases hw : HT.sIx xs.length 0 lo = 0 ∧ HT.sIx xs.length xs.length hi = xs.length
  · exact getItem_tuple_whole ht hs pl pu (hn.symm ▸ hw) ⟨.ref a, H, I, rfl, q1 hw⟩
  · refine HT.getItem_tuple_cut ht hs pl pu (hn.symm ▸ hw) ?_ (hn.symm ▸ hz)
    rw [hn]
    have rc : Vals (cutV xs lo hi) ((its.drop (HT.sIx xs.length 0 lo)).take (HT.sIx xs.length xs.length hi - HT.sIx xs.length 0 lo)) := (r.drop _).take _
    obtain ⟨o, g1, g2, J⟩ := frz_new I rc (Nat.le_trans (cutV_length xs lo hi) hz)
    exact ⟨.ref s.heap.objs.size, _, J, rfl, q2 hw _ o g2 g1⟩
/-! ### the wrappers -/
/-! the rules, by name -/
abbrev rrAdd (K : PySem.W.Frag) : R2 := fun x y H Q => rI0 (fun i j => .int (i + j)) x y H Q ∨ rCatF K x y H Q ∨ rCat x y H Q
abbrev rrSub : R2 := rI0 fun i j => .int (i - j)
abbrev rrMul : R2 := fun x y H Q => rI CMulW (fun i j => .int (i * j)) x y H Q ∨ rRep x y H Q
abbrev rrDiv : R2 := rI CDivW fun i j => .int (i / j)
abbrev rrMod : R2 := rI (fun _ j => 0 < j) fun i j => .int (i % j)
abbrev rrPow : R2 := rI CPow fun i j => .int (i ^ j.toNat)
abbrev rrNeg : V → Hp → VK → Prop := rU fun i => .int (-i)
abbrev rrEq (K : PySem.W.Frag) : R2 := fun x y H Q => rEq x y H Q ∨ rEqD K x y H Q
abbrev rrNe (K : PySem.W.Frag) : R2 := fun x y H Q => rNe x y H Q ∨ rNeD K x y H Q
abbrev rrLt : R2 := rI0 fun i j => .bl (decide (i < j))
abbrev rrLe : R2 := rI0 fun i j => .bl (decide (i ≤ j))
abbrev rrGt : R2 := rI0 fun i j => .bl (decide (j < i))
abbrev rrGe : R2 := rI0 fun i j => .bl (decide (j ≤ i))
abbrev rrIs : R2 := fun x y H Q => (y = .non ∧ Q (.bl (decide (x = .non))) H) ∨ rIsB x y H Q
abbrev rrIsn : R2 := fun x y H Q => (y = .non ∧ Q (.bl (!decide (x = .non))) H) ∨ rNotB x y H Q
abbrev RC1 := List V → Hp → VK → Prop
abbrev rcLen (K : PySem.W.Frag) : RC1 := fun xs H Q => (∃ p ys, xs = [.ref p] ∧ (SqL K H p ys ∨ SqT K H p ys) ∧ Q (.int ys.length) H) ∨ (∃ z : Str, xs = [.str z] ∧ z.length ≤ sizeLine ∧ Q (.int z.length) H)
abbrev rcMax2 : RC1 := fun xs H Q => ∃ i j, xs = [.int i, .int j] ∧ Q (.int (if j > i then j else i)) H
abbrev rcMin2 : RC1 := fun xs H Q => ∃ i j, xs = [.int i, .int j] ∧ Q (.int (if j < i then j else i)) H
abbrev rcAbs : RC1 := fun xs H Q => ∃ i, xs = [.int i] ∧ Q (.int (if i < 0 then -i else i)) H
abbrev rcInt : RC1 := fun xs H Q => (∃ i, xs = [.int i] ∧ Q (.int i) H) ∨ ∃ k, xs = [.bl k] ∧ Q (.int (if k then 1 else 0)) H
abbrev rcTup (K : PySem.W.Frag) : RC1 := rcTupF K
abbrev rcLst (K : PySem.W.Frag) : RC1 := fun xs H Q => ∃ p ys, xs = [.ref p] ∧ (SqL K H p ys ∨ SqT K H p ys) ∧ ∀ l, H l = none → Q (.ref l) (upd H l (.lst ys))
abbrev rrSl (K : PySem.W.Frag) : V → Option Int → Option Int → Hp → VK → Prop := fun x lo hi H Q => rSlL K x lo hi H Q ∨ rSlF K x lo hi H Q
structure CE (X : Cx) (np : Nat) (e : Expr) (t : TE) (f : XM) : Prop where
  p : PE X e t
  s : SE np t f
structure CT (X : Cx) (np : Nat) (e : Expr) (t : TT) (f : TM) : Prop where
  p : PT X e t
  s : ST np t f
structure CW (X : Cx) (np : Nat) (e : Expr) (t : TT) (f : TM) : Prop where
  p : PW X e t
  s : ST np t f
structure CA (X : Cx) (np : Nat) (es : List Expr) (t : TA) (f : DS → Option (List R × DS)) : Prop where
  p : PA X es t
  s : SA np t f
structure CD (X : Cx) (np : Nat) (es : List Expr) (t : TA) (f : DS → Option (List D × DS)) : Prop where
  p : PA X es t
  s : SD np t f
structure CP (X : Cx) (np : Nat) (es : List Expr) (t : TA) (f : DS → Option (List A × DS)) : Prop where
  p : PA X es t
  s : SP np t f
structure CS (X : Cx) (np : Nat) (st : Stmt) (t : TS) (f : SM) : Prop where
  p : PS X st t
  s : SS np t f
structure CB (X : Cx) (np : Nat) (st : List Stmt) (t : TS) (f : SM) : Prop where
  p : PSs X st t
  s : SS np t f
structure CG (X : Cx) (np : Nat) (e : Expr) (ws : List Nat) (t : TG) (f : D → DS → Option DS) : Prop where
  p : PG X e t
  s : SG np ws t f
structure CGs (X : Cx) (np : Nat) (es : List Expr) (ws : List Nat) (t : TGs) (f : List D → DS → Option DS) (n : Nat) : Prop where
  p : PGs X es t
  s : SGs np ws t f
  n : ∀ ds s s', f ds s = some s' → ds.length = n
structure CI (X : Cx) (np : Nat) (tg e : Expr) (t : TI) (f : DS → Option (List D × DS)) : Prop where
  p : PI X tg e t
  s : SI np t f
section
variable {X : Cx} {np j : Nat} {a b c e : Expr} {es : List Expr} {ta tb' te : TE} {fa fb fe : XM} {tA tB' : TT} {gA gB : TM} {tl tr : TA} {pos p p1 p2 p3 pos' : Pos}
/-! names and constants -/
theorem ce_v (i : Nat) {x : Str} (hN : X.N[i]? = some x := by rfl) (hv : Vis X.env.scope x := by first | exact Or.inl rfl | exact Or.inr (Or.inl rfl) | exact Or.inr (Or.inr rfl)) (hd : (x == ("__debug__" : Str)) = false := by decide)
    (hcd : (x == ("__classdict__" : Str)) = false := by decide) : CE X np (.Name x pos) (tVar i) (xv i) := ⟨pe_var hN hv hd hcd, se_var⟩
theorem ce_int {i : Int} {k : Nat} : CE X np (.Constant (.int i) k pos) (tC (.int i)) (xc (.int i)) := ⟨pe_int, se_c fun _ => .int i⟩
theorem ce_bl {i : Bool} {k : Nat} : CE X np (.Constant (.bool i) k pos) (tC (.bl i)) (xc (.bool i)) := ⟨pe_bl, se_c fun _ => .bl i⟩
theorem ce_no {k : Nat} : CE X np (.Constant .none k pos) (tC .non) (xc .none) := ⟨pe_non, se_c fun _ => .non⟩
theorem ce_str {x : Str} {k : Nat} : CE X np (.Constant (.str x) k pos) (tC (.str x)) (xc (.str x)) := ⟨pe_str, se_c fun _ => .str x⟩
/-- a module's constant -/
def CstI (mg : Str → Option Value) (x : Str) (i : Int) : Prop := ∃ t, mg x = some (.int i t)
def CstS (mg : Str → Option Value) (x : Str) (i : Str) : Prop := ∃ t, mg x = some (.str i t)
def CstN (mg : Str → Option Value) (x : Str) : Prop := mg x = some .none
theorem ce_ki {x : Str} {i : Int} (h : CstI X.mg x i) (hg : Gl X x := by rfl) (hd : (x == ("__debug__" : Str)) = false := by decide) : CE X np (.Name x pos) (tC (.int i)) (xc (.int i)) := by
  obtain ⟨t, h⟩ := h
  exact ⟨pe_glob hg h ⟨t, rfl⟩ hd, se_c fun _ => .int i⟩
theorem ce_ks {x i : Str} (h : CstS X.mg x i) (hg : Gl X x := by rfl) (hd : (x == ("__debug__" : Str)) = false := by decide) : CE X np (.Name x pos) (tC (.str i)) (xc (.str i)) := by
  obtain ⟨t, h⟩ := h
  exact ⟨pe_glob hg h ⟨t, rfl⟩ hd, se_c fun _ => .str i⟩
theorem ce_kn {x : Str} (h : CstN X.mg x) (hg : Gl X x := by rfl) (hd : (x == ("__debug__" : Str)) = false := by decide) : CE X np (.Name x pos) (tC .non) (xc .none) := ⟨pe_glob hg h rfl hd, se_c fun _ => .non⟩
/-! operators -/
theorem ce_add (ha : CE X np a ta fa) (hb : CE X np b tb' fb) {Kk : PySem.W.Frag} (hk : X.K = Kk := by first | rfl | exact blk_K | exact blk_K.trans blk_K) : CE X np (.BinOp a .Add b pos) (tOp (rrAdd Kk) ta tb') (x2 gAdd fa fb) := by subst hk; exact ⟨pe_op (op_add.or (op_catF.or op_cat)) ha.p hb.p, se_op ha.s hb.s o_add⟩
theorem ce_sub (ha : CE X np a ta fa) (hb : CE X np b tb' fb) : CE X np (.BinOp a .Sub b pos) (tOp rrSub ta tb') (x2 gSub fa fb) := ⟨pe_op op_sub ha.p hb.p, se_op ha.s hb.s o_sub⟩
theorem ce_mul (ha : CE X np a ta fa) (hb : CE X np b tb' fb) : CE X np (.BinOp a .Mult b pos) (tOp rrMul ta tb') (x2 gMul fa fb) := ⟨pe_op (op_mulW.or op_rep) ha.p hb.p, se_op ha.s hb.s o_mul⟩
theorem ce_div (ha : CE X np a ta fa) (hb : CE X np b tb' fb) : CE X np (.BinOp a .FloorDiv b pos) (tOp rrDiv ta tb') (x2 gDiv fa fb) := ⟨pe_op op_fdivW ha.p hb.p, se_op ha.s hb.s o_div⟩
theorem ce_mod (ha : CE X np a ta fa) (hb : CE X np b tb' fb) : CE X np (.BinOp a .Mod b pos) (tOp rrMod ta tb') (x2 gMod fa fb) := ⟨pe_op op_mod ha.p hb.p, se_op ha.s hb.s o_mod⟩
theorem ce_pow (ha : CE X np a ta fa) (hb : CE X np b tb' fb) : CE X np (.BinOp a .Pow b pos) (tOp rrPow ta tb') (x2 gPow fa fb) := ⟨pe_op op_pow ha.p hb.p, se_op ha.s hb.s o_pow⟩
theorem ce_neg (ha : CE X np a ta fa) : CE X np (.UnaryOp .USub a pos) (tUn rrNeg ta) (x1 gNeg fa) := ⟨pe_un un_neg ha.p, se_un ha.s o_neg⟩
theorem ce_ix (ha : CE X np a ta fa) (hb : CE X np b tb' fb) (hs : PlainIx b := by exact fun _ _ => rfl) {Kk : PySem.W.Frag} (hk : X.K = Kk := by first | rfl | exact blk_K | exact blk_K.trans blk_K) : CE X np (.Subscript a b pos) (tOp (rIx Kk) ta tb') (x2 gIx fa fb) := by subst hk; exact ⟨pe_ix ix_seq ha.p hb.p hs, se_op ha.s hb.s o_ix⟩
/-! comparisons, as values and as tests -/
section
variable {op : CmpOp} {r : R2} {g : D → D → Option R}
theorem ce_cmpR (ho : OpR X (compareOp op) r) (o : Op2 r g) (ha : CE X np a ta fa) (hb : CE X np b tb' fb) (hm : behindInMarks op b = false) : CE X np (.Compare a [op] [b] pos) (tOp r ta tb') (x2 g fa fb) := ⟨pe_cmpR ho ha.p hb.p hm, se_op ha.s hb.s o⟩
theorem ct_cmpR (ho : OpR X (compareOp op) r) (o : Op2 r g) (ha : CE X np a ta fa) (hb : CE X np b tb' fb) (hm : behindInMarks op b = false) : CT X np (.Compare a [op] [b] pos) (tTest (tOp r ta tb')) (tb (x2 g fa fb)) := ⟨pt_cmpR ho ha.p hb.p hm, st_test (se_op ha.s hb.s o)⟩
end
theorem ce_eq (hr : Room j X.A) (ha : CE X np a ta fa) (hb : CE X np b tb' fb) {Kk : PySem.W.Frag} (hk : X.K = Kk := by first | rfl | exact blk_K | exact blk_K.trans blk_K) : CE X np (.Compare a [.Eq] [b] pos) (tOp (rrEq Kk) ta tb') (x2 (gEq false) fa fb) := by subst hk; exact ce_cmpR (op_eq.or (op_eqD hr.units)) o_eq ha hb (nomark _)
theorem ct_eq (hr : Room j X.A) (ha : CE X np a ta fa) (hb : CE X np b tb' fb) {Kk : PySem.W.Frag} (hk : X.K = Kk := by first | rfl | exact blk_K | exact blk_K.trans blk_K) : CT X np (.Compare a [.Eq] [b] pos) (tTest (tOp (rrEq Kk) ta tb')) (tb (x2 (gEq false) fa fb)) := by subst hk; exact ct_cmpR (op_eq.or (op_eqD hr.units)) o_eq ha hb (nomark _)
theorem ce_ne (hr : Room j X.A) (ha : CE X np a ta fa) (hb : CE X np b tb' fb) {Kk : PySem.W.Frag} (hk : X.K = Kk := by first | rfl | exact blk_K | exact blk_K.trans blk_K) : CE X np (.Compare a [.NotEq] [b] pos) (tOp (rrNe Kk) ta tb') (x2 (gEq true) fa fb) := by subst hk; exact ce_cmpR (op_ne.or (op_neD hr.units)) o_ne ha hb (nomark _)
theorem ct_ne (hr : Room j X.A) (ha : CE X np a ta fa) (hb : CE X np b tb' fb) {Kk : PySem.W.Frag} (hk : X.K = Kk := by first | rfl | exact blk_K | exact blk_K.trans blk_K) : CT X np (.Compare a [.NotEq] [b] pos) (tTest (tOp (rrNe Kk) ta tb')) (tb (x2 (gEq true) fa fb)) := by subst hk; exact ct_cmpR (op_ne.or (op_neD hr.units)) o_ne ha hb (nomark _)
theorem ce_lt (ha : CE X np a ta fa) (hb : CE X np b tb' fb) : CE X np (.Compare a [.Lt] [b] pos) (tOp rrLt ta tb') (x2 gLt fa fb) := ce_cmpR op_lt o_cmp ha hb (nomark _)
theorem ct_lt (ha : CE X np a ta fa) (hb : CE X np b tb' fb) : CT X np (.Compare a [.Lt] [b] pos) (tTest (tOp rrLt ta tb')) (tb (x2 gLt fa fb)) := ct_cmpR op_lt o_cmp ha hb (nomark _)
theorem ce_le (ha : CE X np a ta fa) (hb : CE X np b tb' fb) : CE X np (.Compare a [.LtE] [b] pos) (tOp rrLe ta tb') (x2 gLe fa fb) := ce_cmpR op_le o_cmp ha hb (nomark _)
theorem ct_le (ha : CE X np a ta fa) (hb : CE X np b tb' fb) : CT X np (.Compare a [.LtE] [b] pos) (tTest (tOp rrLe ta tb')) (tb (x2 gLe fa fb)) := ct_cmpR op_le o_cmp ha hb (nomark _)
theorem ce_gt (ha : CE X np a ta fa) (hb : CE X np b tb' fb) : CE X np (.Compare a [.Gt] [b] pos) (tOp rrGt ta tb') (x2 gGt fa fb) := ce_cmpR op_gt o_cmp ha hb (nomark _)
theorem ct_gt (ha : CE X np a ta fa) (hb : CE X np b tb' fb) : CT X np (.Compare a [.Gt] [b] pos) (tTest (tOp rrGt ta tb')) (tb (x2 gGt fa fb)) := ct_cmpR op_gt o_cmp ha hb (nomark _)
theorem ce_ge (ha : CE X np a ta fa) (hb : CE X np b tb' fb) : CE X np (.Compare a [.GtE] [b] pos) (tOp rrGe ta tb') (x2 gGe fa fb) := ce_cmpR op_ge o_cmp ha hb (nomark _)
theorem ct_ge (ha : CE X np a ta fa) (hb : CE X np b tb' fb) : CT X np (.Compare a [.GtE] [b] pos) (tTest (tOp rrGe ta tb')) (tb (x2 gGe fa fb)) := ct_cmpR op_ge o_cmp ha hb (nomark _)
theorem ce_in (ha : CE X np a ta fa) (hb : CE X np b tb' fb) (hm : behindInMarks .In b = false := by rfl) {Kk : PySem.W.Frag} (hk : X.K = Kk := by first | rfl | exact blk_K | exact blk_K.trans blk_K) : CE X np (.Compare a [.In] [b] pos) (tOp (rIn Kk false) ta tb') (x2 (gIn false) fa fb) := by subst hk; exact ce_cmpR op_in_seq o_in ha hb hm
theorem ct_in (ha : CE X np a ta fa) (hb : CE X np b tb' fb) (hm : behindInMarks .In b = false := by rfl) {Kk : PySem.W.Frag} (hk : X.K = Kk := by first | rfl | exact blk_K | exact blk_K.trans blk_K) : CT X np (.Compare a [.In] [b] pos) (tTest (tOp (rIn Kk false) ta tb')) (tb (x2 (gIn false) fa fb)) := by subst hk; exact ct_cmpR op_in_seq o_in ha hb hm
theorem ce_notin (ha : CE X np a ta fa) (hb : CE X np b tb' fb) (hm : behindInMarks .NotIn b = false := by rfl) {Kk : PySem.W.Frag} (hk : X.K = Kk := by first | rfl | exact blk_K | exact blk_K.trans blk_K) : CE X np (.Compare a [.NotIn] [b] pos) (tOp (rIn Kk true) ta tb') (x2 (gIn true) fa fb) := by subst hk; exact ce_cmpR op_notIn_seq o_in ha hb hm
theorem ct_notin (ha : CE X np a ta fa) (hb : CE X np b tb' fb) (hm : behindInMarks .NotIn b = false := by rfl) {Kk : PySem.W.Frag} (hk : X.K = Kk := by first | rfl | exact blk_K | exact blk_K.trans blk_K) : CT X np (.Compare a [.NotIn] [b] pos) (tTest (tOp (rIn Kk true) ta tb')) (tb (x2 (gIn true) fa fb)) := by subst hk; exact ct_cmpR op_notIn_seq o_in ha hb hm
theorem ce_is (ha : CE X np a ta fa) (hb : CE X np b tb' fb) : CE X np (.Compare a [.Is] [b] pos) (tOp rrIs ta tb') (x2 (gIs false) fa fb) := ce_cmpR (op_isN.or op_isBl) o_is ha hb (nomark _)
theorem ct_is (ha : CE X np a ta fa) (hb : CE X np b tb' fb) : CT X np (.Compare a [.Is] [b] pos) (tTest (tOp rrIs ta tb')) (tb (x2 (gIs false) fa fb)) := ct_cmpR (op_isN.or op_isBl) o_is ha hb (nomark _)
theorem ce_isnot (ha : CE X np a ta fa) (hb : CE X np b tb' fb) : CE X np (.Compare a [.IsNot] [b] pos) (tOp rrIsn ta tb') (x2 (gIs true) fa fb) := ce_cmpR (op_notN.or op_notBl) o_isnot ha hb (nomark _)
theorem ct_isnot (ha : CE X np a ta fa) (hb : CE X np b tb' fb) : CT X np (.Compare a [.IsNot] [b] pos) (tTest (tOp rrIsn ta tb')) (tb (x2 (gIs true) fa fb)) := ct_cmpR (op_notN.or op_notBl) o_isnot ha hb (nomark _)
/-! and, or, not, if -/
theorem ce_one {op : BoolOp} (ha : CE X np a ta fa) : CE X np (.BoolOp op [a] pos) ta fa := ⟨pe_one ha.p, ha.s⟩
theorem ce_and (ha : CE X np a ta fa) (hb : CE X np (.BoolOp .And (b :: es) pos) tb' fb) : CE X np (.BoolOp .And (a :: b :: es) pos) (tAndV ta tb') (xand fa fb) := ⟨pe_and ha.p hb.p, se_and ha.s hb.s⟩
theorem ce_or (ha : CE X np a ta fa) (hb : CE X np (.BoolOp .Or (b :: es) pos) tb' fb) : CE X np (.BoolOp .Or (a :: b :: es) pos) (tOrV ta tb') (xor fa fb) := ⟨pe_or ha.p hb.p, se_or ha.s hb.s⟩
theorem ce_not (ha : CE X np a ta fa) : CE X np (.UnaryOp .Not a pos) (tNotV ta) (xnot fa) := ⟨pe_not ha.p, se_not ha.s⟩
theorem ct_val (ha : CE X np a ta fa) (he : ∀ whole, isTrue a X.env whole = (do let v ← whole; standAt a.pos; holding [v] (truthy v)) := by intro _; rfl) : CT X np a (tB ta) (tb fa) := ⟨pt_val ha.p he, st_B ha.s⟩
theorem cw_t (h : CW X np a tA gA) : CT X np a tA gA := ⟨h.p.pt, h.s⟩
theorem cw_and1 (h : CT X np a tA gA) : CW X np (.BoolOp .And [a] pos) tA gA := ⟨pw_and1 h.p, h.s⟩
theorem cw_or1 (h : CT X np a tA gA) : CW X np (.BoolOp .Or [a] pos) tA gA := ⟨pw_or1 h.p, h.s⟩
theorem cw_and (h : CT X np a tA gA) (h2 : CW X np (.BoolOp .And (b :: es) pos) tB' gB) : CW X np (.BoolOp .And (a :: b :: es) pos) (tAnd tA tB') (tand gA gB) := ⟨pw_and h.p h2.p, st_and h.s h2.s⟩
theorem cw_or (h : CT X np a tA gA) (h2 : CW X np (.BoolOp .Or (b :: es) pos) tB' gB) : CW X np (.BoolOp .Or (a :: b :: es) pos) (tOr tA tB') (tor gA gB) := ⟨pw_or h.p h2.p, st_or h.s h2.s⟩
theorem ct_not (h : CT X np a tA gA) : CT X np (.UnaryOp .Not a pos) (tNot tA) (tnot gA) := ⟨pt_not h.p, st_not h.s⟩
theorem ce_if (h : CT X np c tA gA) (ha : CE X np a ta fa) (hb : CE X np b tb' fb) : CE X np (.IfExp c a b pos) (tIf tA ta tb') (xif gA fa fb) := ⟨pe_ifExp h.p ha.p hb.p, se_if h.s ha.s hb.s⟩
/-! argument lists, displays -/
theorem ca_nil : CA X np [] tNil anil := ⟨pa_nil, sa_nil⟩
theorem ca_cons {fr : DS → Option (List R × DS)} (ha : CE X np e te fe) (hr : CA X np es tr fr) (hs : starEach (e :: es) X.env = (false, eval e X.env) :: starEach es X.env := by rfl) : CA X np (e :: es) (tCons te tr) (acons fe fr) := ⟨pa_cons ha.p hr.p hs, sa_cons ha.s hr.s⟩
theorem cd_nil : CD X np [] tNil dnil := ⟨pa_nil, sd_nil⟩
theorem cd_cons {fr : DS → Option (List D × DS)} (ha : CE X np e te fe) (hr : CD X np es tr fr) (hs : starEach (e :: es) X.env = (false, eval e X.env) :: starEach es X.env := by rfl) : CD X np (e :: es) (tCons te tr) (dcons np fe fr) := ⟨pa_cons ha.p hr.p hs, sd_cons ha.s hr.s⟩
theorem cp_nil : CP X np [] tNil pnil := ⟨pa_nil, sp_nil⟩
theorem cp_cons {fr : DS → Option (List A × DS)} (ha : CE X np e te fe) (hr : CP X np es tr fr) (hs : starEach (e :: es) X.env = (false, eval e X.env) :: starEach es X.env := by rfl) : CP X np (e :: es) (tCons te tr) (pcons np fe fr) := ⟨pa_cons ha.p hr.p hs, sp_cons ha.s hr.s⟩
theorem cp_mut {i : Nat} {fr : DS → Option (List A × DS)} (ha : CE X np e (tVar i) fe) (hr : CP X np es tr fr) (hs : starEach (e :: es) X.env = (false, eval e X.env) :: starEach es X.env := by rfl) : CP X np (e :: es) (tCons (tVar i) tr) (pmutC i fr) := ⟨pa_cons ha.p hr.p hs, sp_mut hr.s⟩
theorem ce_tup {fl : DS → Option (List D × DS)} {k : Nat} (h : CD X np es tl fl) : CE X np (.Tuple es k pos) (tTupF tl) (xtup fl) := ⟨pe_tupF h.p, se_tup h.s⟩
theorem ce_lst {fl : DS → Option (List D × DS)} (h : CD X np es tl fl) : CE X np (.List es pos) (tLst tl) (xlst fl) := ⟨pe_lst h.p, se_lst h.s⟩
/-! built-ins -/
theorem bt_len : bootBuiltins "len" = some (.builtin "len") := by decide +kernel
theorem bt_sum : bootBuiltins "sum" = some (.builtin "sum") := by decide +kernel
theorem bt_max : bootBuiltins "max" = some (.builtin "max") := by decide +kernel
theorem bt_min : bootBuiltins "min" = some (.builtin "min") := by decide +kernel
theorem bt_all : bootBuiltins "all" = some (.builtin "all") := by decide +kernel
theorem bt_abs : bootBuiltins "abs" = some (.builtin "abs") := by decide +kernel
theorem bt_srt : bootBuiltins "sorted" = some (.builtin "sorted") := by decide +kernel
theorem bt_isi : bootBuiltins "isinstance" = some (.builtin "isinstance") := by decide +kernel
theorem bt_int : bootBuiltins "int" = some (.type "int") := by decide +kernel
theorem bt_tup : bootBuiltins "tuple" = some (.type "tuple") := by decide +kernel
theorem bt_lst : bootBuiltins "list" = some (.type "list") := by decide +kernel
theorem bt_bool : bootBuiltins "bool" = some (.type "bool") := by decide +kernel
theorem bt_str : bootBuiltins "str" = some (.type "str") := by decide +kernel
theorem bt_dict : bootBuiltins "dict" = some (.type "dict") := by decide +kernel
section
variable {fl : DS → Option (List R × DS)} (h : CA X np (e :: es) tl fl) (he : starEach (e :: es) X.env = (false, eval e X.env) :: starEach es X.env := by rfl) (hpl : (backTo pos (starEach es X.env)).any (·.1) = false := by rfl)
include h he hpl
theorem ce_len (hm : X.mg "len" = none) (hg : Gl X "len" := by rfl) {Kk : PySem.W.Frag} (hk : X.K = Kk := by first | rfl | exact blk_K | exact blk_K.trans blk_K) : CE X np (.Call (.Name "len" p) (e :: es) [] pos) (tCB (rcLen Kk) tl) (xcb gLen fl) := by subst hk; exact ⟨pe_callB (call_len_seq.or call_len_str) hg hm bt_len h.p (by decide) (by decide) he hpl, se_cb h.s b_len⟩
theorem ce_sum (hm : X.mg "sum" = none) (hg : Gl X "sum" := by rfl) (hc : X.calm = true := by rfl) {Kk : PySem.W.Frag} (hk : X.K = Kk := by first | rfl | exact blk_K | exact blk_K.trans blk_K) : CE X np (.Call (.Name "sum" p) (e :: es) [] pos) (tCB (rSum Kk) tl) (xcb gSum fl) := by subst hk; exact ⟨pe_callB (cr_sum hc) hg hm bt_sum h.p (by decide) (by decide) he hpl, se_cb h.s b_sum⟩
theorem ce_max1 (hm : X.mg "max" = none) (hg : Gl X "max" := by rfl) (hc : X.calm = true := by rfl) {Kk : PySem.W.Frag} (hk : X.K = Kk := by first | rfl | exact blk_K | exact blk_K.trans blk_K) : CE X np (.Call (.Name "max" p) (e :: es) [] pos) (tCB (rMax Kk) tl) (xcb gMax1 fl) := by subst hk; exact ⟨pe_callB (cr_max hc) hg hm bt_max h.p (by decide) (by decide) he hpl, se_cb h.s b_max1⟩
theorem ce_min1 (hm : X.mg "min" = none) (hg : Gl X "min" := by rfl) (hc : X.calm = true := by rfl) {Kk : PySem.W.Frag} (hk : X.K = Kk := by first | rfl | exact blk_K | exact blk_K.trans blk_K) : CE X np (.Call (.Name "min" p) (e :: es) [] pos) (tCB (rMin Kk) tl) (xcb gMin1 fl) := by subst hk; exact ⟨pe_callB (cr_min hc) hg hm bt_min h.p (by decide) (by decide) he hpl, se_cb h.s b_min1⟩
theorem ce_max2 (hm : X.mg "max" = none) (hg : Gl X "max" := by rfl) (hc : X.calm = true := by rfl) : CE X np (.Call (.Name "max" p) (e :: es) [] pos) (tCB rcMax2 tl) (xcb gMax2 fl) := ⟨pe_callB (call_max2 hc) hg hm bt_max h.p (by decide) (by decide) he hpl, se_cb h.s b_max2⟩
theorem ce_min2 (hm : X.mg "min" = none) (hg : Gl X "min" := by rfl) (hc : X.calm = true := by rfl) : CE X np (.Call (.Name "min" p) (e :: es) [] pos) (tCB rcMin2 tl) (xcb gMin2 fl) := ⟨pe_callB (call_min2 hc) hg hm bt_min h.p (by decide) (by decide) he hpl, se_cb h.s b_min2⟩
theorem ce_abs (hm : X.mg "abs" = none) (hg : Gl X "abs" := by rfl) : CE X np (.Call (.Name "abs" p) (e :: es) [] pos) (tCB rcAbs tl) (xcb gAbs fl) := ⟨pe_callB call_abs hg hm bt_abs h.p (by decide) (by decide) he hpl, se_cb h.s b_abs⟩
theorem ce_all (hm : X.mg "all" = none) (hg : Gl X "all" := by rfl) (hc : X.calm = true := by rfl) {Kk : PySem.W.Frag} (hk : X.K = Kk := by first | rfl | exact blk_K | exact blk_K.trans blk_K) : CE X np (.Call (.Name "all" p) (e :: es) [] pos) (tCB (rAll Kk) tl) (xcb gAll fl) := by subst hk; exact ⟨pe_callB (cr_all hc) hg hm bt_all h.p (by decide) (by decide) he hpl, se_cb h.s b_all⟩
theorem ce_srt (hm : X.mg "sorted" = none) (hg : Gl X "sorted" := by rfl) {Kk : PySem.W.Frag} (hk : X.K = Kk := by first | rfl | exact blk_K | exact blk_K.trans blk_K) : CE X np (.Call (.Name "sorted" p) (e :: es) [] pos) (tCB (rSortedI Kk) tl) (xcb gSrt fl) := by subst hk; exact ⟨pe_callB cr_sortedI hg hm bt_srt h.p (by decide) (by decide) he hpl, se_cb h.s b_srt⟩
theorem ce_toint (hm : X.mg "int" = none) (hg : Gl X "int" := by rfl) : CE X np (.Call (.Name "int" p) (e :: es) [] pos) (tCB rcInt tl) (xcb gInt fl) := ⟨pe_callTy call_int1 hg hm bt_int h.p (by decide) (by decide) he hpl, se_cb h.s b_int⟩
theorem ce_totup (hm : X.mg "tuple" = none) (hg : Gl X "tuple" := by rfl) {Kk : PySem.W.Frag} (hk : X.K = Kk := by first | rfl | exact blk_K | exact blk_K.trans blk_K) : CE X np (.Call (.Name "tuple" p) (e :: es) [] pos) (tCB (rcTup Kk) tl) (xcb gTup fl) := by subst hk; exact ⟨pe_callTy call_tupF hg hm bt_tup h.p (by decide) (by decide) he hpl, se_cb h.s b_tup⟩
theorem ce_tolst (hm : X.mg "list" = none) (hg : Gl X "list" := by rfl) {Kk : PySem.W.Frag} (hk : X.K = Kk := by first | rfl | exact blk_K | exact blk_K.trans blk_K) : CE X np (.Call (.Name "list" p) (e :: es) [] pos) (tCB (rcLst Kk) tl) (xcb gLst fl) := by subst hk; exact ⟨pe_callTy call_list_of hg hm bt_lst h.p (by decide) (by decide) he hpl, se_cb h.s b_lst⟩
end
/-- isinstance(x, T) -/
theorem ce_isi {T : Str} {T' : String} (hT : bootBuiltins T = some (.type T')) (ha : CE X np e te fe) (hm : X.mg "isinstance" = none) (hmT : X.mg T = none) (hg : Gl X "isinstance" := by rfl) (hgT : Gl X T := by rfl) (hn : T ≠ "__name__" := by decide) (hd : (T == ("__debug__" : Str)) = false := by decide)
    (hs1 : starEach [e, .Name T p1] X.env = (false, eval e X.env) :: starEach [.Name T p1] X.env := by rfl) (hs2 : starEach [.Name T p1] X.env = (false, eval (.Name T p1) X.env) :: starEach [] X.env := by rfl) (hpl : (backTo pos (starEach [.Name T p1] X.env)).any (·.1) = false := by rfl) :
    CE X np (.Call (.Name "isinstance" p) [e, .Name T p1] [] pos) (tCB (rIsi X.K) (tCons te (tCons (tC (.ty T')) tNil))) (x1 (gIsi T') fe) :=
  ⟨pe_callB call_isi hg hm bt_isi (pa_cons ha.p (pa_cons (pe_bltn hgT hmT hT rfl hn hd) pa_nil hs2) hs1) (by decide) (by decide) hs1 hpl, o_isi ha.s⟩
/-! the call of a def -/
theorem ce_call {k : Nat} {x : Str} {f : FM} {fl : DS → Option (List A × DS)} (c : C8.Cal X.prog X.w X.K X.mg X.base k x (spOf f) []) (hr : Room j X.A) (hk : k ≤ j) (h : CP X np (e :: es) tl fl) (hg : Gl X x := by rfl) (hdb : (x == ("__debug__" : Str)) = false := by decide)
    (he : starEach (e :: es) X.env = (false, eval e X.env) :: starEach es X.env := by rfl) (hpl : (backTo pos (starEach es X.env)).any (·.1) = false := by rfl) : CE X np (.Call (.Name x p) (e :: es) [] pos) (tCall (spOf f) [] C8.E0 tl) (xcall f fl) :=
  ⟨C8.pe_c c hr hk hg h.p hdb he hpl, se_call h.s⟩
/-! slices -/
def xsl (lo hi : DS → Option (Option Int × DS)) (a : XM) : XM := fun s => (a s).bind fun p => (lo p.2).bind fun q => (hi q.2).bind fun w => (rv w.2 p.1).bind fun d => (gSl q.1 w.1 d).bind fun z => some (z, w.2)
def lno : DS → Option (Option Int × DS) := fun s => some (none, s)
def lsome (a : XM) : DS → Option (Option Int × DS) := fun s => (a s).bind fun p => match p.1 with
  | .d (.int i) => some (some i, p.2)
  | _ => none
def SO (np : Nat) (t : TO) (f : DS → Option (Option Int × DS)) : Prop := ∀ (I H : Hp) (σ : L2.St) (s : DS) (o : Option Int) (s' : DS) (Q : Option Int → Hp → Prop), SR I H σ s → f s = some (o, s') → (∀ I' H', Stp np I H σ s I' H' σ s' → Q o H') → t σ H Q
structure CO (X : Cx) (np : Nat) (e : Option Expr) (t : TO) (f : DS → Option (Option Int × DS)) : Prop where
  p : PO X e t
  s : SO np t f
theorem co_no : CO X np none tNoPart lno := ⟨po_none, fun I H σ s o s' Q S e k => by cases e; exact k I H (Stp.refl S)⟩
theorem co_some (h : CE X np e te fe) : CO X np (some e) (tPart te) (lsome fe) := ⟨po_some h.p, fun I H σ s o s' Q S e k => by
  obtain ⟨⟨r, s1⟩, e1, e⟩ := bind_eq e
  dsimp only at e
  split at e
  · cases e
    refine h.s I H σ s _ _ _ S e1 fun I1 H1 v A1 r1 => ?_
    cases (show Dr I1 v (.int _) from r1)
    exact ⟨_, rfl, k I1 H1 A1⟩
  · cases e⟩
theorem cut_dr {I : Hp} {vs : List V} {ds : List D} (lo hi : Option Int) (h : DrA I vs ds) : DrA I (cutV vs lo hi) (cutD ds lo hi) := by
  unfold cutV cutD
  rw [h.len]
  exact (h.drop _).take _
theorem sIx_le (n : Nat) (o : Option Int) : HT.sIx n 0 o ≤ n ∨ True := .inr trivial
theorem cut_all {α : Type} {xs : List α} {a b : Nat} (h1 : a = 0) (h2 : b = xs.length) : (xs.drop a).take (b - a) = xs := by
  subst h1 h2
  rw [List.drop_zero, Nat.sub_zero, List.take_length]
theorem ce_sl {lo hi : Option Expr} {to1 to2 : TO} {f1 f2 : DS → Option (Option Int × DS)} (ha : CE X np a ta fa) (h1 : CO X np lo to1 f1) (h2 : CO X np hi to2 f2) {Kk : PySem.W.Frag} (hk : X.K = Kk := by first | rfl | exact blk_K | exact blk_K.trans blk_K) : CE X np (.Subscript a (.Slice lo hi none p2) pos) (tSl (rrSl Kk) ta to1 to2) (xsl f1 f2 fa) := by subst hk; exact ⟨pe_slice (sl_list.or sl_tupF) ha.p h1.p h2.p, fun I H σ s r s' Q S e k => by
  obtain ⟨⟨ra, s1⟩, e1, e⟩ := bind_eq e
  obtain ⟨⟨i, s2⟩, e2, e⟩ := bind_eq e
  obtain ⟨⟨l, s3⟩, e3, e⟩ := bind_eq e
  obtain ⟨d, e4, e⟩ := bind_eq e
  obtain ⟨w, e5, e⟩ := bind_eq e
  cases e
  refine ha.s I H σ s ra s1 _ S e1 fun I1 H1 v A1 r1 => ?_
  refine h1.s I1 H1 σ s1 i s2 _ A1.sr e2 fun I2 H2 A2 => ?_
  refine h2.s I2 H2 σ s2 l s3 _ A2.sr e3 fun I3 H3 A3 => ?_
  have A12 := A1.trans (A2.trans A3)
  have rd := ((r1.step A2).step A3).rd A3.sr e4
  have ex := A3.sr.ext
  cases d with
  | list xs =>
    cases e5
    obtain ⟨a, vs, rfl, g1, g2⟩ := rd_list ex rd
    refine .inl ⟨a, vs, rfl, SqL.of g1, fun p hp => ?_⟩
    have al := Al.newT (o := .lst (cutV vs i l)) ex hp
    exact k _ _ _ (A12.trans (al.stp A3.sr)) (RR.of_z A12 al (r := .t (cutD xs i l)) ⟨p, _, rfl, hp, noI ex hp, upd_same, cut_dr i l g2⟩)
  | tuple xs =>
    cases e5
    obtain ⟨a, oa, vs, rfl, g1, za, g2⟩ := rd_tup rd
    refine .inr ⟨a, vs, rfl, sq_t ex g1, fun hw => ?_, fun hw p o hp ho => ?_⟩
    · refine k I3 H3 _ A12 (Dr.tup g1 za ?_)
      rw [g2.len] at hw
      rw [show cutD xs i l = xs from cut_all hw.1 hw.2]
      exact g2
    · have al := Al.new (o := .frz o (.tup (cutV vs i l))) ex hp
      exact k _ _ _ (A12.trans (al.stp A3.sr)) (Dr.tup upd_same ho ((cut_dr i l g2).mono al.ie))
  | _ => cases e5⟩
theorem ce_rev {k : Nat} (ha : CE X np a ta fa) {Kk : PySem.W.Frag} (hk : X.K = Kk := by first | rfl | exact blk_K | exact blk_K.trans blk_K) : CE X np (.Subscript a (.Slice none none (some (.UnaryOp .USub (.Constant (.int 1) k p1) p2)) p3) pos) (tRevL Kk ta) (x1 gRev fa) := by subst hk; exact ⟨pe_revL ha.p, fun I H σ s r s' Q S e k => by
  obtain ⟨⟨ra, s1⟩, e1, e⟩ := bind_eq e
  obtain ⟨d, e2, e⟩ := bind_eq e
  obtain ⟨w, e3, e⟩ := bind_eq e
  cases e
  refine ha.s I H σ s ra s1 _ S e1 fun I1 H1 v A1 r1 => ?_
  cases d with
  | list xs =>
    cases e3
    obtain ⟨a, vs, rfl, g1, g2⟩ := rd_list A1.sr.ext (r1.rd A1.sr e2)
    refine ⟨a, vs, rfl, SqL.of g1, fun p hp => ?_⟩
    have al := Al.newT (o := .lst vs.reverse) A1.sr.ext hp
    exact k _ _ _ (A1.trans (al.stp A1.sr)) (RR.of_z A1 al (r := .t xs.reverse) ⟨p, _, rfl, hp, noI A1.sr.ext hp, upd_same, g2.reverse⟩)
  | _ => cases e3⟩
/-! xs.index(x) -/
def idxD (x : D) : List D → Option Nat
  | [] => none
  | y :: r => if eqF y x = true then some 0 else (idxD x r).bind fun n => some (n + 1)
def gIdx : List D → D → Option R
  | [x], .list ds => if (flatD x && ds.all flatD) = true then (idxD x ds).bind fun n => some (.d (.int (n : Nat))) else none
  | _, _ => none
theorem idx_at {x : D} : ∀ {ds : List D} {n : Nat}, idxD x ds = some n → (∃ z, ds[n]? = some z ∧ eqF z x = true) ∧ ∀ (m : Nat) (z : D), m < n → ds[m]? = some z → eqF z x = false
  | [], _, e => by cases e
  | y :: r, n, e => by
    unfold idxD at e
    by_cases h : eqF y x = true
    · rw [if_pos h] at e
      cases e
      exact ⟨⟨y, rfl, h⟩, fun m z hm => absurd hm (Nat.not_lt_zero m)⟩
    · rw [if_neg h] at e
      obtain ⟨k, e1, e⟩ := bind_eq e
      cases e
      obtain ⟨⟨z, h1, h2⟩, h3⟩ := idx_at e1
      refine ⟨⟨z, by simpa using h1, h2⟩, fun m z hm hz => ?_⟩
      cases m with
      | zero => cases hz; exact Bool.eq_false_iff.mpr h
      | succ m => exact h3 m z (by omega) (by simpa using hz)
/-- o.m(e), by the values: the list first -/
def isL : D → Option Unit
  | .list _ => some ()
  | _ => none
def xidx (a : XM) (b : XM) : XM := fun s => (a s).bind fun p => (rv p.2 p.1).bind fun d0 => (isL d0).bind fun _ => (b p.2).bind fun q => (rv q.2 p.1).bind fun dx => (rv q.2 q.1).bind fun dy => (gIdx [dy] dx).bind fun z => some (z, q.2)
theorem ce_index {o : Expr} {apos cpos : Pos} (ho : CE X np o ta fa) (hb : CE X np b tb' fb)
    (hbase : attributeBase o "index" X.env (eval o X.env) = eval o X.env := by rfl)
    (hfew : ((backTo cpos (starEach [b] X.env)).all (fun x => !x.1) && (backToKw cpos (keywordEach [] X.env)).all (fun x => x.1.isSome) && decide ([b].length + ([] : List Keyword).length + (if ([] : List Keyword).isEmpty then 0 else 1) < 30)) = true := by rfl)
    (hline : (apos.endLine == cpos.line) = true := by rfl) (hs : starEach [b] X.env = (false, eval b X.env) :: starEach [] X.env := by rfl) (hplain : (backTo cpos (starEach [] X.env)).any (·.1) = false := by rfl) :
    CE X np (.Call (.Attribute o "index" apos) [b] [] cpos) (tBM X.K "list" (rIndex X.K) ta (tCons tb' tNil)) (xidx fa fb) :=
  ⟨pe_bm PySem.F.plainAttrs_list PySem.F.slot_list_index PySem.F.type_list_index mt_index ho.p (pa_cons hb.p pa_nil hs) hbase hfew hline hs hplain, fun I H σ s r s' Q S e k => by
  obtain ⟨⟨ra, s1⟩, e1, e⟩ := bind_eq e
  obtain ⟨d0, f1, e⟩ := bind_eq e
  obtain ⟨_, f2, e⟩ := bind_eq e
  obtain ⟨⟨rb, s2⟩, e2, e⟩ := bind_eq e
  obtain ⟨dx, e3, e⟩ := bind_eq e
  obtain ⟨dy, e4, e⟩ := bind_eq e
  obtain ⟨z, e5, e⟩ := bind_eq e
  cases e
  refine ho.s I H σ s ra s1 _ S e1 fun I1 H1 v1 A1 r1 => ?_
  -- what it was when it was asked for its method
  cases dx with
  | list ds =>
    dsimp only [gIdx] at e5
    by_cases hf : (flatD dy && ds.all flatD) = true
    · rw [if_pos hf] at e5
      obtain ⟨n, e6, e5⟩ := bind_eq e5
      cases e5
      rw [Bool.and_eq_true] at hf
      have ty : tyV X.K "list" v1 H1 := by
        cases d0 with
        | list d0 =>
          obtain ⟨a, vs, rfl, g1, _⟩ := rd_list A1.sr.ext (r1.rd A1.sr f1)
          exact lst_ty g1
        | _ => cases f2
      refine ⟨ty, ?_⟩
      refine hb.s I1 H1 σ s1 rb s2 _ A1.sr e2 fun I2 H2 v2 A2 r2 => ?_
      have A12 := A1.trans A2
      obtain ⟨a, vs, rfl, g1, g2⟩ := rd_list A2.sr.ext ((r1.step A2).rd A2.sr e3)
      have rd2 := r2.rd A2.sr e4
      obtain ⟨⟨z, q1, q2⟩, q3⟩ := idx_at e6
      obtain ⟨u, q4, q5⟩ := g2.get q1
      have fz1 : flatD z = true := List.all_eq_true.mp hf.2 z (List.mem_of_getElem? q1)
      refine ⟨a, vs, v2, n, u, rfl, rfl, SqL.of g1, (dr_flat rd2).trans hf.1, (dra_flat g2).trans hf.2, q4, ?_, fun m w hm hw => ?_, k I2 H2 _ A12 (Dr.int _)⟩
      · rw [dr_eqF (H := H2) (.inl q5) rd2 fz1 hf.1]
        exact q2
      · have hml : m < ds.length := by rw [← g2.len]; exact (List.getElem?_eq_some_iff.mp hw).1
        have hd := g2.at hw (List.getElem?_eq_getElem hml)
        have fzm : flatD ds[m] = true := List.all_eq_true.mp hf.2 _ (List.getElem_mem hml)
        rw [dr_eqF (H := H2) (.inl hd) rd2 fzm hf.1]
        exact q3 m _ hm (List.getElem?_eq_getElem hml)
    · rw [if_neg hf] at e5; cases e5
  | _ => cases e5⟩
/-! ### t.index(x): the tuple's object bears no dict -/
def rIndexT (K : PySem.W.Frag) : V → List V → Hp → VK → Prop := fun x xs H Q => ∃ (a : Addr) (ys : List V) (y : V) (j : Nat) (z : V), x = .ref a ∧ xs = [y] ∧ SqT K H a ys ∧ (flatV y = true ∧ ys.all flatV = true) ∧ ys[j]? = some z ∧ eqV z y = true ∧
  (∀ (m : Nat) (u : V), m < j → ys[m]? = some u → eqV u y = false) ∧ Q (.int (j : Nat)) H
theorem mt_indexT {X : Cx} : MtR X "tuple.index" (rIndexT X.K) := by
  rintro pins s σ H x xs v us Q I rx rxs ⟨a, ys, y, j, z, rfl, rfl, hs, ⟨fy, fys⟩, hz, hzj, hno, q⟩
  cases rx
  obtain ⟨uy, rfl, ry⟩ := Vals.one rxs
  obtain ⟨its, rv, pl, _⟩ := I.tuple hs
  obtain ⟨⟨cls, dd, data, sl⟩, ho, hc, n, hd⟩ := id pl
  simp only at hc hd
  subst hc hd
  obtain ⟨u, hu, ru⟩ := rv.get hz
  obtain ⟨hj, hje⟩ := List.getElem?_eq_some_iff.mp hu
  have ej : (its.toArray[j]?.map (eqU y)) = some true := by
    rw [List.getElem?_toArray, hu, Option.map_some, eqU_of ru (flat_at fys hz), hzj]
  have hj2 : j < its.toArray.size := by rw [List.size_toArray]; exact hj
  refine call_meets PySem.F.slot_tuple_index ⟨_, ho, rfl⟩ PySem.F.entry_tuple_index (PySem.F.args_tuple_index_2 _ _)
    (SeqAt.tuple_index2_found a its.toArray n dd sl uy (fun m => (its.toArray[m]?.map (eqU y)).getD false) j hj2 (Nat.zero_le _) hj2 (by rw [ej]; rfl) fun m hm _ hmj => ?_) ⟨ho, fun m hm => ?_, .int (j : Nat), H, I.tok _, ⟨_, rfl⟩, q⟩
  · have hm2 : m < its.length := by rw [List.size_toArray] at hm; exact hm
    have hmy : m < ys.length := by rw [rv.length]; exact hm2
    obtain ⟨w, hw, rw'⟩ := rv.get (List.getElem?_eq_getElem hmy)
    rw [List.getElem?_toArray, hw, Option.map_some, eqU_of rw' (flat_at fys (List.getElem?_eq_getElem hmy)), hno m _ hmj (List.getElem?_eq_getElem hmy)]
    rfl
  · have e := mem_eqAt (A := X.A.in1) (s := s) ry fy rv fys its.toArray[m] (by
      have := Array.getElem_mem hm
      simpa using this)
    rw [Array.getElem?_eq_getElem hm]
    exact e
def tIdxT (K : PySem.W.Frag) (to te : TE) : TE := fun σ H Q => to σ H fun x H1 => (∃ (p : Addr) (o : Obj) (xs : List V), x = .ref p ∧ H1 p = some (.frz o (.tup xs)) ∧ o.dict = .none) ∧ tCons te tNil σ H1 fun ys H2 => rIndexT K x ys H2 Q
theorem pe_idxT {X : Cx} {o b : Expr} {to te : TE} {apos cpos : Pos} (ho : PE X o to) (hb : PE X b te)
    (hbase : attributeBase o "index" X.env (eval o X.env) = eval o X.env := by rfl)
    (hfew : ((backTo cpos (starEach [b] X.env)).all (fun x => !x.1) && (backToKw cpos (keywordEach [] X.env)).all (fun x => x.1.isSome) && decide ([b].length + ([] : List Keyword).length + (if ([] : List Keyword).isEmpty then 0 else 1) < 30)) = true := by rfl)
    (hline : (apos.endLine == cpos.line) = true := by rfl) (hs : starEach [b] X.env = (false, eval b X.env) :: starEach [] X.env := by rfl) (hplain : (backTo cpos (starEach [] X.env)).any (·.1) = false := by rfl) :
    PE X (.Call (.Attribute o "index" apos) [b] [] cpos) (tIdxT X.K to te) := ⟨fun pins s σ H Q I h => by
  refine wpAny_Call_method_late hbase hfew hline rfl (thn (ho.run pins s σ H _ I h) fun v s1 ⟨x, H1, I1, r1, ⟨p, ob, xs, e1, e2, e3⟩, q1⟩ => ?_)
  subst e1
  cases r1
  obtain ⟨g1, _, its, _, pl⟩ := I1.hok p _ e2
  have nd : ∀ a, Value.ref p = .ref a → ∃ o2, s1.heap.get? a = some o2 ∧ o2.dict = .none := fun a e => by
    cases e
    exact ⟨ob, g1, e3⟩
  refine ⟨"tuple", "tuple.index", PySem.F.plainAttrs_tuple, PySem.F.slot_tuple_index, PySem.F.type_tuple_index, pl.typeIs, nd, ?_⟩
  have w := (pa_cons hb pa_nil hs).run cpos pins s1 σ H1 _ I1 q1
  rw [hs] at w ⊢
  refine Calls.callWith_builtin (by show (false || (backTo cpos (starEach [] X.env)).any (·.1)) = false; rw [hplain]; rfl) (Calls.evalArgs_plain ?_)
  exact thn w fun us s2 ⟨vs, H2, I2, r2, q2⟩ => mt_indexT pins s2 σ H2 (.ref p) vs (.ref p) us Q I2 rfl r2 q2⟩
def isTp : D → Option Unit
  | .tuple _ => some ()
  | _ => none
def gIdxT : D → D → Option R
  | x, .tuple ds => if (flatD x && ds.all flatD) = true then (idxD x ds).bind fun n => some (.d (.int (n : Nat))) else none
  | _, _ => none
def xidxT (a : XM) (b : XM) : XM := fun s => (a s).bind fun p => (rv p.2 p.1).bind fun dx => (isTp dx).bind fun _ => (b p.2).bind fun q => (rv q.2 q.1).bind fun dy => (gIdxT dy dx).bind fun z => some (z, q.2)
theorem ce_indexT {o : Expr} {apos cpos : Pos} (ho : CE X np o ta fa) (hb : CE X np b tb' fb)
    (hbase : attributeBase o "index" X.env (eval o X.env) = eval o X.env := by rfl)
    (hfew : ((backTo cpos (starEach [b] X.env)).all (fun x => !x.1) && (backToKw cpos (keywordEach [] X.env)).all (fun x => x.1.isSome) && decide ([b].length + ([] : List Keyword).length + (if ([] : List Keyword).isEmpty then 0 else 1) < 30)) = true := by rfl)
    (hline : (apos.endLine == cpos.line) = true := by rfl) (hs : starEach [b] X.env = (false, eval b X.env) :: starEach [] X.env := by rfl) (hplain : (backTo cpos (starEach [] X.env)).any (·.1) = false := by rfl) :
    CE X np (.Call (.Attribute o "index" apos) [b] [] cpos) (tIdxT X.K ta tb') (xidxT fa fb) :=
  ⟨pe_idxT ho.p hb.p hbase hfew hline hs hplain, fun I H σ s r s' Q S e k => by
  obtain ⟨⟨ra, s1⟩, e1, e⟩ := bind_eq e
  obtain ⟨dx, e3, e⟩ := bind_eq e
  obtain ⟨_, f2, e⟩ := bind_eq e
  obtain ⟨⟨rb, s2⟩, e2, e⟩ := bind_eq e
  obtain ⟨dy, e4, e⟩ := bind_eq e
  obtain ⟨z, e5, e⟩ := bind_eq e
  cases e
  refine ho.s I H σ s ra s1 _ S e1 fun I1 H1 v1 A1 r1 => ?_
  cases dx with
  | tuple ds =>
    dsimp only [gIdxT] at e5
    by_cases hf : (flatD dy && ds.all flatD) = true
    · rw [if_pos hf] at e5
      obtain ⟨n, e6, e5⟩ := bind_eq e5
      cases e5
      rw [Bool.and_eq_true] at hf
      obtain ⟨a, oa, vs, rfl, g1, za, g2⟩ := rd_tup (r1.rd A1.sr e3)
      refine ⟨⟨a, oa, vs, rfl, A1.sr.ext _ _ g1, za⟩, ?_⟩
      refine hb.s I1 H1 σ s1 rb s2 _ A1.sr e2 fun I2 H2 v2 A2 r2 => ?_
      have h1 : I2 a = some (.frz oa (.tup vs)) := A2.ie _ _ g1
      have h2 : DrA I2 vs ds := g2.mono A2.ie
      have rd2 := r2.rd A2.sr e4
      obtain ⟨⟨z, q1, q2⟩, q3⟩ := idx_at e6
      obtain ⟨u, q4, q5⟩ := h2.get q1
      have fz1 : flatD z = true := List.all_eq_true.mp hf.2 z (List.mem_of_getElem? q1)
      refine ⟨a, vs, v2, n, u, rfl, rfl, sq_t A2.sr.ext h1, ⟨(dr_flat rd2).trans hf.1, (dra_flat h2).trans hf.2⟩, q4, ?_, fun m w hm hw => ?_, k I2 H2 _ (A1.trans A2) (Dr.int _)⟩
      · exact (dr_eqF (H := H2) (.inl q5) rd2 fz1 hf.1).trans q2
      · have hml : m < ds.length := by
          rw [← h2.len]
          exact (List.getElem?_eq_some_iff.mp hw).1
        have gm := List.getElem?_eq_getElem hml
        have fzm : flatD ds[m] = true := List.all_eq_true.mp hf.2 _ (List.getElem_mem hml)
        exact (dr_eqF (H := H2) (.inl (h2.at hw gm)) rd2 fzm hf.1).trans (q3 m _ hm gm)
    · rw [if_neg hf] at e5; cases e5
  | _ => cases f2⟩
end
end Z
end
section
set_option maxRecDepth 100000
set_option maxHeartbeats 1000000
/-! Z8: wrappers of statements, loops, comprehensions; a def's promise by its body. -/
namespace Z
open PySem PySem.Spec L2
section
variable {X : Cx} {np j i : Nat} {a b c e tg iter : Expr} {es : List Expr} {ta tb' te : TE} {fa fb fe : XM} {tA : TT} {gA : TM} {tl : TA} {pos p p1 pos' : Pos} {st : Stmt} {sts body : List Stmt} {t u : TS} {f g : SM}
/-! targets -/
theorem cg_name (i : Nat) {x : Str} (hN : X.N.Nodup) (hi : X.N[i]? = some x := by rfl) (hx : Loc X.env.scope x := by first | exact Or.inl rfl | exact Or.inr rfl) (hf : X.fn x = true ∨ X.env.scope.names.lookup x = some .local := by first | exact .inl rfl | exact .inr rfl) : CG X np (.Name x pos) [i] (gName i) (gn np i) := ⟨pg_name hN hi hx hf, sg_name⟩
theorem cgs_nil : CGs X np [] [] gNil gnil 0 := ⟨pgs_nil, sgs_nil, fun _ _ _ h => gnil_len h⟩
theorem cgs_cons {w1 w2 : List Nat} {g1 : TG} {g2 : TGs} {f1 : D → DS → Option DS} {f2 : List D → DS → Option DS} {n : Nat} (h1 : CG X np e w1 g1 f1) (h2 : CGs X np es w2 g2 f2 n) (hs : (assignEach (e :: es) X.env).map (·.2) = assign e X.env :: (assignEach es X.env).map (·.2) := by rfl) : CGs X np (e :: es) (w1 ++ w2) (gCons g1 g2) (gcons f1 f2) (n + 1) :=
  ⟨pgs_cons h1.p h2.p hs, sgs_cons h1.s h2.s, gcons_len h2.n⟩
theorem cg_tup {ws : List Nat} {g2 : TGs} {f2 : List D → DS → Option DS} {n k : Nat} (h : CGs X np es ws g2 f2 n) (hc : X.calm = true := by rfl) (hn : (assignEach es X.env).length = n := by rfl) (hst : (assignEach es X.env).findIdx? (·.1) = none := by rfl) {Kk : PySem.W.Frag} (hk : X.K = Kk := by first | rfl | exact blk_K | exact blk_K.trans blk_K) : CG X np (.Tuple es k pos) ws (L2.gTup Kk n g2) (gtup f2) := by subst hk; exact ⟨pg_tup hc h.p hn hst, sg_tup h.s h.n⟩
/-! what is walked -/
theorem ci_list (h : CE X np e te fe) {Kk : PySem.W.Frag} (hk : X.K = Kk := by first | rfl | exact blk_K | exact blk_K.trans blk_K) : CI X np tg e (iList Kk te) (ilst np fe) := by subst hk; exact ⟨pi_list h.p, si_list h.s⟩
theorem ci_tup (h : CE X np e te fe) {Kk : PySem.W.Frag} (hk : X.K = Kk := by first | rfl | exact blk_K | exact blk_K.trans blk_K) : CI X np tg e (iTup Kk te) (itup np fe) := by subst hk; exact ⟨pi_tup h.p, si_tup h.s⟩
theorem ci_rng1 {fl : DS → Option (List D × DS)} (hm : X.mg "range" = none) (h : CD X np [a] tl fl) (hg : Gl X "range" := by rfl) (hs : starEach [a] X.env = [(false, eval a X.env)] := by rfl) : CI X np tg (.Call (.Name "range" p) [a] [] pos) (iRng1 tl) (irng1 fl) := ⟨pi_range1 hg hm h.p hs, si_rng1 h.s⟩
theorem ci_rng2 {fl : DS → Option (List D × DS)} (hm : X.mg "range" = none) (h : CD X np [a, b] tl fl) (hg : Gl X "range" := by rfl) (hs : starEach [a, b] X.env = [(false, eval a X.env), (false, eval b X.env)] := by rfl) (hs2 : starEach [b] X.env = [(false, eval b X.env)] := by rfl) :
    CI X np tg (.Call (.Name "range" p) [a, b] [] pos) (iRng2 tl) (irng2 fl) := ⟨pi_range2 hg hm h.p hs hs2, si_rng2 h.s⟩
theorem ci_rng3 (n : Nat) {fl : DS → Option (List D × DS)} (hm : X.mg "range" = none) (h : CD X np [a, b, c] tl fl) (hg : Gl X "range" := by rfl) (hs : starEach [a, b, c] X.env = (false, eval a X.env) :: starEach [b, c] X.env := by rfl) (hpl : (backTo pos (starEach [b, c] X.env)).any (·.1) = false := by rfl) :
    CI X np tg (.Call (.Name "range" p) [a, b, c] [] pos) (iRng3 tl) (irng3 n fl) := ⟨pi_range3 hg hm h.p hs hpl, si_rng3 h.s⟩
theorem ci_enum {fl : DS → Option (List D × DS)} {k : Nat} (hm : X.mg "enumerate" = none) (h : CD X np [e] tl fl) (hg : Gl X "enumerate" := by rfl) (hs : starEach [e] X.env = [(false, eval e X.env)] := by rfl) {Kk : PySem.W.Frag} (hk : X.K = Kk := by first | rfl | exact blk_K | exact blk_K.trans blk_K) : CI X np (.Tuple es k pos') (.Call (.Name "enumerate" p) [e] [] pos) (iEnum Kk tl) (ienum fl) := by subst hk; exact ⟨pi_enum hg hm h.p hs, si_enum h.s⟩
theorem ci_zip {fl : DS → Option (List D × DS)} {k : Nat} (hm : X.mg "zip" = none) (h : CD X np [a, b] tl fl) (hg : Gl X "zip" := by rfl) (hs : starEach [a, b] X.env = (false, eval a X.env) :: starEach [b] X.env := by rfl) (hpl : (backTo pos (starEach [b] X.env)).any (·.1) = false := by rfl) {Kk : PySem.W.Frag} (hk : X.K = Kk := by first | rfl | exact blk_K | exact blk_K.trans blk_K) : CI X np (.Tuple es k pos') (.Call (.Name "zip" p) [a, b] [] pos) (_root_.RZ.iZipA Kk tl) (izip fl) := by subst hk; exact ⟨_root_.RZ.pi_zipA hg hm h.p hs hpl, si_zip h.s⟩
/-! blocks of statements -/
theorem cb_nil : CB X np [] tNext snx := ⟨pss_nil, ss_nx⟩
theorem cb_one (h : CS X np st t f) : CB X np [st] t f := ⟨pss_one h.p, h.s⟩
theorem cb_cons (h : CS X np st t f) (h2 : CB X np sts u g) : CB X np (st :: sts) (tSeq t u) (sseq f g) := ⟨pss_cons h.p h2.p, ss_seq h.s h2.s⟩
theorem cs_pass : CS X np (.Pass pos) tNext snx := ⟨ps_pass, ss_nx⟩
theorem cs_break : CS X np (.Break pos) tBreak sbk := ⟨ps_break, ss_bk⟩
theorem cs_cont : CS X np (.Continue pos) tCont sct := ⟨ps_continue, ss_ct⟩
theorem cs_never : CS X np st tNever snever := ⟨ps_never, ss_never⟩
theorem cs_expr (h : CE X np e te fe) (hs : swapsWith e none pos.line X.env = pure false := by rfl) : CS X np (.Expr e pos) (tDrop te) (sdrop fe) := ⟨ps_expr h.p hs, ss_drop h.s⟩
theorem cs_ret (h : CE X np e te fe) : CS X np (.Return (some e) pos) (tRet te) (sret np fe) := ⟨ps_ret h.p, ss_ret h.s⟩
theorem cs_if (h : CT X np c tA gA) (h1 : CB X np body t f) (h2 : CB X np sts u g) : CS X np (.If c body sts pos) (tIfS tA t u) (sif gA f g) := ⟨ps_if h.p h1.p h2.p, ss_if h.s h1.s h2.s⟩
theorem cs_set (i : Nat) {x : Str} (hN : X.N.Nodup) (h : CE X np e te fe) (hi : X.N[i]? = some x := by rfl) (hx : Loc X.env.scope x := by first | exact Or.inl rfl | exact Or.inr rfl) (hs : swapsWith e (some (.Name x pos')) pos.line X.env = pure false := by rfl)
    (hf : X.fn x = true ∨ X.env.scope.names.lookup x = some .local := by first | exact .inl rfl | exact .inr rfl) : CS X np (.Assign [.Name x pos'] e pos) (tAsg te (gName i)) (sasg np i fe) := ⟨ps_set hN hi hx h.p hs hf, ss_asg h.s⟩
theorem cs_unp {ws : List Nat} {gg : TG} {ff : D → DS → Option DS} {k : Nat} (h : CE X np e te fe) (hg : CG X np (.Tuple es k pos') ws gg ff) (hs : swapsWithSole [.Tuple es k pos'] e pos.line X.env = pure false := by rfl) (hw : swappedStores [.Tuple es k pos'] e X.env = pure none := by rfl) :
    CS X np (.Assign [.Tuple es k pos'] e pos) (tAsg te gg) (sunp np ff fe) := ⟨ps_asg h.p hg.p hs hw, ss_unp h.s hg.s⟩
theorem cs_par (i k : Nat) {x y : Str} {px py pt pt2 : Pos} {kt k2 : Nat} (hN : X.N.Nodup) (ha : CE X np a ta fa) (hb : CE X np b tb' fb) (hij : i ≠ k := by decide) (hc : X.calm = true := by rfl) (hi : X.N[i]? = some x := by rfl) (hj : X.N[k]? = some y := by rfl)
    (hx : X.env.scope.names.lookup x = some .local := by rfl) (hy : X.env.scope.names.lookup y = some .local := by rfl) (hs1 : starEach [a, b] X.env = (false, eval a X.env) :: starEach [b] X.env := by rfl) (hs2 : starEach [b] X.env = (false, eval b X.env) :: starEach [] X.env := by rfl)
    (hw : swappedStores [.Tuple [.Name x px, .Name y py] kt pt] (.Tuple [a, b] k2 pt2) X.env = pure (some [x, y]) := by rfl) (hs : swapsWithSole [.Tuple [.Name x px, .Name y py] kt pt] (.Tuple [a, b] k2 pt2) pos.line X.env = pure false := by rfl) :
    CS X np (.Assign [.Tuple [.Name x px, .Name y py] kt pt] (.Tuple [a, b] k2 pt2) pos) (tPar i k (tCons ta (tCons tb' tNil))) (spar np i k fa fb) := ⟨ps_par hc hN hi hj hij hx hy (pa_cons ha.p (pa_cons hb.p pa_nil hs2) hs1) hw hs, ss_par ha.s hb.s hij⟩
/-! op= -/
def saug (np i : Nat) (g : D → D → Option R) (a : XM) : SM := fun s => (match s[i]? with | some (.dat d) => some d | _ => none).bind fun d0 => (a s).bind fun p => (rv p.2 p.1).bind fun d => (g d0 d).bind fun z => (asg np i z p.2).bind fun s' => some (.nx, s')
theorem ss_aug {r : TIp} {gg : D → D → Option R} (h : SE np te fe) (o : Op2 r gg) : SS np (tAug i te r) (saug np i gg fe) := fun I H σ s o' s' D S e gl => by
  obtain ⟨d0, e0, e⟩ := bind_eq e
  obtain ⟨⟨ra, s1⟩, e1, e⟩ := bind_eq e
  obtain ⟨d, e2, e⟩ := bind_eq e
  obtain ⟨z, e3, e⟩ := bind_eq e
  obtain ⟨s2, e4, e⟩ := bind_eq e
  cases e
  have hs : s[i]? = some (.dat d0) := by
    split at e0
    · rename_i w q
      cases e0
      exact q
    · cases e0
  obtain ⟨v0, h1, h2⟩ := S.dat i d0 hs
  refine ⟨v0, h1, ?_⟩
  refine h I H σ s ra s1 _ S e1 fun I1 H1 v A1 r1 => ?_
  refine o I1 H1 v0 v d0 d z _ A1.sr.ext (.inl (h2.mono A1.ie)) (r1.rd A1.sr e2) e3 fun I2 H2 w al rz => ?_
  exact gl I2 H2 _ (asg_ok (A1.trans (al.stp A1.sr)) (RR.of_z A1 al rz) e4)
abbrev rrIAdd (K : PySem.W.Frag) : TIp := fun x y H Q => rI0 (fun i j => .int (i + j)) x y H Q ∨ rCatF K x y H Q
def gIAdd : D → D → Option R
  | .int i, .int j => some (.d (.int (i + j)))
  | .tuple xs, .tuple ys => if xs.length + ys.length ≤ 100000 then some (.d (.tuple (xs ++ ys))) else none
  | _, _ => none
theorem o_iadd {K : PySem.W.Frag} : Op2 (rrIAdd K) gIAdd := fun I H x y dx dy z Q ex h1 h2 e k => by
  cases dx <;> cases dy <;> first | (cases e; done) | skip
  · rcases o_add (K := K) I H x y _ _ z Q ex h1 h2 e k with q | q | ⟨a, b, xs, ys, rfl, _⟩
    · exact .inl q
    · exact .inr q
    · cases rd_int h1
  · rcases o_add (K := K) I H x y _ _ z Q ex h1 h2 e k with ⟨i, j, rfl, _⟩ | q | ⟨a, b, xs, ys, rfl, _, g, _⟩
    · obtain ⟨_, _, _, q, _⟩ := rd_tup h1
      cases q
    · exact .inr q
    · obtain ⟨a', oa, vs, q, g1, _⟩ := rd_tup h1
      cases q
      rw [ex _ _ g1] at g
      cases g
theorem ip_of {op : Operator} {r : R2} (h : OpR X (inplaceOp op) r) : PIp X op r := fun pins s σ H x y v u Q I rx ry q => augR h I rx ry q
theorem cs_aadd (i : Nat) {x : Str} (hN : X.N.Nodup) (h : CE X np e te fe) (hi : X.N[i]? = some x := by rfl) (hx : Loc X.env.scope x := by first | exact Or.inl rfl | exact Or.inr rfl) (hf : X.fn x = true ∨ X.env.scope.names.lookup x = some .local := by first | exact .inl rfl | exact .inr rfl) :
    CS X np (.AugAssign (.Name x pos') .Add e pos) (tAug i te (rrIAdd X.K)) (saug np i gIAdd fe) := ⟨ps_aug hN hi hx h.p (ip_of (iop_add.or iop_catF)) hf, ss_aug h.s o_iadd⟩
theorem cs_asub (i : Nat) {x : Str} (hN : X.N.Nodup) (h : CE X np e te fe) (hi : X.N[i]? = some x := by rfl) (hx : Loc X.env.scope x := by first | exact Or.inl rfl | exact Or.inr rfl) (hf : X.fn x = true ∨ X.env.scope.names.lookup x = some .local := by first | exact .inl rfl | exact .inr rfl) :
    CS X np (.AugAssign (.Name x pos') .Sub e pos) (tAug i te rrSub) (saug np i gSub fe) := ⟨ps_aug hN hi hx h.p (ip_of iop_sub) hf, ss_aug h.s o_sub⟩
/-! loops -/
theorem cs_for {wi : TI} {fi : DS → Option (List D × DS)} {ws : List Nat} {gg : TG} {ff : D → DS → Option DS} (hp : PassesOwn (model X.prog X.w) X.A X.env X.xe) (h : CI X np tg iter wi fi) (hg : CG X np tg ws gg ff) (hb : CB X np body t f) (hc : X.calm = true := by rfl)
    (hs : ∀ x, foldedSetIterable iter X.env x = pure x := by intro _; rfl) : CS X np (.For tg iter body [] pos) (tFor wi gg t) (sfor fi ff f) := ⟨ps_for hp hc h.p hg.p hb.p hs, ss_for h.s hg.s hb.s⟩
theorem cs_while (n : Nat) (hp : PassesOwn (model X.prog X.w) X.A X.env X.xe) (h : CT X np c tA gA) (hb : CB X np body t f) : CS X np (.While c body [] pos) (tWhile tA t) (whL gA f n) := ⟨ps_while hp h.p hb.p, ss_while n h.s hb.s⟩
/-! x.append(e), x.extend(e), x[i] = e -/
section
variable {apos cpos : Pos} {x : Str} (hbase : attributeBase a "append" X.env (eval a X.env) = eval a X.env)
theorem cs_app (i : Nat) (ho : CE X np a (tVar i) fa) (h : CE X np b te fe) (hbase : attributeBase a "append" X.env (eval a X.env) = eval a X.env := by rfl)
    (hfew : ((backTo cpos (starEach [b] X.env)).all (fun x => !x.1) && (backToKw cpos (keywordEach [] X.env)).all (fun x => x.1.isSome) && decide ([b].length + ([] : List Keyword).length + (if ([] : List Keyword).isEmpty then 0 else 1) < 30)) = true := by rfl)
    (hline : (apos.endLine == cpos.line) = true := by rfl) (hs : starEach [b] X.env = (false, eval b X.env) :: starEach [] X.env := by rfl) (hplain : (backTo cpos (starEach [] X.env)).any (·.1) = false := by rfl) (hsw : swapsWith (.Call (.Attribute a "append" apos) [b] [] cpos) none pos.line X.env = pure false := by rfl) :
    CS X np (.Expr (.Call (.Attribute a "append" apos) [b] [] cpos) pos) (tDrop (tBM X.K "list" rAppend (tVar i) (tCons te tNil))) (sapp np i fe) :=
  ⟨ps_expr (pe_bm PySem.F.plainAttrs_list PySem.F.slot_list_append PySem.F.type_list_append mt_append ho.p (pa_cons h.p pa_nil hs) hbase hfew hline hs hplain) hsw, ss_app h.s⟩
theorem cs_ext (i : Nat) (ho : CE X np a (tVar i) fa) (h : CE X np b te fe) (hbase : attributeBase a "extend" X.env (eval a X.env) = eval a X.env := by rfl)
    (hfew : ((backTo cpos (starEach [b] X.env)).all (fun x => !x.1) && (backToKw cpos (keywordEach [] X.env)).all (fun x => x.1.isSome) && decide ([b].length + ([] : List Keyword).length + (if ([] : List Keyword).isEmpty then 0 else 1) < 30)) = true := by rfl)
    (hline : (apos.endLine == cpos.line) = true := by rfl) (hs : starEach [b] X.env = (false, eval b X.env) :: starEach [] X.env := by rfl) (hplain : (backTo cpos (starEach [] X.env)).any (·.1) = false := by rfl) (hsw : swapsWith (.Call (.Attribute a "extend" apos) [b] [] cpos) none pos.line X.env = pure false := by rfl) :
    CS X np (.Expr (.Call (.Attribute a "extend" apos) [b] [] cpos) pos) (tDrop (tBM X.K "list" rExtend (tVar i) (tCons te tNil))) (sext np i fe) :=
  ⟨ps_expr (pe_bm PySem.F.plainAttrs_list PySem.F.slot_list_extend PySem.F.type_list_extend mt_extend ho.p (pa_cons h.p pa_nil hs) hbase hfew hline hs hplain) hsw, ss_ext h.s⟩
end
def sput (np i : Nat) (k : Int) (a : XM) : SM := fun s => (a s).bind fun p => (fz np p.2 p.1).bind fun q => (match q.2[i]? with | some (.own xs) => some xs | _ => none).bind fun xs => (ixN xs.length k).bind fun j => some (.nx, q.2.set i (.own (xs.set j q.1)))
theorem ss_put {k : Int} (h : SE np te fe) : SS np (tAsg te (L2.gSub (tVar i) (tC (.int k)) rSetL)) (sput np i k fe) := fun I H σ s o s' D S e gl => by
  obtain ⟨⟨r, s1⟩, e1, e⟩ := bind_eq e
  obtain ⟨⟨d, s2⟩, e2, e⟩ := bind_eq e
  obtain ⟨xs, e3, e⟩ := bind_eq e
  obtain ⟨j, e4, e⟩ := bind_eq e
  cases e
  refine h I H σ s r s1 _ S e1 fun I1 H1 v A1 r1 => ?_
  obtain ⟨I2, A2, q2, _⟩ := fz_ok A1 r1 e2
  have hx : s2[i]? = some (.own xs) := by
    dsimp only at e3
    split at e3
    · rename_i w q
      cases e3
      exact q
    · cases e3
  obtain ⟨a, vs, g1, g2, g3, g4⟩ := A2.sr.own i xs hx
  refine ⟨.ref a, g1, a, vs, k, j, rfl, rfl, g3, by rw [g4.len]; exact e4, ?_⟩
  exact gl I2 _ σ (own_write A2 hx g1 (g4.set j q2))
theorem cs_put (i : Nat) {k : Int} {k1 : Nat} (ho : CE X np a (tVar i) fa) (h : CE X np e te fe) (hs : swapsWithSole [.Subscript a (.Constant (.int k) k1 p1) pos'] e pos.line X.env = pure false := by rfl) (hw : swappedStores [.Subscript a (.Constant (.int k) k1 p1) pos'] e X.env = pure none := by rfl) :
    CS X np (.Assign [.Subscript a (.Constant (.int k) k1 p1) pos'] e pos) (tAsg te (L2.gSub (tVar i) (tC (.int k)) rSetL)) (sput np i k fe) := ⟨ps_asg h.p (pg_sub ho.p pe_int set_list) hs hw, ss_put h.s⟩
/-! comprehensions -/
section
variable {ifs : List Expr} {scope : Scope} {own : List (Str × Nat)} {wi : TI} {fi : DS → Option (List D × DS)} {ws : List Nat} {gg : TG} {ff : D → DS → Option DS} {tt : TT} {ft : TM}
structure CTs (X : Cx) (np : Nat) (es : List Expr) (t : TT) (f : TM) : Prop where
  p : PTs X es t
  s : ST np t f
theorem cts_nil : CTs X np [] tYes tyes := ⟨pts_nil, st_yes⟩
theorem cts_one (h : CT X np c tA gA) : CTs X np [c] tA gA := ⟨pts_one h.p, h.s⟩
theorem ce_lc (own : List (Str × Nat)) (hN : X.N.Nodup) (h : CI X np tg iter wi fi) (ok : BlkOk X.N X.env.scope scope own)
    (hg : ∀ (s : Shared) (H : Hp) (C : Addr) (cl : List (Str × Addr)) (fp : List Addr), CG (X.blk s H scope (compEnvC scope cl C X.env) fp) np tg ws gg ff) (ht : ∀ (s : Shared) (H : Hp) (C : Addr) (cl : List (Str × Addr)) (fp : List Addr), CTs (X.blk s H scope (compEnvC scope cl C X.env) fp) np ifs tt ft)
    (he : ∀ (s : Shared) (H : Hp) (C : Addr) (cl : List (Str × Addr)) (fp : List Addr), CE (X.blk s H scope (compEnvC scope cl C X.env) fp) np e te fe) (hw : ws.all (fun j => (own.map (·.2)).contains j) = true := by rfl) (hv : (own.map (·.2)).all (fun j => decide (np ≤ j)) = true := by rfl)
    (hc : X.calm = true := by rfl) (hs : ∀ x, foldedSetIterable iter X.env x = pure x := by intro _; rfl) : CE X np (.ListComp e [⟨tg, iter, ifs, 0⟩] scope pos) (tLc wi gg tt te (own.map (·.2))) (xcmp np fi ff ft fe (own.map (·.2))) :=
  ⟨pe_lc hc hN h.p ok (fun s H C cl fp => (hg s H C cl fp).p) (fun s H C cl fp => (ht s H C cl fp).p) (fun s H C cl fp => (he s H C cl fp).p) hs,
    se_cmp h.s (hg X.s_0 X.H_0 0 [] []).s (ht X.s_0 X.H_0 0 [] []).s (he X.s_0 X.H_0 0 [] []).s (fun j hj => by simpa using List.all_eq_true.mp hw j hj) (fun v hv' => by simpa using List.all_eq_true.mp hv v hv')⟩
theorem cs_lc (i : Nat) (own : List (Str × Nat)) {y : Str} {py spos : Pos} (hN : X.N.Nodup) (h : CI X np tg iter wi fi) (ok : BlkOk X.N X.env.scope scope own) (hsw : swapsWith (.ListComp e [⟨tg, iter, ifs, 0⟩] scope pos) (some (.Name y py)) spos.line X.env = pure true)
    (hg : ∀ (s : Shared) (H : Hp) (C : Addr) (cl : List (Str × Addr)) (fp : List Addr), CG (X.blk s H scope (compEnvC scope cl C X.env) fp) np tg ws gg ff) (ht : ∀ (s : Shared) (H : Hp) (C : Addr) (cl : List (Str × Addr)) (fp : List Addr), CTs (X.blk s H scope (compEnvC scope cl C X.env) fp) np ifs tt ft)
    (he : ∀ (s : Shared) (H : Hp) (C : Addr) (cl : List (Str × Addr)) (fp : List Addr), CE (X.blk s H scope (compEnvC scope cl C X.env) fp) np e te fe) (hy : X.N[i]? = some y := by rfl) (hyl : X.env.scope.names.lookup y = some .local := by rfl) (hw : ws.all (fun j => (own.map (·.2)).contains j) = true := by rfl)
    (hv : (own.map (·.2)).all (fun j => decide (np ≤ j)) = true := by rfl) (hc : X.calm = true := by rfl) (hs : ∀ x, foldedSetIterable iter X.env x = pure x := by intro _; rfl) :
    CS X np (.Assign [.Name y py] (.ListComp e [⟨tg, iter, ifs, 0⟩] scope pos) spos) (tAsg (tLc wi gg tt te (own.map (·.2))) (gName i)) (sasg np i (xcmp np fi ff ft fe (own.map (·.2)))) :=
  ⟨ps_setLc hc hN hy hyl hsw h.p ok (fun s H C cl fp => (hg s H C cl fp).p) (fun s H C cl fp => (ht s H C cl fp).p) (fun s H C cl fp => (he s H C cl fp).p) hs,
    ss_asg (se_cmp h.s (hg X.s_0 X.H_0 0 [] []).s (ht X.s_0 X.H_0 0 [] []).s (he X.s_0 X.H_0 0 [] []).s (fun j hj => by simpa using List.all_eq_true.mp hw j hj) (fun v hv' => by simpa using List.all_eq_true.mp hv v hv'))⟩
end
end
/-! ### the run of a def -/
def outs : DS → DS → DS
  | .own _ :: r, o :: os => o :: outs r os
  | z :: r, _ :: os => z :: outs r os
  | r, [] => r
  | [], _ => []
def run (np n : Nat) (body : SM) : FM := fun as => if as.length = np ∧ np ≤ n then (body (as ++ List.replicate (n - np) .no)).bind fun p => match p.1 with
  | .rt r => some (r, outs as p.2)
  | .nx => some (.d .none, outs as p.2)
  | _ => none
  else none
theorem outs_len : ∀ (a s : DS), (outs a s).length = a.length
  | [], [] => rfl
  | [], _ :: _ => rfl
  | .own _ :: r, [] => rfl
  | .dat _ :: r, [] => rfl
  | .no :: r, [] => rfl
  | .own _ :: r, o :: os => congrArg (· + 1) (outs_len r os)
  | .dat _ :: r, o :: os => congrArg (· + 1) (outs_len r os)
  | .no :: r, o :: os => congrArg (· + 1) (outs_len r os)
theorem outs_get : ∀ (a s : DS) (i : Nat) (z : Slot), a[i]? = some z → (outs a s)[i]? = match z, s[i]? with
    | .own _, some o => some o
    | z, _ => some z
  | [], _, i, z, h => by simp at h
  | .own xs :: r, [], i, z, h => by
    show (Slot.own xs :: r)[i]? = _
    rw [h]
    cases z <;> simp
  | .dat d :: r, [], i, z, h => by
    show (Slot.dat d :: r)[i]? = _
    rw [h]
    cases z <;> simp
  | .no :: r, [], i, z, h => by
    show (Slot.no :: r)[i]? = _
    rw [h]
    cases z <;> simp
  | .own xs :: r, o :: os, i, z, h => by
    cases i with
    | zero => cases h; rfl
    | succ i => simpa [outs] using outs_get r os i z (by simpa using h)
  | .dat d :: r, o :: os, i, z, h => by
    cases i with
    | zero => cases h; rfl
    | succ i => simpa [outs] using outs_get r os i z (by simpa using h)
  | .no :: r, o :: os, i, z, h => by
    cases i with
    | zero => cases h; rfl
    | succ i => simpa [outs] using outs_get r os i z (by simpa using h)
theorem start_get {N : List Str} {vs : List V} {i : Nat} (h : i < vs.length) : (L2.start N vs)[i]? = (vs.map some)[i]? := by
  unfold L2.start
  rw [List.getElem?_append_left (by rw [List.length_map]; exact h)]
theorem start_out {N : List Str} {vs : List V} {i : Nat} {v : V} (h : ¬ i < vs.length) : (L2.start N vs)[i]? ≠ some (some v) := by
  unfold L2.start
  rw [List.getElem?_append_right (by rw [List.length_map]; omega), List.getElem?_replicate]
  split <;> exact fun z => by cases z
theorem run_ok {np : Nat} {N : List Str} {t : TS} {body : SM} (hb : SS np t body) {vs : List V} {H : Hp} {Q : VK} {E : XK} (hs : spOf (run np N.length body) vs H Q E) : t { nx := fun _ H' => Q .non H', rt := Q } (L2.start N vs) H := by
  obtain ⟨I, as, r, os, S, e, k⟩ := hs
  unfold run at e
  by_cases hl : as.length = np ∧ np ≤ N.length
  · rw [if_pos hl] at e
    obtain ⟨⟨o, s1⟩, e1, e⟩ := bind_eq e
    have lv : vs.length = np := by rw [← hl.1, S.len, List.length_map]
    have ag : ∀ i, i < np → (as ++ List.replicate (N.length - np) Slot.no)[i]? = as[i]? := fun i hi => List.getElem?_append_left (by rw [hl.1]; exact hi)
    have ao : ∀ (i : Nat) (z : Slot), (as ++ List.replicate (N.length - np) Slot.no)[i]? = some z → z ≠ .no → i < np ∧ as[i]? = some z := fun i z h hz => by
      by_cases hi : i < np
      · rw [ag i hi] at h; exact ⟨hi, h⟩
      · rw [List.getElem?_append_right (by omega), List.getElem?_replicate] at h
        split at h
        · cases h; exact absurd rfl hz
        · cases h
    have sg : ∀ i, i < np → (L2.start N vs)[i]? = (vs.map some)[i]? := fun i hi => start_get (by rw [lv]; exact hi)
    have S1 : SR I H (L2.start N vs) (as ++ List.replicate (N.length - np) .no) := by
      refine ⟨S.ext, ?_, fun i d h => ?_, fun i xs h => ?_, fun i j xs ys a h1 h2 h3 h4 => ?_⟩
      · unfold L2.start
        rw [List.length_append, List.length_append, List.length_map, List.length_replicate, List.length_replicate, hl.1, lv]
      · obtain ⟨hi, g⟩ := ao i _ h (fun z => nomatch z)
        rw [sg i hi]
        exact S.dat i d g
      · obtain ⟨hi, g⟩ := ao i _ h (fun z => nomatch z)
        rw [sg i hi]
        exact S.own i xs g
      · obtain ⟨hi, g1⟩ := ao i _ h1 (fun z => nomatch z)
        obtain ⟨hj, g2⟩ := ao j _ h2 (fun z => nomatch z)
        rw [sg _ hi] at h3
        rw [sg _ hj] at h4
        exact S.dis i j xs ys a g1 g2 h3 h4
    have ow1 : ∀ a, Owned (L2.start N vs) (as ++ List.replicate (N.length - np) .no) a → Owned (vs.map some) as a := fun a ⟨i, xs, h1, h2⟩ => by
      obtain ⟨hi, g⟩ := ao i _ h1 (fun z => nomatch z)
      rw [sg i hi] at h2
      exact ⟨i, xs, g, h2⟩
    -- at the end: the lent lists as the body left them
    have fin : ∀ {I' H' : Hp} {σ' : L2.St}, Stp np I H (L2.start N vs) (as ++ List.replicate (N.length - np) .no) I' H' σ' s1 → Stp as.length I H (vs.map some) as I' H' (vs.map some) (outs as s1) ∧
        ∀ a, Owned (vs.map some) (outs as s1) a → ∃ (i : Nat) (ys : List D), i < np ∧ s1[i]? = some (.own ys) ∧ σ'[i]? = some (some (.ref a)) := fun {I' H' σ'} B => by
      have og : ∀ (i : Nat) (ys : List D), (outs as s1)[i]? = some (.own ys) → i < np ∧ (∃ xs, as[i]? = some (.own xs)) ∧ s1[i]? = some (.own ys) ∧ σ'[i]? = (vs.map some)[i]? := fun i ys h => by
        have hi : i < np := by
          have := (List.getElem?_eq_some_iff.mp h).1
          rw [outs_len, hl.1] at this
          exact this
        obtain ⟨z, hz⟩ : ∃ z, as[i]? = some z := ⟨_, List.getElem?_eq_getElem (by rw [hl.1]; exact hi)⟩
        rw [outs_get as s1 i z hz] at h
        cases z with
        | no => cases h
        | dat d => cases h
        | own xs =>
          obtain ⟨q1, zs, q2⟩ := B.pr i hi xs (by rw [ag i hi]; exact hz)
          rw [q2] at h
          cases h
          exact ⟨hi, ⟨xs, hz⟩, q2, q1.trans (sg i hi)⟩
      have ow : ∀ a, Owned (vs.map some) (outs as s1) a → Owned (vs.map some) as a := fun a ⟨i, ys, h1, h2⟩ => by
        obtain ⟨_, ⟨xs, g⟩, _, _⟩ := og i ys h1
        exact ⟨i, xs, g, h2⟩
      refine ⟨⟨B.ie, ⟨B.sr.ext, by rw [outs_len, List.length_map, hl.1, lv], fun i d h => ?_, fun i ys h => ?_, fun i j xs ys a h1 h2 h3 h4 => ?_⟩, fun a h1 h2 h3 => B.fr a h1 h2 fun z => h3 (ow1 a z), fun a h => .inl (ow a h), fun a o h1 h2 => B.kp a o h1 fun z => h2 (ow1 a z), B.nn, fun i hi xs h => ⟨rfl, ?_⟩⟩, fun a ⟨i, ys, h1, h2⟩ => ?_⟩
      · have hi : i < np := by
          have := (List.getElem?_eq_some_iff.mp h).1
          rw [outs_len, hl.1] at this
          exact this
        obtain ⟨z, hz⟩ : ∃ z, as[i]? = some z := ⟨_, List.getElem?_eq_getElem (by rw [hl.1]; exact hi)⟩
        rw [outs_get as s1 i z hz] at h
        cases z with
        | no => cases h
        | dat d' =>
          cases h
          obtain ⟨v, q1, q2⟩ := S.dat i _ hz
          exact ⟨v, q1, q2.mono B.ie⟩
        | own xs =>
          obtain ⟨q1, zs, q2⟩ := B.pr i hi xs (by rw [ag i hi]; exact hz)
          rw [q2] at h
          cases h
      · obtain ⟨hi, _, g1, g2⟩ := og i ys h
        rw [← g2]
        exact B.sr.own i ys g1
      · obtain ⟨_, ⟨_, g1⟩, _⟩ := og i xs h1
        obtain ⟨_, ⟨_, g2⟩, _⟩ := og j ys h2
        exact S.dis i j _ _ a g1 g2 h3 h4
      · obtain ⟨_, zs, q2⟩ := B.pr i (by rw [← hl.1]; exact hi) xs (by rw [ag i (by rw [← hl.1]; exact hi)]; exact h)
        refine ⟨zs, ?_⟩
        rw [outs_get as s1 i _ h, q2]
      · obtain ⟨hi, _, g1, g2⟩ := og i ys h1
        exact ⟨i, ys, hi, g1, by rw [g2]; exact h2⟩
    refine hb I H _ _ o s1 _ S1 e1 ?_
    cases o with
    | nx =>
      cases e
      exact fun I' H' σ' B => k I' H' .non (fin B).1 .non
    | bk => cases e
    | ct => cases e
    | rt r' =>
      cases e
      refine fun I' H' σ' v B h => k I' H' v (fin B).1 ?_
      cases r with
      | d x => exact h
      | t xs =>
        obtain ⟨p, ws, rfl, h0, h1, h2, h3, h4⟩ := h
        have no : ¬ Owned (vs.map some) (outs as s1) p := fun z => by
          obtain ⟨i, ys, hi, g1, g2⟩ := (fin B).2 p z
          exact h2 i hi ys g1 g2
        refine ⟨p, ws, rfl, ?_, h1, no, h3, h4⟩
        rcases h0 with h0 | h0
        · -- a lent list is never handed back
          obtain ⟨i, xs, g1, g2⟩ := ow1 p h0
          have hi : i < np := by
            have := (List.getElem?_eq_some_iff.mp g1).1
            rw [hl.1] at this
            exact this
          obtain ⟨q1, zs, q2⟩ := B.pr i hi xs (by rw [ag i hi]; exact g1)
          exact absurd (q1.trans ((sg i hi).trans g2)) (h2 i hi zs q2)
        · exact h0
  · rw [if_neg hl] at e; cases e
theorem run_len {np n : Nat} {body : SM} {vs : List V} {H : Hp} {Q : VK} {E : XK} (hs : spOf (run np n body) vs H Q E) : vs.length = np := by
  obtain ⟨I, as, r, os, S, e, k⟩ := hs
  unfold run at e
  by_cases hl : as.length = np ∧ np ≤ n
  · rw [← hl.1, S.len, List.length_map]
  · rw [if_neg hl] at e; cases e
section
variable {P : Program} {w : World} {K : PySem.W.Frag} {mg : Str → Option Value} {base : Heap}
/-- a def of the text keeps the promise of its body's run -/
theorem fn_ok {x qual : Str} {st : Stmt} {f : Addr} {fd : FuncData} {N ps : List Str} {k : Nat} {body : SM} (F : L2.Fun K x qual st f fd) (S : FnScope N ps (defScope st))
    (hb : ∀ (cdv : Value) (A : Around) (outer : List Env) (s : Shared) (H : Hp) (E : XK), Room k (A.deeper (PyProof.Rows.envOfC qual (defScope st) s.heap.objs.size f cdv)) →
      ∃ t, CB (cxOf L2.CX0 P w K mg base N qual (defScope st) f cdv A outer s H E).nox ps.length (defBody st) t body) : FnOk P w K mg base L2.CX0 (k + 1) f fd ps (spOf (run ps.length N.length body)) :=
  F.ok S (fun vs H Q E h => run_len h) fun cdv A outer s H vs Q E hr h => by
    obtain ⟨t, c⟩ := hb cdv A outer s H E hr
    exact ⟨t, c.p, run_ok c.s h⟩
end
end Z
end
section
set_option maxRecDepth 100000
set_option maxHeartbeats 1000000
/-! Z9: powers of great numbers, sorted(set(..)), calls by keywords. -/
namespace Z
open PySem PySem.Spec L2
def gPowW : D → D → Option R
  | .int i, .int j => if 0 ≤ j ∧ j ≤ 1000 ∧ i.natAbs.log2 ≤ 10000 then some (.d (.int (i ^ j.toNat))) else none
  | _, _ => none
abbrev rrPowW : R2 := rI (fun i j => 0 ≤ j ∧ j ≤ 1000 ∧ i.natAbs.log2 ≤ 10000) fun i j => .int (i ^ j.toNat)
theorem op_powW {X : Cx} : OpR X (binaryOp .Pow) rrPowW := opI fun i j _ _ _ _ _ hc q => by
  obtain ⟨h1, h2, h3⟩ := hc
  refine PyProof.Rows.pow_int h1 ?_ q
  have b : Builtin.Int.intBits i ≤ i.natAbs.log2 + 1 := by
    unfold Builtin.Int.intBits
    split <;> omega
  have c : (Builtin.Int.intBits i : Int) ≤ 10001 := by omega
  have d : (Builtin.Int.intBits i : Int) * j ≤ 10001 * 1000 := Int.mul_le_mul c h2 h1 (by decide)
  have e : (2 : Int) ^ 27 = 134217728 := by decide
  omega
theorem o_powW : Op2 rrPowW gPowW := fun I H x y dx dy z Q ex h1 h2 e k => by
  cases dx <;> cases dy <;> first | (cases e; done) | skip
  rename_i i j
  dsimp only [gPowW] at e
  by_cases hl : 0 ≤ j ∧ j ≤ 1000 ∧ i.natAbs.log2 ≤ 10000
  · rw [if_pos hl] at e
    cases e
    cases rd_int h1
    cases rd_int h2
    exact ⟨_, _, rfl, rfl, hl, k I H _ (Al.refl ex) (rz_int _)⟩
  · rw [if_neg hl] at e; cases e
def dd : List Int → List Int
  | [] => []
  | x :: r => if (dd r).contains x = true then dd r else x :: dd r
theorem dd_mem {k : Int} : ∀ {ns : List Int}, k ∈ dd ns ↔ k ∈ ns
  | [] => Iff.rfl
  | x :: r => by
    have ih := dd_mem (k := k) (ns := r)
    unfold dd
    by_cases h : (dd r).contains x = true
    · rw [if_pos h, ih, List.mem_cons]
      have hx : x ∈ r := dd_mem.mp (List.contains_iff_mem.mp h)
      exact ⟨.inr, fun z => z.elim (fun e => e ▸ hx) id⟩
    · rw [if_neg h, List.mem_cons, List.mem_cons, ih]
theorem dd_nodup : ∀ ns : List Int, (dd ns).Nodup
  | [] => List.nodup_nil
  | x :: r => by
    unfold dd
    by_cases h : (dd r).contains x = true
    · rw [if_pos h]
      exact dd_nodup r
    · rw [if_neg h]
      exact List.nodup_cons.mpr ⟨fun z => h (List.contains_iff_mem.mpr z), dd_nodup r⟩
theorem ins_mem {k x : Int} : ∀ {ns : List Int}, k ∈ insI x ns ↔ k = x ∨ k ∈ ns
  | [] => by unfold insI; simp
  | y :: r => by
    unfold insI
    by_cases h : x ≤ y
    · rw [if_pos h, List.mem_cons]
    · rw [if_neg h, List.mem_cons, ins_mem, List.mem_cons]
      exact ⟨fun z => z.elim (.inr ∘ .inl) fun z => z.elim .inl (.inr ∘ .inr), fun z => z.elim (.inr ∘ .inl) fun z => z.elim .inl (.inr ∘ .inr)⟩
theorem srt_mem {k : Int} : ∀ {ns : List Int}, k ∈ srtI ns ↔ k ∈ ns
  | [] => Iff.rfl
  | x :: r => by
    unfold srtI
    rw [ins_mem, srt_mem, List.mem_cons]
theorem ins_lt {x : Int} : ∀ {ns : List Int}, ns.Pairwise (· < ·) → x ∉ ns → (insI x ns).Pairwise (· < ·)
  | [], _, _ => by unfold insI; exact List.pairwise_singleton _ _
  | y :: r, h, hx => by
    obtain ⟨h1, h2⟩ := List.pairwise_cons.mp h
    have ne : x ≠ y := fun e => hx (e ▸ List.mem_cons_self ..)
    unfold insI
    by_cases hl : x ≤ y
    · rw [if_pos hl]
      refine List.pairwise_cons.mpr ⟨fun z hz => ?_, h⟩
      rcases List.mem_cons.mp hz with rfl | hz
      · omega
      · have := h1 z hz
        omega
    · rw [if_neg hl]
      refine List.pairwise_cons.mpr ⟨fun z hz => ?_, ins_lt h2 fun q => hx (List.mem_cons_of_mem _ q)⟩
      rcases ins_mem.mp hz with rfl | hz
      · omega
      · exact h1 z hz
theorem srt_lt : ∀ ns : List Int, ns.Nodup → (srtI ns).Pairwise (· < ·)
  | [], _ => List.Pairwise.nil
  | x :: r, h => by
    obtain ⟨h1, h2⟩ := List.nodup_cons.mp h
    unfold srtI
    exact ins_lt (srt_lt r h2) fun z => h1 (srt_mem.mp z)
theorem lt_nodup {ns : List Int} (h : ns.Pairwise (· < ·)) : ns.Nodup := h.imp fun z => by omega
theorem srt_nodup (ns : List Int) (h : ns.Nodup) : (srtI ns).Nodup := lt_nodup (srt_lt ns h)
theorem lt_unique : ∀ {xs ys : List Int}, xs.Pairwise (· < ·) → ys.Pairwise (· < ·) → (∀ k, k ∈ xs ↔ k ∈ ys) → xs = ys
  | [], [], _, _, _ => rfl
  | [], y :: _, _, _, h => absurd ((h y).mpr (List.mem_cons_self ..)) (by simp)
  | x :: _, [], _, _, h => absurd ((h x).mp (List.mem_cons_self ..)) (by simp)
  | x :: xs, y :: ys, hx, hy, h => by
    obtain ⟨x1, x2⟩ := List.pairwise_cons.mp hx
    obtain ⟨y1, y2⟩ := List.pairwise_cons.mp hy
    have e : x = y := by
      rcases List.mem_cons.mp ((h x).mp (List.mem_cons_self ..)) with q | q
      · exact q
      · rcases List.mem_cons.mp ((h y).mpr (List.mem_cons_self ..)) with w | w
        · exact w.symm
        · have := y1 x q
          have := x1 y w
          omega
    subst e
    rw [lt_unique x2 y2 fun k => ⟨fun z => ?_, fun z => ?_⟩]
    · rcases List.mem_cons.mp ((h k).mp (List.mem_cons_of_mem _ z)) with q | q
      · have := x1 k z
        omega
      · exact q
    · rcases List.mem_cons.mp ((h k).mpr (List.mem_cons_of_mem _ z)) with q | q
      · have := y1 k z
        omega
      · exact q
/-! ### set(xs) of a list of ints -/
section
open PyProof.Rows
abbrev emptySet (w : World) : Obj := { cls := .type "set", dict := none, data := .set #[] 0 (.fresh 0 0 (!w.params.followText "set-order")) }
theorem set_of_list {P : Program} {w : World} {A : Around} {E : Value → Shared → Prop} {s : Shared} {l : Addr} {its : Array Value} (ns : List Int) {Q : Value → Shared → Prop} (calm : A.handled = none) (pl : s.heap.IsList l its) (are : IntsAre its.toList ns) (few : ns.length + 1 < scanBound)
    (goal : ∀ (h2 : Heap) (tk c : Nat), SetR w h2 s.heap.objs.size (fun j => decide (j ∈ ns)) c → c ≤ ns.length → (∀ b o, s.heap.get? b = some o → h2.get? b = some o) → Q (.ref s.heap.objs.size) { s with heap := h2, toks := tk }) : wpAny (model P w) A (call (.type "set") [.ref l]) Q E s := by
  have size_is : its.size = ns.length := by rw [← Array.length_toList]; exact IntsAre.length are
  obtain ⟨_, _, hmro⟩ := F.called_set.mro
  have hmade := F.called_set.made; have hsub := F.called_set.sub
  refine wpAny_call (codeAny_of_tree (?_ : wpAny _ _ (callAny (.type "set") _) _ _ _))
  refine wpAny_pure ⟨Code.quiet_builtin (_) (by decide +kernel), codeAny_builtin F.entry_type_call ?_⟩
  rw [Around.under_plain (weight_type_call_type "set" [Value.ref l] []) rfl]
  have c1 := F.called_set.notType; have c2 := F.called_set.canCreate; have c3 := F.typeCall_set_1 (Value.ref l)
  repeat' (first | assumption | wp_step)
  let z1 : Shared := { s with heap := s.heap.push (emptySet w) }
  let S := s.heap.objs.size
  have at1 : z1.heap.get? S = some (emptySet w) := Heap.get?_push_size _ rfl
  have kept1 : ∀ b o, s.heap.get? b = some o → z1.heap.get? b = some o := fun _ _ q => Heap.get?_push_of_some _ q
  refine codeAny_mono (code_set_led1 (Value.ref l) (E := E) (Q₁ := fun v z => v = .ref S ∧ z = z1) ⟨rfl, rfl⟩) fun res z hz => ?_
  match res, hz with
  | .error _, hz => exact hz
  | .ok .next, hz => exact hz.elim
  | .ok .brk, hz => exact hz.elim
  | .ok .cont, hz => exact hz.elim
  | .ok (.ret v), ⟨ev, ez⟩ =>
  subst ev
  subst ez
  have isSet : z1.TypeIs (.ref S) "set" := ⟨_, at1, rfl⟩
  have init1 := F.called_set.init.lookup; have init2 := F.called_set.init.bind (.ref S)
  repeat' (first | assumption | wp_step)
  refine codeAny_mono (codeAny_call_builtin (R := wants (fun v z => v = Value.none ∧ ∃ h2 tk c, z = { s with heap := h2, toks := tk } ∧ SetR w h2 S (fun j => decide (j ∈ ns)) c ∧ c ≤ ns.length ∧ ∀ b o, s.heap.get? b = some o → h2.get? b = some o) E)
    F.called_set.init.plain F.entry_set_init (check_set_init_1 isSet ?_)) fun res z hz => ?_
  · -- the walk over the list
    have lt0 : l < s.heap.objs.size := by obtain ⟨_, q, _⟩ := pl; exact Heap.lt_size q
    have size1 : z1.heap.objs.size = s.heap.objs.size + 1 := Heap.size_push ..
    obtain ⟨⟨k1, k2, k3, k4⟩, g0, rfl, n0, rfl⟩ := pl
    have g1 := kept1 l _ g0
    have pl1 : z1.heap.IsList l its := ⟨_, g1, rfl, n0, rfl⟩
    have no1 := F.sub_list_set; have no2 := F.sub_list_frozenset; have no3 : (Value.type "list" == Value.type "dict") = false := by decide
    unfold Builtin.«set.__init__» noKeywords Builtin.Frozenset.updateFrom
    generalize keep : pyIter = it
    wp_walk
    subst keep
    refine wpAny_pyIter_list pl1 (wpAny_bind (wpAny_runValue ?_))
    have at2 := Heap.get?_push_of_some { cls := .type "list_iterator", data := .fields #[.ref l, .int 0 0] } at1
    have nI : l ≠ z1.heap.objs.size := size1 ▸ Nat.ne_of_lt (Nat.lt_succ_of_lt lt0)
    have nS : S ∉ [z1.heap.objs.size, l] := by
      rw [size1]
      intro q
      rcases List.mem_cons.mp q with q | q
      · exact Nat.ne_of_lt (Nat.lt_succ_self s.heap.objs.size) q
      · exact Nat.ne_of_gt lt0 (List.mem_singleton.mp q)
    have are1 : ∀ (i : Nat) (v : Value), its[i]? = some v → ∃ k t, ns[i]? = some k ∧ v = .int k t := fun i v hv => by
      obtain ⟨hi, _⟩ := Array.getElem?_eq_some_iff.mp hv
      have hi2 : i < ns.length := by omega
      obtain ⟨t, q⟩ := PyProof.Rows.IntsAre.int_at are i v (by rw [Array.getElem?_toList]; exact hv)
      rw [List.getD_eq_getElem?_getD, List.getElem?_eq_getElem hi2] at q
      exact ⟨ns[i], t, List.getElem?_eq_getElem hi2, q⟩
    refine set_update_ints ((Walks.list (by simp [calm]) _ l nI its).toS) S nS ns size_is few are1 (its.size - 0) 0 _ (by omega) (Nat.zero_le _) ⟨⟨_, Heap.get?_push_size _ rfl, rfl, rfl⟩, pl1.push _⟩ ⟨0, Nat.le_refl 0, setR_new_at at2⟩ fun z c mv hc R => ?_
    obtain ⟨h2, g2, d2, tk, os⟩ := z
    cases (show g2 = s.gens from mv.gens)
    cases (show d2 = s.drawn from mv.drawn)
    cases (show os = s.os from mv.os)
    show wpAny _ _ _ _ _ _
    refine wpAny_pure ?_
    show wpAny _ _ (ret Value.none) _ _ { s with heap := h2, toks := tk }
    refine wpAny_pure ⟨rfl, h2, tk, c, rfl, R, size_is ▸ hc, fun b o q => ?_⟩
    have lt1 : b < s.heap.objs.size := Heap.lt_size q
    refine mv.heap b o (fun q2 => ?_) (Heap.get?_push_of_some _ (kept1 b o q))
    rcases List.mem_cons.mp q2 with q2 | q2
    · exact Nat.ne_of_lt lt1 q2
    · exact Nat.ne_of_lt (Nat.lt_succ_of_lt lt1) ((List.mem_singleton.mp q2).trans size1)
  · match res, hz with
    | .error _, hz => exact hz
    | .ok .next, hz => exact hz.elim
    | .ok .brk, hz => exact hz.elim
    | .ok .cont, hz => exact hz.elim
    | .ok (.ret v), ⟨ev, h2, tk, c, ez, R, hc, k⟩ =>
    subst ev
    subst ez
    repeat' (first | assumption | wp_step)
    exact goal h2 tk c R hc k
end
def gSrtSet (d : D) : Option R := (itemsD d).bind fun ds => (intsOf ds).bind fun ns => if ns.length ≤ 4000 ∧ (srtI (dd ns)).length < 64 then some (.t ((srtI (dd ns)).map PyData.int)) else none
def tSrtSet (K : PySem.W.Frag) (te : TE) : TE := fun σ H Q => te σ H fun x H1 => ∃ p ns, x = .ref p ∧ (SqL K H1 p (ns.map V.int) ∨ SqT K H1 p (ns.map V.int)) ∧ ns.length ≤ 4000 ∧ (srtI (dd ns)).length < 64 ∧ ∀ q, H1 q = none → Q (.ref q) (upd H1 q (.lst ((srtI (dd ns)).map V.int)))
section
variable {X : Cx} {np j k : Nat} {a b c e : Expr} {es : List Expr} {ta tb' te : TE} {fa fb fe : XM} {pos p p1 p2 p3 pos' : Pos}
theorem ce_powW (ha : CE X np a ta fa) (hb : CE X np b tb' fb) : CE X np (.BinOp a .Pow b pos) (tOp rrPowW ta tb') (x2 gPowW fa fb) := ⟨pe_op op_powW ha.p hb.p, se_op ha.s hb.s o_powW⟩
theorem pe_srtset (he : PE X e te) (hm : X.mg "sorted" = none) (hm2 : X.mg "set" = none) (hg : Gl X "sorted") (hg2 : Gl X "set") (hc : X.calm = true) (na : starEach [e] X.env = (false, eval e X.env) :: starEach [] X.env) : PE X (.Call (.Name "sorted" p) [.Call (.Name "set" p1) [e] [] p2] [] pos) (tSrtSet X.K te) := by
  refine ⟨fun pins s σ H Q I h => PyProof.Rows.Call_ (ld_blt I hg hm PyProof.Rows.boot_sorted ?_)⟩
  refine PyProof.Rows.callWith_builtin1 (PyProof.Rows.args_cons (PyProof.Rows.Call_ (ld_blt I hg2 hm2 PyProof.Rows.boot_set ?_)) rfl) rfl rfl
  refine PyProof.Rows.callWith_type1 (PyProof.Rows.args_cons (thn (he.run pins s σ H _ I h) fun v s1 ⟨x, H1, I1, r1, l, ns, e1, hq, hl, h64, q1⟩ => PyProof.Rows.args_nil ?_) na) na rfl
  subst e1
  cases r1
  have hd := I1.ok.hd hc
  have fin : ∀ (h2 : Heap) (tk c : Nat), SetR X.w h2 s1.heap.objs.size (fun j => decide (j ∈ ns)) c → (∀ b o, s1.heap.get? b = some o → h2.get? b = some o) →
      wpAny (model X.prog X.w) X.A (spliced (backTo pos (starEach [] X.env))) (fun vs s2 => wpAny (model X.prog X.w) X.A (call (.builtin "sorted") (Value.ref s1.heap.objs.size :: vs)) (EP X pins σ Q) X.xe s2) X.xe { s1 with heap := h2, toks := tk } := fun h2 tk c R k => by
    have J : Inv X pins σ H1 { s1 with heap := h2, toks := tk } := I1.kept k
    have R2 := R
    obtain ⟨_, es, _, _, _, _, _, g, nd, hm, _, _, hn, _⟩ := R2
    have c64 : c < 64 := by
      have pm : (es.toList.map keyOf).Perm (srtI (dd ns)) := (List.perm_ext_iff_of_nodup nd (srt_nodup _ (dd_nodup ns))).mpr fun k => by
        have t1 := hm k
        rw [srt_mem, dd_mem]
        exact ⟨fun z => of_decide_eq_true (t1.mpr z), fun z => t1.mp (decide_eq_true z)⟩
      have t2 := pm.length_eq
      rw [List.length_map, Array.length_toList] at t2
      omega
    refine PyProof.Rows.args_nil (sorted_set (s := { s1 with heap := h2, toks := tk }) R (J.ok.hd hc) c64 fun s3 p out c3 ms k3 g3 o3 hp hob hints hs hmm hlen => ?_)
    have em : ms = srtI (dd ns) := lt_unique hs (srt_lt _ (dd_nodup ns)) fun k => by rw [hmm k, srt_mem, dd_mem, decide_eq_true_iff]
    subst em
    have hz : ((srtI (dd ns)).map V.int).length ≤ sizeLine := by rw [List.length_map, hlen]; exact Nat.le_of_lt (small1000 (by omega))
    have fr : H1 p = .none := J.hok.fresh hp
    have J3 : Inv X pins σ (upd H1 p (.lst ((srtI (dd ns)).map V.int))) { ({ s1 with heap := h2, toks := tk } : Shared) with heap := s3.heap, gens := s3.gens, drawn := s3.drawn, toks := s3.toks } :=
      J.call (ch := []) (Un.laid k3 hp fr) (J.hok.laid k3 hp ⟨hz, out.toList, c3, vals_of_ints hints, hob⟩) (by rw [g3]; exact J.bare) fun _ z => nomatch z
    have e3 : s3 = { s1 with heap := s3.heap, gens := s3.gens, drawn := s3.drawn, toks := s3.toks } := by
      cases s3; cases s1; cases o3
      rfl
    rw [e3]
    exact ⟨.ref p, _, J3, rfl, q1 p fr⟩
  rcases hq with hq | hq
  · obtain ⟨its, r, pl, _⟩ := I1.list hq
    exact set_of_list ns hd pl.isList (by simpa using ints_of_vals r) (by unfold scanBound; omega) fun h2 tk c R _ k => fin h2 tk c R k
  · obtain ⟨its, r, pl, _⟩ := I1.tuple hq
    exact call_set_tupI ns hd pl (by simpa using ints_of_vals r) (by unfold scanBound; omega) fun h2 tk c R _ k => fin h2 tk c R k
theorem se_srtset {K : PySem.W.Frag} (h : SE np te fe) : SE np (tSrtSet K te) (x1 gSrtSet fe) := fun I H σ s r s' Q S e k => by
  obtain ⟨⟨ra, s1⟩, e1, e⟩ := bind_eq e
  obtain ⟨d, e2, e⟩ := bind_eq e
  obtain ⟨w, e3, e⟩ := bind_eq e
  cases e
  obtain ⟨ds, e4, e3⟩ := bind_eq e3
  obtain ⟨ns, e5, e3⟩ := bind_eq e3
  by_cases hl : ns.length ≤ 4000 ∧ (srtI (dd ns)).length < 64
  · rw [if_pos hl] at e3
    cases e3
    refine h I H σ s ra s1 _ S e1 fun I1 H1 v A1 r1 => ?_
    have rd := r1.rd A1.sr e2
    have ex := A1.sr.ext
    have fin : ∀ q, H1 q = none → Q (.ref q) (upd H1 q (.lst ((srtI (dd ns)).map V.int))) := fun q hq => by
      have al := Al.newT (o := .lst ((srtI (dd ns)).map V.int)) ex hq
      exact k _ _ _ (A1.trans (al.stp A1.sr)) (RR.of_z A1 al (r := .t ((srtI (dd ns)).map PyData.int)) ⟨q, _, rfl, hq, noI ex hq, upd_same, dra_ints _⟩)
    cases d with
    | list xs =>
      cases e4
      obtain ⟨p, vs, rfl, g1, g2⟩ := rd_list ex rd
      exact ⟨p, ns, rfl, .inl (by rw [← ints_of g2 e5]; exact SqL.of g1), hl.1, hl.2, fin⟩
    | tuple xs =>
      cases e4
      obtain ⟨p, oa, vs, rfl, g1, za, g2⟩ := rd_tup rd
      exact ⟨p, ns, rfl, .inr (by rw [← ints_of g2 e5]; exact sq_t ex g1), hl.1, hl.2, fin⟩
    | _ => cases e4
  · rw [if_neg hl] at e3; cases e3
theorem ce_srtset (h : CE X np e te fe) (hm : X.mg "sorted" = none) (hm2 : X.mg "set" = none) (hg : Gl X "sorted" := by rfl) (hg2 : Gl X "set" := by rfl) (hc : X.calm = true := by rfl) (na : starEach [e] X.env = (false, eval e X.env) :: starEach [] X.env := by rfl) {Kk : PySem.W.Frag} (hk : X.K = Kk := by first | rfl | exact blk_K | exact blk_K.trans blk_K) : CE X np (.Call (.Name "sorted" p) [.Call (.Name "set" p1) [e] [] p2] [] pos) (tSrtSet Kk te) (x1 gSrtSet fe) := by subst hk; exact ⟨pe_srtset h.p hm hm2 hg hg2 hc na, se_srtset h.s⟩
/-! ### f(k = e, ..), by keywords alone: pm tells, parameter by parameter, which keyword's value it takes -/
def pick {α : Type} (d : α) (pm : List Nat) (xs : List α) : List α := pm.map fun i => xs.getD i d
structure CK (X : Cx) (np : Nat) (kws : List Keyword) (t : TA) (f : DS → Option (List D × DS)) : Prop where
  p : PK X kws t
  s : SD np t f
theorem ck_nil : CK X np [] tNil dnil := ⟨pk_nil, sd_nil⟩
theorem ck_cons {kws : List Keyword} {nm : Option Str} {tr : TA} {fr : DS → Option (List D × DS)} (h : CE X np e te fe) (hr : CK X np kws tr fr) : CK X np (⟨nm, e, p⟩ :: kws) (tCons te tr) (dcons np fe fr) := ⟨pk_cons h.p hr.p, sd_cons h.s hr.s⟩
/-- a def that may be called by its keywords -/
structure CalK (P : Program) (w : World) (K : PySem.W.Frag) (mg : Str → Option Value) (base : Heap) (k : Nat) (x : Str) (sp : Sp) (ks : List Str) (pm : List Nat) : Prop where
  ex : ∃ (f : Addr) (fd : FuncData) (ps : List Str), FnOk P w K mg base L2.CX0 k f fd ps sp ∧ mg x = some (.ref f) ∧ PySem.W.keepIn K (.ref f) = true ∧ ps.length = pm.length ∧
    ∀ (s : Shared) (ws : List Value), ws.length = ks.length → BindsTo s fd ⟨[], ks.zip ws⟩ (ps.zip (pick .none pm ws))
def xcallK (f : FM) (pm : List Nat) (a : DS → Option (List D × DS)) : XM := fun s => (a s).bind fun p => if pm.all (fun i => decide (i < p.1.length)) = true then (f (pick (Slot.no) pm (p.1.map Slot.dat))).bind fun q => some (q.1.r, p.2) else none
def tCallKO (sp : Sp) (n : Nat) (pm : List Nat) (E : XK) (tk : TA) : TE := fun σ H Q => tk σ H fun zs H1 => zs.length = n ∧ sp (pick V.non pm zs) H1 Q E
theorem pick_get {α : Type} {d : α} {pm : List Nat} {xs : List α} (h : pm.all (fun i => decide (i < xs.length)) = true) (j : Nat) (z : α) (hz : (pick d pm xs)[j]? = some z) : ∃ i : Nat, pm[j]? = some i ∧ xs[i]? = some z := by
  unfold pick at hz
  rw [List.getElem?_map] at hz
  cases q : pm[j]? with
  | none => rw [q] at hz; cases hz
  | some i =>
    rw [q] at hz
    have hi : i < xs.length := by simpa using List.all_eq_true.mp h i (List.mem_of_getElem? q)
    refine ⟨i, rfl, ?_⟩
    have hz' : xs.getD i d = z := Option.some.inj hz
    rw [List.getElem?_eq_getElem hi, ← hz', List.getD_eq_getElem?_getD, List.getElem?_eq_getElem hi]
    rfl
theorem pick_rel {vs : List V} {us : List Value} (r : Vals vs us) : ∀ pm : List Nat, Vals (pick V.non pm vs) (pick Value.none pm us)
  | [] => .nil
  | i :: pm => .cons (by
    show RelV (vs.getD i .non) (us.getD i .none)
    rw [List.getD_eq_getElem?_getD, List.getD_eq_getElem?_getD]
    cases q : vs[i]? with
    | none => rw [r.none_of q]; rfl
    | some v =>
      obtain ⟨u, h1, h2⟩ := r.get q
      rw [h1]
      exact h2) (pick_rel r pm)
theorem pe_callKO {x : Str} {sp : Sp} {ks : List Str} {pm : List Nat} {kws : List Keyword} {tk : TA} {E : XK} (c : CalK X.prog X.w X.K X.mg X.base k x sp ks pm) (hr : Room k X.A) (hkw : PK X kws tk) (hg : Gl X x) (hdb : (x == ("__debug__" : Str)) = false)
    (hall : (backToKw pos (keywordEach kws X.env)).all (·.1.isSome) = true) (hks : (backToKw pos (keywordEach kws X.env)).filterMap (·.1) = ks) (hpl : ((backTo pos (starEach [] X.env)).any (·.1) || (backToKw pos (keywordEach kws X.env)).any (·.1.isNone)) = false) :
    PE X (.Call (.Name x p) [] kws pos) (tCallKO sp ks.length pm E tk) := by
  obtain ⟨f, fd, ps, F, hm, hk, hl, hb⟩ := c.ex
  constructor
  intro pins s σ H Q I h
  refine wpAny_Call_Name_kw (ld_glob I hg hm ?_ hdb)
  refine PySem.W.callWith_KW0 (h₀ := X.base) I.ok.mod.kin hk hall (thn (hkw.run pos pins s σ H _ I h) fun ws s2 ⟨zs, H2, I2, rz, l, q2⟩ => ⟨I2.kIn, ?_⟩) hpl
  rw [hks]
  have lw : ws.length = ks.length := by rw [← rz.length]; exact l
  refine wpAny_call (codeAny_mono (F.run X.A X.stack s2 H2 ⟨[], ks.zip ws⟩ (pick .none pm ws) (pick .non pm zs) Q E hr I2.env0 (hb s2 ws lw) (pick_rel rz pm) q2) fun r s' hq => ?_)
  cases r with
  | error e => exact (show False from hq).elim
  | ok fl =>
    cases fl with
    | ret u => exact I2.after hq
    | next => exact False.elim hq
    | brk => exact False.elim hq
    | cont => exact False.elim hq
theorem se_callK {f : FM} {pm : List Nat} {n : Nat} {tk : TA} {fk : DS → Option (List D × DS)} {E : XK} (hn : ∀ s ds s', fk s = some (ds, s') → ds.length = n) (h : SD np tk fk) : SE np (tCallKO (spOf f) n pm E tk) (xcallK f pm fk) := fun I H σ s r s' Q S e k => by
  obtain ⟨⟨ds, s1⟩, e1, e⟩ := bind_eq e
  by_cases hp : pm.all (fun i => decide (i < ds.length)) = true
  · rw [if_pos hp] at e
    obtain ⟨⟨r1, os⟩, e2, e⟩ := bind_eq e
    cases e
    refine h I H σ s ds s1 _ S e1 fun I1 H1 vs A1 rd => ⟨rd.len.trans (hn _ _ _ e1), ?_⟩
    have S1 := A1.sr
    have noown : ∀ (i : Nat) (xs : List D), (pick Slot.no pm (ds.map Slot.dat))[i]? ≠ some (.own xs) := fun i xs hz => by
      obtain ⟨l, _, q⟩ := pick_get (by simpa using hp) i _ hz
      rw [List.getElem?_map] at q
      cases w : ds[l]? with
      | none => rw [w] at q; cases q
      | some d => rw [w] at q; cases q
    have nown : ∀ a, ¬ Owned ((pick V.non pm vs).map some) (pick Slot.no pm (ds.map Slot.dat)) a := fun a ⟨i, xs, h1, _⟩ => noown i xs h1
    have Sa : SR I1 H1 ((pick V.non pm vs).map some) (pick Slot.no pm (ds.map Slot.dat)) := by
      refine ⟨S1.ext, by simp [pick], fun i d hz => ?_, fun i xs hz => absurd hz (noown i xs), fun i j xs ys a h1 => absurd h1 (noown i xs)⟩
      obtain ⟨l, g1, g2⟩ := pick_get (by simpa using hp) i _ hz
      rw [List.getElem?_map] at g2
      cases w : ds[l]? with
      | none => rw [w] at g2; cases g2
      | some d' =>
        rw [w] at g2
        cases g2
        obtain ⟨v, h1, h2⟩ := rd.get w
        refine ⟨v, ?_, h2⟩
        unfold pick
        rw [List.getElem?_map, List.getElem?_map, g1]
        show some (some (vs.getD l V.non)) = some (some v)
        rw [List.getD_eq_getElem?_getD, h1]
        rfl
    refine ⟨I1, _, r1, os, Sa, e2, fun I' H' v B rb => ?_⟩
    have al : Al I1 H1 I' H' := ⟨B.ie, fun a o ha => B.kp a o ha (nown a), B.sr.ext, fun a h1 h2 => B.fr a h1 h2 (nown a)⟩
    have st := al.stp (np := np) S1
    refine k I' H' v (A1.trans st) ?_
    refine RR.of_z A1 al ?_
    cases r1 with
    | d x => exact rb
    | t xs =>
      obtain ⟨p, ws, w1, w2, w3, _, w5, w6⟩ := rb
      exact ⟨p, ws, w1, w2, w3, w5, w6⟩
  · rw [if_neg hp] at e; cases e
/-- how many keywords a list hands on -/
def DLen (f : DS → Option (List D × DS)) (n : Nat) : Prop := ∀ s ds s', f s = some (ds, s') → ds.length = n
theorem dlen_nil : DLen dnil 0 := fun s ds s' e => by cases e; rfl
theorem dlen_cons {f : XM} {g : DS → Option (List D × DS)} {n : Nat} (h : DLen g n) : DLen (dcons np f g) (n + 1) := fun s ds s' e => by
  obtain ⟨⟨r, s1⟩, _, e⟩ := bind_eq e
  obtain ⟨⟨d, s2⟩, _, e⟩ := bind_eq e
  obtain ⟨⟨ds', s3⟩, e3, e⟩ := bind_eq e
  cases e
  rw [List.length_cons, h _ _ _ e3]
theorem ce_callK {x : Str} {f : FM} {ks : List Str} {pm : List Nat} {kws : List Keyword} {tk : TA} {fk : DS → Option (List D × DS)} (c : CalK X.prog X.w X.K X.mg X.base k x (spOf f) ks pm) (hr : Room k X.A) (h : CK X np kws tk fk) (hn : DLen fk ks.length) (hg : Gl X x := by rfl) (hdb : (x == ("__debug__" : Str)) = false := by decide)
    (hall : (backToKw pos (keywordEach kws X.env)).all (·.1.isSome) = true := by rfl) (hks : (backToKw pos (keywordEach kws X.env)).filterMap (·.1) = ks := by rfl) (hpl : ((backTo pos (starEach [] X.env)).any (·.1) || (backToKw pos (keywordEach kws X.env)).any (·.1.isNone)) = false := by rfl) :
    CE X np (.Call (.Name x p) [] kws pos) (tCallKO (spOf f) ks.length pm C8.E0 tk) (xcallK f pm fk) := ⟨pe_callKO c hr h.p hg hdb hall hks hpl, se_callK hn h.s⟩
end
end Z
end
section
set_option maxRecDepth 100000
set_option maxHeartbeats 1000000
/-! Z10: the defs at the program's top, the law at its head. -/
namespace Z
open PySem PySem.Spec L2
/-- a def of the top: its object, its name, how it takes its arguments -/
def DefAt (K : PySem.W.Frag) (mg : Str → Option Value) (x : Str) (st : Stmt) (ps : List Str) : Prop := ∃ (f : Addr) (fd : FuncData), L2.Fun K x x st f fd ∧ mg x = some (.ref f) ∧ Binds K fd ps []
theorem DefAt.mk {K : PySem.W.Frag} {h : Heap} {mg : Str → Option Value} {x : Str} {st : Stmt} {ps : List Str} {f : Addr} {oc : Value} {od an : Option Addr} {osl : Array (Option Value)} {kV doc pm cdv ct : Value} (X : K.In h) (G : h.Ns mainGlobals mg)
    (a : PySem.W.nsIn K mainGlobals x = some (some (.ref f))) (l : K.lookup f = some ⟨oc, od, .func (PySem.W.fnOf x x (defArgs st) (defBody st) (defScope st) .none kV doc pm an cdv ct), osl⟩)
    (c : PySem.W.codeIn K cdv x = true) (k : PySem.W.keepIn K (.ref f) = true)
    (b : ∀ (kV doc pm : Value) (an : Option Addr) (cdv ct : Value) (us : List Value), us.length = ps.length → bindArgs (PySem.W.fnOf x x (defArgs st) (defBody st) (defScope st) .none kV doc pm an cdv ct) ⟨us, []⟩ = pure (ps.zip us)) : DefAt K mg x st ps :=
  ⟨f, _, fun_mk l c k, PySem.W.mg_of X G a, (fun_mk l c k).binds b⟩
theorem DefAt.cal {P : Program} {w : World} {K : PySem.W.Frag} {mg : Str → Option Value} {base : Heap} {k : Nat} {x : Str} {st : Stmt} {ps : List Str} {g : FM} (d : DefAt K mg x st ps)
    (h : ∀ (f : Addr) (fd : FuncData), L2.Fun K x x st f fd → FnOk P w K mg base L2.CX0 k f fd ps (spOf g)) : C8.Cal P w K mg base k x (spOf g) [] := by
  obtain ⟨f, fd, F, m, b⟩ := d
  exact ⟨f, fd, ps, [], h f fd F, m, F.kp, b, .nil⟩
theorem DefAt.calK {P : Program} {w : World} {K : PySem.W.Frag} {mg : Str → Option Value} {base : Heap} {k : Nat} {x : Str} {st : Stmt} {ps ks : List Str} {pm : List Nat} {g : FM} (d : DefAt K mg x st ps)
    (h : ∀ (f : Addr) (fd : FuncData), L2.Fun K x x st f fd → FnOk P w K mg base L2.CX0 k f fd ps (spOf g)) (hl : ps.length = pm.length)
    (b : ∀ (kV doc pm' : Value) (an : Option Addr) (cdv ct : Value) (ws : List Value), ws.length = ks.length → bindArgs (PySem.W.fnOf x x (defArgs st) (defBody st) (defScope st) .none kV doc pm' an cdv ct) ⟨[], ks.zip ws⟩ = pure (ps.zip (pick .none pm ws))) : CalK P w K mg base k x (spOf g) ks pm := by
  obtain ⟨f, fd, F, m, _⟩ := d
  have F' := F
  obtain ⟨⟨oc, od, kV, doc, pm', an, cdv, ct, osl, rfl, lk, hcd⟩, _⟩ := F
  exact ⟨f, _, ps, h f _ F', m, F'.kp, hl, fun s ws hw => .of_eq (b kV doc pm' an cdv ct ws hw)⟩
/-- with no call left a def promises nothing -/
theorem fn_none {P : Program} {w : World} {K : PySem.W.Frag} {mg : Str → Option Value} {base : Heap} {f : Addr} {fd : FuncData} {ps : List Str} {g : FM} (hg : ∀ s, g s = none) : FnOk P w K mg base L2.CX0 0 f fd ps (spOf g) := by
  have no : ∀ vs H Q E, ¬ spOf g vs H Q E := fun vs H Q E ⟨_, as, _, _, _, e, _⟩ => by
    rw [hg as] at e
    cases e
  exact ⟨fun vs H Q E h => absurd h (no vs H Q E), fun A outer s H args us vs Q E _ _ _ _ h => absurd h (no vs H Q E)⟩
/-- no list among the objects that the top has made -/
def noLists (K : PySem.W.Frag) : Bool := K.all fun p => !(p.2.cls == .type "list")
theorem noLists_get {K : PySem.W.Frag} (h : noLists K = true) {a : Addr} {o : Obj} (l : K.lookup a = some o) : o.cls ≠ .type "list" := by
  have m : (a, o) ∈ K := by
    induction K with
    | nil => cases l
    | cons p r ih =>
      obtain ⟨b, u⟩ := p
      rw [List.lookup_cons] at l
      cases q : a == b with
      | true =>
        rw [q] at l
        cases l
        cases beq_iff_eq.mp q
        exact List.mem_cons_self ..
      | false =>
        rw [q] at l
        exact List.mem_cons_of_mem _ (ih (by unfold noLists at h ⊢; rw [List.all_cons, Bool.and_eq_true] at h; exact h.2) l)
  have z := List.all_eq_true.mp h (a, o) m
  intro e
  rw [show ((a, o) : Addr × Obj).2.cls = .type "list" from e] at z
  revert z
  decide
theorem law_at {K : PySem.W.Frag} {g : FM} {n : Nat} (hL : noLists K = true) (law : ∀ ns : List Int, ns.length ≤ n → ∃ os, g [.dat (scr (ns.map .int))] = some (.d (.bool true), os)) {H : Hp} {a : Addr} {ns : List Int} (hl : ns.length ≤ n) (O : Only H) (S : SqL K H a (ns.map V.int)) :
    spOf g [.ref a] H (fun v _ => v = .bl true) fun _ _ _ => False := by
  obtain ⟨os, e⟩ := law ns hl
  have e1 : ∃ o, H a = some (.frz o (.lst (ns.map V.int))) := by
    rcases S with (S | S) | ⟨o, _, _, l, c, _⟩
    · rcases O a with q | ⟨o, xs, q⟩
      · rw [q] at S; cases S
      · rw [q] at S; cases S
    · exact S
    · exact absurd c (noLists_get hL l)
  obtain ⟨o, e1⟩ := e1
  refine ⟨H, _, _, os, ⟨fun _ _ h => h, rfl, fun i d h => ?_, fun i xs h => ?_, fun i j xs ys b h => ?_⟩, e, fun I' H' v _ r => ?_⟩
  · match i, h with
    | 0, h =>
      cases h
      exact ⟨.ref a, rfl, .frz e1 (dra_ints ns)⟩
  · match i, h with
    | 0, h => cases h
  · match i, h with
    | 0, h => cases h
  · cases (show Dr I' v (.bool true) from r)
    rfl
theorem walk_Z {l : PySem.W.OpenLaw} {k : Nat} {q : Program} {loose : List Str} {XP : (Str → Option Value) → Heap → Prop} {YP : World → Heap → Prop} {d : DefRec} {K : Params → PySem.W.Frag} {g : FM} (hn : l.most = some 63) (hdf : d.params.defaults = []) (hr : Room k callerA)
    (hY : ∀ (w : World) (h : Heap), YP w h → (K w.params).In h) (hL : ∀ w : World, noLists (K w.params) = true)
    (F : ∀ (w : World) (mg : Str → Option Value) (fa : Addr) (h : Heap), (K w.params).In h → h.Ns mainGlobals mg → mg d.name = some (.ref fa) →
      ∃ fd : FuncData, (∀ (s : Shared) (u : Value), BindsTo s fd ⟨[u], []⟩ [("script", u)]) ∧ ∀ base : Heap, (K w.params).In base → base.Ns mainGlobals mg → FnOk l.prog w (K w.params) mg base L2.CX0 k fa fd ["script"] (spOf g))
    (law : ∀ ns : List Int, ns.length ≤ 63 → ∃ os, g [.dat (scr (ns.map .int))] = some (.d (.bool true), os)) :
    PySem.W.WalkO q loose XP YP l.row.toRowW d [] (fun f vs => PySem.call f vs) :=
  L2.walk_of (n := 63) (k := k) (x := "script") (CX := fun _ => L2.CX0) (sp := fun _ => spOf g) hn (by decide) hdf hr hY F (fun w H a ns hl O S => law_at (hL w) law hl O S) fun _ _ _ _ _ z => z
/-- what is kept of the law's own def -/
def LawAt (K : PySem.W.Frag) (mg : Str → Option Value) (fa : Addr) (st : Stmt) : Prop := ∃ fd : FuncData, L2.Fun K "law" "law" st fa fd ∧ ∀ (s : Shared) (u : Value), BindsTo s fd ⟨[u], []⟩ [("script", u)]
theorem LawAt.mk {K : PySem.W.Frag} {h : Heap} {mg : Str → Option Value} {st : Stmt} {fa f : Addr} {oc : Value} {od an : Option Addr} {osl : Array (Option Value)} {kV doc pm cdv ct : Value} (X : K.In h) (G : h.Ns mainGlobals mg) (hfa : mg "law" = some (.ref fa))
    (a : PySem.W.nsIn K mainGlobals "law" = some (some (.ref f))) (l : K.lookup f = some ⟨oc, od, .func (PySem.W.fnOf "law" "law" (defArgs st) (defBody st) (defScope st) .none kV doc pm an cdv ct), osl⟩)
    (c : PySem.W.codeIn K cdv "law" = true) (k : PySem.W.keepIn K (.ref f) = true)
    (b : ∀ (kV doc pm : Value) (an : Option Addr) (cdv ct : Value) (u : Value), bindArgs (PySem.W.fnOf "law" "law" (defArgs st) (defBody st) (defScope st) .none kV doc pm an cdv ct) ⟨[u], []⟩ = pure [(("script" : Str), u)]) : LawAt K mg fa st := by
  have e := hfa.symm.trans (PySem.W.mg_of X G a)
  cases e
  exact ⟨_, fun_mk l c k, fun s u => .of_eq (b ..)⟩
end Z
end
section
set_option maxRecDepth 100000
set_option maxHeartbeats 1000000
/-! Z11: running what a def does to data: words for simp, loops, comprehensions. -/
namespace Z
open PySem PySem.Spec L2
theorem bnd_congr {α β : Type} {a b : Option α} {f : α → Option β} (h : a = b) : a.bind f = b.bind f := by rw [h]
/-- what a def hands back -/
def val (f : FM) (as : DS) : Option Rt := (f as).map (·.1)
def fin1 : Out × DS → Option Rt
  | (.rt r, _) => some r
  | (.nx, _) => some (.d .none)
  | _ => none
@[simp] theorem fin1_rt {r : Rt} {s : DS} : fin1 (.rt r, s) = some r := rfl
@[simp] theorem fin1_nx {s : DS} : fin1 (.nx, s) = some (.d .none) := rfl
theorem val_run (np n : Nat) (body : SM) (as : DS) (h : as.length = np) (h2 : np ≤ n) : val (run np n body) as = (body (as ++ List.replicate (n - np) .no)).bind fin1 := by
  unfold val run
  rw [if_pos ⟨h, h2⟩]
  cases body (as ++ List.replicate (n - np) .no) with
  | none => rfl
  | some p =>
    obtain ⟨o, s⟩ := p
    cases o <;> rfl
theorem argS_d (s : DS) : ∀ ds : List D, argS s (ds.map A.d) = some (ds.map Slot.dat)
  | [] => rfl
  | d :: r => by
    show (argS s (r.map A.d)).bind _ = _
    rw [argS_d s r]
    rfl
theorem back_d (s : DS) : ∀ (ds : List D) (os : DS), back (ds.map A.d) os s = s
  | [], [] => rfl
  | [], _ :: _ => rfl
  | d :: r, [] => rfl
  | d :: r, o :: os => back_d s r os
theorem lent_d : ∀ ds : List D, lent (ds.map A.d) = []
  | [] => rfl
  | d :: r => lent_d r
theorem xcall_d {f : FM} {fl : DS → Option (List A × DS)} {s s1 : DS} {ds : List D} (h : fl s = some (ds.map A.d, s1)) : xcall f fl s = (val f (ds.map Slot.dat)).bind fun r => some (r.r, s1) := by
  unfold xcall val
  rw [h]
  show (argS s1 (ds.map A.d)).bind _ = _
  rw [argS_d]
  show (if (lent (ds.map A.d)).Nodup then _ else none) = _
  rw [lent_d, if_pos List.nodup_nil]
  cases f (ds.map Slot.dat) with
  | none => rfl
  | some q =>
    show some (q.1.r, back (ds.map A.d) q.2 s1) = some (q.1.r, s1)
    rw [back_d]
/-- arguments that are all data: a def's call needs no more than their values -/
def dargs (np : Nat) : List XM → DS → Option (List D × DS)
  | [], s => some ([], s)
  | a :: r, s => (a s).bind fun p => (fz np p.2 p.1).bind fun q => (dargs np r q.2).bind fun w => some (q.1 :: w.1, w.2)
def pargs (np : Nat) : List XM → DS → Option (List A × DS)
  | [] => pnil
  | a :: r => pcons np a (pargs np r)
theorem pargs_eq (np : Nat) : ∀ (as : List XM) (s : DS), pargs np as s = (dargs np as s).bind fun w => some (w.1.map A.d, w.2)
  | [], s => rfl
  | a :: r, s => by
    show (a s).bind _ = ((a s).bind _).bind _
    cases a s with
    | none => rfl
    | some p =>
      show (fz np p.2 p.1).bind _ = ((fz np p.2 p.1).bind _).bind _
      cases fz np p.2 p.1 with
      | none => rfl
      | some q =>
        show (pargs np r q.2).bind _ = ((dargs np r q.2).bind _).bind _
        rw [pargs_eq np r q.2]
        cases dargs np r q.2 with
        | none => rfl
        | some w => rfl
theorem xcall_p {f : FM} {np : Nat} {as : List XM} {s : DS} : xcall f (pargs np as) s = (dargs np as s).bind fun w => (val f (w.1.map Slot.dat)).bind fun r => some (r.r, w.2) := by
  have e := pargs_eq np as s
  cases h : dargs np as s with
  | none =>
    rw [h] at e
    unfold xcall
    rw [e]
    rfl
  | some w =>
    rw [h] at e
    exact xcall_d e
section
variable {f : FM} {np : Nat} {a b c d : XM} {s : DS}
def kca (f : FM) : List D × DS → Option (R × DS) := fun w => (val f (w.1.map Slot.dat)).bind fun r => some (r.r, w.2)
@[simp] theorem xcall1 : xcall f (pcons np a pnil) s = (dcons np a dnil s).bind (kca f) := by
  refine (xcall_p (as := [a])).trans ?_
  rfl
@[simp] theorem xcall2 : xcall f (pcons np a (pcons np b pnil)) s = (dcons np a (dcons np b dnil) s).bind (kca f) := by
  refine (xcall_p (as := [a, b])).trans ?_
  rfl
@[simp] theorem xcall3 : xcall f (pcons np a (pcons np b (pcons np c pnil))) s = (dcons np a (dcons np b (dcons np c dnil)) s).bind (kca f) := by
  refine (xcall_p (as := [a, b, c])).trans ?_
  rfl
@[simp] theorem ap_kca (f : FM) (ds : List D) (s : DS) : kca f (ds, s) = (val f (ds.map Slot.dat)).bind fun r => some (r.r, s) := rfl
end
@[simp] theorem rr_d {x : D} : (Rt.d x).r = R.d x := rfl
@[simp] theorem rr_t {x : List D} : (Rt.t x).r = R.t x := rfl

@[simp] theorem ap_xc (d : D) (s : DS) : xc d s = some (.d d, s) := rfl
@[simp] theorem ap_xv (i : Nat) (s : DS) : xv i s = match s[i]? with
  | some (.dat d) => some (.d d, s)
  | some (.own _) => some (.o i, s)
  | _ => none := rfl
@[simp] theorem ap_tyes (s : DS) : tyes s = some (true, s) := rfl
@[simp] theorem ap_anil (s : DS) : anil s = some ([], s) := rfl
@[simp] theorem ap_dnil (s : DS) : dnil s = some ([], s) := rfl
@[simp] theorem ap_snx (s : DS) : snx s = some (.nx, s) := rfl
@[simp] theorem ap_sbk (s : DS) : sbk s = some (.bk, s) := rfl
@[simp] theorem ap_sct (s : DS) : sct s = some (.ct, s) := rfl
@[simp] theorem ap_lno (s : DS) : lno s = some (none, s) := rfl
@[simp] theorem ap_gn (np i : Nat) (d : D) (s : DS) : gn np i d s = put np i (.dat d) s := rfl
@[simp] theorem ap_x1 (g : D → Option R) (a : XM) (s : DS) : x1 g a s = (a s).bind fun p => (rv p.2 p.1).bind fun d => (g d).bind fun z => some (z, p.2) := rfl
@[simp] theorem ap_xnot (a : XM) (s : DS) : xnot a s = (a s).bind fun p => (bl1 p.1).bind fun c => some (.d (.bool (!c)), p.2) := rfl
@[simp] theorem ap_xcb (g : List D → Option R) (a : DS → Option (List R × DS)) (s : DS) : xcb g a s = (a s).bind fun p => (rvs p.2 p.1).bind fun ds => (g ds).bind fun z => some (z, p.2) := rfl
@[simp] theorem ap_xtup (a : DS → Option (List D × DS)) (s : DS) : xtup a s = (a s).bind fun p => if p.1.length ≤ 1000 then some (.d (.tuple p.1), p.2) else none := rfl
@[simp] theorem ap_xlst (a : DS → Option (List D × DS)) (s : DS) : xlst a s = (a s).bind fun p => if p.1.length ≤ 1000 then some (.t p.1, p.2) else none := rfl
@[simp] theorem ap_tb (a : XM) (s : DS) : tb a s = (a s).bind fun p => (bl1 p.1).bind fun c => some (c, p.2) := rfl
@[simp] theorem ap_tnot (a : TM) (s : DS) : tnot a s = (a s).bind fun p => some (!p.1, p.2) := rfl
@[simp] theorem ap_sasg (np i : Nat) (a : XM) (s : DS) : sasg np i a s = (a s).bind fun p => (Z.settle np p.2 p.1).bind fun q => (asg np i q.1 q.2).bind fun s' => some (.nx, s') := rfl
@[simp] theorem ap_sunp (np : Nat) (g : D → DS → Option DS) (a : XM) (s : DS) : sunp np g a s = (a s).bind fun p => (fz np p.2 p.1).bind fun q => (g q.1 q.2).bind fun s' => some (.nx, s') := rfl
@[simp] theorem ap_sdrop (a : XM) (s : DS) : sdrop a s = (a s).bind fun p => some (.nx, p.2) := rfl
@[simp] theorem ap_sret (np : Nat) (a : XM) (s : DS) : sret np a s = (a s).bind fun p => (rtOf np p.2 p.1).bind fun r => some (.rt r, p.2) := rfl
@[simp] theorem ap_saug (np i : Nat) (g : D → D → Option R) (a : XM) (s : DS) : saug np i g a s = (match s[i]? with | some (.dat d) => some d | _ => none).bind fun d0 => (a s).bind fun p => (rv p.2 p.1).bind fun d => (g d0 d).bind fun z => (asg np i z p.2).bind fun s' => some (.nx, s') := rfl
@[simp] theorem ap_itup (np : Nat) (a : XM) (s : DS) : itup np a s = (a s).bind fun p => (fz np p.2 p.1).bind fun q => match q.1 with
  | .tuple ds => some (ds, q.2)
  | _ => none := rfl
@[simp] theorem ap_ilst (np : Nat) (a : XM) (s : DS) : ilst np a s = (a s).bind fun p => (fz np p.2 p.1).bind fun q => match q.1 with
  | .list ds => some (ds, q.2)
  | _ => none := rfl
@[simp] theorem ap_irng1 (a : DS → Option (List D × DS)) (s : DS) : irng1 a s = (a s).bind fun p => match p.1 with
  | [.int j] => if smallI j = true then some (intsD 0 j.toNat, p.2) else none
  | _ => none := rfl
@[simp] theorem ap_irng2 (a : DS → Option (List D × DS)) (s : DS) : irng2 a s = (a s).bind fun p => match p.1 with
  | [.int i, .int j] => if (smallI i && smallI j) = true then some (intsD i (j - i).toNat, p.2) else none
  | _ => none := rfl
@[simp] theorem ap_irng3 (n : Nat) (a : DS → Option (List D × DS)) (s : DS) : irng3 n a s = (a s).bind fun p => match p.1 with
  | [.int i, .int j, .int c] => if c ≠ 0 ∧ c.natAbs < 1073741824 ∧ Builtin.Range.small i j c = true ∧ Builtin.Range.rangeSize i j c = n then some (intsC i c n, p.2) else none
  | _ => none := rfl
@[simp] theorem ap_ienum (a : DS → Option (List D × DS)) (s : DS) : ienum a s = (a s).bind fun p => match p.1 with
  | [.list ds] => some ((List.range ds.length).zipWith (fun k d => rawT [.int (k : Nat), d]) ds, p.2)
  | _ => none := rfl
@[simp] theorem ap_izip (a : DS → Option (List D × DS)) (s : DS) : izip a s = (a s).bind fun p => match p.1 with
  | [.list xs, .list ys] => some (List.zipWith (fun x y => rawT [x, y]) xs ys, p.2)
  | [.tuple xs, .tuple ys] => some (List.zipWith (fun x y => rawT [x, y]) xs ys, p.2)
  | _ => none := rfl
@[simp] theorem ap_lsome (a : XM) (s : DS) : lsome a s = (a s).bind fun p => match p.1 with
  | .d (.int i) => some (some i, p.2)
  | _ => none := rfl
@[simp] theorem ap_sapp (np i : Nat) (a : XM) (s : DS) : sapp np i a s = match s[i]? with
  | some (.own _) => (a s).bind fun p => (fz np p.2 p.1).bind fun q => match q.2[i]? with
    | some (.own xs) => if xs.length < 100000 then some (.nx, q.2.set i (.own (xs ++ [q.1]))) else none
    | _ => none
  | _ => none := rfl
@[simp] theorem ap_sext (np i : Nat) (a : XM) (s : DS) : sext np i a s = match s[i]? with
  | some (.own _) => (a s).bind fun p => (fz np p.2 p.1).bind fun q => match q.2[i]?, q.1 with
    | some (.own xs), .list ys => if xs.length + ys.length ≤ 100000 then some (.nx, q.2.set i (.own (xs ++ ys))) else none
    | _, _ => none
  | _ => none := rfl

/-! what comes behind a part, by a name: simp stays out of it until the part is done -/
def kx2 (g : D → D → Option R) (b : XM) : R × DS → Option (R × DS) := fun p => (b p.2).bind fun q => (rv q.2 p.1).bind fun dx => (rv q.2 q.1).bind fun dy => (g dx dy).bind fun z => some (z, q.2)
@[simp] theorem ap_x2 (g : D → D → Option R) (a b : XM) (s : DS) : x2 g a b s = (a s).bind (kx2 g b) := rfl
@[simp] theorem ap_kx2 (g : D → D → Option R) (b : XM) (r : R) (s : DS) : kx2 g b (r, s) = (b s).bind fun q => (rv q.2 r).bind fun dx => (rv q.2 q.1).bind fun dy => (g dx dy).bind fun z => some (z, q.2) := rfl
def kif {α : Type} (a b : DS → Option α) : Bool × DS → Option α := fun p => if p.1 = true then a p.2 else b p.2
@[simp] theorem ap_xif (t : TM) (a b : XM) (s : DS) : xif t a b s = (t s).bind (kif a b) := rfl
@[simp] theorem ap_sif (t : TM) (a b : SM) (s : DS) : sif t a b s = (t s).bind (kif a b) := rfl
@[simp] theorem kif_t {α : Type} (a b : DS → Option α) (s : DS) : kif a b (true, s) = a s := rfl
@[simp] theorem kif_f {α : Type} (a b : DS → Option α) (s : DS) : kif a b (false, s) = b s := rfl
@[simp] theorem kif_c {α : Type} (a b : DS → Option α) (c : Prop) [Decidable c] (s : DS) : kif a b (decide c, s) = if c then a s else b s := by
  unfold kif
  by_cases h : c
  · rw [if_pos h, if_pos (decide_eq_true h)]
  · rw [if_neg h, if_neg (by rw [decide_eq_false h]; exact Bool.false_ne_true)]
@[simp] theorem ap_tand (a b : TM) (s : DS) : tand a b s = (a s).bind (kif b fun s => some (false, s)) := rfl
@[simp] theorem ap_tor (a b : TM) (s : DS) : tor a b s = (a s).bind (kif (fun s => some (true, s)) b) := rfl
def kbl {α : Type} (k : Bool × DS → Option α) : R × DS → Option α := fun p => (bl1 p.1).bind fun c => k (c, p.2)
@[simp] theorem kbl_b {α : Type} (k : Bool × DS → Option α) (c : Bool) (s : DS) : kbl k (.d (.bool c), s) = k (c, s) := rfl
@[simp] theorem ap_xand (a b : XM) (s : DS) : xand a b s = (a s).bind (kbl (kif b fun s => some (.d (.bool false), s))) := rfl
@[simp] theorem ap_xor (a b : XM) (s : DS) : xor a b s = (a s).bind (kbl (kif (fun s => some (.d (.bool true), s)) b)) := rfl
def kac (b : DS → Option (List R × DS)) : R × DS → Option (List R × DS) := fun p => (b p.2).bind fun q => some (p.1 :: q.1, q.2)
@[simp] theorem ap_acons (a : XM) (b : DS → Option (List R × DS)) (s : DS) : acons a b s = (a s).bind (kac b) := rfl
@[simp] theorem ap_kac (b : DS → Option (List R × DS)) (r : R) (s : DS) : kac b (r, s) = (b s).bind fun q => some (r :: q.1, q.2) := rfl
def kdc (b : DS → Option (List D × DS)) : D × DS → Option (List D × DS) := fun q => (b q.2).bind fun w => some (q.1 :: w.1, w.2)
def kfz {α : Type} (np : Nat) (k : D × DS → Option α) : R × DS → Option α := fun p => (fz np p.2 p.1).bind k
@[simp] theorem ap_dcons (np : Nat) (a : XM) (b : DS → Option (List D × DS)) (s : DS) : dcons np a b s = (a s).bind (kfz np (kdc b)) := rfl
@[simp] theorem ap_kfz {α : Type} (np : Nat) (k : D × DS → Option α) (r : R) (s : DS) : kfz np k (r, s) = (fz np s r).bind k := rfl
@[simp] theorem ap_kdc (b : DS → Option (List D × DS)) (d : D) (s : DS) : kdc b (d, s) = (b s).bind fun w => some (d :: w.1, w.2) := rfl
def ksq (b : SM) : Out × DS → Option (Out × DS) := fun p => match p.1 with
  | .nx => b p.2
  | o => some (o, p.2)
@[simp] theorem ap_sseq (a b : SM) (s : DS) : sseq a b s = (a s).bind (ksq b) := rfl
@[simp] theorem ksq_nx (b : SM) (s : DS) : ksq b (.nx, s) = b s := rfl
@[simp] theorem ksq_rt (b : SM) (r : Rt) (s : DS) : ksq b (.rt r, s) = some (.rt r, s) := rfl
@[simp] theorem ksq_bk (b : SM) (s : DS) : ksq b (.bk, s) = some (.bk, s) := rfl
@[simp] theorem ksq_ct (b : SM) (s : DS) : ksq b (.ct, s) = some (.ct, s) := rfl
def kfo (tg : D → DS → Option DS) (body : SM) : List D × DS → Option (Out × DS) := fun p => forL tg body p.1 p.2
@[simp] theorem ap_sfor (it : DS → Option (List D × DS)) (tg : D → DS → Option DS) (body : SM) (s : DS) : sfor it tg body s = (it s).bind (kfo tg body) := rfl
@[simp] theorem ap_kfo (tg : D → DS → Option DS) (body : SM) (ds : List D) (s : DS) : kfo tg body (ds, s) = forL tg body ds s := rfl
def kcm (np : Nat) (tg : D → DS → Option DS) (tt : TM) (elt : XM) (vs : List Nat) : List D × DS → Option (R × DS) := fun p => (cmpL np tg tt elt vs p.1 [] (wipeD p.2 vs)).bind fun q => some (.t q.1, backD p.2 q.2 vs)
@[simp] theorem ap_xcmp (np : Nat) (it : DS → Option (List D × DS)) (tg : D → DS → Option DS) (tt : TM) (elt : XM) (vs : List Nat) (s : DS) : xcmp np it tg tt elt vs s = (it s).bind (kcm np tg tt elt vs) := rfl
@[simp] theorem ap_kcm (np : Nat) (tg : D → DS → Option DS) (tt : TM) (elt : XM) (vs : List Nat) (ds : List D) (s : DS) : kcm np tg tt elt vs (ds, s) = (cmpL np tg tt elt vs ds [] (wipeD s vs)).bind fun q => some (.t q.1, backD s q.2 vs) := rfl
def kpr (np i j : Nat) (b : XM) : R × DS → Option (Out × DS) := fun p => (b p.2).bind fun q => (Z.settle np q.2 p.1).bind fun p' => (Z.settle np p'.2 q.1).bind fun q' =>
  (asg np i p'.1 q'.2).bind fun s1 => (asg np j q'.1 s1).bind fun s2 => some (.nx, s2)
@[simp] theorem ap_spar (np i j : Nat) (a b : XM) (s : DS) : spar np i j a b s = (a s).bind (kpr np i j b) := rfl
@[simp] theorem ap_kpr (np i j : Nat) (b : XM) (r : R) (s : DS) : kpr np i j b (r, s) = (b s).bind fun q => (Z.settle np q.2 r).bind fun p' => (Z.settle np p'.2 q.1).bind fun q' =>
  (asg np i p'.1 q'.2).bind fun s1 => (asg np j q'.1 s1).bind fun s2 => some (.nx, s2) := rfl
def ksl (lo hi : DS → Option (Option Int × DS)) : R × DS → Option (R × DS) := fun p => (lo p.2).bind fun q => (hi q.2).bind fun w => (rv w.2 p.1).bind fun d => (gSl q.1 w.1 d).bind fun z => some (z, w.2)
@[simp] theorem ap_xsl (lo hi : DS → Option (Option Int × DS)) (a : XM) (s : DS) : xsl lo hi a s = (a s).bind (ksl lo hi) := rfl
@[simp] theorem ap_ksl (lo hi : DS → Option (Option Int × DS)) (r : R) (s : DS) : ksl lo hi (r, s) = (lo s).bind fun q => (hi q.2).bind fun w => (rv w.2 r).bind fun d => (gSl q.1 w.1 d).bind fun z => some (z, w.2) := rfl
def kix (b : XM) : R × DS → Option (R × DS) := fun p => (rv p.2 p.1).bind fun d0 => (isL d0).bind fun _ => (b p.2).bind fun q => (rv q.2 p.1).bind fun dx => (rv q.2 q.1).bind fun dy => (gIdx [dy] dx).bind fun z => some (z, q.2)
@[simp] theorem ap_xidx (a b : XM) (s : DS) : xidx a b s = (a s).bind (kix b) := rfl
@[simp] theorem ap_kix (b : XM) (r : R) (s : DS) : kix b (r, s) = (rv s r).bind fun d0 => (isL d0).bind fun _ => (b s).bind fun q => (rv q.2 r).bind fun dx => (rv q.2 q.1).bind fun dy => (gIdx [dy] dx).bind fun z => some (z, q.2) := rfl

@[simp] theorem ap_fzd (np : Nat) (s : DS) (x : D) : fz np s (.d x) = some (x, s) := rfl
@[simp] theorem ap_fzt (np : Nat) (s : DS) (x : List D) : fz np s (.t x) = some (.list x, s) := rfl
@[simp] theorem ap_fzo (np : Nat) (s : DS) (i : Nat) : fz np s (.o i) = match s[i]? with
    | some (.dat d) => some (d, s)
    | some (.own xs) => if i < np then none else some (.list xs, s.set i (.dat (.list xs)))
    | _ => none := rfl
@[simp] theorem ap_rvd (s : DS) (x : D) : rv s (.d x) = some x := rfl
@[simp] theorem ap_rvt (s : DS) (x : List D) : rv s (.t x) = some (.list x) := rfl
@[simp] theorem ap_rvo (s : DS) (i : Nat) : rv s (.o i) = match s[i]? with
    | some (.dat d) => some d
    | some (.own xs) => some (.list xs)
    | _ => none := rfl
@[simp] theorem ap_rvs0 (s : DS) : rvs s [] = some [] := rfl
@[simp] theorem ap_rvs1 (s : DS) (r : R) (rs : List R) : rvs s (r :: rs) = (rv s r).bind fun d => (rvs s rs).bind fun ds => some (d :: ds) := rfl
@[simp] theorem ap_bl1 (b : Bool) : bl1 (.d (.bool b)) = some b := rfl
@[simp] theorem ap_std (np : Nat) (s : DS) (x : D) : Z.settle np s (.d x) = some (.d x, s) := rfl
@[simp] theorem ap_stt (np : Nat) (s : DS) (x : List D) : Z.settle np s (.t x) = some (.t x, s) := rfl
@[simp] theorem ap_sto (np : Nat) (s : DS) (i : Nat) : Z.settle np s (.o i) = (fz np s (.o i)).bind fun p => some (.d p.1, p.2) := rfl
@[simp] theorem ap_asd (np i : Nat) (s : DS) (x : D) : asg np i (.d x) s = put np i (.dat x) s := rfl
@[simp] theorem ap_ast (np i : Nat) (s : DS) (x : List D) : asg np i (.t x) s = put np i (.own x) s := rfl
@[simp] theorem ap_rtd (np : Nat) (s : DS) (x : D) : rtOf np s (.d x) = some (.d x) := rfl
@[simp] theorem ap_rtt (np : Nat) (s : DS) (x : List D) : rtOf np s (.t x) = some (.t x) := rfl
@[simp] theorem ap_rto (np : Nat) (s : DS) (i : Nat) : rtOf np s (.o i) = match s[i]? with
    | some (.dat d) => some (.d d)
    | some (.own xs) => if i < np then none else some (.t xs)
    | _ => none := rfl
@[simp] theorem ap_put (np i : Nat) (z : Slot) (s : DS) : put np i z s = if blk np s i = true then none else if i < s.length then some (s.set i z) else none := rfl
@[simp] theorem ap_blk (np : Nat) (s : DS) (i : Nat) : blk np s i = (decide (i < np) && (match s[i]? with | some (.own _) => true | _ => false)) := rfl
@[simp] theorem ap_gtup (f : List D → DS → Option DS) (ds : List D) (s : DS) : gtup f (.tuple ds) s = f ds s := rfl
@[simp] theorem ap_gtupr (f : List D → DS → Option DS) (ds : List D) (s : DS) : gtup f (rawT ds) s = f ds s := rfl
@[simp] theorem ap_gcons (f : D → DS → Option DS) (g : List D → DS → Option DS) (d : D) (ds : List D) (s : DS) : gcons f g (d :: ds) s = (f d s).bind (g ds) := rfl
@[simp] theorem ap_gnil (s : DS) : gnil [] s = some s := rfl
@[simp] theorem ap_wipe0 (s : DS) : wipeD s [] = s := rfl
@[simp] theorem ap_wipe1 (s : DS) (v : Nat) (vs : List Nat) : wipeD s (v :: vs) = (wipeD s vs).set v .no := rfl
@[simp] theorem ap_back0 (s0 s : DS) : backD s0 s [] = s := rfl
@[simp] theorem ap_back1 (s0 s : DS) (v : Nat) (vs : List Nat) : backD s0 s (v :: vs) = (backD s0 s vs).set v (s0.getD v .no) := rfl
/-! operations -/
@[simp] theorem ix_t0 (a : D) (r : List D) : gIx (.tuple (a :: r)) (.int 0) = some (.d a) := by
  show (atI (a :: r) 0).bind _ = _
  unfold atI ixN
  rw [if_pos (by decide), if_pos (by rw [List.length_cons]; omega)]
  rfl
@[simp] theorem ix_t1 (a b : D) (r : List D) : gIx (.tuple (a :: b :: r)) (.int 1) = some (.d b) := by
  show (atI (a :: b :: r) 1).bind _ = _
  unfold atI ixN
  rw [if_pos (by decide), if_pos (by rw [List.length_cons, List.length_cons]; omega)]
  rfl
@[simp] theorem ix_t2 (a b c : D) (r : List D) : gIx (.tuple (a :: b :: c :: r)) (.int 2) = some (.d c) := by
  show (atI (a :: b :: c :: r) 2).bind _ = _
  unfold atI ixN
  rw [if_pos (by decide), if_pos (by rw [List.length_cons, List.length_cons, List.length_cons]; omega)]
  rfl
@[simp] theorem ix_l0 (a : D) (r : List D) : gIx (.list (a :: r)) (.int 0) = some (.d a) := by
  show (atI (a :: r) 0).bind _ = _
  unfold atI ixN
  rw [if_pos (by decide), if_pos (by rw [List.length_cons]; omega)]
  rfl
@[simp] theorem ix_l1 (a b : D) (r : List D) : gIx (.list (a :: b :: r)) (.int 1) = some (.d b) := by
  show (atI (a :: b :: r) 1).bind _ = _
  unfold atI ixN
  rw [if_pos (by decide), if_pos (by rw [List.length_cons, List.length_cons]; omega)]
  rfl
@[simp] theorem op_add (i j : Int) : gAdd (.int i) (.int j) = some (.d (.int (i + j))) := rfl
@[simp] theorem op_sub (i j : Int) : gSub (.int i) (.int j) = some (.d (.int (i - j))) := rfl
@[simp] theorem op_iadd (i j : Int) : gIAdd (.int i) (.int j) = some (.d (.int (i + j))) := rfl
@[simp] theorem op_lt (i j : Int) : gLt (.int i) (.int j) = some (.d (.bool (decide (i < j)))) := rfl
@[simp] theorem op_le (i j : Int) : gLe (.int i) (.int j) = some (.d (.bool (decide (i ≤ j)))) := rfl
@[simp] theorem op_gt (i j : Int) : gGt (.int i) (.int j) = some (.d (.bool (decide (j < i)))) := rfl
@[simp] theorem op_ge (i j : Int) : gGe (.int i) (.int j) = some (.d (.bool (decide (j ≤ i)))) := rfl
@[simp] theorem op_eqi (n : Bool) (i j : Int) : gEq n (.int i) (.int j) = some (.d (.bool (if n then !decide (i = j) else decide (i = j)))) := rfl
@[simp] theorem op_eqs (n : Bool) (i j : Str) : gEq n (.str i) (.str j) = some (.d (.bool (if n then !decide (i = j) else decide (i = j)))) := rfl
@[simp] theorem op_eqni (n : Bool) (j : Int) : gEq n .none (.int j) = some (.d (.bool (if n then !false else false))) := rfl
@[simp] theorem op_isn (n : Bool) (x : D) : gIs n x .none = some (.d (.bool (if n then !isNo x else isNo x))) := by cases x <;> rfl
@[simp] theorem no_no : isNo .none = true := rfl
@[simp] theorem no_int (i : Int) : isNo (.int i) = false := rfl
@[simp] theorem no_tup (i : List D) : isNo (.tuple i) = false := rfl
@[simp] theorem op_ins2 (w a b : Str) : gIn false (.str w) (.tuple [.str a, .str b]) = some (.d (.bool (decide (w = a ∨ w = b)))) := by
  show some (R.d (.bool (inD (.str w) [.str a, .str b]))) = _
  unfold inD
  show some (R.d (.bool ((a == w) || ((b == w) || false)))) = _
  rw [Bool.or_false]
  by_cases h1 : w = a
  · subst h1; simp
  · by_cases h2 : w = b
    · subst h2; simp
    · have h1' : ¬ a = w := fun e => h1 e.symm
      have h2' : ¬ b = w := fun e => h2 e.symm
      simp [h1, h2, h1', h2']
@[simp] theorem op_addt (a b : List D) (h : a.length + b.length ≤ 100000) : gAdd (.tuple a) (.tuple b) = some (.d (.tuple (a ++ b))) := if_pos h
@[simp] theorem op_iaddt (a b : List D) (h : a.length + b.length ≤ 100000) : gIAdd (.tuple a) (.tuple b) = some (.d (.tuple (a ++ b))) := if_pos h
@[simp] theorem op_lent (a : List D) : gLen [.tuple a] = some (.d (.int a.length)) := rfl
@[simp] theorem op_lenl (a : List D) : gLen [.list a] = some (.d (.int a.length)) := rfl
@[simp] theorem op_rev (a : List D) : gRev (.list a) = some (.t a.reverse) := rfl
@[simp] theorem op_totl (a : List D) : gTup [.list a] = some (.d (.tuple a)) := rfl
@[simp] theorem op_tott (a : List D) : gTup [.tuple a] = some (.d (.tuple a)) := rfl
@[simp] theorem op_toll (a : List D) : gLst [.list a] = some (.t a) := rfl
@[simp] theorem op_tolt (a : List D) : gLst [.tuple a] = some (.t a) := rfl
@[simp] theorem op_inti (i : Int) : gInt [.int i] = some (.d (.int i)) := rfl
@[simp] theorem op_intb (b : Bool) : gInt [.bool b] = some (.d (.int (if b then 1 else 0))) := rfl
@[simp] theorem op_max2 (i j : Int) : gMax2 [.int i, .int j] = some (.d (.int (if j > i then j else i))) := rfl
@[simp] theorem op_min2 (i j : Int) : gMin2 [.int i, .int j] = some (.d (.int (if j < i then j else i))) := rfl
@[simp] theorem op_sum (ns : List Int) : gSum [.list (ns.map PyData.int)] = some (.d (.int ns.sum)) := by
  show (intsOf _).bind _ = _
  rw [intsOf_map]
  rfl
@[simp] theorem op_max1 (ns : List Int) (h : ns ≠ []) : gMax1 [.list (ns.map PyData.int)] = some (.d (.int (maxL ns))) := by
  show (intsOf _).bind _ = _
  rw [intsOf_map]
  cases ns with
  | nil => exact absurd rfl h
  | cons _ _ => rfl
@[simp] theorem op_min1 (ns : List Int) (h : ns ≠ []) : gMin1 [.list (ns.map PyData.int)] = some (.d (.int (minL ns))) := by
  show (intsOf _).bind _ = _
  rw [intsOf_map]
  cases ns with
  | nil => exact absurd rfl h
  | cons _ _ => rfl
theorem boolsOf_map : ∀ ns : List Bool, boolsOf (ns.map PyData.bool) = some ns
  | [] => rfl
  | n :: r => by
    show (boolsOf (r.map PyData.bool)).bind _ = _
    rw [boolsOf_map r]
    rfl
@[simp] theorem op_all (ns : List Bool) : gAll [.list (ns.map PyData.bool)] = some (.d (.bool (ns.all id))) := by
  show (boolsOf _).bind _ = _
  rw [boolsOf_map]
  rfl
/-! loops -/
@[simp] theorem for_nil (tg : D → DS → Option DS) (body : SM) (s : DS) : forL tg body [] s = some (.nx, s) := rfl
theorem for_cons (tg : D → DS → Option DS) (body : SM) (x : D) (xs : List D) (s : DS) : forL tg body (x :: xs) s = (tg x s).bind fun s1 => (body s1).bind fun p => match p.1 with
    | .nx => forL tg body xs p.2
    | .ct => forL tg body xs p.2
    | .bk => some (.nx, p.2)
    | .rt r => some (.rt r, p.2) := rfl
/-- one value for each item -/
theorem cmp_map {β : Type} {np v : Nat} {elt : XM} {s : DS} (enc g : β → D) (hv : v < s.length) (hnp : np ≤ v) (hs : s[v]? = some .no) : ∀ (ps : List β) (acc : List D), acc.length + ps.length ≤ 100000 → (∀ p ∈ ps, elt (s.set v (.dat (enc p))) = some (.d (g p), s.set v (.dat (enc p)))) →
    cmpL np (gn np v) tyes elt [v] (ps.map enc) acc s = some (acc ++ ps.map g, s)
  | [], acc, _, _ => by rw [List.map_nil, List.map_nil, List.append_nil]; rfl
  | d :: ds, acc, hl, h => by
    have e := h d (List.mem_cons_self ..)
    have b : blk np s v = false := by
      unfold blk
      rw [decide_eq_false (by omega), Bool.false_and]
    have w : (s.set v (.dat (enc d))).set v .no = s := by
      rw [List.set_set]
      refine List.ext_getElem? fun i => ?_
      by_cases hi : v = i
      · subst hi
        rw [List.getElem?_set_self hv, hs]
      · rw [List.getElem?_set_ne hi]
    rw [List.length_cons] at hl
    show (put np v (.dat (enc d)) s).bind _ = _
    unfold put
    rw [b, if_neg Bool.false_ne_true, if_pos hv]
    show (elt (s.set v (.dat (enc d)))).bind _ = _
    rw [e]
    show (if acc.length < 100000 then cmpL np (gn np v) tyes elt [v] (ds.map enc) (acc ++ [g d]) ((s.set v (.dat (enc d))).set v .no) else none) = _
    rw [if_pos (by omega), w, cmp_map enc g hv hnp hs ds (acc ++ [g d]) (by rw [List.length_append, List.length_singleton]; omega) fun d' hd => h d' (List.mem_cons_of_mem _ hd), List.append_assoc]
    rfl

@[simp] theorem sn_log_await : (("log" : Str) = ("await" : Str)) = False := eq_false (by decide)
@[simp] theorem sn_log_seq : (("log" : Str) = ("seq" : Str)) = False := eq_false (by decide)
@[simp] theorem sn_log_fork : (("log" : Str) = ("fork" : Str)) = False := eq_false (by decide)
@[simp] theorem sn_log_join : (("log" : Str) = ("join" : Str)) = False := eq_false (by decide)
@[simp] theorem sn_log_race : (("log" : Str) = ("race" : Str)) = False := eq_false (by decide)
@[simp] theorem sn_log_loop : (("log" : Str) = ("loop" : Str)) = False := eq_false (by decide)
@[simp] theorem sn_await_log : (("await" : Str) = ("log" : Str)) = False := eq_false (by decide)
@[simp] theorem sn_await_seq : (("await" : Str) = ("seq" : Str)) = False := eq_false (by decide)
@[simp] theorem sn_await_fork : (("await" : Str) = ("fork" : Str)) = False := eq_false (by decide)
@[simp] theorem sn_await_join : (("await" : Str) = ("join" : Str)) = False := eq_false (by decide)
@[simp] theorem sn_await_race : (("await" : Str) = ("race" : Str)) = False := eq_false (by decide)
@[simp] theorem sn_await_loop : (("await" : Str) = ("loop" : Str)) = False := eq_false (by decide)
@[simp] theorem sn_seq_log : (("seq" : Str) = ("log" : Str)) = False := eq_false (by decide)
@[simp] theorem sn_seq_await : (("seq" : Str) = ("await" : Str)) = False := eq_false (by decide)
@[simp] theorem sn_seq_fork : (("seq" : Str) = ("fork" : Str)) = False := eq_false (by decide)
@[simp] theorem sn_seq_join : (("seq" : Str) = ("join" : Str)) = False := eq_false (by decide)
@[simp] theorem sn_seq_race : (("seq" : Str) = ("race" : Str)) = False := eq_false (by decide)
@[simp] theorem sn_seq_loop : (("seq" : Str) = ("loop" : Str)) = False := eq_false (by decide)
@[simp] theorem sn_fork_log : (("fork" : Str) = ("log" : Str)) = False := eq_false (by decide)
@[simp] theorem sn_fork_await : (("fork" : Str) = ("await" : Str)) = False := eq_false (by decide)
@[simp] theorem sn_fork_seq : (("fork" : Str) = ("seq" : Str)) = False := eq_false (by decide)
@[simp] theorem sn_fork_join : (("fork" : Str) = ("join" : Str)) = False := eq_false (by decide)
@[simp] theorem sn_fork_race : (("fork" : Str) = ("race" : Str)) = False := eq_false (by decide)
@[simp] theorem sn_fork_loop : (("fork" : Str) = ("loop" : Str)) = False := eq_false (by decide)
@[simp] theorem sn_join_log : (("join" : Str) = ("log" : Str)) = False := eq_false (by decide)
@[simp] theorem sn_join_await : (("join" : Str) = ("await" : Str)) = False := eq_false (by decide)
@[simp] theorem sn_join_seq : (("join" : Str) = ("seq" : Str)) = False := eq_false (by decide)
@[simp] theorem sn_join_fork : (("join" : Str) = ("fork" : Str)) = False := eq_false (by decide)
@[simp] theorem sn_join_race : (("join" : Str) = ("race" : Str)) = False := eq_false (by decide)
@[simp] theorem sn_join_loop : (("join" : Str) = ("loop" : Str)) = False := eq_false (by decide)
@[simp] theorem sn_race_log : (("race" : Str) = ("log" : Str)) = False := eq_false (by decide)
@[simp] theorem sn_race_await : (("race" : Str) = ("await" : Str)) = False := eq_false (by decide)
@[simp] theorem sn_race_seq : (("race" : Str) = ("seq" : Str)) = False := eq_false (by decide)
@[simp] theorem sn_race_fork : (("race" : Str) = ("fork" : Str)) = False := eq_false (by decide)
@[simp] theorem sn_race_join : (("race" : Str) = ("join" : Str)) = False := eq_false (by decide)
@[simp] theorem sn_race_loop : (("race" : Str) = ("loop" : Str)) = False := eq_false (by decide)
@[simp] theorem sn_loop_log : (("loop" : Str) = ("log" : Str)) = False := eq_false (by decide)
@[simp] theorem sn_loop_await : (("loop" : Str) = ("await" : Str)) = False := eq_false (by decide)
@[simp] theorem sn_loop_seq : (("loop" : Str) = ("seq" : Str)) = False := eq_false (by decide)
@[simp] theorem sn_loop_fork : (("loop" : Str) = ("fork" : Str)) = False := eq_false (by decide)
@[simp] theorem sn_loop_join : (("loop" : Str) = ("join" : Str)) = False := eq_false (by decide)
@[simp] theorem sn_loop_race : (("loop" : Str) = ("race" : Str)) = False := eq_false (by decide)
end Z
end
section
set_option maxRecDepth 100000
set_option maxHeartbeats 4000000
namespace K41
open PySem PySem.Spec L2 Z
def topS (i : Nat) : Stmt := PySem.Challenge.pw_awaitrounds_k41_tests_known_by_hand.main.body.getD i (.Pass ⟨0, 0, 0, 0⟩)
abbrev s_finish : Stmt := topS 10
abbrev N_finish : List Str := ["program", "word", "ends", "part"]
theorem sc_finish : FnScope N_finish ["program"] (defScope s_finish) := ⟨rfl, rfl, rfl, by decide +kernel, rfl, by decide +kernel, by decide +kernel⟩
abbrev s_sides_of_seq : Stmt := topS 11
abbrev N_sides_of_seq : List Str := ["parts", "at", "left", "right", "part", "sides"]
theorem sc_sides_of_seq : FnScope N_sides_of_seq ["parts", "at"] (defScope s_sides_of_seq) := ⟨rfl, rfl, rfl, by decide +kernel, rfl, by decide +kernel, by decide +kernel⟩
abbrev s_sides_of_loop : Stmt := topS 12
abbrev N_sides_of_loop : List Str := ["count", "body", "at", "length", "low", "high", "left", "right", "number", "sides"]
theorem sc_sides_of_loop : FnScope N_sides_of_loop ["count", "body", "at"] (defScope s_sides_of_loop) := ⟨rfl, rfl, rfl, by decide +kernel, rfl, by decide +kernel, by decide +kernel⟩
abbrev s_sides_beside : Stmt := topS 13
abbrev N_sides_beside : List Str := ["parts", "at", "key", "some", "left", "right", "index", "sides", "part"]
theorem sc_sides_beside : FnScope N_sides_beside ["parts", "at", "key"] (defScope s_sides_beside) := ⟨rfl, rfl, rfl, by decide +kernel, rfl, by decide +kernel, by decide +kernel⟩
abbrev s_key_part : Stmt := topS 14
abbrev N_key_part : List Str := ["program", "ends", "part"]
theorem sc_key_part : FnScope N_key_part ["program"] (defScope s_key_part) := ⟨rfl, rfl, rfl, by decide +kernel, rfl, by decide +kernel, by decide +kernel⟩
abbrev s_sides_of : Stmt := topS 15
abbrev N_sides_of : List Str := ["program", "at", "word", "sides"]
theorem sc_sides_of : FnScope N_sides_of ["program", "at"] (defScope s_sides_of) := ⟨rfl, rfl, rfl, by decide +kernel, rfl, by decide +kernel, by decide +kernel⟩
abbrev s_marked : Stmt := topS 16
abbrev N_marked : List Str := ["program", "at", "left", "right"]
theorem sc_marked : FnScope N_marked ["program", "at"] (defScope s_marked) := ⟨rfl, rfl, rfl, by decide +kernel, rfl, by decide +kernel, by decide +kernel⟩
abbrev s_is_number : Stmt := topS 19
abbrev N_is_number : List Str := ["value"]
theorem sc_is_number : FnScope N_is_number ["value"] (defScope s_is_number) := ⟨rfl, rfl, rfl, by decide +kernel, rfl, by decide +kernel, by decide +kernel⟩
abbrev s_total : Stmt := topS 20
abbrev N_total : List Str := ["program", "word", "part"]
theorem sc_total : FnScope N_total ["program"] (defScope s_total) := ⟨rfl, rfl, rfl, by decide +kernel, rfl, by decide +kernel, by decide +kernel⟩
abbrev s_count_in_loop : Stmt := topS 21
abbrev N_count_in_loop : List Str := ["count", "body", "at", "pace", "complete", "begun", "turn"]
theorem sc_count_in_loop : FnScope N_count_in_loop ["count", "body", "at"] (defScope s_count_in_loop) := ⟨rfl, rfl, rfl, by decide +kernel, rfl, by decide +kernel, by decide +kernel⟩
abbrev s_count_before : Stmt := topS 22
abbrev N_count_before : List Str := ["program", "at", "word", "found", "begin", "part"]
theorem sc_count_before : FnScope N_count_before ["program", "at"] (defScope s_count_before) := ⟨rfl, rfl, rfl, by decide +kernel, rfl, by decide +kernel, by decide +kernel⟩
abbrev s_moments : Stmt := topS 30
abbrev N_moments : List Str := ["program", "begin", "word", "end", "found", "part"]
theorem sc_moments : FnScope N_moments ["program", "begin"] (defScope s_moments) := ⟨rfl, rfl, rfl, by decide +kernel, rfl, by decide +kernel, by decide +kernel⟩
abbrev s_changes : Stmt := topS 31
abbrev N_changes : List Str := ["program"]
theorem sc_changes : FnScope N_changes ["program"] (defScope s_changes) := ⟨rfl, rfl, rfl, by decide +kernel, rfl, by decide +kernel, by decide +kernel⟩
abbrev s_first_unequal : Stmt := topS 32
abbrev N_first_unequal : List Str := ["row", "other", "index"]
theorem sc_first_unequal : FnScope N_first_unequal ["row", "other"] (defScope s_first_unequal) := ⟨rfl, rfl, rfl, by decide +kernel, rfl, by decide +kernel, by decide +kernel⟩
abbrev s_first_difference : Stmt := topS 33
abbrev N_first_difference : List Str := ["one", "other", "bounds", "begin", "end", "at", "row", "other_row"]
theorem sc_first_difference : FnScope N_first_difference ["one", "other"] (defScope s_first_difference) := ⟨rfl, rfl, rfl, by decide +kernel, rfl, by decide +kernel, by decide +kernel⟩
abbrev s_same : Stmt := topS 34
abbrev N_same : List Str := ["one", "other"]
theorem sc_same : FnScope N_same ["one", "other"] (defScope s_same) := ⟨rfl, rfl, rfl, by decide +kernel, rfl, by decide +kernel, by decide +kernel⟩
abbrev s_test_count : Stmt := topS 35
abbrev N_test_count : List Str := ["program", "test", "at", "behind", "beside", "found"]
theorem sc_test_count : FnScope N_test_count ["program", "test", "at"] (defScope s_test_count) := ⟨rfl, rfl, rfl, by decide +kernel, rfl, by decide +kernel, by decide +kernel⟩
abbrev s_test_row : Stmt := topS 36
abbrev N_test_row : List Str := ["program", "test", "at", "behind", "beside", "row", "gap", "is_marked"]
theorem sc_test_row : FnScope N_test_row ["program", "test", "at"] (defScope s_test_row) := ⟨rfl, rfl, rfl, by decide +kernel, rfl, by decide +kernel, by decide +kernel⟩
abbrev s_test_entry : Stmt := topS 37
abbrev N_test_entry : List Str := ["program", "test", "number", "low", "high", "middle"]
theorem sc_test_entry : FnScope N_test_entry ["program", "test", "number"] (defScope s_test_entry) := ⟨rfl, rfl, rfl, by decide +kernel, rfl, by decide +kernel, by decide +kernel⟩
abbrev s_teller : Stmt := topS 38
abbrev N_teller : List Str := ["one", "other", "found", "at", "index", "row", "other_row", "gaps", "behind", "plain"]
theorem sc_teller : FnScope N_teller ["one", "other"] (defScope s_teller) := ⟨rfl, rfl, rfl, by decide +kernel, rfl, by decide +kernel, by decide +kernel⟩
abbrev s_is_test : Stmt := topS 39
abbrev N_is_test : List Str := ["value", "part"]
theorem sc_is_test : FnScope N_is_test ["value"] (defScope s_is_test) := ⟨rfl, rfl, rfl, by decide +kernel, rfl, by decide +kernel, by decide +kernel⟩
abbrev s_shows_teller : Stmt := topS 40
abbrev N_shows_teller : List Str := ["one", "other", "value"]
theorem sc_shows_teller : FnScope N_shows_teller ["one", "other", "value"] (defScope s_shows_teller) := ⟨rfl, rfl, rfl, by decide +kernel, rfl, by decide +kernel, by decide +kernel⟩
abbrev s__law_pot : Stmt := topS 42
abbrev N__law_pot : List Str := ["script", "k", "cell", "own"]
theorem sc__law_pot : FnScope N__law_pot ["script", "k"] (defScope s__law_pot) := ⟨rfl, rfl, rfl, by decide +kernel, rfl, by decide +kernel, by decide +kernel⟩
abbrev s__law_take : Stmt := topS 43
abbrev N__law_take : List Str := ["pot", "bound", "digit", "prime", "mixed"]
theorem sc__law_take : FnScope N__law_take ["pot", "bound"] (defScope s__law_take) := ⟨rfl, rfl, rfl, by decide +kernel, rfl, by decide +kernel, by decide +kernel⟩
abbrev s__law_of : Stmt := topS 44
abbrev N__law_of : List Str := ["pot", "some"]
theorem sc__law_of : FnScope N__law_of ["pot", "some"] (defScope s__law_of) := ⟨rfl, rfl, rfl, by decide +kernel, rfl, by decide +kernel, by decide +kernel⟩
abbrev s__law_gaps_right : Stmt := topS 45
abbrev N__law_gaps_right : List Str := ["many", "left", "right", "fast", "slow", "told", "spot", "part"]
theorem sc__law_gaps_right : FnScope N__law_gaps_right ["many"] (defScope s__law_gaps_right) := ⟨rfl, rfl, rfl, by decide +kernel, rfl, by decide +kernel, by decide +kernel⟩
abbrev s__law_alike : Stmt := topS 46
abbrev N__law_alike : List Str := ["one", "other", "part", "its"]
theorem sc__law_alike : FnScope N__law_alike ["one", "other"] (defScope s__law_alike) := ⟨rfl, rfl, rfl, by decide +kernel, rfl, by decide +kernel, by decide +kernel⟩
abbrev s__law_names_right : Stmt := topS 47
abbrev N__law_names_right : List Str := ["left", "right", "told", "due"]
theorem sc__law_names_right : FnScope N__law_names_right ["left", "right"] (defScope s__law_names_right) := ⟨rfl, rfl, rfl, by decide +kernel, rfl, by decide +kernel, by decide +kernel⟩
abbrev s__law_long_rows_right : Stmt := topS 48
abbrev N__law_long_rows_right : List Str := ["pot", "logs", "spot", "others", "left", "right", "kind", "place", "last", "at"]
theorem sc__law_long_rows_right : FnScope N__law_long_rows_right ["pot"] (defScope s__law_long_rows_right) := ⟨rfl, rfl, rfl, by decide +kernel, rfl, by decide +kernel, by decide +kernel⟩
abbrev s_law : Stmt := topS 49
abbrev N_law : List Str := ["script", "pot", "many", "left", "right", "gone", "told", "back", "spot", "kind"]
theorem sc_law : FnScope N_law ["script"] (defScope s_law) := ⟨rfl, rfl, rfl, by decide +kernel, rfl, by decide +kernel, by decide +kernel⟩
def q_finish_0 (G : Nat → FM) : XM :=
  (xcall (G 0) (pcons 1 (xv 3) pnil))
def b_finish (G : Nat → FM) : SM :=
  (sseq (sasg 1 1 (x2 gIx (xv 0) (xc (.int 0))))
    (sseq (sif (tb (x2 (gIn false) (xv 1) (xtup (dcons 1 (xc (.str "log")) (dcons 1 (xc (.str "fork")) dnil))))) (sret 1 (xc (.int 0))) snx)
    (sseq (sif (tb (x2 (gEq false) (xv 1) (xc (.str "await")))) (sret 1 (x2 gIx (xv 0) (xc (.int 1)))) snx)
    (sseq (sif (tb (x2 (gEq false) (xv 1) (xc (.str "loop")))) (sret 1 (x2 gMul (x2 gIx (xv 0) (xc (.int 1))) (xcall (G 0) (pcons 1 (x2 gIx (xv 0) (xc (.int 2))) pnil)))) snx)
    (sseq (sasg 1 2 (xcmp 1 (itup 1 (x2 gIx (xv 0) (xc (.int 1)))) (gn 1 3) tyes (q_finish_0 G) [3]))
    (sseq (sif (tb (x2 (gEq false) (xv 1) (xc (.str "seq")))) (sret 1 (xcb gSum (acons (xv 2) anil))) snx)
    (sret 1 (xif (tb (x2 (gEq false) (xv 1) (xc (.str "join")))) (xcb gMax1 (acons (xv 2) anil)) (xcb gMin1 (acons (xv 2) anil))))))))))
def l_sides_of_seq_0 (G : Nat → FM) : SM :=
  (sseq (sif (tb (x2 gLt (xv 1) (xc (.int 0)))) sbk snx)
    (sseq (sasg 2 5 (xcall (G 5) (pcons 2 (xv 4) (pcons 2 (xv 1) pnil))))
    (sseq (spar 2 2 3 (x2 gAdd (xv 2) (x2 gIx (xv 5) (xc (.int 0)))) (x2 gAdd (x2 gIx (xv 5) (xc (.int 1))) (xv 3)))
    (saug 2 1 gSub (xcall (G 0) (pcons 2 (xv 4) pnil))))))
def b_sides_of_seq (G : Nat → FM) : SM :=
  (sseq (sunp 2 (gtup (gcons (gn 2 2) (gcons (gn 2 3) gnil))) (xtup (dcons 2 (xtup dnil) (dcons 2 (xtup dnil) dnil))))
    (sseq (sfor (itup 2 (xv 0)) (gn 2 4) (l_sides_of_seq_0 G))
    (sret 2 (xif (tb (x2 gGe (xv 1) (xc (.int 0)))) (xtup (dcons 2 (xv 2) (dcons 2 (xv 3) dnil))) (xtup (dcons 2 (x2 gAdd (xv 2) (xv 3)) (dcons 2 (xtup dnil) dnil)))))))
def l_sides_of_loop_0 (G : Nat → FM) : SM :=
  (sseq (sasg 3 9 (xcall (G 5) (pcons 3 (xv 1) (pcons 3 (x2 gSub (xv 2) (x2 gMul (xv 8) (xv 3))) pnil))))
    (spar 3 6 7 (x2 gAdd (xv 6) (x2 gIx (xv 9) (xc (.int 0)))) (x2 gAdd (x2 gIx (xv 9) (xc (.int 1))) (xv 7))))
def b_sides_of_loop (G : Nat → FM) : SM :=
  (sseq (sasg 3 3 (xcall (G 0) (pcons 3 (xv 1) pnil)))
    (sseq (spar 3 4 5 (xcb gMax2 (acons (xc (.int 0)) (acons (x2 gDiv (x2 gSub (xv 2) (xc (.int 30))) (xv 3)) anil))) (xcb gMin2 (acons (xv 0) (acons (x2 gAdd (x2 gDiv (xv 2) (xv 3)) (xc (.int 1))) anil))))
    (sseq (sunp 3 (gtup (gcons (gn 3 6) (gcons (gn 3 7) gnil))) (xtup (dcons 3 (xtup dnil) (dcons 3 (xtup dnil) dnil))))
    (sseq (sfor (irng2 (dcons 3 (xv 4) (dcons 3 (xv 5) dnil))) (gn 3 8) (l_sides_of_loop_0 G))
    (sret 3 (xif (tb (x2 gGe (xv 2) (x2 gMul (xv 0) (xv 3)))) (xtup (dcons 3 (xv 6) (dcons 3 (xv 7) dnil))) (xtup (dcons 3 (x2 gAdd (xv 6) (xv 7)) (dcons 3 (xtup dnil) dnil)))))))))
def l_sides_beside_0 (G : Nat → FM) : SM :=
  (sif (tb (x2 gLt (xv 6) (xv 2))) (saug 3 4 gIAdd (x2 gAdd (x2 gIx (xv 7) (xc (.int 0))) (x2 gIx (xv 7) (xc (.int 1))))) (sif (tb (x2 (gEq false) (xv 6) (xv 2))) (spar 3 4 5 (x2 gAdd (xv 4) (x2 gIx (xv 7) (xc (.int 0)))) (x2 gIx (xv 7) (xc (.int 1)))) (saug 3 5 gIAdd (x2 gAdd (x2 gIx (xv 7) (xc (.int 0))) (x2 gIx (xv 7) (xc (.int 1)))))))
def q_sides_beside_1 (G : Nat → FM) : XM :=
  (xcall (G 5) (pcons 3 (xv 8) (pcons 3 (xv 1) pnil)))
def b_sides_beside (G : Nat → FM) : SM :=
  (sseq (sasg 3 3 (xcmp 3 (itup 3 (xv 0)) (gn 3 8) tyes (q_sides_beside_1 G) [8]))
    (sseq (sunp 3 (gtup (gcons (gn 3 4) (gcons (gn 3 5) gnil))) (xtup (dcons 3 (xtup dnil) (dcons 3 (xtup dnil) dnil))))
    (sseq (sfor (ienum (dcons 3 (xv 3) dnil)) (gtup (gcons (gn 3 6) (gcons (gn 3 7) gnil))) (l_sides_beside_0 G))
    (sret 3 (xif (tb (x2 gGe (xv 1) (xcall (G 0) (pcons 3 (x2 gIx (xv 0) (xv 2)) pnil)))) (xtup (dcons 3 (xv 4) (dcons 3 (xv 5) dnil))) (xtup (dcons 3 (x2 gAdd (xv 4) (xv 5)) (dcons 3 (xtup dnil) dnil))))))))
def q_key_part_0 (G : Nat → FM) : XM :=
  (xcall (G 0) (pcons 1 (xv 2) pnil))
def b_key_part (G : Nat → FM) : SM :=
  (sseq (sasg 1 1 (xcmp 1 (itup 1 (x2 gIx (xv 0) (xc (.int 1)))) (gn 1 2) tyes (q_key_part_0 G) [2]))
    (sseq (sif (tb (x2 (gEq false) (x2 gIx (xv 0) (xc (.int 0))) (xc (.str "race")))) (sret 1 (xidx (xv 1) (xcb gMin1 (acons (xv 1) anil)))) snx)
    (sret 1 (x2 gSub (x2 gSub (xcb gLen (acons (xv 1) anil)) (xc (.int 1))) (xidx (x1 gRev (xv 1)) (xcb gMax1 (acons (xv 1) anil)))))))
def b_sides_of (G : Nat → FM) : SM :=
  (sseq (sasg 2 2 (x2 gIx (xv 0) (xc (.int 0))))
    (sseq (sif (tb (x2 (gEq false) (xv 2) (xc (.str "log")))) (sret 2 (xif (tb (x2 (gEq false) (xv 1) (xc (.int 0)))) (xtup (dcons 2 (xtup (dcons 2 (x2 gIx (xv 0) (xc (.int 1))) dnil)) (dcons 2 (xtup dnil) dnil))) (xtup (dcons 2 (xtup dnil) (dcons 2 (xtup dnil) dnil))))) snx)
    (sseq (sif (tb (x2 (gEq false) (xv 2) (xc (.str "await")))) (sret 2 (xtup (dcons 2 (xtup dnil) (dcons 2 (xtup dnil) dnil)))) snx)
    (sseq (sif (tb (x2 (gEq false) (xv 2) (xc (.str "fork")))) (sseq (sasg 2 3 (xcall (G 5) (pcons 2 (x2 gIx (xv 0) (xc (.int 1))) (pcons 2 (xv 1) pnil))))
    (sret 2 (xtup (dcons 2 (x2 gAdd (x2 gIx (xv 3) (xc (.int 0))) (x2 gIx (xv 3) (xc (.int 1)))) (dcons 2 (xtup dnil) dnil))))) snx)
    (sseq (sif (tb (x2 (gEq false) (xv 2) (xc (.str "seq")))) (sret 2 (xcall (G 1) (pcons 2 (x2 gIx (xv 0) (xc (.int 1))) (pcons 2 (xv 1) pnil)))) snx)
    (sseq (sif (tb (x2 (gEq false) (xv 2) (xc (.str "loop")))) (sret 2 (xcall (G 2) (pcons 2 (x2 gIx (xv 0) (xc (.int 1))) (pcons 2 (x2 gIx (xv 0) (xc (.int 2))) (pcons 2 (xv 1) pnil))))) snx)
    (sret 2 (xcall (G 3) (pcons 2 (x2 gIx (xv 0) (xc (.int 1))) (pcons 2 (xv 1) (pcons 2 (xcall (G 4) (pcons 2 (xv 0) pnil)) pnil)))))))))))
def b_marked (G : Nat → FM) : SM :=
  (sseq (sunp 2 (gtup (gcons (gn 2 2) (gcons (gn 2 3) gnil))) (xcall (G 5) (pcons 2 (xv 0) (pcons 2 (xv 1) pnil))))
    (sret 2 (xif (tb (x2 gGe (xv 1) (xcall (G 0) (pcons 2 (xv 0) pnil)))) (x2 gAdd (x2 gAdd (xv 2) (xtup (dcons 2 (xc .none) dnil))) (xv 3)) (xv 2))))
def b_is_number (G : Nat → FM) : SM :=
  (sret 1 (xand (x1 (gIsi "int") (xv 0)) (xand (xnot (x1 (gIsi "bool") (xv 0))) (x2 gGe (xv 0) (xc (.int 0))))))
def q_total_0 (G : Nat → FM) : XM :=
  (xcall (G 8) (pcons 1 (xv 2) pnil))
def b_total (G : Nat → FM) : SM :=
  (sseq (sasg 1 1 (x2 gIx (xv 0) (xc (.int 0))))
    (sseq (sif (tb (x2 (gIn false) (xv 1) (xtup (dcons 1 (xc (.str "log")) (dcons 1 (xc (.str "await")) dnil))))) (sret 1 (xcb gInt (acons (x2 (gEq false) (xv 1) (xc (.str "log"))) anil))) snx)
    (sseq (sif (tb (x2 (gEq false) (xv 1) (xc (.str "fork")))) (sret 1 (xcall (G 8) (pcons 1 (x2 gIx (xv 0) (xc (.int 1))) pnil))) snx)
    (sseq (sif (tb (x2 (gEq false) (xv 1) (xc (.str "loop")))) (sret 1 (x2 gMul (x2 gIx (xv 0) (xc (.int 1))) (xcall (G 8) (pcons 1 (x2 gIx (xv 0) (xc (.int 2))) pnil)))) snx)
    (sret 1 (xcb gSum (acons (xcmp 1 (itup 1 (x2 gIx (xv 0) (xc (.int 1)))) (gn 1 2) tyes (q_total_0 G) [2]) anil)))))))
def q_count_in_loop_0 (G : Nat → FM) : XM :=
  (xcall (G 10) (pcons 3 (xv 1) (pcons 3 (x2 gSub (xv 2) (x2 gMul (xv 6) (xv 3))) pnil)))
def b_count_in_loop (G : Nat → FM) : SM :=
  (sseq (sasg 3 3 (xcall (G 0) (pcons 3 (xv 1) pnil)))
    (sseq (sasg 3 4 (xcb gMin2 (acons (xv 0) (acons (xcb gMax2 (acons (xc (.int 0)) (acons (x2 gAdd (x2 gDiv (x2 gSub (x2 gSub (xv 2) (xc (.int 1))) (xc (.int 30))) (xv 3)) (xc (.int 1))) anil))) anil))))
    (sseq (sasg 3 5 (xcb gMin2 (acons (xv 0) (acons (x2 gAdd (x2 gDiv (x2 gSub (xv 2) (xc (.int 1))) (xv 3)) (xc (.int 1))) anil))))
    (sret 3 (x2 gAdd (x2 gMul (xv 4) (xcall (G 8) (pcons 3 (xv 1) pnil))) (xcb gSum (acons (xcmp 3 (irng2 (dcons 3 (xv 4) (dcons 3 (xv 5) dnil))) (gn 3 6) tyes (q_count_in_loop_0 G) [6]) anil)))))))
def l_count_before_0 (G : Nat → FM) : SM :=
  (sseq (saug 2 3 gIAdd (xcall (G 10) (pcons 2 (xv 5) (pcons 2 (x2 gSub (xv 1) (xv 4)) pnil))))
    (saug 2 4 gIAdd (xif (tb (x2 (gEq false) (xv 2) (xc (.str "seq")))) (xcall (G 0) (pcons 2 (xv 5) pnil)) (xc (.int 0)))))
def b_count_before (G : Nat → FM) : SM :=
  (sseq (sasg 2 2 (x2 gIx (xv 0) (xc (.int 0))))
    (sseq (sif (tor (tb (x2 gLe (xv 1) (xc (.int 0)))) (tb (x2 (gEq false) (xv 2) (xc (.str "await"))))) (sret 2 (xc (.int 0))) snx)
    (sseq (sif (tb (x2 (gEq false) (xv 2) (xc (.str "log")))) (sret 2 (xc (.int 1))) snx)
    (sseq (sif (tb (x2 (gEq false) (xv 2) (xc (.str "fork")))) (sret 2 (xcall (G 10) (pcons 2 (x2 gIx (xv 0) (xc (.int 1))) (pcons 2 (xv 1) pnil)))) snx)
    (sseq (sif (tb (x2 (gEq false) (xv 2) (xc (.str "loop")))) (sret 2 (xcall (G 9) (pcons 2 (x2 gIx (xv 0) (xc (.int 1))) (pcons 2 (x2 gIx (xv 0) (xc (.int 2))) (pcons 2 (xv 1) pnil))))) snx)
    (sseq (sunp 2 (gtup (gcons (gn 2 3) (gcons (gn 2 4) gnil))) (xtup (dcons 2 (xc (.int 0)) (dcons 2 (xc (.int 0)) dnil))))
    (sseq (sfor (itup 2 (x2 gIx (xv 0) (xc (.int 1)))) (gn 2 5) (l_count_before_0 G))
    (sret 2 (xv 3)))))))))
def l_moments_0 (G : Nat → FM) : SM :=
  (sseq (sext 2 4 (xcall (G 11) (pcons 2 (xv 5) (pcons 2 (xv 1) pnil))))
    (saug 2 1 gIAdd (xif (tb (x2 (gEq false) (xv 2) (xc (.str "seq")))) (xcall (G 0) (pcons 2 (xv 5) pnil)) (xc (.int 0)))))
def b_moments (G : Nat → FM) : SM :=
  (sseq (sasg 2 2 (x2 gIx (xv 0) (xc (.int 0))))
    (sseq (sif (tb (x2 (gEq false) (xv 2) (xc (.str "log")))) (sret 2 (xlst (dcons 2 (xv 1) (dcons 2 (x2 gAdd (xv 1) (xc (.int 1))) dnil)))) snx)
    (sseq (sif (tb (x2 (gEq false) (xv 2) (xc (.str "await")))) (sret 2 (xlst dnil)) snx)
    (sseq (sif (tb (x2 (gEq false) (xv 2) (xc (.str "fork")))) (sret 2 (xcall (G 11) (pcons 2 (x2 gIx (xv 0) (xc (.int 1))) (pcons 2 (xv 1) pnil)))) snx)
    (sseq (sif (tb (x2 (gEq false) (xv 2) (xc (.str "loop")))) (sseq (sasg 2 3 (x2 gAdd (xv 1) (x2 gMul (x2 gIx (xv 0) (xc (.int 1))) (xcall (G 0) (pcons 2 (x2 gIx (xv 0) (xc (.int 2))) pnil)))))
    (sret 2 (xlst (dcons 2 (xv 1) (dcons 2 (x2 gAdd (xv 1) (xc (.int 36))) (dcons 2 (xv 3) (dcons 2 (x2 gAdd (xv 3) (xc (.int 36))) dnil))))))) snx)
    (sseq (sasg 2 4 (xlst dnil))
    (sseq (sfor (itup 2 (x2 gIx (xv 0) (xc (.int 1)))) (gn 2 5) (l_moments_0 G))
    (sret 2 (xv 4)))))))))
def b_changes (G : Nat → FM) : SM :=
  (sret 1 (xcb gTup (acons (x1 gSrtSet (x2 gAdd (xlst (dcons 1 (xc (.int 0)) (dcons 1 (xcall (G 0) (pcons 1 (xv 0) pnil)) dnil))) (xcall (G 11) (pcons 1 (xv 0) (pcons 1 (xc (.int 0)) pnil))))) anil)))
def c_first_unequal_0 (G : Nat → FM) : TM :=
  (tand (tb (x2 gLt (xv 2) (xcb gMin2 (acons (xcb gLen (acons (xv 0) anil)) (acons (xcb gLen (acons (xv 1) anil)) anil))))) (tb (x2 (gEq false) (x2 gIx (xv 0) (xv 2)) (x2 gIx (xv 1) (xv 2)))))
def l_first_unequal_1 (G : Nat → FM) : SM :=
  (saug 2 2 gIAdd (xc (.int 1)))
def b_first_unequal (G : Nat → FM) : SM :=
  (sseq (sasg 2 2 (xc (.int 0)))
    (sseq (whL (c_first_unequal_0 G) (l_first_unequal_1 G) 1000)
    (sret 2 (xv 2))))
def l_first_difference_0 (G : Nat → FM) : SM :=
  (sseq (spar 2 6 7 (xcall (G 6) (pcons 2 (xv 0) (pcons 2 (xv 5) pnil))) (xcall (G 6) (pcons 2 (xv 1) (pcons 2 (xv 5) pnil))))
    (sif (tb (x2 (gEq true) (xv 6) (xv 7))) (sret 2 (xtup (dcons 2 (xv 5) (dcons 2 (xcall (G 13) (pcons 2 (xv 6) (pcons 2 (xv 7) pnil))) dnil)))) snx))
def l_first_difference_1 (G : Nat → FM) : SM :=
  (sfor (irng2 (dcons 2 (xv 3) (dcons 2 (xcb gMin2 (acons (xv 4) (acons (x2 gAdd (xv 3) (xc (.int 60))) anil))) dnil))) (gn 2 5) (l_first_difference_0 G))
def b_first_difference (G : Nat → FM) : SM :=
  (sseq (sasg 2 2 (x1 gSrtSet (x2 gAdd (xcall (G 12) (pcons 2 (xv 0) pnil)) (xcall (G 12) (pcons 2 (xv 1) pnil)))))
    (sseq (sfor (izip (dcons 2 (xv 2) (dcons 2 (x2 gAdd (xsl (lsome (xc (.int 1))) lno (xv 2)) (xlst (dcons 2 (x2 gAdd (x2 gIx (xv 2) (x1 gNeg (xc (.int 1)))) (xc (.int 60))) dnil))) dnil))) (gtup (gcons (gn 2 3) (gcons (gn 2 4) gnil))) (l_first_difference_1 G))
    (sret 2 (xc .none))))
def b_same (G : Nat → FM) : SM :=
  (sret 2 (x2 (gIs false) (xcall (G 14) (pcons 2 (xv 0) (pcons 2 (xv 1) pnil))) (xc .none)))
def b_test_count (G : Nat → FM) : SM :=
  (sseq (sunp 3 (gtup (gcons (gn 3 3) (gcons (gn 3 4) gnil))) (xv 1))
    (sseq (sasg 3 5 (xif (tb (x2 (gIs false) (xv 2) (xc .none))) (xcall (G 8) (pcons 3 (xv 0) pnil)) (xcall (G 10) (pcons 3 (xv 0) (pcons 3 (xv 2) pnil)))))
    (sseq (sif (tand (tb (x2 (gIs true) (xv 3) (xc .none))) (tor (tb (x2 (gIs false) (xv 2) (xc .none))) (tb (x2 gLt (x2 gAdd (xcall (G 0) (pcons 3 (xv 0) pnil)) (xv 3)) (xv 2))))) (saug 3 5 gIAdd (xc (.int 1))) snx)
    (sret 3 (x2 gAdd (xv 5) (xcb gInt (acons (xand (x2 (gIs true) (xv 4) (xc .none)) (xor (x2 (gIs false) (xv 2) (xc .none)) (x2 gLt (xv 4) (xv 2)))) anil)))))))
def b_test_row (G : Nat → FM) : SM :=
  (sseq (sunp 3 (gtup (gcons (gn 3 3) (gcons (gn 3 4) gnil))) (xv 1))
    (sseq (sasg 3 5 (xcb gLst (acons (xcall (G 6) (pcons 3 (xv 0) (pcons 3 (xv 2) pnil))) anil)))
    (sseq (sif (tb (x2 (gIn false) (xc .none) (xv 5))) (sseq (sasg 3 6 (xidx (xv 5) (xc .none)))
    (sseq (sasg 3 7 (xand (x2 (gIs true) (xv 3) (xc .none)) (x2 (gEq false) (x2 gAdd (xcall (G 0) (pcons 3 (xv 0) pnil)) (xv 3)) (xv 2))))
    (sasg 3 5 (x2 gAdd (x2 gAdd (xsl lno (lsome (xv 6)) (xv 5)) (xif (tb (xv 7)) (xlst (dcons 3 (xc (.int 0)) dnil)) (xlst dnil))) (xsl (lsome (x2 gAdd (xv 6) (xc (.int 1)))) lno (xv 5)))))) snx)
    (sret 3 (x2 gAdd (xv 5) (xif (tb (x2 (gEq false) (xv 4) (xv 2))) (xlst (dcons 3 (xc (.int 1)) dnil)) (xlst dnil)))))))
def c_test_entry_0 (G : Nat → FM) : TM :=
  (tb (x2 gGt (x2 gSub (xv 4) (xv 3)) (xc (.int 1))))
def l_test_entry_1 (G : Nat → FM) : SM :=
  (sseq (sasg 3 5 (x2 gDiv (x2 gAdd (xv 3) (xv 4)) (xc (.int 2))))
    (sif (tb (x2 gLe (xcall (G 16) (pcons 3 (xv 0) (pcons 3 (xv 1) (pcons 3 (xv 5) pnil)))) (xv 2))) (sasg 3 3 (xv 5)) (sasg 3 4 (xv 5))))
def c_test_entry_2 (G : Nat → FM) : TM :=
  (tb (x2 gLe (xcall (G 16) (pcons 3 (xv 0) (pcons 3 (xv 1) (pcons 3 (xv 4) pnil)))) (xv 2)))
def l_test_entry_3 (G : Nat → FM) : SM :=
  (spar 3 3 4 (xv 4) (x2 gMul (xv 4) (xc (.int 2))))
def b_test_entry (G : Nat → FM) : SM :=
  (sseq (sif (tb (x2 gGe (xv 2) (xcall (G 16) (pcons 3 (xv 0) (pcons 3 (xv 1) (pcons 3 (xc .none) pnil)))))) (sret 3 (xc .none)) snx)
    (sseq (sunp 3 (gtup (gcons (gn 3 3) (gcons (gn 3 4) gnil))) (xtup (dcons 3 (xc (.int 0)) (dcons 3 (xc (.int 1)) dnil))))
    (sseq (whL (c_test_entry_2 G) (l_test_entry_3 G) 1000)
    (sseq (whL (c_test_entry_0 G) (l_test_entry_1 G) 1000)
    (sret 3 (x2 gIx (xcall (G 17) (pcons 3 (xv 0) (pcons 3 (xv 1) (pcons 3 (xv 3) pnil)))) (x2 gSub (xv 2) (xcall (G 16) (pcons 3 (xv 0) (pcons 3 (xv 1) (pcons 3 (xv 3) pnil)))))))))))
def b_teller (G : Nat → FM) : SM :=
  (sseq (sasg 2 2 (xcall (G 14) (pcons 2 (xv 0) (pcons 2 (xv 1) pnil))))
    (sseq (sif (tb (x2 (gIs false) (xv 2) (xc .none))) (sret 2 (xc .none)) snx)
    (sseq (sunp 2 (gtup (gcons (gn 2 3) (gcons (gn 2 4) gnil))) (xv 2))
    (sseq (spar 2 5 6 (xcall (G 6) (pcons 2 (xv 0) (pcons 2 (xv 3) pnil))) (xcall (G 6) (pcons 2 (xv 1) (pcons 2 (xv 3) pnil))))
    (sseq (sasg 2 7 (xlst (dcons 2 (xif (tb (x2 (gIn false) (xc .none) (xv 5))) (xidxT (xv 5) (xc .none)) (xc .none)) (dcons 2 (xif (tb (x2 (gIn false) (xc .none) (xv 6))) (xidxT (xv 6) (xc .none)) (xc .none)) dnil))))
    (sseq (sif (tor (tand (tb (x2 (gIs true) (x2 gIx (xv 7) (xc (.int 0))) (xc .none))) (tb (x2 (gEq false) (x2 gIx (xv 7) (xc (.int 0))) (xv 4)))) (tand (tb (x2 (gIs true) (x2 gIx (xv 7) (xc (.int 1))) (xc .none))) (tb (x2 (gEq false) (x2 gIx (xv 7) (xc (.int 1))) (xv 4))))) (sseq (sasg 2 8 (x2 gSub (xv 3) (xcb gMin2 (acons (xcall (G 0) (pcons 2 (xv 0) pnil)) (acons (xcall (G 0) (pcons 2 (xv 1) pnil)) anil)))))
    (sret 2 (xtup (dcons 2 (xtup (dcons 2 (xv 8) (dcons 2 (xv 3) dnil))) (dcons 2 (x2 gAdd (xcall (G 10) (pcons 2 (xv 0) (pcons 2 (xv 3) pnil))) (xv 4)) dnil))))) snx)
    (sseq (sasg 2 9 (x2 gSub (xv 4) (xcb gInt (acons (x2 (gIn false) (xc .none) (xsl lno (lsome (xv 4)) (xv 5))) anil))))
    (sret 2 (xtup (dcons 2 (xtup (dcons 2 (xc .none) (dcons 2 (xv 3) dnil))) (dcons 2 (x2 gAdd (xcall (G 10) (pcons 2 (xv 0) (pcons 2 (xv 3) pnil))) (xv 9)) dnil)))))))))))
def q_is_test_0 (G : Nat → FM) : XM :=
  (xor (x2 (gIs false) (xv 1) (xc .none)) (xcall (G 7) (pcons 1 (xv 1) pnil)))
def b_is_test (G : Nat → FM) : SM :=
  (sseq (sif (tor (tnot (tb (x1 (gIsi "tuple") (xv 0)))) (tb (x2 (gEq true) (xcb gLen (acons (xv 0) anil)) (xc (.int 2))))) (sret 1 (xc (.bool false))) snx)
    (sret 1 (xcb gAll (acons (xcmp 1 (itup 1 (xv 0)) (gn 1 1) tyes (q_is_test_0 G) [1]) anil))))
def b_shows_teller (G : Nat → FM) : SM :=
  (sseq (sif (tor (tnot (tb (x1 (gIsi "tuple") (xv 2)))) (tor (tb (x2 (gEq true) (xcb gLen (acons (xv 2) anil)) (xc (.int 2)))) (tor (tnot (tb (xcall (G 20) (pcons 3 (x2 gIx (xv 2) (xc (.int 0))) pnil)))) (tnot (tb (xcall (G 7) (pcons 3 (x2 gIx (xv 2) (xc (.int 1))) pnil))))))) (sret 3 (xc (.bool false))) snx)
    (sret 3 (x2 (gEq true) (xcall (G 18) (pcons 3 (xv 0) (pcons 3 (x2 gIx (xv 2) (xc (.int 0))) (pcons 3 (x2 gIx (xv 2) (xc (.int 1))) pnil)))) (xcall (G 18) (pcons 3 (xv 1) (pcons 3 (x2 gIx (xv 2) (xc (.int 0))) (pcons 3 (x2 gIx (xv 2) (xc (.int 1))) pnil)))))))
def b__law_pot (G : Nat → FM) : SM :=
  (sseq (sasg 2 2 (xif (tb (x2 gLt (xv 1) (xcb gLen (acons (xv 0) anil)))) (x2 gIx (xv 0) (xv 1)) (x2 gAdd (x2 gMul (xc (.int 17)) (xv 1)) (xc (.int 9)))))
    (sseq (sasg 2 3 (x2 gMul (x2 gMod (xcb gAbs (acons (xv 2) anil)) (x2 gPowW (x2 gPow (xc (.int 10)) (xc (.int 60))) (xc (.int 5)))) (xcb gInt (acons (x2 gGe (xcb gAbs (acons (xv 2) anil)) (x2 gPow (xc (.int 10)) (xc (.int 18)))) anil))))
    (sret 2 (xlst (dcons 2 (xv 3) (dcons 2 (x2 gMod (x2 gAdd (x2 gAdd (x2 gMul (x2 gMod (xv 2) (xc (.int 2305843009213693951))) (xc (.int 69621))) (x2 gMul (x2 gMul (xc (.int 7919)) (xv 1)) (xv 1))) (xc (.int 31))) (xc (.int 2305843009213693921))) (dcons 2 (xc (.int 0)) dnil)))))))
def b__law_take (G : Nat → FM) : SM :=
  (sseq (sif (tb (x2 gGt (x2 gIx (xv 0) (xc (.int 0))) (xc (.int 0)))) (sseq (sasg 2 2 (x2 gMod (x2 gIx (xv 0) (xc (.int 0))) (xv 1)))
    (sseq (sput 2 0 0 (x2 gDiv (x2 gIx (xv 0) (xc (.int 0))) (xv 1)))
    (sret 2 (xv 2)))) snx)
    (sseq (sput 2 0 2 (x2 gAdd (x2 gIx (xv 0) (xc (.int 2))) (xc (.int 1))))
    (sseq (sasg 2 3 (x2 gIx (xlst (dcons 2 (xc (.int 2147483647)) (dcons 2 (xc (.int 2147483629)) (dcons 2 (xc (.int 2147483587)) (dcons 2 (xc (.int 2147483579)) (dcons 2 (xc (.int 2147483563)) dnil)))))) (x2 gMod (x2 gIx (xv 0) (xc (.int 2))) (xc (.int 5)))))
    (sseq (sasg 2 4 (x2 gMod (x2 gPowW (x2 gAdd (x2 gAdd (x2 gIx (xv 0) (xc (.int 1))) (x2 gMul (x2 gMul (xc (.int 99991)) (x2 gIx (xv 0) (xc (.int 2)))) (x2 gIx (xv 0) (xc (.int 2))))) (xc (.int 23))) (xc (.int 3))) (xv 3)))
    (sret 2 (x2 gMod (x2 gDiv (x2 gMod (x2 gMul (xv 4) (x2 gAdd (x2 gMod (xv 4) (xc (.int 10007))) (x2 gMul (xc (.int 71)) (x2 gIx (xv 0) (xc (.int 2)))))) (xc (.int 2305843009213693907))) (xc (.int 103))) (xv 1)))))))
def b__law_of (G : Nat → FM) : SM :=
  (sret 2 (x2 gIx (xv 1) (xcall (G 23) (pmutC 0 (pcons 2 (xcb gLen (acons (xv 1) anil)) pnil)))))
def q__law_gaps_right_0 (G : Nat → FM) : XM :=
  (xcall (G 18) (pcons 1 (xv 7) (pcons 1 (xtup (dcons 1 (xc (.int 0)) (dcons 1 (xv 0) dnil))) (pcons 1 (xv 6) pnil))))
def q__law_gaps_right_1 (G : Nat → FM) : XM :=
  (xcmp 1 (irng1 (dcons 1 (xc (.int 5)) dnil)) (gn 1 6) tyes (q__law_gaps_right_0 G) [6])
def b__law_gaps_right (G : Nat → FM) : SM :=
  (sseq (spar 1 1 2 (xtup (dcons 1 (xc (.str "seq")) (dcons 1 (xtup (dcons 1 (xtup (dcons 1 (xc (.str "log")) (dcons 1 (xc (.str "a")) dnil))) (dcons 1 (xtup (dcons 1 (xc (.str "await")) (dcons 1 (xv 0) dnil))) dnil))) dnil))) (xtup (dcons 1 (xc (.str "seq")) (dcons 1 (xtup (dcons 1 (xtup (dcons 1 (xc (.str "await")) (dcons 1 (xv 0) dnil))) (dcons 1 (xtup (dcons 1 (xc (.str "log")) (dcons 1 (xc (.str "b")) dnil))) dnil))) dnil))))
    (sseq (spar 1 3 4 (xtup (dcons 1 (xc (.str "race")) (dcons 1 (xtup (dcons 1 (xv 1) (dcons 1 (xv 2) dnil))) dnil))) (xtup (dcons 1 (xc (.str "join")) (dcons 1 (xtup (dcons 1 (xv 1) (dcons 1 (xv 2) dnil))) dnil))))
    (sseq (sif (tor (tb (x2 (gEq true) (xcall (G 14) (pcons 1 (xv 3) (pcons 1 (xv 4) pnil))) (xtup (dcons 1 (xv 0) (dcons 1 (xc (.int 0)) dnil))))) (tb (x2 (gEq true) (xcall (G 14) (pcons 1 (xv 4) (pcons 1 (xv 3) pnil))) (xtup (dcons 1 (xv 0) (dcons 1 (xc (.int 0)) dnil)))))) (sret 1 (xc (.bool false))) snx)
    (sseq (sasg 1 5 (xcmp 1 (itup 1 (xtup (dcons 1 (xv 3) (dcons 1 (xv 4) dnil)))) (gn 1 7) tyes (q__law_gaps_right_1 G) [7]))
    (sseq (sif (tb (x2 (gEq true) (xv 5) (xlst (dcons 1 (xlst (dcons 1 (xc (.str "a")) (dcons 1 (xc (.int 0)) (dcons 1 (xc (.str "b")) (dcons 1 (xc (.int 1)) (dcons 1 (xc .none) dnil)))))) (dcons 1 (xlst (dcons 1 (xc (.str "a")) (dcons 1 (xc (.str "b")) (dcons 1 (xc (.int 0)) (dcons 1 (xc (.int 1)) (dcons 1 (xc .none) dnil)))))) dnil))))) (sret 1 (xc (.bool false))) snx)
    (sseq (sif (tor (tnot (tb (xcall (G 21) (pcons 1 (xv 3) (pcons 1 (xv 4) (pcons 1 (xtup (dcons 1 (xtup (dcons 1 (xc (.int 0)) (dcons 1 (xc .none) dnil))) (dcons 1 (xc (.int 1)) dnil))) pnil)))))) (tb (xcall (G 21) (pcons 1 (xv 3) (pcons 1 (xv 4) (pcons 1 (xtup (dcons 1 (xtup (dcons 1 (xc .none) (dcons 1 (xv 0) dnil))) (dcons 1 (xc (.int 1)) dnil))) pnil)))))) (sret 1 (xc (.bool false))) snx)
    (sret 1 (xand (xnot (xcall (G 21) (pcons 1 (xv 3) (pcons 1 (xv 4) (pcons 1 (xtup (dcons 1 (xtup (dcons 1 (xc (.int 1)) (dcons 1 (xc .none) dnil))) (dcons 1 (xc (.int 1)) dnil))) pnil))))) (xnot (xcall (G 21) (pcons 1 (xv 3) (pcons 1 (xv 4) (pcons 1 (xtup (dcons 1 (xtup (dcons 1 (xc (.int 0)) (dcons 1 (xc .none) dnil))) (dcons 1 (xc (.int 3)) dnil))) pnil)))))))))))))
def q__law_alike_0 (G : Nat → FM) : XM :=
  (xcall (G 26) (pcons 2 (xv 2) (pcons 2 (xv 3) pnil)))
def b__law_alike (G : Nat → FM) : SM :=
  (sseq (sif (tor (tb (x1 (gIsi "bool") (xv 0))) (tb (x1 (gIsi "bool") (xv 1)))) (sret 2 (xand (x1 (gIsi "bool") (xv 0)) (xand (x1 (gIsi "bool") (xv 1)) (x2 (gEq false) (xv 0) (xv 1))))) snx)
    (sseq (sif (tor (tand (tb (x1 (gIsi "tuple") (xv 0))) (tb (x1 (gIsi "tuple") (xv 1)))) (tand (tb (x1 (gIsi "list") (xv 0))) (tb (x1 (gIsi "list") (xv 1))))) (sret 2 (xand (x2 (gEq false) (xcb gLen (acons (xv 0) anil)) (xcb gLen (acons (xv 1) anil))) (xcb gAll (acons (xcmp 2 (izip (dcons 2 (xv 0) (dcons 2 (xv 1) dnil))) (gtup (gcons (gn 2 2) (gcons (gn 2 3) gnil))) tyes (q__law_alike_0 G) [2, 3]) anil)))) snx)
    (sret 2 (x2 (gEq false) (xv 0) (xv 1)))))
def b__law_names_right (G : Nat → FM) : SM :=
  (sseq (sasg 2 2 (xlst (dcons 2 (xcallK (G 15) [1, 0] (dcons 2 (xv 1) (dcons 2 (xv 0) dnil))) (dcons 2 (xcallK (G 14) [1, 0] (dcons 2 (xv 1) (dcons 2 (xv 0) dnil))) (dcons 2 (xcallK (G 12) [0] (dcons 2 (xv 0) dnil)) dnil)))))
    (sseq (sasg 2 2 (x2 gAdd (xv 2) (xlst (dcons 2 (xcallK (G 19) [1, 0] (dcons 2 (xv 1) (dcons 2 (xv 0) dnil))) (dcons 2 (xcallK (G 21) [2, 1, 0] (dcons 2 (xtup (dcons 2 (xtup (dcons 2 (xc (.int 0)) (dcons 2 (xc (.int 0)) dnil))) (dcons 2 (xc (.int 1)) dnil))) (dcons 2 (xv 1) (dcons 2 (xv 0) dnil)))) dnil)))))
    (sseq (sapp 2 2 (xcallK (G 18) [2, 1, 0] (dcons 2 (xc (.int 1)) (dcons 2 (xtup (dcons 2 (xc (.int 0)) (dcons 2 (xc (.int 0)) dnil))) (dcons 2 (xv 1) dnil)))))
    (sseq (sasg 2 3 (xlst (dcons 2 (xcall (G 15) (pcons 2 (xv 0) (pcons 2 (xv 1) pnil))) (dcons 2 (xcall (G 14) (pcons 2 (xv 0) (pcons 2 (xv 1) pnil))) (dcons 2 (xcall (G 12) (pcons 2 (xv 0) pnil)) (dcons 2 (xcall (G 19) (pcons 2 (xv 0) (pcons 2 (xv 1) pnil))) dnil))))))
    (sret 2 (xcall (G 26) (pcons 2 (xv 2) (pcons 2 (x2 gAdd (xv 3) (xlst (dcons 2 (xc (.bool true)) (dcons 2 (xc (.int 1)) dnil)))) pnil))))))))
def q__law_long_rows_right_0 (G : Nat → FM) : XM :=
  (xtup (dcons 1 (xc (.str "seq")) (dcons 1 (xcb gTup (acons (xsl (lsome (xv 9)) (lsome (x2 gAdd (xv 9) (xc (.int 12)))) (xv 3)) anil)) dnil)))
def q__law_long_rows_right_1 (G : Nat → FM) : XM :=
  (xtup (dcons 1 (xc (.str "seq")) (dcons 1 (xcb gTup (acons (xsl (lsome (xv 9)) (lsome (x2 gAdd (xv 9) (xc (.int 12)))) (xv 1)) anil)) dnil)))
def b__law_long_rows_right (G : Nat → FM) : SM :=
  (sseq (sasg 1 1 (x2 gMul (xlst (dcons 1 (xtup (dcons 1 (xc (.str "log")) (dcons 1 (xc (.str "a")) dnil))) dnil)) (xc (.int 72))))
    (sseq (sasg 1 2 (x2 gSub (xc (.int 71)) (xcall (G 24) (pmutC 0 (pcons 1 (xlst (dcons 1 (xc (.int 0)) (dcons 1 (xc (.int 0)) (dcons 1 (xc (.int 1)) (dcons 1 (xcall (G 23) (pmutC 0 (pcons 1 (xc (.int 12)) pnil))) dnil))))) pnil)))))
    (sseq (sasg 1 3 (x2 gAdd (x2 gAdd (xsl lno (lsome (xv 2)) (xv 1)) (xlst (dcons 1 (xtup (dcons 1 (xc (.str "log")) (dcons 1 (xc (.str "b")) dnil))) dnil))) (xsl (lsome (x2 gAdd (xv 2) (xc (.int 1)))) lno (xv 1))))
    (sseq (sasg 1 4 (xtup (dcons 1 (xc (.str "seq")) (dcons 1 (xcb gTup (acons (xcmp 1 (irng3 6 (dcons 1 (xc (.int 0)) (dcons 1 (xc (.int 72)) (dcons 1 (xc (.int 12)) dnil)))) (gn 1 9) tyes (q__law_long_rows_right_1 G) [9]) anil)) dnil))))
    (sseq (sasg 1 5 (xtup (dcons 1 (xc (.str "seq")) (dcons 1 (xcb gTup (acons (xcmp 1 (irng3 6 (dcons 1 (xc (.int 0)) (dcons 1 (xc (.int 72)) (dcons 1 (xc (.int 12)) dnil)))) (gn 1 9) tyes (q__law_long_rows_right_0 G) [9]) anil)) dnil))))
    (sseq (sif (tor (tb (x2 (gEq true) (xcall (G 14) (pcons 1 (xv 4) (pcons 1 (xv 5) pnil))) (xtup (dcons 1 (xc (.int 0)) (dcons 1 (xv 2) dnil))))) (tnot (tb (xcall (G 21) (pcons 1 (xv 4) (pcons 1 (xv 5) (pcons 1 (xtup (dcons 1 (xtup (dcons 1 (xc .none) (dcons 1 (xc .none) dnil))) (dcons 1 (xv 2) dnil))) pnil))))))) (sret 1 (xc (.bool false))) snx)
    (sseq (sunp 1 (gtup (gcons (gn 1 6) (gcons (gn 1 7) gnil))) (xcall (G 19) (pcons 1 (xv 4) (pcons 1 (xv 5) pnil))))
    (sseq (sif (tb (x2 (gEq false) (xcall (G 18) (pcons 1 (xv 4) (pcons 1 (xv 6) (pcons 1 (xv 7) pnil)))) (xcall (G 18) (pcons 1 (xv 5) (pcons 1 (xv 6) (pcons 1 (xv 7) pnil)))))) (sret 1 (xc (.bool false))) snx)
    (sseq (sasg 1 8 (xtup (dcons 1 (xc (.str "seq")) (dcons 1 (x2 gAdd (xcb gTup (acons (xsl lno (lsome (xc (.int 5))) (x2 gIx (xv 4) (xc (.int 1)))) anil)) (xtup (dcons 1 (xtup (dcons 1 (xc (.str "race")) (dcons 1 (xtup (dcons 1 (xtup (dcons 1 (xc (.str "seq")) (dcons 1 (xcb gTup (acons (xsl lno (lsome (xc (.int 11))) (xv 1)) anil)) dnil))) (dcons 1 (xtup (dcons 1 (xc (.str "log")) (dcons 1 (xc (.str "a")) dnil))) dnil))) dnil))) dnil))) dnil))))
    (sret 1 (xand (x2 (gEq false) (xcall (G 14) (pcons 1 (xv 4) (pcons 1 (xv 8) pnil))) (xtup (dcons 1 (xc (.int 0)) (dcons 1 (xc (.int 71)) dnil)))) (x2 (gEq false) (xcall (G 18) (pcons 1 (xv 8) (pcons 1 (xtup (dcons 1 (xc (.int 0)) (dcons 1 (xc .none) dnil))) (pcons 1 (xc (.int 71)) pnil)))) (xc (.int 0))))))))))))))
def q_law_0 (G : Nat → FM) : XM :=
  (xcall (G 18) (pcons 1 (xv 5) (pcons 1 (xv 9) (pcons 1 (xc (.int 0)) pnil))))
def q_law_1 (G : Nat → FM) : XM :=
  (xcall (G 18) (pcons 1 (xv 4) (pcons 1 (xtup (dcons 1 (xv 2) (dcons 1 (x2 gMul (xc (.int 2)) (xv 2)) dnil))) (pcons 1 (xv 8) pnil))))
def b_law (G : Nat → FM) : SM :=
  (sseq (sasg 1 1 (xcall (G 22) (pcons 1 (xv 0) (pcons 1 (xc (.int 0)) pnil))))
    (sseq (sasg 1 2 (x2 gAdd (xc (.int 1)) (xcall (G 23) (pmutC 1 (pcons 1 (x2 gSub (x2 gPow (xc (.int 10)) (xc (.int 18))) (xc (.int 1))) pnil)))))
    (sseq (sif (tor (tnot (tb (xcall (G 25) (pcons 1 (xv 2) pnil)))) (tnot (tb (xcall (G 28) (pmutC 1 pnil))))) (sret 1 (xc (.bool false))) snx)
    (sseq (sunp 1 (gtup (gcons (gn 1 3) (gcons (gn 1 4) gnil))) (xtup (dcons 1 (xtup (dcons 1 (xc (.str "log")) (dcons 1 (xc (.str "a")) dnil))) (dcons 1 (xtup (dcons 1 (xc (.str "seq")) (dcons 1 (xtup (dcons 1 (xtup (dcons 1 (xc (.str "log")) (dcons 1 (xc (.str "a")) dnil))) (dcons 1 (xtup (dcons 1 (xc (.str "await")) (dcons 1 (xv 2) dnil))) dnil))) dnil))) dnil))))
    (sseq (sif (tor (tb (x2 (gEq true) (xcall (G 14) (pcons 1 (xv 3) (pcons 1 (xv 4) pnil))) (xtup (dcons 1 (xc (.int 0)) (dcons 1 (xc (.int 1)) dnil))))) (tor (tb (xcall (G 15) (pcons 1 (xv 3) (pcons 1 (xv 4) pnil)))) (tb (xcall (G 15) (pcons 1 (xv 4) (pcons 1 (xv 3) pnil)))))) (sret 1 (xc (.bool false))) snx)
    (sseq (sif (tor (tb (xcall (G 21) (pcons 1 (xv 3) (pcons 1 (xv 4) (pcons 1 (xtup (dcons 1 (xtup (dcons 1 (xc (.int 0)) (dcons 1 (xc .none) dnil))) (dcons 1 (xc (.int 1)) dnil))) pnil))))) (tnot (tb (xcall (G 21) (pcons 1 (xv 3) (pcons 1 (xv 4) (pcons 1 (xtup (dcons 1 (xtup (dcons 1 (xc (.int 0)) (dcons 1 (xc (.int 0)) dnil))) (dcons 1 (xc (.int 1)) dnil))) pnil))))))) (sret 1 (xc (.bool false))) snx)
    (sseq (sif (tb (x2 (gEq true) (xcmp 1 (irng1 (dcons 1 (xc (.int 4)) dnil)) (gn 1 8) tyes (q_law_1 G) [8]) (xlst (dcons 1 (xc (.str "a")) (dcons 1 (xc (.int 0)) (dcons 1 (xc (.int 1)) (dcons 1 (xc .none) dnil))))))) (sret 1 (xc (.bool false))) snx)
    (sseq (sif (tnot (tb (xcall (G 27) (pcons 1 (xv 3) (pcons 1 (xv 4) pnil))))) (sret 1 (xc (.bool false))) snx)
    (sseq (sasg 1 5 (xtup (dcons 1 (xc (.str "fork")) (dcons 1 (xtup (dcons 1 (xc (.str "seq")) (dcons 1 (xtup (dcons 1 (xtup (dcons 1 (xc (.str "await")) (dcons 1 (xv 2) dnil))) (dcons 1 (xtup (dcons 1 (xc (.str "log")) (dcons 1 (xc (.str "z")) dnil))) dnil))) dnil))) dnil))))
    (sseq (sasg 1 6 (xcmp 1 (itup 1 (xtup (dcons 1 (xtup (dcons 1 (xv 2) (dcons 1 (xc .none) dnil))) (dcons 1 (xtup (dcons 1 (x2 gSub (xv 2) (xc (.int 1))) (dcons 1 (xc .none) dnil))) (dcons 1 (xtup (dcons 1 (x2 gAdd (xv 2) (xc (.int 1))) (dcons 1 (xc .none) dnil))) (dcons 1 (xtup (dcons 1 (xc .none) (dcons 1 (xv 2) dnil))) dnil)))))) (gn 1 9) tyes (q_law_0 G) [9]))
    (sseq (sif (tb (x2 (gEq true) (xv 6) (xlst (dcons 1 (xc (.str "z")) (dcons 1 (xc (.int 0)) (dcons 1 (xc (.str "z")) (dcons 1 (xc (.str "z")) dnil))))))) (sret 1 (xc (.bool false))) snx)
    (sseq (sasg 1 7 (xtup (dcons 1 (xc (.str "race")) (dcons 1 (xtup (dcons 1 (xtup (dcons 1 (xc (.str "seq")) (dcons 1 (xtup dnil) dnil))) (dcons 1 (xtup (dcons 1 (xc (.str "seq")) (dcons 1 (xtup (dcons 1 (xtup (dcons 1 (xc (.str "await")) (dcons 1 (xv 2) dnil))) (dcons 1 (xtup (dcons 1 (xc (.str "log")) (dcons 1 (xc (.str "z")) dnil))) dnil))) dnil))) dnil))) dnil))))
    (sseq (sif (tor (tb (x2 (gEq true) (xcall (G 14) (pcons 1 (xv 5) (pcons 1 (xv 7) pnil))) (xtup (dcons 1 (xv 2) (dcons 1 (xc (.int 0)) dnil))))) (tb (x2 (gEq true) (xcall (G 18) (pcons 1 (xv 7) (pcons 1 (xtup (dcons 1 (xv 2) (dcons 1 (xc .none) dnil))) (pcons 1 (xc (.int 0)) pnil)))) (xc (.int 0))))) (sret 1 (xc (.bool false))) snx)
    (sret 1 (xand (x2 (gEq false) (xcall (G 18) (pcons 1 (xtup (dcons 1 (xc (.str "seq")) (dcons 1 (xtup dnil) dnil))) (pcons 1 (xtup (dcons 1 (xc (.int 0)) (dcons 1 (xc (.int 0)) dnil))) (pcons 1 (xc (.int 1)) pnil)))) (xc (.int 1))) (x2 (gIs false) (xcall (G 18) (pcons 1 (xtup (dcons 1 (xc (.str "seq")) (dcons 1 (xtup dnil) dnil))) (pcons 1 (xtup (dcons 1 (xc .none) (dcons 1 (xc .none) dnil))) (pcons 1 (xc (.int 0)) pnil)))) (xc .none)))))))))))))))))
def sem : Nat → Nat → FM
  | 0, _ => fun _ => none
  | n + 1, k => match k with
    | 0 => run 1 4 (b_finish (sem n))
    | 1 => run 2 6 (b_sides_of_seq (sem n))
    | 2 => run 3 10 (b_sides_of_loop (sem n))
    | 3 => run 3 9 (b_sides_beside (sem n))
    | 4 => run 1 3 (b_key_part (sem n))
    | 5 => run 2 4 (b_sides_of (sem n))
    | 6 => run 2 4 (b_marked (sem n))
    | 7 => run 1 1 (b_is_number (sem n))
    | 8 => run 1 3 (b_total (sem n))
    | 9 => run 3 7 (b_count_in_loop (sem n))
    | 10 => run 2 6 (b_count_before (sem n))
    | 11 => run 2 6 (b_moments (sem n))
    | 12 => run 1 1 (b_changes (sem n))
    | 13 => run 2 3 (b_first_unequal (sem n))
    | 14 => run 2 8 (b_first_difference (sem n))
    | 15 => run 2 2 (b_same (sem n))
    | 16 => run 3 6 (b_test_count (sem n))
    | 17 => run 3 8 (b_test_row (sem n))
    | 18 => run 3 6 (b_test_entry (sem n))
    | 19 => run 2 10 (b_teller (sem n))
    | 20 => run 1 2 (b_is_test (sem n))
    | 21 => run 3 3 (b_shows_teller (sem n))
    | 22 => run 2 4 (b__law_pot (sem n))
    | 23 => run 2 5 (b__law_take (sem n))
    | 24 => run 2 2 (b__law_of (sem n))
    | 25 => run 1 8 (b__law_gaps_right (sem n))
    | 26 => run 2 4 (b__law_alike (sem n))
    | 27 => run 2 4 (b__law_names_right (sem n))
    | 28 => run 1 10 (b__law_long_rows_right (sem n))
    | 29 => run 1 10 (b_law (sem n))
    | _ => fun _ => none
theorem e_finish (n : Nat) (x0 : Slot) : val (sem (n + 1) 0) [x0] = (b_finish (sem n) [x0, .no, .no, .no]).bind fin1 := val_run 1 4 (b_finish (sem n)) [x0] rfl (by decide)
theorem e_sides_of_seq (n : Nat) (x0 x1 : Slot) : val (sem (n + 1) 1) [x0, x1] = (b_sides_of_seq (sem n) [x0, x1, .no, .no, .no, .no]).bind fin1 := val_run 2 6 (b_sides_of_seq (sem n)) [x0, x1] rfl (by decide)
theorem e_sides_of_loop (n : Nat) (x0 x1 x2 : Slot) : val (sem (n + 1) 2) [x0, x1, x2] = (b_sides_of_loop (sem n) [x0, x1, x2, .no, .no, .no, .no, .no, .no, .no]).bind fin1 := val_run 3 10 (b_sides_of_loop (sem n)) [x0, x1, x2] rfl (by decide)
theorem e_sides_beside (n : Nat) (x0 x1 x2 : Slot) : val (sem (n + 1) 3) [x0, x1, x2] = (b_sides_beside (sem n) [x0, x1, x2, .no, .no, .no, .no, .no, .no]).bind fin1 := val_run 3 9 (b_sides_beside (sem n)) [x0, x1, x2] rfl (by decide)
theorem e_key_part (n : Nat) (x0 : Slot) : val (sem (n + 1) 4) [x0] = (b_key_part (sem n) [x0, .no, .no]).bind fin1 := val_run 1 3 (b_key_part (sem n)) [x0] rfl (by decide)
theorem e_sides_of (n : Nat) (x0 x1 : Slot) : val (sem (n + 1) 5) [x0, x1] = (b_sides_of (sem n) [x0, x1, .no, .no]).bind fin1 := val_run 2 4 (b_sides_of (sem n)) [x0, x1] rfl (by decide)
theorem e_marked (n : Nat) (x0 x1 : Slot) : val (sem (n + 1) 6) [x0, x1] = (b_marked (sem n) [x0, x1, .no, .no]).bind fin1 := val_run 2 4 (b_marked (sem n)) [x0, x1] rfl (by decide)
theorem e_is_number (n : Nat) (x0 : Slot) : val (sem (n + 1) 7) [x0] = (b_is_number (sem n) [x0]).bind fin1 := val_run 1 1 (b_is_number (sem n)) [x0] rfl (by decide)
theorem e_total (n : Nat) (x0 : Slot) : val (sem (n + 1) 8) [x0] = (b_total (sem n) [x0, .no, .no]).bind fin1 := val_run 1 3 (b_total (sem n)) [x0] rfl (by decide)
theorem e_count_in_loop (n : Nat) (x0 x1 x2 : Slot) : val (sem (n + 1) 9) [x0, x1, x2] = (b_count_in_loop (sem n) [x0, x1, x2, .no, .no, .no, .no]).bind fin1 := val_run 3 7 (b_count_in_loop (sem n)) [x0, x1, x2] rfl (by decide)
theorem e_count_before (n : Nat) (x0 x1 : Slot) : val (sem (n + 1) 10) [x0, x1] = (b_count_before (sem n) [x0, x1, .no, .no, .no, .no]).bind fin1 := val_run 2 6 (b_count_before (sem n)) [x0, x1] rfl (by decide)
theorem e_moments (n : Nat) (x0 x1 : Slot) : val (sem (n + 1) 11) [x0, x1] = (b_moments (sem n) [x0, x1, .no, .no, .no, .no]).bind fin1 := val_run 2 6 (b_moments (sem n)) [x0, x1] rfl (by decide)
theorem e_changes (n : Nat) (x0 : Slot) : val (sem (n + 1) 12) [x0] = (b_changes (sem n) [x0]).bind fin1 := val_run 1 1 (b_changes (sem n)) [x0] rfl (by decide)
theorem e_first_unequal (n : Nat) (x0 x1 : Slot) : val (sem (n + 1) 13) [x0, x1] = (b_first_unequal (sem n) [x0, x1, .no]).bind fin1 := val_run 2 3 (b_first_unequal (sem n)) [x0, x1] rfl (by decide)
theorem e_first_difference (n : Nat) (x0 x1 : Slot) : val (sem (n + 1) 14) [x0, x1] = (b_first_difference (sem n) [x0, x1, .no, .no, .no, .no, .no, .no]).bind fin1 := val_run 2 8 (b_first_difference (sem n)) [x0, x1] rfl (by decide)
theorem e_same (n : Nat) (x0 x1 : Slot) : val (sem (n + 1) 15) [x0, x1] = (b_same (sem n) [x0, x1]).bind fin1 := val_run 2 2 (b_same (sem n)) [x0, x1] rfl (by decide)
theorem e_test_count (n : Nat) (x0 x1 x2 : Slot) : val (sem (n + 1) 16) [x0, x1, x2] = (b_test_count (sem n) [x0, x1, x2, .no, .no, .no]).bind fin1 := val_run 3 6 (b_test_count (sem n)) [x0, x1, x2] rfl (by decide)
theorem e_test_row (n : Nat) (x0 x1 x2 : Slot) : val (sem (n + 1) 17) [x0, x1, x2] = (b_test_row (sem n) [x0, x1, x2, .no, .no, .no, .no, .no]).bind fin1 := val_run 3 8 (b_test_row (sem n)) [x0, x1, x2] rfl (by decide)
theorem e_test_entry (n : Nat) (x0 x1 x2 : Slot) : val (sem (n + 1) 18) [x0, x1, x2] = (b_test_entry (sem n) [x0, x1, x2, .no, .no, .no]).bind fin1 := val_run 3 6 (b_test_entry (sem n)) [x0, x1, x2] rfl (by decide)
theorem e_teller (n : Nat) (x0 x1 : Slot) : val (sem (n + 1) 19) [x0, x1] = (b_teller (sem n) [x0, x1, .no, .no, .no, .no, .no, .no, .no, .no]).bind fin1 := val_run 2 10 (b_teller (sem n)) [x0, x1] rfl (by decide)
theorem e_is_test (n : Nat) (x0 : Slot) : val (sem (n + 1) 20) [x0] = (b_is_test (sem n) [x0, .no]).bind fin1 := val_run 1 2 (b_is_test (sem n)) [x0] rfl (by decide)
theorem e_shows_teller (n : Nat) (x0 x1 x2 : Slot) : val (sem (n + 1) 21) [x0, x1, x2] = (b_shows_teller (sem n) [x0, x1, x2]).bind fin1 := val_run 3 3 (b_shows_teller (sem n)) [x0, x1, x2] rfl (by decide)
theorem e__law_pot (n : Nat) (x0 x1 : Slot) : val (sem (n + 1) 22) [x0, x1] = (b__law_pot (sem n) [x0, x1, .no, .no]).bind fin1 := val_run 2 4 (b__law_pot (sem n)) [x0, x1] rfl (by decide)
theorem e__law_take (n : Nat) (x0 x1 : Slot) : val (sem (n + 1) 23) [x0, x1] = (b__law_take (sem n) [x0, x1, .no, .no, .no]).bind fin1 := val_run 2 5 (b__law_take (sem n)) [x0, x1] rfl (by decide)
theorem e__law_of (n : Nat) (x0 x1 : Slot) : val (sem (n + 1) 24) [x0, x1] = (b__law_of (sem n) [x0, x1]).bind fin1 := val_run 2 2 (b__law_of (sem n)) [x0, x1] rfl (by decide)
theorem e__law_gaps_right (n : Nat) (x0 : Slot) : val (sem (n + 1) 25) [x0] = (b__law_gaps_right (sem n) [x0, .no, .no, .no, .no, .no, .no, .no]).bind fin1 := val_run 1 8 (b__law_gaps_right (sem n)) [x0] rfl (by decide)
theorem e__law_alike (n : Nat) (x0 x1 : Slot) : val (sem (n + 1) 26) [x0, x1] = (b__law_alike (sem n) [x0, x1, .no, .no]).bind fin1 := val_run 2 4 (b__law_alike (sem n)) [x0, x1] rfl (by decide)
theorem e__law_names_right (n : Nat) (x0 x1 : Slot) : val (sem (n + 1) 27) [x0, x1] = (b__law_names_right (sem n) [x0, x1, .no, .no]).bind fin1 := val_run 2 4 (b__law_names_right (sem n)) [x0, x1] rfl (by decide)
theorem e__law_long_rows_right (n : Nat) (x0 : Slot) : val (sem (n + 1) 28) [x0] = (b__law_long_rows_right (sem n) [x0, .no, .no, .no, .no, .no, .no, .no, .no, .no]).bind fin1 := val_run 1 10 (b__law_long_rows_right (sem n)) [x0] rfl (by decide)
theorem e_law (n : Nat) (x0 : Slot) : val (sem (n + 1) 29) [x0] = (b_law (sem n) [x0, .no, .no, .no, .no, .no, .no, .no, .no, .no]).bind fin1 := val_run 1 10 (b_law (sem n)) [x0] rfl (by decide)
/-- what the module's names hold -/
structure Top (mg : Str → Option Value) : Prop where
  b_abs : mg "abs" = none
  b_all : mg "all" = none
  b_bool : mg "bool" = none
  b_enumerate : mg "enumerate" = none
  b_int : mg "int" = none
  b_isinstance : mg "isinstance" = none
  b_len : mg "len" = none
  b_list : mg "list" = none
  b_max : mg "max" = none
  b_min : mg "min" = none
  b_range : mg "range" = none
  b_set : mg "set" = none
  b_sorted : mg "sorted" = none
  b_sum : mg "sum" = none
  b_tuple : mg "tuple" = none
  b_zip : mg "zip" = none
  k_AWAIT : CstS mg "AWAIT" "await"
  k_BEHIND_MARK : CstI mg "BEHIND_MARK" 0
  k_BESIDE_MARK : CstI mg "BESIDE_MARK" 1
  k_BODY_ROUNDS : CstI mg "BODY_ROUNDS" 30
  k_FORK : CstS mg "FORK" "fork"
  k_GAP : CstN mg "GAP"
  k_JOIN : CstS mg "JOIN" "join"
  k_LAST_BODY_ROUND : CstI mg "LAST_BODY_ROUND" 30
  k_LOG : CstS mg "LOG" "log"
  k_LOOP : CstS mg "LOOP" "loop"
  k_PERIOD : CstI mg "PERIOD" 60
  k_RACE : CstS mg "RACE" "race"
  k_SEQ : CstS mg "SEQ" "seq"
  k_SETTLED : CstI mg "SETTLED" 36
  k_TELLER_PARTS : CstI mg "TELLER_PARTS" 2
  k_TEST_PARTS : CstI mg "TEST_PARTS" 2
structure Calls (P : Program) (w : World) (K : PySem.W.Frag) (mg : Str → Option Value) (base : Heap) (n : Nat) (G : Nat → FM) : Prop where
  c_finish : C8.Cal P w K mg base n "finish" (spOf (G 0)) []
  c_sides_of_seq : C8.Cal P w K mg base n "sides_of_seq" (spOf (G 1)) []
  c_sides_of_loop : C8.Cal P w K mg base n "sides_of_loop" (spOf (G 2)) []
  c_sides_beside : C8.Cal P w K mg base n "sides_beside" (spOf (G 3)) []
  c_key_part : C8.Cal P w K mg base n "key_part" (spOf (G 4)) []
  c_sides_of : C8.Cal P w K mg base n "sides_of" (spOf (G 5)) []
  c_marked : C8.Cal P w K mg base n "marked" (spOf (G 6)) []
  c_is_number : C8.Cal P w K mg base n "is_number" (spOf (G 7)) []
  c_total : C8.Cal P w K mg base n "total" (spOf (G 8)) []
  c_count_in_loop : C8.Cal P w K mg base n "count_in_loop" (spOf (G 9)) []
  c_count_before : C8.Cal P w K mg base n "count_before" (spOf (G 10)) []
  c_moments : C8.Cal P w K mg base n "moments" (spOf (G 11)) []
  c_changes : C8.Cal P w K mg base n "changes" (spOf (G 12)) []
  c_first_unequal : C8.Cal P w K mg base n "first_unequal" (spOf (G 13)) []
  c_first_difference : C8.Cal P w K mg base n "first_difference" (spOf (G 14)) []
  c_same : C8.Cal P w K mg base n "same" (spOf (G 15)) []
  c_test_count : C8.Cal P w K mg base n "test_count" (spOf (G 16)) []
  c_test_row : C8.Cal P w K mg base n "test_row" (spOf (G 17)) []
  c_test_entry : C8.Cal P w K mg base n "test_entry" (spOf (G 18)) []
  c_teller : C8.Cal P w K mg base n "teller" (spOf (G 19)) []
  c_is_test : C8.Cal P w K mg base n "is_test" (spOf (G 20)) []
  c_shows_teller : C8.Cal P w K mg base n "shows_teller" (spOf (G 21)) []
  c__law_pot : C8.Cal P w K mg base n "_law_pot" (spOf (G 22)) []
  c__law_take : C8.Cal P w K mg base n "_law_take" (spOf (G 23)) []
  c__law_of : C8.Cal P w K mg base n "_law_of" (spOf (G 24)) []
  c__law_gaps_right : C8.Cal P w K mg base n "_law_gaps_right" (spOf (G 25)) []
  c__law_alike : C8.Cal P w K mg base n "_law_alike" (spOf (G 26)) []
  c__law_names_right : C8.Cal P w K mg base n "_law_names_right" (spOf (G 27)) []
  c__law_long_rows_right : C8.Cal P w K mg base n "_law_long_rows_right" (spOf (G 28)) []
  c_law : C8.Cal P w K mg base n "law" (spOf (G 29)) []
  kw_test_entry : CalK P w K mg base n "test_entry" (spOf (G 18)) ["number", "test", "program"] [2, 1, 0]
  kw_shows_teller : CalK P w K mg base n "shows_teller" (spOf (G 21)) ["value", "other", "one"] [2, 1, 0]
  kw_teller : CalK P w K mg base n "teller" (spOf (G 19)) ["other", "one"] [1, 0]
  kw_changes : CalK P w K mg base n "changes" (spOf (G 12)) ["program"] [0]
  kw_first_difference : CalK P w K mg base n "first_difference" (spOf (G 14)) ["other", "one"] [1, 0]
  kw_same : CalK P w K mg base n "same" (spOf (G 15)) ["other", "one"] [1, 0]
end K41
end
section
set_option maxRecDepth 100000
set_option maxHeartbeats 4000000
namespace K41
open PySem PySem.Spec L2 Z
section
variable {P : Program} {w : World} {K : PySem.W.Frag} {mg : Str → Option Value} {base : Heap} {n : Nat} {G : Nat → FM} {f : Addr} {fd : FuncData}
theorem ok__law_alike (T : Top mg) (C : Calls P w K mg base n G) (F : L2.Fun K "_law_alike" "_law_alike" s__law_alike f fd) : FnOk P w K mg base L2.CX0 (n + 1) f fd ["one", "other"] (spOf (run 2 N__law_alike.length (b__law_alike G))) :=
  fn_ok F sc__law_alike fun cdv A outer s H E hr => ⟨_,
    (cb_cons (cs_if (cw_t (cw_or (ct_val (ce_isi bt_bool (ce_v 0) T.b_isinstance T.b_bool)) (cw_or1 (ct_val (ce_isi bt_bool (ce_v 1) T.b_isinstance T.b_bool))))) (cb_one (cs_ret (ce_and (ce_isi bt_bool (ce_v 0) T.b_isinstance T.b_bool) (ce_and (ce_isi bt_bool (ce_v 1) T.b_isinstance T.b_bool) (ce_one (ce_eq hr (ce_v 0) (ce_v 1))))))) cb_nil)
    (cb_cons (cs_if (cw_t (cw_or (cw_t (cw_and (ct_val (ce_isi bt_tup (ce_v 0) T.b_isinstance T.b_tuple)) (cw_and1 (ct_val (ce_isi bt_tup (ce_v 1) T.b_isinstance T.b_tuple))))) (cw_or1 (cw_t (cw_and (ct_val (ce_isi bt_lst (ce_v 0) T.b_isinstance T.b_list)) (cw_and1 (ct_val (ce_isi bt_lst (ce_v 1) T.b_isinstance T.b_list)))))))) (cb_one (cs_ret (ce_and (ce_eq hr (ce_len (ca_cons (ce_v 0) ca_nil) (hm := T.b_len)) (ce_len (ca_cons (ce_v 1) ca_nil) (hm := T.b_len))) (ce_one (ce_all (ca_cons (ce_lc [("part", 2), ("its", 3)] sc__law_alike.nd (ci_zip T.b_zip (cd_cons (ce_v 0) (cd_cons (ce_v 1) cd_nil))) (blkOk_by (own := [("part", 2), ("its", 3)]) (N := N__law_alike) (sc := defScope s__law_alike) (by decide +kernel)) (fun _ _ _ _ _ => (cg_tup (cgs_cons (cg_name 2 sc__law_alike.nd) (cgs_cons (cg_name 3 sc__law_alike.nd) cgs_nil)))) (fun _ _ _ _ _ => cts_nil) (fun _ _ _ _ _ => (ce_call C.c__law_alike hr (Nat.le_refl _) (cp_cons (ce_v 2) (cp_cons (ce_v 3) cp_nil))))) ca_nil) (hm := T.b_all)))))) cb_nil)
    (cb_one (cs_ret (ce_eq hr (ce_v 0) (ce_v 1))))))⟩
end
end K41
end
section
set_option maxRecDepth 100000
set_option maxHeartbeats 4000000
namespace K41
open PySem PySem.Spec L2 Z
section
variable {P : Program} {w : World} {K : PySem.W.Frag} {mg : Str → Option Value} {base : Heap} {n : Nat} {G : Nat → FM} {f : Addr} {fd : FuncData}
theorem ok__law_gaps_right (T : Top mg) (C : Calls P w K mg base n G) (F : L2.Fun K "_law_gaps_right" "_law_gaps_right" s__law_gaps_right f fd) : FnOk P w K mg base L2.CX0 (n + 1) f fd ["many"] (spOf (run 1 N__law_gaps_right.length (b__law_gaps_right G))) :=
  fn_ok F sc__law_gaps_right fun cdv A outer s H E hr => ⟨_,
    (cb_cons (cs_par 1 2 sc__law_gaps_right.nd (ce_tup (cd_cons ce_str (cd_cons (ce_tup (cd_cons (ce_tup (cd_cons ce_str (cd_cons ce_str cd_nil))) (cd_cons (ce_tup (cd_cons ce_str (cd_cons (ce_v 0) cd_nil))) cd_nil))) cd_nil))) (ce_tup (cd_cons ce_str (cd_cons (ce_tup (cd_cons (ce_tup (cd_cons ce_str (cd_cons (ce_v 0) cd_nil))) (cd_cons (ce_tup (cd_cons ce_str (cd_cons ce_str cd_nil))) cd_nil))) cd_nil))))
    (cb_cons (cs_par 3 4 sc__law_gaps_right.nd (ce_tup (cd_cons ce_str (cd_cons (ce_tup (cd_cons (ce_v 1) (cd_cons (ce_v 2) cd_nil))) cd_nil))) (ce_tup (cd_cons ce_str (cd_cons (ce_tup (cd_cons (ce_v 1) (cd_cons (ce_v 2) cd_nil))) cd_nil))))
    (cb_cons (cs_if (cw_t (cw_or (ct_ne hr (ce_call C.c_first_difference hr (Nat.le_refl _) (cp_cons (ce_v 3) (cp_cons (ce_v 4) cp_nil))) (ce_tup (cd_cons (ce_v 0) (cd_cons ce_int cd_nil)))) (cw_or1 (ct_ne hr (ce_call C.c_first_difference hr (Nat.le_refl _) (cp_cons (ce_v 4) (cp_cons (ce_v 3) cp_nil))) (ce_tup (cd_cons (ce_v 0) (cd_cons ce_int cd_nil))))))) (cb_one (cs_ret ce_bl)) cb_nil)
    (cb_cons (cs_lc 5 [("part", 7)] sc__law_gaps_right.nd (ci_tup (ce_tup (cd_cons (ce_v 3) (cd_cons (ce_v 4) cd_nil)))) (blkOk_by (own := [("part", 7)]) (N := N__law_gaps_right) (sc := defScope s__law_gaps_right) (by decide +kernel)) (sw_true rfl rfl rfl (by decide +kernel)) (fun _ _ _ _ _ => (cg_name 7 sc__law_gaps_right.nd)) (fun _ _ _ _ _ => cts_nil) (fun _ _ _ _ _ => (ce_lc [("spot", 6)] sc__law_gaps_right.nd (ci_rng1 T.b_range (cd_cons ce_int cd_nil)) (blkOk_by (own := [("spot", 6)]) (N := N__law_gaps_right) (by rfl)) (fun _ _ _ _ _ => (cg_name 6 sc__law_gaps_right.nd)) (fun _ _ _ _ _ => cts_nil) (fun _ _ _ _ _ => (ce_call C.c_test_entry hr (Nat.le_refl _) (cp_cons (ce_v 7) (cp_cons (ce_tup (cd_cons ce_int (cd_cons (ce_v 0) cd_nil))) (cp_cons (ce_v 6) cp_nil))))))))
    (cb_cons (cs_if (ct_ne hr (ce_v 5) (ce_lst (cd_cons (ce_lst (cd_cons ce_str (cd_cons ce_int (cd_cons ce_str (cd_cons ce_int (cd_cons ce_no cd_nil)))))) (cd_cons (ce_lst (cd_cons ce_str (cd_cons ce_str (cd_cons ce_int (cd_cons ce_int (cd_cons ce_no cd_nil)))))) cd_nil)))) (cb_one (cs_ret ce_bl)) cb_nil)
    (cb_cons (cs_if (cw_t (cw_or (ct_not (ct_val (ce_call C.c_shows_teller hr (Nat.le_refl _) (cp_cons (ce_v 3) (cp_cons (ce_v 4) (cp_cons (ce_tup (cd_cons (ce_tup (cd_cons ce_int (cd_cons ce_no cd_nil))) (cd_cons ce_int cd_nil))) cp_nil)))))) (cw_or1 (ct_val (ce_call C.c_shows_teller hr (Nat.le_refl _) (cp_cons (ce_v 3) (cp_cons (ce_v 4) (cp_cons (ce_tup (cd_cons (ce_tup (cd_cons ce_no (cd_cons (ce_v 0) cd_nil))) (cd_cons ce_int cd_nil))) cp_nil)))))))) (cb_one (cs_ret ce_bl)) cb_nil)
    (cb_one (cs_ret (ce_and (ce_not (ce_call C.c_shows_teller hr (Nat.le_refl _) (cp_cons (ce_v 3) (cp_cons (ce_v 4) (cp_cons (ce_tup (cd_cons (ce_tup (cd_cons ce_int (cd_cons ce_no cd_nil))) (cd_cons ce_int cd_nil))) cp_nil))))) (ce_one (ce_not (ce_call C.c_shows_teller hr (Nat.le_refl _) (cp_cons (ce_v 3) (cp_cons (ce_v 4) (cp_cons (ce_tup (cd_cons (ce_tup (cd_cons ce_int (cd_cons ce_no cd_nil))) (cd_cons ce_int cd_nil))) cp_nil)))))))))))))))⟩
end
end K41
end
section
set_option maxRecDepth 100000
set_option maxHeartbeats 4000000
namespace K41
open PySem PySem.Spec L2 Z
section
variable {P : Program} {w : World} {K : PySem.W.Frag} {mg : Str → Option Value} {base : Heap} {n : Nat} {G : Nat → FM} {f : Addr} {fd : FuncData}
theorem ok__law_long_rows_right (T : Top mg) (C : Calls P w K mg base n G) (F : L2.Fun K "_law_long_rows_right" "_law_long_rows_right" s__law_long_rows_right f fd) : FnOk P w K mg base L2.CX0 (n + 1) f fd ["pot"] (spOf (run 1 N__law_long_rows_right.length (b__law_long_rows_right G))) :=
  fn_ok F sc__law_long_rows_right fun cdv A outer s H E hr => ⟨_,
    (cb_cons (cs_set 1 sc__law_long_rows_right.nd (ce_mul (ce_lst (cd_cons (ce_tup (cd_cons ce_str (cd_cons ce_str cd_nil))) cd_nil)) ce_int))
    (cb_cons (cs_set 2 sc__law_long_rows_right.nd (ce_sub ce_int (ce_call C.c__law_of hr (Nat.le_refl _) (cp_mut (ce_v 0) (cp_cons (ce_lst (cd_cons ce_int (cd_cons ce_int (cd_cons ce_int (cd_cons (ce_call C.c__law_take hr (Nat.le_refl _) (cp_mut (ce_v 0) (cp_cons ce_int cp_nil))) cd_nil))))) cp_nil)))))
    (cb_cons (cs_set 3 sc__law_long_rows_right.nd (ce_add (ce_add (ce_sl (ce_v 1) co_no (co_some (ce_v 2))) (ce_lst (cd_cons (ce_tup (cd_cons ce_str (cd_cons ce_str cd_nil))) cd_nil))) (ce_sl (ce_v 1) (co_some (ce_add (ce_v 2) ce_int)) co_no)))
    (cb_cons (cs_set 4 sc__law_long_rows_right.nd (ce_tup (cd_cons ce_str (cd_cons (ce_totup (ca_cons (ce_lc [("at", 9)] sc__law_long_rows_right.nd (ci_rng3 6 T.b_range (cd_cons ce_int (cd_cons ce_int (cd_cons ce_int cd_nil)))) (blkOk_by (own := [("at", 9)]) (N := N__law_long_rows_right) (sc := defScope s__law_long_rows_right) (by decide +kernel)) (fun _ _ _ _ _ => (cg_name 9 sc__law_long_rows_right.nd)) (fun _ _ _ _ _ => cts_nil) (fun _ _ _ _ _ => (ce_tup (cd_cons ce_str (cd_cons (ce_totup (ca_cons (ce_sl (ce_v 1) (co_some (ce_v 9)) (co_some (ce_add (ce_v 9) ce_int))) ca_nil) (hm := T.b_tuple)) cd_nil))))) ca_nil) (hm := T.b_tuple)) cd_nil))))
    (cb_cons (cs_set 5 sc__law_long_rows_right.nd (ce_tup (cd_cons ce_str (cd_cons (ce_totup (ca_cons (ce_lc [("at", 9)] sc__law_long_rows_right.nd (ci_rng3 6 T.b_range (cd_cons ce_int (cd_cons ce_int (cd_cons ce_int cd_nil)))) (blkOk_by (own := [("at", 9)]) (N := N__law_long_rows_right) (sc := defScope s__law_long_rows_right) (by decide +kernel)) (fun _ _ _ _ _ => (cg_name 9 sc__law_long_rows_right.nd)) (fun _ _ _ _ _ => cts_nil) (fun _ _ _ _ _ => (ce_tup (cd_cons ce_str (cd_cons (ce_totup (ca_cons (ce_sl (ce_v 3) (co_some (ce_v 9)) (co_some (ce_add (ce_v 9) ce_int))) ca_nil) (hm := T.b_tuple)) cd_nil))))) ca_nil) (hm := T.b_tuple)) cd_nil))))
    (cb_cons (cs_if (cw_t (cw_or (ct_ne hr (ce_call C.c_first_difference hr (Nat.le_refl _) (cp_cons (ce_v 4) (cp_cons (ce_v 5) cp_nil))) (ce_tup (cd_cons ce_int (cd_cons (ce_v 2) cd_nil)))) (cw_or1 (ct_not (ct_val (ce_call C.c_shows_teller hr (Nat.le_refl _) (cp_cons (ce_v 4) (cp_cons (ce_v 5) (cp_cons (ce_tup (cd_cons (ce_tup (cd_cons ce_no (cd_cons ce_no cd_nil))) (cd_cons (ce_v 2) cd_nil))) cp_nil))))))))) (cb_one (cs_ret ce_bl)) cb_nil)
    (cb_cons (cs_unp (ce_call C.c_teller hr (Nat.le_refl _) (cp_cons (ce_v 4) (cp_cons (ce_v 5) cp_nil))) (cg_tup (cgs_cons (cg_name 6 sc__law_long_rows_right.nd) (cgs_cons (cg_name 7 sc__law_long_rows_right.nd) cgs_nil))))
    (cb_cons (cs_if (ct_eq hr (ce_call C.c_test_entry hr (Nat.le_refl _) (cp_cons (ce_v 4) (cp_cons (ce_v 6) (cp_cons (ce_v 7) cp_nil)))) (ce_call C.c_test_entry hr (Nat.le_refl _) (cp_cons (ce_v 5) (cp_cons (ce_v 6) (cp_cons (ce_v 7) cp_nil))))) (cb_one (cs_ret ce_bl)) cb_nil)
    (cb_cons (cs_set 8 sc__law_long_rows_right.nd (ce_tup (cd_cons ce_str (cd_cons (ce_add (ce_totup (ca_cons (ce_sl (ce_ix (ce_v 4) ce_int) co_no (co_some ce_int)) ca_nil) (hm := T.b_tuple)) (ce_tup (cd_cons (ce_tup (cd_cons ce_str (cd_cons (ce_tup (cd_cons (ce_tup (cd_cons ce_str (cd_cons (ce_totup (ca_cons (ce_sl (ce_v 1) co_no (co_some ce_int)) ca_nil) (hm := T.b_tuple)) cd_nil))) (cd_cons (ce_tup (cd_cons ce_str (cd_cons ce_str cd_nil))) cd_nil))) cd_nil))) cd_nil))) cd_nil))))
    (cb_one (cs_ret (ce_and (ce_eq hr (ce_call C.c_first_difference hr (Nat.le_refl _) (cp_cons (ce_v 4) (cp_cons (ce_v 8) cp_nil))) (ce_tup (cd_cons ce_int (cd_cons ce_int cd_nil)))) (ce_one (ce_eq hr (ce_call C.c_test_entry hr (Nat.le_refl _) (cp_cons (ce_v 8) (cp_cons (ce_tup (cd_cons ce_int (cd_cons ce_no cd_nil))) (cp_cons ce_int cp_nil)))) ce_int))))))))))))))⟩
end
end K41
end
section
set_option maxRecDepth 100000
set_option maxHeartbeats 4000000
namespace K41
open PySem PySem.Spec L2 Z
section
variable {P : Program} {w : World} {K : PySem.W.Frag} {mg : Str → Option Value} {base : Heap} {n : Nat} {G : Nat → FM} {f : Addr} {fd : FuncData}
theorem ok__law_names_right (T : Top mg) (C : Calls P w K mg base n G) (F : L2.Fun K "_law_names_right" "_law_names_right" s__law_names_right f fd) : FnOk P w K mg base L2.CX0 (n + 1) f fd ["left", "right"] (spOf (run 2 N__law_names_right.length (b__law_names_right G))) :=
  fn_ok F sc__law_names_right fun cdv A outer s H E hr => ⟨_,
    (cb_cons (cs_set 2 sc__law_names_right.nd (ce_lst (cd_cons (ce_callK C.kw_same hr (ck_cons (ce_v 1) (ck_cons (ce_v 0) ck_nil)) (dlen_cons (dlen_cons dlen_nil))) (cd_cons (ce_callK C.kw_first_difference hr (ck_cons (ce_v 1) (ck_cons (ce_v 0) ck_nil)) (dlen_cons (dlen_cons dlen_nil))) (cd_cons (ce_callK C.kw_changes hr (ck_cons (ce_v 0) ck_nil) (dlen_cons dlen_nil)) cd_nil)))))
    (cb_cons (cs_set 2 sc__law_names_right.nd (ce_add (ce_v 2) (ce_lst (cd_cons (ce_callK C.kw_teller hr (ck_cons (ce_v 1) (ck_cons (ce_v 0) ck_nil)) (dlen_cons (dlen_cons dlen_nil))) (cd_cons (ce_callK C.kw_shows_teller hr (ck_cons (ce_tup (cd_cons (ce_tup (cd_cons ce_int (cd_cons ce_int cd_nil))) (cd_cons ce_int cd_nil))) (ck_cons (ce_v 1) (ck_cons (ce_v 0) ck_nil))) (dlen_cons (dlen_cons (dlen_cons dlen_nil)))) cd_nil)))))
    (cb_cons (cs_app 2 (ce_v (np := 2) 2) (ce_callK C.kw_test_entry hr (ck_cons ce_int (ck_cons (ce_tup (cd_cons ce_int (cd_cons ce_int cd_nil))) (ck_cons (ce_v 1) ck_nil))) (dlen_cons (dlen_cons (dlen_cons dlen_nil)))))
    (cb_cons (cs_set 3 sc__law_names_right.nd (ce_lst (cd_cons (ce_call C.c_same hr (Nat.le_refl _) (cp_cons (ce_v 0) (cp_cons (ce_v 1) cp_nil))) (cd_cons (ce_call C.c_first_difference hr (Nat.le_refl _) (cp_cons (ce_v 0) (cp_cons (ce_v 1) cp_nil))) (cd_cons (ce_call C.c_changes hr (Nat.le_refl _) (cp_cons (ce_v 0) cp_nil)) (cd_cons (ce_call C.c_teller hr (Nat.le_refl _) (cp_cons (ce_v 0) (cp_cons (ce_v 1) cp_nil))) cd_nil))))))
    (cb_one (cs_ret (ce_call C.c__law_alike hr (Nat.le_refl _) (cp_cons (ce_v 2) (cp_cons (ce_add (ce_v 3) (ce_lst (cd_cons ce_bl (cd_cons ce_int cd_nil)))) cp_nil)))))))))⟩
end
end K41
end
section
set_option maxRecDepth 100000
set_option maxHeartbeats 4000000
namespace K41
open PySem PySem.Spec L2 Z
section
variable {P : Program} {w : World} {K : PySem.W.Frag} {mg : Str → Option Value} {base : Heap} {n : Nat} {G : Nat → FM} {f : Addr} {fd : FuncData}
theorem ok__law_of (T : Top mg) (C : Calls P w K mg base n G) (F : L2.Fun K "_law_of" "_law_of" s__law_of f fd) : FnOk P w K mg base L2.CX0 (n + 1) f fd ["pot", "some"] (spOf (run 2 N__law_of.length (b__law_of G))) :=
  fn_ok F sc__law_of fun cdv A outer s H E hr => ⟨_,
    (cb_one (cs_ret (ce_ix (ce_v 1) (ce_call C.c__law_take hr (Nat.le_refl _) (cp_mut (ce_v 0) (cp_cons (ce_len (ca_cons (ce_v 1) ca_nil) (hm := T.b_len)) cp_nil))))))⟩
end
end K41
end
section
set_option maxRecDepth 100000
set_option maxHeartbeats 4000000
namespace K41
open PySem PySem.Spec L2 Z
section
variable {P : Program} {w : World} {K : PySem.W.Frag} {mg : Str → Option Value} {base : Heap} {n : Nat} {G : Nat → FM} {f : Addr} {fd : FuncData}
theorem ok__law_pot (T : Top mg) (C : Calls P w K mg base n G) (F : L2.Fun K "_law_pot" "_law_pot" s__law_pot f fd) : FnOk P w K mg base L2.CX0 (n + 1) f fd ["script", "k"] (spOf (run 2 N__law_pot.length (b__law_pot G))) :=
  fn_ok F sc__law_pot fun cdv A outer s H E hr => ⟨_,
    (cb_cons (cs_set 2 sc__law_pot.nd (ce_if (ct_lt (ce_v 1) (ce_len (ca_cons (ce_v 0) ca_nil) (hm := T.b_len))) (ce_ix (ce_v 0) (ce_v 1)) (ce_add (ce_mul ce_int (ce_v 1)) ce_int)))
    (cb_cons (cs_set 3 sc__law_pot.nd (ce_mul (ce_mod (ce_abs (ca_cons (ce_v 2) ca_nil) (hm := T.b_abs)) (ce_powW (ce_pow ce_int ce_int) ce_int)) (ce_toint (ca_cons (ce_ge (ce_abs (ca_cons (ce_v 2) ca_nil) (hm := T.b_abs)) (ce_pow ce_int ce_int)) ca_nil) (hm := T.b_int))))
    (cb_one (cs_ret (ce_lst (cd_cons (ce_v 3) (cd_cons (ce_mod (ce_add (ce_add (ce_mul (ce_mod (ce_v 2) ce_int) ce_int) (ce_mul (ce_mul ce_int (ce_v 1)) (ce_v 1))) ce_int) ce_int) (cd_cons ce_int cd_nil))))))))⟩
end
end K41
end
section
set_option maxRecDepth 100000
set_option maxHeartbeats 4000000
namespace K41
open PySem PySem.Spec L2 Z
section
variable {P : Program} {w : World} {K : PySem.W.Frag} {mg : Str → Option Value} {base : Heap} {n : Nat} {G : Nat → FM} {f : Addr} {fd : FuncData}
theorem ok__law_take (T : Top mg) (C : Calls P w K mg base n G) (F : L2.Fun K "_law_take" "_law_take" s__law_take f fd) : FnOk P w K mg base L2.CX0 (n + 1) f fd ["pot", "bound"] (spOf (run 2 N__law_take.length (b__law_take G))) :=
  fn_ok F sc__law_take fun cdv A outer s H E hr => ⟨_,
    (cb_cons (cs_if (ct_gt (ce_ix (ce_v 0) ce_int) ce_int) (cb_cons (cs_set 2 sc__law_take.nd (ce_mod (ce_ix (ce_v 0) ce_int) (ce_v 1)))
    (cb_cons (cs_put 0 (ce_v (np := 2) 0) (ce_div (ce_ix (ce_v 0) ce_int) (ce_v 1)))
    (cb_one (cs_ret (ce_v 2))))) cb_nil)
    (cb_cons (cs_put 0 (ce_v (np := 2) 0) (ce_add (ce_ix (ce_v 0) ce_int) ce_int))
    (cb_cons (cs_set 3 sc__law_take.nd (ce_ix (ce_lst (cd_cons ce_int (cd_cons ce_int (cd_cons ce_int (cd_cons ce_int (cd_cons ce_int cd_nil)))))) (ce_mod (ce_ix (ce_v 0) ce_int) ce_int)))
    (cb_cons (cs_set 4 sc__law_take.nd (ce_mod (ce_powW (ce_add (ce_add (ce_ix (ce_v 0) ce_int) (ce_mul (ce_mul ce_int (ce_ix (ce_v 0) ce_int)) (ce_ix (ce_v 0) ce_int))) ce_int) ce_int) (ce_v 3)))
    (cb_one (cs_ret (ce_mod (ce_div (ce_mod (ce_mul (ce_v 4) (ce_add (ce_mod (ce_v 4) ce_int) (ce_mul ce_int (ce_ix (ce_v 0) ce_int)))) ce_int) ce_int) (ce_v 1))))))))⟩
end
end K41
end
section
set_option maxRecDepth 100000
set_option maxHeartbeats 4000000
namespace K41
open PySem PySem.Spec L2 Z
section
variable {P : Program} {w : World} {K : PySem.W.Frag} {mg : Str → Option Value} {base : Heap} {n : Nat} {G : Nat → FM} {f : Addr} {fd : FuncData}
theorem ok_changes (T : Top mg) (C : Calls P w K mg base n G) (F : L2.Fun K "changes" "changes" s_changes f fd) : FnOk P w K mg base L2.CX0 (n + 1) f fd ["program"] (spOf (run 1 N_changes.length (b_changes G))) :=
  fn_ok F sc_changes fun cdv A outer s H E hr => ⟨_,
    (cb_one (cs_ret (ce_totup (ca_cons (ce_srtset (ce_add (ce_lst (cd_cons ce_int (cd_cons (ce_call C.c_finish hr (Nat.le_refl _) (cp_cons (ce_v 0) cp_nil)) cd_nil))) (ce_call C.c_moments hr (Nat.le_refl _) (cp_cons (ce_v 0) (cp_cons ce_int cp_nil)))) T.b_sorted T.b_set) ca_nil) (hm := T.b_tuple))))⟩
end
end K41
end
section
set_option maxRecDepth 100000
set_option maxHeartbeats 4000000
namespace K41
open PySem PySem.Spec L2 Z
section
variable {P : Program} {w : World} {K : PySem.W.Frag} {mg : Str → Option Value} {base : Heap} {n : Nat} {G : Nat → FM} {f : Addr} {fd : FuncData}
theorem ok_count_before (T : Top mg) (C : Calls P w K mg base n G) (F : L2.Fun K "count_before" "count_before" s_count_before f fd) : FnOk P w K mg base L2.CX0 (n + 1) f fd ["program", "at"] (spOf (run 2 N_count_before.length (b_count_before G))) :=
  fn_ok F sc_count_before fun cdv A outer s H E hr => ⟨_,
    (cb_cons (cs_set 2 sc_count_before.nd (ce_ix (ce_v 0) ce_int))
    (cb_cons (cs_if (cw_t (cw_or (ct_le (ce_v 1) ce_int) (cw_or1 (ct_eq hr (ce_v 2) ce_str)))) (cb_one (cs_ret ce_int)) cb_nil)
    (cb_cons (cs_if (ct_eq hr (ce_v 2) ce_str) (cb_one (cs_ret ce_int)) cb_nil)
    (cb_cons (cs_if (ct_eq hr (ce_v 2) ce_str) (cb_one (cs_ret (ce_call C.c_count_before hr (Nat.le_refl _) (cp_cons (ce_ix (ce_v 0) ce_int) (cp_cons (ce_v 1) cp_nil))))) cb_nil)
    (cb_cons (cs_if (ct_eq hr (ce_v 2) ce_str) (cb_one (cs_ret (ce_call C.c_count_in_loop hr (Nat.le_refl _) (cp_cons (ce_ix (ce_v 0) ce_int) (cp_cons (ce_ix (ce_v 0) ce_int) (cp_cons (ce_v 1) cp_nil)))))) cb_nil)
    (cb_cons (cs_unp (ce_tup (cd_cons ce_int (cd_cons ce_int cd_nil))) (cg_tup (cgs_cons (cg_name 3 sc_count_before.nd) (cgs_cons (cg_name 4 sc_count_before.nd) cgs_nil))))
    (cb_cons (cs_for PassesOwn.never (ci_tup (ce_ix (ce_v 0) ce_int)) (cg_name 5 sc_count_before.nd) (cb_cons (cs_aadd 3 sc_count_before.nd (ce_call C.c_count_before hr (Nat.le_refl _) (cp_cons (ce_v 5) (cp_cons (ce_sub (ce_v 1) (ce_v 4)) cp_nil))))
    (cb_one (cs_aadd 4 sc_count_before.nd (ce_if (ct_eq hr (ce_v 2) ce_str) (ce_call C.c_finish hr (Nat.le_refl _) (cp_cons (ce_v 5) cp_nil)) ce_int)))))
    (cb_one (cs_ret (ce_v 3))))))))))⟩
end
end K41
end
section
set_option maxRecDepth 100000
set_option maxHeartbeats 4000000
namespace K41
open PySem PySem.Spec L2 Z
section
variable {P : Program} {w : World} {K : PySem.W.Frag} {mg : Str → Option Value} {base : Heap} {n : Nat} {G : Nat → FM} {f : Addr} {fd : FuncData}
theorem ok_count_in_loop (T : Top mg) (C : Calls P w K mg base n G) (F : L2.Fun K "count_in_loop" "count_in_loop" s_count_in_loop f fd) : FnOk P w K mg base L2.CX0 (n + 1) f fd ["count", "body", "at"] (spOf (run 3 N_count_in_loop.length (b_count_in_loop G))) :=
  fn_ok F sc_count_in_loop fun cdv A outer s H E hr => ⟨_,
    (cb_cons (cs_set 3 sc_count_in_loop.nd (ce_call C.c_finish hr (Nat.le_refl _) (cp_cons (ce_v 1) cp_nil)))
    (cb_cons (cs_set 4 sc_count_in_loop.nd (ce_min2 (ca_cons (ce_v 0) (ca_cons (ce_max2 (ca_cons ce_int (ca_cons (ce_add (ce_div (ce_sub (ce_sub (ce_v 2) ce_int) (ce_ki T.k_LAST_BODY_ROUND)) (ce_v 3)) ce_int) ca_nil)) (hm := T.b_max)) ca_nil)) (hm := T.b_min)))
    (cb_cons (cs_set 5 sc_count_in_loop.nd (ce_min2 (ca_cons (ce_v 0) (ca_cons (ce_add (ce_div (ce_sub (ce_v 2) ce_int) (ce_v 3)) ce_int) ca_nil)) (hm := T.b_min)))
    (cb_one (cs_ret (ce_add (ce_mul (ce_v 4) (ce_call C.c_total hr (Nat.le_refl _) (cp_cons (ce_v 1) cp_nil))) (ce_sum (ca_cons (ce_lc [("turn", 6)] sc_count_in_loop.nd (ci_rng2 T.b_range (cd_cons (ce_v 4) (cd_cons (ce_v 5) cd_nil))) (blkOk_by (own := [("turn", 6)]) (N := N_count_in_loop) (sc := defScope s_count_in_loop) (by decide +kernel)) (fun _ _ _ _ _ => (cg_name 6 sc_count_in_loop.nd)) (fun _ _ _ _ _ => cts_nil) (fun _ _ _ _ _ => (ce_call C.c_count_before hr (Nat.le_refl _) (cp_cons (ce_v 1) (cp_cons (ce_sub (ce_v 2) (ce_mul (ce_v 6) (ce_v 3))) cp_nil))))) ca_nil) (hm := T.b_sum))))))))⟩
end
end K41
end
section
set_option maxRecDepth 100000
set_option maxHeartbeats 4000000
namespace K41
open PySem PySem.Spec L2 Z
section
variable {P : Program} {w : World} {K : PySem.W.Frag} {mg : Str → Option Value} {base : Heap} {n : Nat} {G : Nat → FM} {f : Addr} {fd : FuncData}
theorem ok_finish (T : Top mg) (C : Calls P w K mg base n G) (F : L2.Fun K "finish" "finish" s_finish f fd) : FnOk P w K mg base L2.CX0 (n + 1) f fd ["program"] (spOf (run 1 N_finish.length (b_finish G))) :=
  fn_ok F sc_finish fun cdv A outer s H E hr => ⟨_,
    (cb_cons (cs_set 1 sc_finish.nd (ce_ix (ce_v 0) ce_int))
    (cb_cons (cs_if (ct_in (ce_v 1) (ce_tup (cd_cons (ce_ks T.k_LOG) (cd_cons (ce_ks T.k_FORK) cd_nil)))) (cb_one (cs_ret ce_int)) cb_nil)
    (cb_cons (cs_if (ct_eq hr (ce_v 1) (ce_ks T.k_AWAIT)) (cb_one (cs_ret (ce_ix (ce_v 0) ce_int))) cb_nil)
    (cb_cons (cs_if (ct_eq hr (ce_v 1) (ce_ks T.k_LOOP)) (cb_one (cs_ret (ce_mul (ce_ix (ce_v 0) ce_int) (ce_call C.c_finish hr (Nat.le_refl _) (cp_cons (ce_ix (ce_v 0) ce_int) cp_nil))))) cb_nil)
    (cb_cons (cs_lc 2 [("part", 3)] sc_finish.nd (ci_tup (ce_ix (ce_v 0) ce_int)) (blkOk_by (own := [("part", 3)]) (N := N_finish) (sc := defScope s_finish) (by decide +kernel)) (sw_true rfl rfl rfl (by decide +kernel)) (fun _ _ _ _ _ => (cg_name 3 sc_finish.nd)) (fun _ _ _ _ _ => cts_nil) (fun _ _ _ _ _ => (ce_call C.c_finish hr (Nat.le_refl _) (cp_cons (ce_v 3) cp_nil))))
    (cb_cons (cs_if (ct_eq hr (ce_v 1) (ce_ks T.k_SEQ)) (cb_one (cs_ret (ce_sum (ca_cons (ce_v 2) ca_nil) (hm := T.b_sum)))) cb_nil)
    (cb_one (cs_ret (ce_if (ct_eq hr (ce_v 1) (ce_ks T.k_JOIN)) (ce_max1 (ca_cons (ce_v 2) ca_nil) (hm := T.b_max)) (ce_min1 (ca_cons (ce_v 2) ca_nil) (hm := T.b_min)))))))))))⟩
end
end K41
end
section
set_option maxRecDepth 100000
set_option maxHeartbeats 4000000
namespace K41
open PySem PySem.Spec L2 Z
section
variable {P : Program} {w : World} {K : PySem.W.Frag} {mg : Str → Option Value} {base : Heap} {n : Nat} {G : Nat → FM} {f : Addr} {fd : FuncData}
theorem ok_first_difference (T : Top mg) (C : Calls P w K mg base n G) (F : L2.Fun K "first_difference" "first_difference" s_first_difference f fd) : FnOk P w K mg base L2.CX0 (n + 1) f fd ["one", "other"] (spOf (run 2 N_first_difference.length (b_first_difference G))) :=
  fn_ok F sc_first_difference fun cdv A outer s H E hr => ⟨_,
    (cb_cons (cs_set 2 sc_first_difference.nd (ce_srtset (ce_add (ce_call C.c_changes hr (Nat.le_refl _) (cp_cons (ce_v 0) cp_nil)) (ce_call C.c_changes hr (Nat.le_refl _) (cp_cons (ce_v 1) cp_nil))) T.b_sorted T.b_set))
    (cb_cons (cs_for PassesOwn.never (ci_zip T.b_zip (cd_cons (ce_v 2) (cd_cons (ce_add (ce_sl (ce_v 2) (co_some ce_int) co_no) (ce_lst (cd_cons (ce_add (ce_ix (ce_v 2) (ce_neg ce_int)) (ce_ki T.k_PERIOD)) cd_nil))) cd_nil))) (cg_tup (cgs_cons (cg_name 3 sc_first_difference.nd) (cgs_cons (cg_name 4 sc_first_difference.nd) cgs_nil))) (cb_one (cs_for PassesOwn.never (ci_rng2 T.b_range (cd_cons (ce_v 3) (cd_cons (ce_min2 (ca_cons (ce_v 4) (ca_cons (ce_add (ce_v 3) (ce_ki T.k_PERIOD)) ca_nil)) (hm := T.b_min)) cd_nil))) (cg_name 5 sc_first_difference.nd) (cb_cons (cs_par 6 7 sc_first_difference.nd (ce_call C.c_marked hr (Nat.le_refl _) (cp_cons (ce_v 0) (cp_cons (ce_v 5) cp_nil))) (ce_call C.c_marked hr (Nat.le_refl _) (cp_cons (ce_v 1) (cp_cons (ce_v 5) cp_nil))))
    (cb_one (cs_if (ct_ne hr (ce_v 6) (ce_v 7)) (cb_one (cs_ret (ce_tup (cd_cons (ce_v 5) (cd_cons (ce_call C.c_first_unequal hr (Nat.le_refl _) (cp_cons (ce_v 6) (cp_cons (ce_v 7) cp_nil))) cd_nil))))) cb_nil))))))
    (cb_one (cs_ret ce_no))))⟩
end
end K41
end
section
set_option maxRecDepth 100000
set_option maxHeartbeats 4000000
namespace K41
open PySem PySem.Spec L2 Z
section
variable {P : Program} {w : World} {K : PySem.W.Frag} {mg : Str → Option Value} {base : Heap} {n : Nat} {G : Nat → FM} {f : Addr} {fd : FuncData}
theorem ok_first_unequal (T : Top mg) (C : Calls P w K mg base n G) (F : L2.Fun K "first_unequal" "first_unequal" s_first_unequal f fd) : FnOk P w K mg base L2.CX0 (n + 1) f fd ["row", "other"] (spOf (run 2 N_first_unequal.length (b_first_unequal G))) :=
  fn_ok F sc_first_unequal fun cdv A outer s H E hr => ⟨_,
    (cb_cons (cs_set 2 sc_first_unequal.nd ce_int)
    (cb_cons (cs_while 1000 PassesOwn.never (cw_t (cw_and (ct_lt (ce_v 2) (ce_min2 (ca_cons (ce_len (ca_cons (ce_v 0) ca_nil) (hm := T.b_len)) (ca_cons (ce_len (ca_cons (ce_v 1) ca_nil) (hm := T.b_len)) ca_nil)) (hm := T.b_min))) (cw_and1 (ct_eq hr (ce_ix (ce_v 0) (ce_v 2)) (ce_ix (ce_v 1) (ce_v 2)))))) (cb_one (cs_aadd 2 sc_first_unequal.nd ce_int)))
    (cb_one (cs_ret (ce_v 2)))))⟩
end
end K41
end
section
set_option maxRecDepth 100000
set_option maxHeartbeats 4000000
namespace K41
open PySem PySem.Spec L2 Z
section
variable {P : Program} {w : World} {K : PySem.W.Frag} {mg : Str → Option Value} {base : Heap} {n : Nat} {G : Nat → FM} {f : Addr} {fd : FuncData}
theorem ok_is_number (T : Top mg) (C : Calls P w K mg base n G) (F : L2.Fun K "is_number" "is_number" s_is_number f fd) : FnOk P w K mg base L2.CX0 (n + 1) f fd ["value"] (spOf (run 1 N_is_number.length (b_is_number G))) :=
  fn_ok F sc_is_number fun cdv A outer s H E hr => ⟨_,
    (cb_one (cs_ret (ce_and (ce_isi bt_int (ce_v 0) T.b_isinstance T.b_int) (ce_and (ce_not (ce_isi bt_bool (ce_v 0) T.b_isinstance T.b_bool)) (ce_one (ce_ge (ce_v 0) ce_int))))))⟩
end
end K41
end
section
set_option maxRecDepth 100000
set_option maxHeartbeats 4000000
namespace K41
open PySem PySem.Spec L2 Z
section
variable {P : Program} {w : World} {K : PySem.W.Frag} {mg : Str → Option Value} {base : Heap} {n : Nat} {G : Nat → FM} {f : Addr} {fd : FuncData}
theorem ok_is_test (T : Top mg) (C : Calls P w K mg base n G) (F : L2.Fun K "is_test" "is_test" s_is_test f fd) : FnOk P w K mg base L2.CX0 (n + 1) f fd ["value"] (spOf (run 1 N_is_test.length (b_is_test G))) :=
  fn_ok F sc_is_test fun cdv A outer s H E hr => ⟨_,
    (cb_cons (cs_if (cw_t (cw_or (ct_not (ct_val (ce_isi bt_tup (ce_v 0) T.b_isinstance T.b_tuple))) (cw_or1 (ct_ne hr (ce_len (ca_cons (ce_v 0) ca_nil) (hm := T.b_len)) (ce_ki T.k_TEST_PARTS))))) (cb_one (cs_ret ce_bl)) cb_nil)
    (cb_one (cs_ret (ce_all (ca_cons (ce_lc [("part", 1)] sc_is_test.nd (ci_tup (ce_v 0)) (blkOk_by (own := [("part", 1)]) (N := N_is_test) (sc := defScope s_is_test) (by decide +kernel)) (fun _ _ _ _ _ => (cg_name 1 sc_is_test.nd)) (fun _ _ _ _ _ => cts_nil) (fun _ _ _ _ _ => (ce_or (ce_is (ce_v 1) ce_no) (ce_one (ce_call C.c_is_number hr (Nat.le_refl _) (cp_cons (ce_v 1) cp_nil)))))) ca_nil) (hm := T.b_all)))))⟩
end
end K41
end
section
set_option maxRecDepth 100000
set_option maxHeartbeats 4000000
namespace K41
open PySem PySem.Spec L2 Z
section
variable {P : Program} {w : World} {K : PySem.W.Frag} {mg : Str → Option Value} {base : Heap} {n : Nat} {G : Nat → FM} {f : Addr} {fd : FuncData}
theorem ok_key_part (T : Top mg) (C : Calls P w K mg base n G) (F : L2.Fun K "key_part" "key_part" s_key_part f fd) : FnOk P w K mg base L2.CX0 (n + 1) f fd ["program"] (spOf (run 1 N_key_part.length (b_key_part G))) :=
  fn_ok F sc_key_part fun cdv A outer s H E hr => ⟨_,
    (cb_cons (cs_lc 1 [("part", 2)] sc_key_part.nd (ci_tup (ce_ix (ce_v 0) ce_int)) (blkOk_by (own := [("part", 2)]) (N := N_key_part) (sc := defScope s_key_part) (by decide +kernel)) (sw_true rfl rfl rfl (by decide +kernel)) (fun _ _ _ _ _ => (cg_name 2 sc_key_part.nd)) (fun _ _ _ _ _ => cts_nil) (fun _ _ _ _ _ => (ce_call C.c_finish hr (Nat.le_refl _) (cp_cons (ce_v 2) cp_nil))))
    (cb_cons (cs_if (ct_eq hr (ce_ix (ce_v 0) ce_int) (ce_ks T.k_RACE)) (cb_one (cs_ret (ce_index (ce_v 1) (ce_min1 (ca_cons (ce_v 1) ca_nil) (hm := T.b_min))))) cb_nil)
    (cb_one (cs_ret (ce_sub (ce_sub (ce_len (ca_cons (ce_v 1) ca_nil) (hm := T.b_len)) ce_int) (ce_index (ce_rev (ce_v 1)) (ce_max1 (ca_cons (ce_v 1) ca_nil) (hm := T.b_max))))))))⟩
end
end K41
end
section
set_option maxRecDepth 100000
set_option maxHeartbeats 4000000
namespace K41
open PySem PySem.Spec L2 Z
section
variable {P : Program} {w : World} {K : PySem.W.Frag} {mg : Str → Option Value} {base : Heap} {n : Nat} {G : Nat → FM} {f : Addr} {fd : FuncData}
theorem ok_law (T : Top mg) (C : Calls P w K mg base n G) (F : L2.Fun K "law" "law" s_law f fd) : FnOk P w K mg base L2.CX0 (n + 1) f fd ["script"] (spOf (run 1 N_law.length (b_law G))) :=
  fn_ok F sc_law fun cdv A outer s H E hr => ⟨_,
    (cb_cons (cs_set 1 sc_law.nd (ce_call C.c__law_pot hr (Nat.le_refl _) (cp_cons (ce_v 0) (cp_cons ce_int cp_nil))))
    (cb_cons (cs_set 2 sc_law.nd (ce_add ce_int (ce_call C.c__law_take hr (Nat.le_refl _) (cp_mut (ce_v 1) (cp_cons (ce_sub (ce_pow ce_int ce_int) ce_int) cp_nil)))))
    (cb_cons (cs_if (cw_t (cw_or (ct_not (ct_val (ce_call C.c__law_gaps_right hr (Nat.le_refl _) (cp_cons (ce_v 2) cp_nil)))) (cw_or1 (ct_not (ct_val (ce_call C.c__law_long_rows_right hr (Nat.le_refl _) (cp_mut (ce_v 1) cp_nil))))))) (cb_one (cs_ret ce_bl)) cb_nil)
    (cb_cons (cs_unp (ce_tup (cd_cons (ce_tup (cd_cons ce_str (cd_cons ce_str cd_nil))) (cd_cons (ce_tup (cd_cons ce_str (cd_cons (ce_tup (cd_cons (ce_tup (cd_cons ce_str (cd_cons ce_str cd_nil))) (cd_cons (ce_tup (cd_cons ce_str (cd_cons (ce_v 2) cd_nil))) cd_nil))) cd_nil))) cd_nil))) (cg_tup (cgs_cons (cg_name 3 sc_law.nd) (cgs_cons (cg_name 4 sc_law.nd) cgs_nil))))
    (cb_cons (cs_if (cw_t (cw_or (ct_ne hr (ce_call C.c_first_difference hr (Nat.le_refl _) (cp_cons (ce_v 3) (cp_cons (ce_v 4) cp_nil))) (ce_tup (cd_cons ce_int (cd_cons ce_int cd_nil)))) (cw_or (ct_val (ce_call C.c_same hr (Nat.le_refl _) (cp_cons (ce_v 3) (cp_cons (ce_v 4) cp_nil)))) (cw_or1 (ct_val (ce_call C.c_same hr (Nat.le_refl _) (cp_cons (ce_v 4) (cp_cons (ce_v 3) cp_nil)))))))) (cb_one (cs_ret ce_bl)) cb_nil)
    (cb_cons (cs_if (cw_t (cw_or (ct_val (ce_call C.c_shows_teller hr (Nat.le_refl _) (cp_cons (ce_v 3) (cp_cons (ce_v 4) (cp_cons (ce_tup (cd_cons (ce_tup (cd_cons ce_int (cd_cons ce_no cd_nil))) (cd_cons ce_int cd_nil))) cp_nil))))) (cw_or1 (ct_not (ct_val (ce_call C.c_shows_teller hr (Nat.le_refl _) (cp_cons (ce_v 3) (cp_cons (ce_v 4) (cp_cons (ce_tup (cd_cons (ce_tup (cd_cons ce_int (cd_cons ce_int cd_nil))) (cd_cons ce_int cd_nil))) cp_nil))))))))) (cb_one (cs_ret ce_bl)) cb_nil)
    (cb_cons (cs_if (ct_ne hr (ce_lc [("spot", 8)] sc_law.nd (ci_rng1 T.b_range (cd_cons ce_int cd_nil)) (blkOk_by (own := [("spot", 8)]) (N := N_law) (sc := defScope s_law) (by decide +kernel)) (fun _ _ _ _ _ => (cg_name 8 sc_law.nd)) (fun _ _ _ _ _ => cts_nil) (fun _ _ _ _ _ => (ce_call C.c_test_entry hr (Nat.le_refl _) (cp_cons (ce_v 4) (cp_cons (ce_tup (cd_cons (ce_v 2) (cd_cons (ce_mul ce_int (ce_v 2)) cd_nil))) (cp_cons (ce_v 8) cp_nil)))))) (ce_lst (cd_cons ce_str (cd_cons ce_int (cd_cons ce_int (cd_cons ce_no cd_nil)))))) (cb_one (cs_ret ce_bl)) cb_nil)
    (cb_cons (cs_if (ct_not (ct_val (ce_call C.c__law_names_right hr (Nat.le_refl _) (cp_cons (ce_v 3) (cp_cons (ce_v 4) cp_nil))))) (cb_one (cs_ret ce_bl)) cb_nil)
    (cb_cons (cs_set 5 sc_law.nd (ce_tup (cd_cons ce_str (cd_cons (ce_tup (cd_cons ce_str (cd_cons (ce_tup (cd_cons (ce_tup (cd_cons ce_str (cd_cons (ce_v 2) cd_nil))) (cd_cons (ce_tup (cd_cons ce_str (cd_cons ce_str cd_nil))) cd_nil))) cd_nil))) cd_nil))))
    (cb_cons (cs_lc 6 [("kind", 9)] sc_law.nd (ci_tup (ce_tup (cd_cons (ce_tup (cd_cons (ce_v 2) (cd_cons ce_no cd_nil))) (cd_cons (ce_tup (cd_cons (ce_sub (ce_v 2) ce_int) (cd_cons ce_no cd_nil))) (cd_cons (ce_tup (cd_cons (ce_add (ce_v 2) ce_int) (cd_cons ce_no cd_nil))) (cd_cons (ce_tup (cd_cons ce_no (cd_cons (ce_v 2) cd_nil))) cd_nil)))))) (blkOk_by (own := [("kind", 9)]) (N := N_law) (sc := defScope s_law) (by decide +kernel)) (sw_true rfl rfl rfl (by decide +kernel)) (fun _ _ _ _ _ => (cg_name 9 sc_law.nd)) (fun _ _ _ _ _ => cts_nil) (fun _ _ _ _ _ => (ce_call C.c_test_entry hr (Nat.le_refl _) (cp_cons (ce_v 5) (cp_cons (ce_v 9) (cp_cons ce_int cp_nil))))))
    (cb_cons (cs_if (ct_ne hr (ce_v 6) (ce_lst (cd_cons ce_str (cd_cons ce_int (cd_cons ce_str (cd_cons ce_str cd_nil)))))) (cb_one (cs_ret ce_bl)) cb_nil)
    (cb_cons (cs_set 7 sc_law.nd (ce_tup (cd_cons ce_str (cd_cons (ce_tup (cd_cons (ce_tup (cd_cons ce_str (cd_cons (ce_tup cd_nil) cd_nil))) (cd_cons (ce_tup (cd_cons ce_str (cd_cons (ce_tup (cd_cons (ce_tup (cd_cons ce_str (cd_cons (ce_v 2) cd_nil))) (cd_cons (ce_tup (cd_cons ce_str (cd_cons ce_str cd_nil))) cd_nil))) cd_nil))) cd_nil))) cd_nil))))
    (cb_cons (cs_if (cw_t (cw_or (ct_ne hr (ce_call C.c_first_difference hr (Nat.le_refl _) (cp_cons (ce_v 5) (cp_cons (ce_v 7) cp_nil))) (ce_tup (cd_cons (ce_v 2) (cd_cons ce_int cd_nil)))) (cw_or1 (ct_ne hr (ce_call C.c_test_entry hr (Nat.le_refl _) (cp_cons (ce_v 7) (cp_cons (ce_tup (cd_cons (ce_v 2) (cd_cons ce_no cd_nil))) (cp_cons ce_int cp_nil)))) ce_int)))) (cb_one (cs_ret ce_bl)) cb_nil)
    (cb_one (cs_ret (ce_and (ce_eq hr (ce_call C.c_test_entry hr (Nat.le_refl _) (cp_cons (ce_tup (cd_cons ce_str (cd_cons (ce_tup cd_nil) cd_nil))) (cp_cons (ce_tup (cd_cons ce_int (cd_cons ce_int cd_nil))) (cp_cons ce_int cp_nil)))) ce_int) (ce_one (ce_is (ce_call C.c_test_entry hr (Nat.le_refl _) (cp_cons (ce_tup (cd_cons ce_str (cd_cons (ce_tup cd_nil) cd_nil))) (cp_cons (ce_tup (cd_cons ce_no (cd_cons ce_no cd_nil))) (cp_cons ce_int cp_nil)))) ce_no))))))))))))))))))⟩
end
end K41
end
section
set_option maxRecDepth 100000
set_option maxHeartbeats 4000000
namespace K41
open PySem PySem.Spec L2 Z
section
variable {P : Program} {w : World} {K : PySem.W.Frag} {mg : Str → Option Value} {base : Heap} {n : Nat} {G : Nat → FM} {f : Addr} {fd : FuncData}
theorem ok_marked (T : Top mg) (C : Calls P w K mg base n G) (F : L2.Fun K "marked" "marked" s_marked f fd) : FnOk P w K mg base L2.CX0 (n + 1) f fd ["program", "at"] (spOf (run 2 N_marked.length (b_marked G))) :=
  fn_ok F sc_marked fun cdv A outer s H E hr => ⟨_,
    (cb_cons (cs_unp (ce_call C.c_sides_of hr (Nat.le_refl _) (cp_cons (ce_v 0) (cp_cons (ce_v 1) cp_nil))) (cg_tup (cgs_cons (cg_name 2 sc_marked.nd) (cgs_cons (cg_name 3 sc_marked.nd) cgs_nil))))
    (cb_one (cs_ret (ce_if (ct_ge (ce_v 1) (ce_call C.c_finish hr (Nat.le_refl _) (cp_cons (ce_v 0) cp_nil))) (ce_add (ce_add (ce_v 2) (ce_tup (cd_cons (ce_kn T.k_GAP) cd_nil))) (ce_v 3)) (ce_v 2)))))⟩
end
end K41
end
section
set_option maxRecDepth 100000
set_option maxHeartbeats 4000000
namespace K41
open PySem PySem.Spec L2 Z
section
variable {P : Program} {w : World} {K : PySem.W.Frag} {mg : Str → Option Value} {base : Heap} {n : Nat} {G : Nat → FM} {f : Addr} {fd : FuncData}
theorem ok_moments (T : Top mg) (C : Calls P w K mg base n G) (F : L2.Fun K "moments" "moments" s_moments f fd) : FnOk P w K mg base L2.CX0 (n + 1) f fd ["program", "begin"] (spOf (run 2 N_moments.length (b_moments G))) :=
  fn_ok F sc_moments fun cdv A outer s H E hr => ⟨_,
    (cb_cons (cs_set 2 sc_moments.nd (ce_ix (ce_v 0) ce_int))
    (cb_cons (cs_if (ct_eq hr (ce_v 2) ce_str) (cb_one (cs_ret (ce_lst (cd_cons (ce_v 1) (cd_cons (ce_add (ce_v 1) ce_int) cd_nil))))) cb_nil)
    (cb_cons (cs_if (ct_eq hr (ce_v 2) ce_str) (cb_one (cs_ret (ce_lst cd_nil))) cb_nil)
    (cb_cons (cs_if (ct_eq hr (ce_v 2) ce_str) (cb_one (cs_ret (ce_call C.c_moments hr (Nat.le_refl _) (cp_cons (ce_ix (ce_v 0) ce_int) (cp_cons (ce_v 1) cp_nil))))) cb_nil)
    (cb_cons (cs_if (ct_eq hr (ce_v 2) ce_str) (cb_cons (cs_set 3 sc_moments.nd (ce_add (ce_v 1) (ce_mul (ce_ix (ce_v 0) ce_int) (ce_call C.c_finish hr (Nat.le_refl _) (cp_cons (ce_ix (ce_v 0) ce_int) cp_nil)))))
    (cb_one (cs_ret (ce_lst (cd_cons (ce_v 1) (cd_cons (ce_add (ce_v 1) (ce_ki T.k_SETTLED)) (cd_cons (ce_v 3) (cd_cons (ce_add (ce_v 3) (ce_ki T.k_SETTLED)) cd_nil)))))))) cb_nil)
    (cb_cons (cs_set 4 sc_moments.nd (ce_lst cd_nil))
    (cb_cons (cs_for PassesOwn.never (ci_tup (ce_ix (ce_v 0) ce_int)) (cg_name 5 sc_moments.nd) (cb_cons (cs_ext 4 (ce_v (np := 2) 4) (ce_call C.c_moments hr (Nat.le_refl _) (cp_cons (ce_v 5) (cp_cons (ce_v 1) cp_nil))))
    (cb_one (cs_aadd 1 sc_moments.nd (ce_if (ct_eq hr (ce_v 2) ce_str) (ce_call C.c_finish hr (Nat.le_refl _) (cp_cons (ce_v 5) cp_nil)) ce_int)))))
    (cb_one (cs_ret (ce_v 4))))))))))⟩
end
end K41
end
section
set_option maxRecDepth 100000
set_option maxHeartbeats 4000000
namespace K41
open PySem PySem.Spec L2 Z
section
variable {P : Program} {w : World} {K : PySem.W.Frag} {mg : Str → Option Value} {base : Heap} {n : Nat} {G : Nat → FM} {f : Addr} {fd : FuncData}
theorem ok_same (T : Top mg) (C : Calls P w K mg base n G) (F : L2.Fun K "same" "same" s_same f fd) : FnOk P w K mg base L2.CX0 (n + 1) f fd ["one", "other"] (spOf (run 2 N_same.length (b_same G))) :=
  fn_ok F sc_same fun cdv A outer s H E hr => ⟨_,
    (cb_one (cs_ret (ce_is (ce_call C.c_first_difference hr (Nat.le_refl _) (cp_cons (ce_v 0) (cp_cons (ce_v 1) cp_nil))) ce_no)))⟩
end
end K41
end
section
set_option maxRecDepth 100000
set_option maxHeartbeats 4000000
namespace K41
open PySem PySem.Spec L2 Z
section
variable {P : Program} {w : World} {K : PySem.W.Frag} {mg : Str → Option Value} {base : Heap} {n : Nat} {G : Nat → FM} {f : Addr} {fd : FuncData}
theorem ok_shows_teller (T : Top mg) (C : Calls P w K mg base n G) (F : L2.Fun K "shows_teller" "shows_teller" s_shows_teller f fd) : FnOk P w K mg base L2.CX0 (n + 1) f fd ["one", "other", "value"] (spOf (run 3 N_shows_teller.length (b_shows_teller G))) :=
  fn_ok F sc_shows_teller fun cdv A outer s H E hr => ⟨_,
    (cb_cons (cs_if (cw_t (cw_or (ct_not (ct_val (ce_isi bt_tup (ce_v 2) T.b_isinstance T.b_tuple))) (cw_or (ct_ne hr (ce_len (ca_cons (ce_v 2) ca_nil) (hm := T.b_len)) (ce_ki T.k_TELLER_PARTS)) (cw_or (ct_not (ct_val (ce_call C.c_is_test hr (Nat.le_refl _) (cp_cons (ce_ix (ce_v 2) ce_int) cp_nil)))) (cw_or1 (ct_not (ct_val (ce_call C.c_is_number hr (Nat.le_refl _) (cp_cons (ce_ix (ce_v 2) ce_int) cp_nil))))))))) (cb_one (cs_ret ce_bl)) cb_nil)
    (cb_one (cs_ret (ce_ne hr (ce_call C.c_test_entry hr (Nat.le_refl _) (cp_cons (ce_v 0) (cp_cons (ce_ix (ce_v 2) ce_int) (cp_cons (ce_ix (ce_v 2) ce_int) cp_nil)))) (ce_call C.c_test_entry hr (Nat.le_refl _) (cp_cons (ce_v 1) (cp_cons (ce_ix (ce_v 2) ce_int) (cp_cons (ce_ix (ce_v 2) ce_int) cp_nil))))))))⟩
end
end K41
end
section
set_option maxRecDepth 100000
set_option maxHeartbeats 4000000
namespace K41
open PySem PySem.Spec L2 Z
section
variable {P : Program} {w : World} {K : PySem.W.Frag} {mg : Str → Option Value} {base : Heap} {n : Nat} {G : Nat → FM} {f : Addr} {fd : FuncData}
theorem ok_sides_beside (T : Top mg) (C : Calls P w K mg base n G) (F : L2.Fun K "sides_beside" "sides_beside" s_sides_beside f fd) : FnOk P w K mg base L2.CX0 (n + 1) f fd ["parts", "at", "key"] (spOf (run 3 N_sides_beside.length (b_sides_beside G))) :=
  fn_ok F sc_sides_beside fun cdv A outer s H E hr => ⟨_,
    (cb_cons (cs_lc 3 [("part", 8)] sc_sides_beside.nd (ci_tup (ce_v 0)) (blkOk_by (own := [("part", 8)]) (N := N_sides_beside) (sc := defScope s_sides_beside) (by decide +kernel)) (sw_true rfl rfl rfl (by decide +kernel)) (fun _ _ _ _ _ => (cg_name 8 sc_sides_beside.nd)) (fun _ _ _ _ _ => cts_nil) (fun _ _ _ _ _ => (ce_call C.c_sides_of hr (Nat.le_refl _) (cp_cons (ce_v 8) (cp_cons (ce_v 1) cp_nil)))))
    (cb_cons (cs_unp (ce_tup (cd_cons (ce_tup cd_nil) (cd_cons (ce_tup cd_nil) cd_nil))) (cg_tup (cgs_cons (cg_name 4 sc_sides_beside.nd) (cgs_cons (cg_name 5 sc_sides_beside.nd) cgs_nil))))
    (cb_cons (cs_for PassesOwn.never (ci_enum T.b_enumerate (cd_cons (ce_v 3) cd_nil)) (cg_tup (cgs_cons (cg_name 6 sc_sides_beside.nd) (cgs_cons (cg_name 7 sc_sides_beside.nd) cgs_nil))) (cb_one (cs_if (ct_lt (ce_v 6) (ce_v 2)) (cb_one (cs_aadd 4 sc_sides_beside.nd (ce_add (ce_ix (ce_v 7) ce_int) (ce_ix (ce_v 7) ce_int)))) (cb_one (cs_if (ct_eq hr (ce_v 6) (ce_v 2)) (cb_one (cs_par 4 5 sc_sides_beside.nd (ce_add (ce_v 4) (ce_ix (ce_v 7) ce_int)) (ce_ix (ce_v 7) ce_int))) (cb_one (cs_aadd 5 sc_sides_beside.nd (ce_add (ce_ix (ce_v 7) ce_int) (ce_ix (ce_v 7) ce_int)))))))))
    (cb_one (cs_ret (ce_if (ct_ge (ce_v 1) (ce_call C.c_finish hr (Nat.le_refl _) (cp_cons (ce_ix (ce_v 0) (ce_v 2)) cp_nil))) (ce_tup (cd_cons (ce_v 4) (cd_cons (ce_v 5) cd_nil))) (ce_tup (cd_cons (ce_add (ce_v 4) (ce_v 5)) (cd_cons (ce_tup cd_nil) cd_nil)))))))))⟩
end
end K41
end
section
set_option maxRecDepth 100000
set_option maxHeartbeats 4000000
namespace K41
open PySem PySem.Spec L2 Z
section
variable {P : Program} {w : World} {K : PySem.W.Frag} {mg : Str → Option Value} {base : Heap} {n : Nat} {G : Nat → FM} {f : Addr} {fd : FuncData}
theorem ok_sides_of (T : Top mg) (C : Calls P w K mg base n G) (F : L2.Fun K "sides_of" "sides_of" s_sides_of f fd) : FnOk P w K mg base L2.CX0 (n + 1) f fd ["program", "at"] (spOf (run 2 N_sides_of.length (b_sides_of G))) :=
  fn_ok F sc_sides_of fun cdv A outer s H E hr => ⟨_,
    (cb_cons (cs_set 2 sc_sides_of.nd (ce_ix (ce_v 0) ce_int))
    (cb_cons (cs_if (ct_eq hr (ce_v 2) (ce_ks T.k_LOG)) (cb_one (cs_ret (ce_if (ct_eq hr (ce_v 1) ce_int) (ce_tup (cd_cons (ce_tup (cd_cons (ce_ix (ce_v 0) ce_int) cd_nil)) (cd_cons (ce_tup cd_nil) cd_nil))) (ce_tup (cd_cons (ce_tup cd_nil) (cd_cons (ce_tup cd_nil) cd_nil)))))) cb_nil)
    (cb_cons (cs_if (ct_eq hr (ce_v 2) (ce_ks T.k_AWAIT)) (cb_one (cs_ret (ce_tup (cd_cons (ce_tup cd_nil) (cd_cons (ce_tup cd_nil) cd_nil))))) cb_nil)
    (cb_cons (cs_if (ct_eq hr (ce_v 2) (ce_ks T.k_FORK)) (cb_cons (cs_set 3 sc_sides_of.nd (ce_call C.c_sides_of hr (Nat.le_refl _) (cp_cons (ce_ix (ce_v 0) ce_int) (cp_cons (ce_v 1) cp_nil))))
    (cb_one (cs_ret (ce_tup (cd_cons (ce_add (ce_ix (ce_v 3) ce_int) (ce_ix (ce_v 3) ce_int)) (cd_cons (ce_tup cd_nil) cd_nil)))))) cb_nil)
    (cb_cons (cs_if (ct_eq hr (ce_v 2) (ce_ks T.k_SEQ)) (cb_one (cs_ret (ce_call C.c_sides_of_seq hr (Nat.le_refl _) (cp_cons (ce_ix (ce_v 0) ce_int) (cp_cons (ce_v 1) cp_nil))))) cb_nil)
    (cb_cons (cs_if (ct_eq hr (ce_v 2) (ce_ks T.k_LOOP)) (cb_one (cs_ret (ce_call C.c_sides_of_loop hr (Nat.le_refl _) (cp_cons (ce_ix (ce_v 0) ce_int) (cp_cons (ce_ix (ce_v 0) ce_int) (cp_cons (ce_v 1) cp_nil)))))) cb_nil)
    (cb_one (cs_ret (ce_call C.c_sides_beside hr (Nat.le_refl _) (cp_cons (ce_ix (ce_v 0) ce_int) (cp_cons (ce_v 1) (cp_cons (ce_call C.c_key_part hr (Nat.le_refl _) (cp_cons (ce_v 0) cp_nil)) cp_nil))))))))))))⟩
end
end K41
end
section
set_option maxRecDepth 100000
set_option maxHeartbeats 4000000
namespace K41
open PySem PySem.Spec L2 Z
section
variable {P : Program} {w : World} {K : PySem.W.Frag} {mg : Str → Option Value} {base : Heap} {n : Nat} {G : Nat → FM} {f : Addr} {fd : FuncData}
theorem ok_sides_of_loop (T : Top mg) (C : Calls P w K mg base n G) (F : L2.Fun K "sides_of_loop" "sides_of_loop" s_sides_of_loop f fd) : FnOk P w K mg base L2.CX0 (n + 1) f fd ["count", "body", "at"] (spOf (run 3 N_sides_of_loop.length (b_sides_of_loop G))) :=
  fn_ok F sc_sides_of_loop fun cdv A outer s H E hr => ⟨_,
    (cb_cons (cs_set 3 sc_sides_of_loop.nd (ce_call C.c_finish hr (Nat.le_refl _) (cp_cons (ce_v 1) cp_nil)))
    (cb_cons (cs_par 4 5 sc_sides_of_loop.nd (ce_max2 (ca_cons ce_int (ca_cons (ce_div (ce_sub (ce_v 2) (ce_ki T.k_BODY_ROUNDS)) (ce_v 3)) ca_nil)) (hm := T.b_max)) (ce_min2 (ca_cons (ce_v 0) (ca_cons (ce_add (ce_div (ce_v 2) (ce_v 3)) ce_int) ca_nil)) (hm := T.b_min)))
    (cb_cons (cs_unp (ce_tup (cd_cons (ce_tup cd_nil) (cd_cons (ce_tup cd_nil) cd_nil))) (cg_tup (cgs_cons (cg_name 6 sc_sides_of_loop.nd) (cgs_cons (cg_name 7 sc_sides_of_loop.nd) cgs_nil))))
    (cb_cons (cs_for PassesOwn.never (ci_rng2 T.b_range (cd_cons (ce_v 4) (cd_cons (ce_v 5) cd_nil))) (cg_name 8 sc_sides_of_loop.nd) (cb_cons (cs_set 9 sc_sides_of_loop.nd (ce_call C.c_sides_of hr (Nat.le_refl _) (cp_cons (ce_v 1) (cp_cons (ce_sub (ce_v 2) (ce_mul (ce_v 8) (ce_v 3))) cp_nil))))
    (cb_one (cs_par 6 7 sc_sides_of_loop.nd (ce_add (ce_v 6) (ce_ix (ce_v 9) ce_int)) (ce_add (ce_ix (ce_v 9) ce_int) (ce_v 7))))))
    (cb_one (cs_ret (ce_if (ct_ge (ce_v 2) (ce_mul (ce_v 0) (ce_v 3))) (ce_tup (cd_cons (ce_v 6) (cd_cons (ce_v 7) cd_nil))) (ce_tup (cd_cons (ce_add (ce_v 6) (ce_v 7)) (cd_cons (ce_tup cd_nil) cd_nil))))))))))⟩
end
end K41
end
section
set_option maxRecDepth 100000
set_option maxHeartbeats 4000000
namespace K41
open PySem PySem.Spec L2 Z
section
variable {P : Program} {w : World} {K : PySem.W.Frag} {mg : Str → Option Value} {base : Heap} {n : Nat} {G : Nat → FM} {f : Addr} {fd : FuncData}
theorem ok_sides_of_seq (T : Top mg) (C : Calls P w K mg base n G) (F : L2.Fun K "sides_of_seq" "sides_of_seq" s_sides_of_seq f fd) : FnOk P w K mg base L2.CX0 (n + 1) f fd ["parts", "at"] (spOf (run 2 N_sides_of_seq.length (b_sides_of_seq G))) :=
  fn_ok F sc_sides_of_seq fun cdv A outer s H E hr => ⟨_,
    (cb_cons (cs_unp (ce_tup (cd_cons (ce_tup cd_nil) (cd_cons (ce_tup cd_nil) cd_nil))) (cg_tup (cgs_cons (cg_name 2 sc_sides_of_seq.nd) (cgs_cons (cg_name 3 sc_sides_of_seq.nd) cgs_nil))))
    (cb_cons (cs_for PassesOwn.never (ci_tup (ce_v 0)) (cg_name 4 sc_sides_of_seq.nd) (cb_cons (cs_if (ct_lt (ce_v 1) ce_int) (cb_one cs_break) cb_nil)
    (cb_cons (cs_set 5 sc_sides_of_seq.nd (ce_call C.c_sides_of hr (Nat.le_refl _) (cp_cons (ce_v 4) (cp_cons (ce_v 1) cp_nil))))
    (cb_cons (cs_par 2 3 sc_sides_of_seq.nd (ce_add (ce_v 2) (ce_ix (ce_v 5) ce_int)) (ce_add (ce_ix (ce_v 5) ce_int) (ce_v 3)))
    (cb_one (cs_asub 1 sc_sides_of_seq.nd (ce_call C.c_finish hr (Nat.le_refl _) (cp_cons (ce_v 4) cp_nil))))))))
    (cb_one (cs_ret (ce_if (ct_ge (ce_v 1) ce_int) (ce_tup (cd_cons (ce_v 2) (cd_cons (ce_v 3) cd_nil))) (ce_tup (cd_cons (ce_add (ce_v 2) (ce_v 3)) (cd_cons (ce_tup cd_nil) cd_nil))))))))⟩
end
end K41
end
section
set_option maxRecDepth 100000
set_option maxHeartbeats 4000000
namespace K41
open PySem PySem.Spec L2 Z
section
variable {P : Program} {w : World} {K : PySem.W.Frag} {mg : Str → Option Value} {base : Heap} {n : Nat} {G : Nat → FM} {f : Addr} {fd : FuncData}
theorem ok_teller (T : Top mg) (C : Calls P w K mg base n G) (F : L2.Fun K "teller" "teller" s_teller f fd) : FnOk P w K mg base L2.CX0 (n + 1) f fd ["one", "other"] (spOf (run 2 N_teller.length (b_teller G))) :=
  fn_ok F sc_teller fun cdv A outer s H E hr => ⟨_,
    (cb_cons (cs_set 2 sc_teller.nd (ce_call C.c_first_difference hr (Nat.le_refl _) (cp_cons (ce_v 0) (cp_cons (ce_v 1) cp_nil))))
    (cb_cons (cs_if (ct_is (ce_v 2) ce_no) (cb_one (cs_ret ce_no)) cb_nil)
    (cb_cons (cs_unp (ce_v 2) (cg_tup (cgs_cons (cg_name 3 sc_teller.nd) (cgs_cons (cg_name 4 sc_teller.nd) cgs_nil))))
    (cb_cons (cs_par 5 6 sc_teller.nd (ce_call C.c_marked hr (Nat.le_refl _) (cp_cons (ce_v 0) (cp_cons (ce_v 3) cp_nil))) (ce_call C.c_marked hr (Nat.le_refl _) (cp_cons (ce_v 1) (cp_cons (ce_v 3) cp_nil))))
    (cb_cons (cs_set 7 sc_teller.nd (ce_lst (cd_cons (ce_if (ct_in ce_no (ce_v 5)) (ce_indexT (ce_v 5) ce_no) ce_no) (cd_cons (ce_if (ct_in ce_no (ce_v 6)) (ce_indexT (ce_v 6) ce_no) ce_no) cd_nil))))
    (cb_cons (cs_if (cw_t (cw_or (cw_t (cw_and (ct_isnot (ce_ix (ce_v 7) ce_int) ce_no) (cw_and1 (ct_eq hr (ce_ix (ce_v 7) ce_int) (ce_v 4))))) (cw_or1 (cw_t (cw_and (ct_isnot (ce_ix (ce_v 7) ce_int) ce_no) (cw_and1 (ct_eq hr (ce_ix (ce_v 7) ce_int) (ce_v 4)))))))) (cb_cons (cs_set 8 sc_teller.nd (ce_sub (ce_v 3) (ce_min2 (ca_cons (ce_call C.c_finish hr (Nat.le_refl _) (cp_cons (ce_v 0) cp_nil)) (ca_cons (ce_call C.c_finish hr (Nat.le_refl _) (cp_cons (ce_v 1) cp_nil)) ca_nil)) (hm := T.b_min))))
    (cb_one (cs_ret (ce_tup (cd_cons (ce_tup (cd_cons (ce_v 8) (cd_cons (ce_v 3) cd_nil))) (cd_cons (ce_add (ce_call C.c_count_before hr (Nat.le_refl _) (cp_cons (ce_v 0) (cp_cons (ce_v 3) cp_nil))) (ce_v 4)) cd_nil)))))) cb_nil)
    (cb_cons (cs_set 9 sc_teller.nd (ce_sub (ce_v 4) (ce_toint (ca_cons (ce_in ce_no (ce_sl (ce_v 5) co_no (co_some (ce_v 4)))) ca_nil) (hm := T.b_int))))
    (cb_one (cs_ret (ce_tup (cd_cons (ce_tup (cd_cons ce_no (cd_cons (ce_v 3) cd_nil))) (cd_cons (ce_add (ce_call C.c_count_before hr (Nat.le_refl _) (cp_cons (ce_v 0) (cp_cons (ce_v 3) cp_nil))) (ce_v 9)) cd_nil))))))))))))⟩
end
end K41
end
section
set_option maxRecDepth 100000
set_option maxHeartbeats 4000000
namespace K41
open PySem PySem.Spec L2 Z
section
variable {P : Program} {w : World} {K : PySem.W.Frag} {mg : Str → Option Value} {base : Heap} {n : Nat} {G : Nat → FM} {f : Addr} {fd : FuncData}
theorem ok_test_count (T : Top mg) (C : Calls P w K mg base n G) (F : L2.Fun K "test_count" "test_count" s_test_count f fd) : FnOk P w K mg base L2.CX0 (n + 1) f fd ["program", "test", "at"] (spOf (run 3 N_test_count.length (b_test_count G))) :=
  fn_ok F sc_test_count fun cdv A outer s H E hr => ⟨_,
    (cb_cons (cs_unp (ce_v 1) (cg_tup (cgs_cons (cg_name 3 sc_test_count.nd) (cgs_cons (cg_name 4 sc_test_count.nd) cgs_nil))))
    (cb_cons (cs_set 5 sc_test_count.nd (ce_if (ct_is (ce_v 2) ce_no) (ce_call C.c_total hr (Nat.le_refl _) (cp_cons (ce_v 0) cp_nil)) (ce_call C.c_count_before hr (Nat.le_refl _) (cp_cons (ce_v 0) (cp_cons (ce_v 2) cp_nil)))))
    (cb_cons (cs_if (cw_t (cw_and (ct_isnot (ce_v 3) ce_no) (cw_and1 (cw_t (cw_or (ct_is (ce_v 2) ce_no) (cw_or1 (ct_lt (ce_add (ce_call C.c_finish hr (Nat.le_refl _) (cp_cons (ce_v 0) cp_nil)) (ce_v 3)) (ce_v 2)))))))) (cb_one (cs_aadd 5 sc_test_count.nd ce_int)) cb_nil)
    (cb_one (cs_ret (ce_add (ce_v 5) (ce_toint (ca_cons (ce_and (ce_isnot (ce_v 4) ce_no) (ce_one (ce_or (ce_is (ce_v 2) ce_no) (ce_one (ce_lt (ce_v 4) (ce_v 2)))))) ca_nil) (hm := T.b_int))))))))⟩
end
end K41
end
section
set_option maxRecDepth 100000
set_option maxHeartbeats 4000000
namespace K41
open PySem PySem.Spec L2 Z
section
variable {P : Program} {w : World} {K : PySem.W.Frag} {mg : Str → Option Value} {base : Heap} {n : Nat} {G : Nat → FM} {f : Addr} {fd : FuncData}
theorem ok_test_entry (T : Top mg) (C : Calls P w K mg base n G) (F : L2.Fun K "test_entry" "test_entry" s_test_entry f fd) : FnOk P w K mg base L2.CX0 (n + 1) f fd ["program", "test", "number"] (spOf (run 3 N_test_entry.length (b_test_entry G))) :=
  fn_ok F sc_test_entry fun cdv A outer s H E hr => ⟨_,
    (cb_cons (cs_if (ct_ge (ce_v 2) (ce_call C.c_test_count hr (Nat.le_refl _) (cp_cons (ce_v 0) (cp_cons (ce_v 1) (cp_cons ce_no cp_nil))))) (cb_one (cs_ret ce_no)) cb_nil)
    (cb_cons (cs_unp (ce_tup (cd_cons ce_int (cd_cons ce_int cd_nil))) (cg_tup (cgs_cons (cg_name 3 sc_test_entry.nd) (cgs_cons (cg_name 4 sc_test_entry.nd) cgs_nil))))
    (cb_cons (cs_while 1000 PassesOwn.never (ct_le (ce_call C.c_test_count hr (Nat.le_refl _) (cp_cons (ce_v 0) (cp_cons (ce_v 1) (cp_cons (ce_v 4) cp_nil)))) (ce_v 2)) (cb_one (cs_par 3 4 sc_test_entry.nd (ce_v 4) (ce_mul (ce_v 4) ce_int))))
    (cb_cons (cs_while 1000 PassesOwn.never (ct_gt (ce_sub (ce_v 4) (ce_v 3)) ce_int) (cb_cons (cs_set 5 sc_test_entry.nd (ce_div (ce_add (ce_v 3) (ce_v 4)) ce_int))
    (cb_one (cs_if (ct_le (ce_call C.c_test_count hr (Nat.le_refl _) (cp_cons (ce_v 0) (cp_cons (ce_v 1) (cp_cons (ce_v 5) cp_nil)))) (ce_v 2)) (cb_one (cs_set 3 sc_test_entry.nd (ce_v 5))) (cb_one (cs_set 4 sc_test_entry.nd (ce_v 5)))))))
    (cb_one (cs_ret (ce_ix (ce_call C.c_test_row hr (Nat.le_refl _) (cp_cons (ce_v 0) (cp_cons (ce_v 1) (cp_cons (ce_v 3) cp_nil)))) (ce_sub (ce_v 2) (ce_call C.c_test_count hr (Nat.le_refl _) (cp_cons (ce_v 0) (cp_cons (ce_v 1) (cp_cons (ce_v 3) cp_nil))))))))))))⟩
end
end K41
end
section
set_option maxRecDepth 100000
set_option maxHeartbeats 4000000
namespace K41
open PySem PySem.Spec L2 Z
section
variable {P : Program} {w : World} {K : PySem.W.Frag} {mg : Str → Option Value} {base : Heap} {n : Nat} {G : Nat → FM} {f : Addr} {fd : FuncData}
theorem ok_test_row (T : Top mg) (C : Calls P w K mg base n G) (F : L2.Fun K "test_row" "test_row" s_test_row f fd) : FnOk P w K mg base L2.CX0 (n + 1) f fd ["program", "test", "at"] (spOf (run 3 N_test_row.length (b_test_row G))) :=
  fn_ok F sc_test_row fun cdv A outer s H E hr => ⟨_,
    (cb_cons (cs_unp (ce_v 1) (cg_tup (cgs_cons (cg_name 3 sc_test_row.nd) (cgs_cons (cg_name 4 sc_test_row.nd) cgs_nil))))
    (cb_cons (cs_set 5 sc_test_row.nd (ce_tolst (ca_cons (ce_call C.c_marked hr (Nat.le_refl _) (cp_cons (ce_v 0) (cp_cons (ce_v 2) cp_nil))) ca_nil) (hm := T.b_list)))
    (cb_cons (cs_if (ct_in ce_no (ce_v 5)) (cb_cons (cs_set 6 sc_test_row.nd (ce_index (ce_v 5) ce_no))
    (cb_cons (cs_set 7 sc_test_row.nd (ce_and (ce_isnot (ce_v 3) ce_no) (ce_one (ce_eq hr (ce_add (ce_call C.c_finish hr (Nat.le_refl _) (cp_cons (ce_v 0) cp_nil)) (ce_v 3)) (ce_v 2)))))
    (cb_one (cs_set 5 sc_test_row.nd (ce_add (ce_add (ce_sl (ce_v 5) co_no (co_some (ce_v 6))) (ce_if (ct_val (ce_v 7)) (ce_lst (cd_cons (ce_ki T.k_BEHIND_MARK) cd_nil)) (ce_lst cd_nil))) (ce_sl (ce_v 5) (co_some (ce_add (ce_v 6) ce_int)) co_no)))))) cb_nil)
    (cb_one (cs_ret (ce_add (ce_v 5) (ce_if (ct_eq hr (ce_v 4) (ce_v 2)) (ce_lst (cd_cons (ce_ki T.k_BESIDE_MARK) cd_nil)) (ce_lst cd_nil))))))))⟩
end
end K41
end
section
set_option maxRecDepth 100000
set_option maxHeartbeats 4000000
namespace K41
open PySem PySem.Spec L2 Z
section
variable {P : Program} {w : World} {K : PySem.W.Frag} {mg : Str → Option Value} {base : Heap} {n : Nat} {G : Nat → FM} {f : Addr} {fd : FuncData}
theorem ok_total (T : Top mg) (C : Calls P w K mg base n G) (F : L2.Fun K "total" "total" s_total f fd) : FnOk P w K mg base L2.CX0 (n + 1) f fd ["program"] (spOf (run 1 N_total.length (b_total G))) :=
  fn_ok F sc_total fun cdv A outer s H E hr => ⟨_,
    (cb_cons (cs_set 1 sc_total.nd (ce_ix (ce_v 0) ce_int))
    (cb_cons (cs_if (ct_in (ce_v 1) (ce_tup (cd_cons ce_str (cd_cons ce_str cd_nil)))) (cb_one (cs_ret (ce_toint (ca_cons (ce_eq hr (ce_v 1) ce_str) ca_nil) (hm := T.b_int)))) cb_nil)
    (cb_cons (cs_if (ct_eq hr (ce_v 1) ce_str) (cb_one (cs_ret (ce_call C.c_total hr (Nat.le_refl _) (cp_cons (ce_ix (ce_v 0) ce_int) cp_nil)))) cb_nil)
    (cb_cons (cs_if (ct_eq hr (ce_v 1) ce_str) (cb_one (cs_ret (ce_mul (ce_ix (ce_v 0) ce_int) (ce_call C.c_total hr (Nat.le_refl _) (cp_cons (ce_ix (ce_v 0) ce_int) cp_nil))))) cb_nil)
    (cb_one (cs_ret (ce_sum (ca_cons (ce_lc [("part", 2)] sc_total.nd (ci_tup (ce_ix (ce_v 0) ce_int)) (blkOk_by (own := [("part", 2)]) (N := N_total) (sc := defScope s_total) (by decide +kernel)) (fun _ _ _ _ _ => (cg_name 2 sc_total.nd)) (fun _ _ _ _ _ => cts_nil) (fun _ _ _ _ _ => (ce_call C.c_total hr (Nat.le_refl _) (cp_cons (ce_v 2) cp_nil)))) ca_nil) (hm := T.b_sum))))))))⟩
end
end K41
end
section
set_option maxRecDepth 100000
set_option maxHeartbeats 4000000
namespace K41
open PySem PySem.Spec L2 Z
structure Mods (K : PySem.W.Frag) (mg : Str → Option Value) : Prop where
  top : Top mg
  d_finish : DefAt K mg "finish" s_finish ["program"]
  d_sides_of_seq : DefAt K mg "sides_of_seq" s_sides_of_seq ["parts", "at"]
  d_sides_of_loop : DefAt K mg "sides_of_loop" s_sides_of_loop ["count", "body", "at"]
  d_sides_beside : DefAt K mg "sides_beside" s_sides_beside ["parts", "at", "key"]
  d_key_part : DefAt K mg "key_part" s_key_part ["program"]
  d_sides_of : DefAt K mg "sides_of" s_sides_of ["program", "at"]
  d_marked : DefAt K mg "marked" s_marked ["program", "at"]
  d_is_number : DefAt K mg "is_number" s_is_number ["value"]
  d_total : DefAt K mg "total" s_total ["program"]
  d_count_in_loop : DefAt K mg "count_in_loop" s_count_in_loop ["count", "body", "at"]
  d_count_before : DefAt K mg "count_before" s_count_before ["program", "at"]
  d_moments : DefAt K mg "moments" s_moments ["program", "begin"]
  d_changes : DefAt K mg "changes" s_changes ["program"]
  d_first_unequal : DefAt K mg "first_unequal" s_first_unequal ["row", "other"]
  d_first_difference : DefAt K mg "first_difference" s_first_difference ["one", "other"]
  d_same : DefAt K mg "same" s_same ["one", "other"]
  d_test_count : DefAt K mg "test_count" s_test_count ["program", "test", "at"]
  d_test_row : DefAt K mg "test_row" s_test_row ["program", "test", "at"]
  d_test_entry : DefAt K mg "test_entry" s_test_entry ["program", "test", "number"]
  d_teller : DefAt K mg "teller" s_teller ["one", "other"]
  d_is_test : DefAt K mg "is_test" s_is_test ["value"]
  d_shows_teller : DefAt K mg "shows_teller" s_shows_teller ["one", "other", "value"]
  d__law_pot : DefAt K mg "_law_pot" s__law_pot ["script", "k"]
  d__law_take : DefAt K mg "_law_take" s__law_take ["pot", "bound"]
  d__law_of : DefAt K mg "_law_of" s__law_of ["pot", "some"]
  d__law_gaps_right : DefAt K mg "_law_gaps_right" s__law_gaps_right ["many"]
  d__law_alike : DefAt K mg "_law_alike" s__law_alike ["one", "other"]
  d__law_names_right : DefAt K mg "_law_names_right" s__law_names_right ["left", "right"]
  d__law_long_rows_right : DefAt K mg "_law_long_rows_right" s__law_long_rows_right ["pot"]
  d_law : DefAt K mg "law" s_law ["script"]
section
variable {P : Program} {w : World} {K : PySem.W.Frag} {mg : Str → Option Value} {base : Heap}
theorem lv (M : Mods K mg) : ∀ n : Nat, Calls P w K mg base n (sem n)
  | 0 => ⟨M.d_finish.cal fun f fd F => fn_none fun s => rfl,
    M.d_sides_of_seq.cal fun f fd F => fn_none fun s => rfl,
    M.d_sides_of_loop.cal fun f fd F => fn_none fun s => rfl,
    M.d_sides_beside.cal fun f fd F => fn_none fun s => rfl,
    M.d_key_part.cal fun f fd F => fn_none fun s => rfl,
    M.d_sides_of.cal fun f fd F => fn_none fun s => rfl,
    M.d_marked.cal fun f fd F => fn_none fun s => rfl,
    M.d_is_number.cal fun f fd F => fn_none fun s => rfl,
    M.d_total.cal fun f fd F => fn_none fun s => rfl,
    M.d_count_in_loop.cal fun f fd F => fn_none fun s => rfl,
    M.d_count_before.cal fun f fd F => fn_none fun s => rfl,
    M.d_moments.cal fun f fd F => fn_none fun s => rfl,
    M.d_changes.cal fun f fd F => fn_none fun s => rfl,
    M.d_first_unequal.cal fun f fd F => fn_none fun s => rfl,
    M.d_first_difference.cal fun f fd F => fn_none fun s => rfl,
    M.d_same.cal fun f fd F => fn_none fun s => rfl,
    M.d_test_count.cal fun f fd F => fn_none fun s => rfl,
    M.d_test_row.cal fun f fd F => fn_none fun s => rfl,
    M.d_test_entry.cal fun f fd F => fn_none fun s => rfl,
    M.d_teller.cal fun f fd F => fn_none fun s => rfl,
    M.d_is_test.cal fun f fd F => fn_none fun s => rfl,
    M.d_shows_teller.cal fun f fd F => fn_none fun s => rfl,
    M.d__law_pot.cal fun f fd F => fn_none fun s => rfl,
    M.d__law_take.cal fun f fd F => fn_none fun s => rfl,
    M.d__law_of.cal fun f fd F => fn_none fun s => rfl,
    M.d__law_gaps_right.cal fun f fd F => fn_none fun s => rfl,
    M.d__law_alike.cal fun f fd F => fn_none fun s => rfl,
    M.d__law_names_right.cal fun f fd F => fn_none fun s => rfl,
    M.d__law_long_rows_right.cal fun f fd F => fn_none fun s => rfl,
    M.d_law.cal fun f fd F => fn_none fun s => rfl,
    M.d_test_entry.calK (fun f fd F => fn_none fun s => rfl) rfl (fun _ _ _ _ _ _ ws hw => match ws, hw with | [_, _, _], _ => rfl),
    M.d_shows_teller.calK (fun f fd F => fn_none fun s => rfl) rfl (fun _ _ _ _ _ _ ws hw => match ws, hw with | [_, _, _], _ => rfl),
    M.d_teller.calK (fun f fd F => fn_none fun s => rfl) rfl (fun _ _ _ _ _ _ ws hw => match ws, hw with | [_, _], _ => rfl),
    M.d_changes.calK (fun f fd F => fn_none fun s => rfl) rfl (fun _ _ _ _ _ _ ws hw => match ws, hw with | [_], _ => rfl),
    M.d_first_difference.calK (fun f fd F => fn_none fun s => rfl) rfl (fun _ _ _ _ _ _ ws hw => match ws, hw with | [_, _], _ => rfl),
    M.d_same.calK (fun f fd F => fn_none fun s => rfl) rfl (fun _ _ _ _ _ _ ws hw => match ws, hw with | [_, _], _ => rfl)⟩
  | n + 1 =>
    have C := lv M n
    ⟨M.d_finish.cal fun f fd F => ok_finish M.top C F,
    M.d_sides_of_seq.cal fun f fd F => ok_sides_of_seq M.top C F,
    M.d_sides_of_loop.cal fun f fd F => ok_sides_of_loop M.top C F,
    M.d_sides_beside.cal fun f fd F => ok_sides_beside M.top C F,
    M.d_key_part.cal fun f fd F => ok_key_part M.top C F,
    M.d_sides_of.cal fun f fd F => ok_sides_of M.top C F,
    M.d_marked.cal fun f fd F => ok_marked M.top C F,
    M.d_is_number.cal fun f fd F => ok_is_number M.top C F,
    M.d_total.cal fun f fd F => ok_total M.top C F,
    M.d_count_in_loop.cal fun f fd F => ok_count_in_loop M.top C F,
    M.d_count_before.cal fun f fd F => ok_count_before M.top C F,
    M.d_moments.cal fun f fd F => ok_moments M.top C F,
    M.d_changes.cal fun f fd F => ok_changes M.top C F,
    M.d_first_unequal.cal fun f fd F => ok_first_unequal M.top C F,
    M.d_first_difference.cal fun f fd F => ok_first_difference M.top C F,
    M.d_same.cal fun f fd F => ok_same M.top C F,
    M.d_test_count.cal fun f fd F => ok_test_count M.top C F,
    M.d_test_row.cal fun f fd F => ok_test_row M.top C F,
    M.d_test_entry.cal fun f fd F => ok_test_entry M.top C F,
    M.d_teller.cal fun f fd F => ok_teller M.top C F,
    M.d_is_test.cal fun f fd F => ok_is_test M.top C F,
    M.d_shows_teller.cal fun f fd F => ok_shows_teller M.top C F,
    M.d__law_pot.cal fun f fd F => ok__law_pot M.top C F,
    M.d__law_take.cal fun f fd F => ok__law_take M.top C F,
    M.d__law_of.cal fun f fd F => ok__law_of M.top C F,
    M.d__law_gaps_right.cal fun f fd F => ok__law_gaps_right M.top C F,
    M.d__law_alike.cal fun f fd F => ok__law_alike M.top C F,
    M.d__law_names_right.cal fun f fd F => ok__law_names_right M.top C F,
    M.d__law_long_rows_right.cal fun f fd F => ok__law_long_rows_right M.top C F,
    M.d_law.cal fun f fd F => ok_law M.top C F,
    M.d_test_entry.calK (fun f fd F => ok_test_entry M.top C F) rfl (fun _ _ _ _ _ _ ws hw => match ws, hw with | [_, _, _], _ => rfl),
    M.d_shows_teller.calK (fun f fd F => ok_shows_teller M.top C F) rfl (fun _ _ _ _ _ _ ws hw => match ws, hw with | [_, _, _], _ => rfl),
    M.d_teller.calK (fun f fd F => ok_teller M.top C F) rfl (fun _ _ _ _ _ _ ws hw => match ws, hw with | [_, _], _ => rfl),
    M.d_changes.calK (fun f fd F => ok_changes M.top C F) rfl (fun _ _ _ _ _ _ ws hw => match ws, hw with | [_], _ => rfl),
    M.d_first_difference.calK (fun f fd F => ok_first_difference M.top C F) rfl (fun _ _ _ _ _ _ ws hw => match ws, hw with | [_, _], _ => rfl),
    M.d_same.calK (fun f fd F => ok_same M.top C F) rfl (fun _ _ _ _ _ _ ws hw => match ws, hw with | [_, _], _ => rfl)⟩
theorem law_fn {fa : Addr} (M : Mods K mg) (L : LawAt K mg fa s_law) (n : Nat) : ∃ fd : FuncData, (∀ (s : Shared) (u : Value), BindsTo s fd ⟨[u], []⟩ [("script", u)]) ∧ ∀ base : Heap, K.In base → base.Ns mainGlobals mg → FnOk P w K mg base L2.CX0 (n + 1) fa fd ["script"] (spOf (sem (n + 1) 29)) := by
  obtain ⟨fd, F, b⟩ := L
  exact ⟨fd, b, fun base _ _ => ok_law M.top (lv M n) F⟩
end
end K41
end
section
set_option maxRecDepth 100000
set_option maxHeartbeats 4000000
/-! M41: what the package's defs answer, in plain words. -/
namespace K41
open PySem PySem.Spec L2 Z
/-- a program without loops -/
inductive Prog
  | log (w : Str)
  | await (n : Int)
  | fork (p : Prog)
  | seq (ps : List Prog)
  | join (ps : List Prog)
  | race (ps : List Prog)
mutual
def enc : Prog → D
  | .log w => .tuple [.str "log", .str w]
  | .await n => .tuple [.str "await", .int n]
  | .fork p => .tuple [.str "fork", enc p]
  | .seq ps => .tuple [.str "seq", .tuple (encs ps)]
  | .join ps => .tuple [.str "join", .tuple (encs ps)]
  | .race ps => .tuple [.str "race", .tuple (encs ps)]
def encs : List Prog → List D
  | [] => []
  | p :: ps => enc p :: encs ps
end
theorem encs_eq : ∀ ps : List Prog, encs ps = ps.map enc
  | [] => rfl
  | p :: ps => by rw [encs, encs_eq ps]; rfl
mutual
def dep : Prog → Nat
  | .log _ => 0
  | .await _ => 0
  | .fork p => dep p + 2
  | .seq ps => deps ps + 2
  | .join ps => deps ps + 2
  | .race ps => deps ps + 2
def deps : List Prog → Nat
  | [] => 0
  | p :: ps => max (dep p) (deps ps)
end
theorem dep_mem : ∀ {ps : List Prog} {p : Prog}, p ∈ ps → dep p ≤ deps ps
  | q :: ps, p, h => by
    rw [deps]
    rcases List.mem_cons.mp h with rfl | h
    · omega
    · have := dep_mem h
      omega
section
variable {P : Prog → Prop} (h1 : ∀ w, P (.log w)) (h2 : ∀ n, P (.await n)) (h3 : ∀ p, P p → P (.fork p)) (h4 : ∀ ps : List Prog, (∀ p ∈ ps, P p) → P (.seq ps)) (h5 : ∀ ps : List Prog, (∀ p ∈ ps, P p) → P (.join ps)) (h6 : ∀ ps : List Prog, (∀ p ∈ ps, P p) → P (.race ps))
include h1 h2 h3 h4 h5 h6
mutual
theorem Prog.ind : ∀ p : Prog, P p
  | .log w => h1 w
  | .await n => h2 n
  | .fork p => h3 p (Prog.ind p)
  | .seq ps => h4 ps (Prog.inds ps)
  | .join ps => h5 ps (Prog.inds ps)
  | .race ps => h6 ps (Prog.inds ps)
theorem Prog.inds : ∀ (ps : List Prog), ∀ p ∈ ps, P p
  | [], _, h => absurd h (by simp)
  | q :: ps, p, h => (List.mem_cons.mp h).elim (fun e => e ▸ Prog.ind q) (Prog.inds ps p)
end
end
/-! join, race have a part; no list is long -/
mutual
def ok : Prog → Prop
  | .log w => PyData.canLay0 (.str w) = true
  | .await n => 0 ≤ n
  | .fork p => ok p
  | .seq ps => ps.length ≤ 1000 ∧ oks ps
  | .join ps => (ps.length ≤ 1000 ∧ ps ≠ []) ∧ oks ps
  | .race ps => (ps.length ≤ 1000 ∧ ps ≠ []) ∧ oks ps
def oks : List Prog → Prop
  | [] => True
  | p :: ps => ok p ∧ oks ps
end
theorem oks_mem : ∀ {ps : List Prog}, oks ps → ∀ p ∈ ps, ok p
  | q :: ps, h, p, hp => (List.mem_cons.mp hp).elim (fun e => e ▸ h.1) (oks_mem h.2 p)
mutual
def fin : Prog → Int
  | .log _ => 0
  | .await n => n
  | .fork _ => 0
  | .seq ps => (fins ps).sum
  | .join ps => maxL (fins ps)
  | .race ps => minL (fins ps)
def fins : List Prog → List Int
  | [] => []
  | p :: ps => fin p :: fins ps
end
theorem fins_eq : ∀ ps : List Prog, fins ps = ps.map fin
  | [] => rfl
  | p :: ps => by rw [fins, fins_eq ps]; rfl
theorem deps_lt {ps : List Prog} {p : Prog} (hp : p ∈ ps) {m : Nat} (h : deps ps + 2 < m + 1) : dep p + 1 < m := by
  have := dep_mem hp
  omega
theorem ints_eq (ps : List Prog) : (fins ps).map PyData.int = ps.map fun p => .int (fin p) := by rw [fins_eq, List.map_map]; rfl
theorem len3 {ps : List Prog} (h : ps.length ≤ 1000) : ([] : List D).length + ps.length ≤ 100000 := by
  rw [List.length_nil]
  omega
theorem q_fin {ps : List Prog} {m : Nat} {x0 x1 : Slot} (l : ps.length ≤ 1000) (h : ∀ p ∈ ps, val (sem m 0) [.dat (enc p)] = some (.d (.int (fin p)))) :
    cmpL 1 (gn 1 3) tyes (q_finish_0 (sem m)) [3] (encs ps) [] [x0, x1, .no, .no] = some ((fins ps).map PyData.int, [x0, x1, .no, .no]) := by
  rw [encs_eq, ints_eq]
  exact cmp_map enc (fun p => .int (fin p)) (by simp) (by decide) rfl ps [] (len3 l) fun p hp => by simp [q_finish_0, h p hp]
theorem fins_ne {ps : List Prog} (h : ps ≠ []) : fins ps ≠ [] := by
  cases ps with
  | nil => exact absurd rfl h
  | cons _ _ => exact fun e => nomatch e
theorem fin_ok : ∀ (p : Prog), ok p → ∀ n, dep p < n → val (sem n 0) [.dat (enc p)] = some (.d (.int (fin p))) := by
  refine Prog.ind (fun w _ n h => ?_) (fun w _ n h => ?_) (fun p ih o n h => ?_) (fun ps ih o n h => ?_) (fun ps ih o n h => ?_) (fun ps ih o n h => ?_)
  all_goals obtain ⟨m, rfl⟩ : ∃ m, n = m + 1 := ⟨n - 1, by omega⟩
  · simp [e_finish, b_finish, enc, fin]
  · simp [e_finish, b_finish, enc, fin]
  · simp [e_finish, b_finish, enc, fin]
  · simp [e_finish, b_finish, enc, fin, q_fin o.1 fun p hp => ih p hp (oks_mem o.2 p hp) m (Nat.lt_of_succ_lt (deps_lt hp h))]
  · simp [e_finish, b_finish, enc, fin, q_fin o.1.1 fun p hp => ih p hp (oks_mem o.2 p hp) m (Nat.lt_of_succ_lt (deps_lt hp h)), fins_ne o.1.2]
  · simp [e_finish, b_finish, enc, fin, q_fin o.1.1 fun p hp => ih p hp (oks_mem o.2 p hp) m (Nat.lt_of_succ_lt (deps_lt hp h)), fins_ne o.1.2]

/-! ### rows -/
abbrev Row := List (Option Str)
def wd : Option Str → D
  | none => .none
  | some w => .str w
abbrev LR := Row × Row
def lrD (x : LR) : D := .tuple [.tuple (x.1.map wd), .tuple (x.2.map wd)]
def seqG : List (Int × (Int → LR)) → Int → Row → Row → LR × Int
  | [], t, L, R => ((L, R), t)
  | (f, g) :: r, t, L, R => if t < 0 then ((L, R), t) else seqG r (t - f) (L ++ (g t).1) ((g t).2 ++ R)
def besG : List LR → Int → Int → LR → LR
  | [], _, _, x => x
  | s :: r, i, k, x => besG r (i + 1) k (if i < k then (x.1 ++ (s.1 ++ s.2), x.2) else if i = k then (x.1 ++ s.1, s.2) else (x.1, x.2 ++ (s.1 ++ s.2)))
def idxI (x : Int) : List Int → Option Nat
  | [] => none
  | y :: r => if y = x then some 0 else (idxI x r).map (· + 1)
def keyR (es : List Int) : Int := (idxI (minL es) es).getD 0
def keyJ (es : List Int) : Int := es.length - 1 - (idxI (maxL es) es.reverse).getD 0
def shut (c : Bool) (x : LR) : LR := if c = true then x else (x.1 ++ x.2, [])
mutual
def sd : Prog → Int → LR
  | .log w, t => if t = 0 then ([some w], []) else ([], [])
  | .await _, _ => ([], [])
  | .fork p, t => ((sd p t).1 ++ (sd p t).2, [])
  | .seq ps, t => shut (decide (0 ≤ (seqG (sdf ps) t [] []).2)) (seqG (sdf ps) t [] []).1
  | .join ps, t => shut (decide ((fins ps).getD (keyJ (fins ps)).toNat 0 ≤ t)) (besG ((sdf ps).map fun x => x.2 t) 0 (keyJ (fins ps)) ([], []))
  | .race ps, t => shut (decide ((fins ps).getD (keyR (fins ps)).toNat 0 ≤ t)) (besG ((sdf ps).map fun x => x.2 t) 0 (keyR (fins ps)) ([], []))
def sdf : List Prog → List (Int × (Int → LR))
  | [] => []
  | p :: ps => (fin p, fun t => sd p t) :: sdf ps
end
mutual
/-- no more words than these -/
def wt : Prog → Nat
  | .log _ => 1
  | .await _ => 0
  | .fork p => wt p
  | .seq ps => wts ps
  | .join ps => wts ps
  | .race ps => wts ps
def wts : List Prog → Nat
  | [] => 0
  | p :: ps => wt p + wts ps
end
def sz (x : LR) : Nat := x.1.length + x.2.length
theorem sz_shut (c : Bool) (x : LR) : sz (shut c x) = sz x := by
  unfold shut sz
  cases c <;> simp
theorem sz_seq : ∀ (ps : List Prog) (t : Int) (L R : Row), (∀ p ∈ ps, ∀ t, sz (sd p t) ≤ wt p) → sz (seqG (sdf ps) t L R).1 ≤ L.length + R.length + wts ps
  | [], t, L, R, _ => by simp [sdf, seqG, sz, wts]
  | p :: ps, t, L, R, h => by
    rw [sdf, seqG, wts]
    have e := h p (List.mem_cons_self ..) t
    by_cases c : t < 0
    · rw [if_pos c]
      show L.length + R.length ≤ _
      omega
    · rw [if_neg c]
      have := sz_seq ps (t - fin p) (L ++ (sd p t).1) ((sd p t).2 ++ R) fun q hq => h q (List.mem_cons_of_mem _ hq)
      simp [sz] at *
      omega
theorem sz_bes (t k : Int) : ∀ (ps : List Prog) (i : Int) (x : LR), (∀ p ∈ ps, ∀ t, sz (sd p t) ≤ wt p) → sz (besG ((sdf ps).map fun x => x.2 t) i k x) ≤ sz x + wts ps
  | [], i, x, _ => by simp [sdf, besG, wts]
  | p :: ps, i, x, h => by
    rw [sdf, List.map_cons, besG, wts]
    have e := h p (List.mem_cons_self ..) t
    have := sz_bes t k ps (i + 1) (if i < k then (x.1 ++ ((sd p t).1 ++ (sd p t).2), x.2) else if i = k then (x.1 ++ (sd p t).1, (sd p t).2) else (x.1, x.2 ++ ((sd p t).1 ++ (sd p t).2))) fun q hq => h q (List.mem_cons_of_mem _ hq)
    refine Nat.le_trans this ?_
    simp only [sz] at e ⊢
    split
    · simp; omega
    · split <;> (simp; omega)
theorem sz_sd : ∀ (p : Prog) (t : Int), sz (sd p t) ≤ wt p := by
  refine Prog.ind (fun w t => ?_) (fun w t => ?_) (fun p ih t => ?_) (fun ps ih t => ?_) (fun ps ih t => ?_) (fun ps ih t => ?_)
  · rw [sd, wt]
    split <;> simp [sz]
  · simp [sd, sz]
  · have := ih t
    simp [sd, sz, wt] at *
    omega
  · rw [sd, sz_shut, wt]
    have := sz_seq ps t [] [] ih
    simpa using this
  · rw [sd, sz_shut, wt]
    have := sz_bes t (keyJ (fins ps)) ps 0 ([], []) ih
    simpa [sz] using this
  · rw [sd, sz_shut, wt]
    have := sz_bes t (keyR (fins ps)) ps 0 ([], []) ih
    simpa [sz] using this

/-! ### sides -/
abbrev rowD (r : Row) : D := .tuple (r.map wd)
abbrev SidesOk (m : Nat) (p : Prog) : Prop := ∀ t : Int, val (sem m 5) [.dat (enc p), .dat (.int t)] = some (.d (lrD (sd p t)))
abbrev FinOk (m : Nat) (p : Prog) : Prop := val (sem m 0) [.dat (enc p)] = some (.d (.int (fin p)))
theorem l_seq {m : Nat} (x0 : Slot) : ∀ (ps : List Prog) (t : Int) (L R : Row) (x4 x5 : Slot), (∀ p ∈ ps, SidesOk m p) → (∀ p ∈ ps, FinOk m p) → L.length + R.length + wts ps ≤ 100000 →
    ∃ y4 y5, forL (gn 2 4) (l_sides_of_seq_0 (sem m)) (encs ps) [x0, .dat (.int t), .dat (rowD L), .dat (rowD R), x4, x5] =
      some (.nx, [x0, .dat (.int (seqG (sdf ps) t L R).2), .dat (rowD (seqG (sdf ps) t L R).1.1), .dat (rowD (seqG (sdf ps) t L R).1.2), y4, y5])
  | [], t, L, R, x4, x5, _, _, _ => ⟨x4, x5, by simp [encs, sdf, seqG]⟩
  | p :: ps, t, L, R, x4, x5, h, hf, hl => by
    rw [wts] at hl
    have h1 := h p (List.mem_cons_self ..) t
    have h2 := hf p (List.mem_cons_self ..)
    have h3 := sz_sd p t
    have h4 : L.length + (sd p t).1.length ≤ 100000 := by unfold sz at h3; omega
    have h5 : (sd p t).2.length + R.length ≤ 100000 := by unfold sz at h3; omega
    by_cases c : t < 0
    · refine ⟨.dat (enc p), x5, ?_⟩
      simp [encs, sdf, seqG, for_cons, l_sides_of_seq_0, c]
    · obtain ⟨y4, y5, e⟩ := l_seq x0 ps (t - fin p) (L ++ (sd p t).1) ((sd p t).2 ++ R) (.dat (enc p)) (.dat (lrD (sd p t))) (fun q hq => h q (List.mem_cons_of_mem _ hq)) (fun q hq => hf q (List.mem_cons_of_mem _ hq)) (by
        unfold sz at h3
        simp
        omega)
      refine ⟨y4, y5, ?_⟩
      simp [encs, sdf, seqG, for_cons, l_sides_of_seq_0, c, h1, h2, lrD, h4, h5, rowD] at e ⊢
      exact e
theorem seq_ok {m : Nat} {ps : List Prog} (h : ∀ p ∈ ps, SidesOk m p) (hf : ∀ p ∈ ps, FinOk m p) (hw : wts ps ≤ 100000) (t : Int) :
    val (sem (m + 1) 1) [.dat (.tuple (encs ps)), .dat (.int t)] = some (.d (lrD (sd (.seq ps) t))) := by
  obtain ⟨y4, y5, e⟩ := l_seq (.dat (.tuple (encs ps))) ps t [] [] .no .no h hf (by simpa using hw)
  have z := sz_seq ps t [] [] fun p _ => sz_sd p
  simp only [rowD, List.map_nil] at e
  have z2 : (seqG (sdf ps) t [] []).1.1.length + (seqG (sdf ps) t [] []).1.2.length ≤ 100000 := by
    unfold sz at z
    simp at z
    omega
  by_cases c : 0 ≤ (seqG (sdf ps) t [] []).2
  · simp [e_sides_of_seq, b_sides_of_seq, e, c, lrD, sd, shut]
  · simp [e_sides_of_seq, b_sides_of_seq, e, c, lrD, sd, shut, z2]
/-! beside -/
theorem l_bes {G : Nat → FM} {x0 x1 x3 x8 : Slot} {k : Int} : ∀ (xs : List LR) (i : Nat) (x : LR) (x6 x7 : Slot), sz x + (xs.map sz).sum ≤ 100000 →
    ∃ y6 y7, forL (gtup (gcons (gn 3 6) (gcons (gn 3 7) gnil))) (l_sides_beside_0 G) ((List.range' i xs.length).zipWith (fun (j : Nat) d => rawT [.int (j : Nat), d]) (xs.map lrD)) [x0, x1, .dat (.int k), x3, .dat (rowD x.1), .dat (rowD x.2), x6, x7, x8] =
      some (.nx, [x0, x1, .dat (.int k), x3, .dat (rowD (besG xs i k x).1), .dat (rowD (besG xs i k x).2), y6, y7, x8])
  | [], i, x, x6, x7, _ => ⟨x6, x7, by simp [besG]⟩
  | s :: xs, i, x, x6, x7, hl => by
    simp only [List.map_cons, List.sum_cons] at hl
    have h1 : x.1.length + s.1.length ≤ 100000 := by unfold sz at hl; omega
    have h2 : s.1.length + s.2.length ≤ 100000 := by unfold sz at hl; omega
    have h3 : x.1.length + (s.1.length + s.2.length) ≤ 100000 := by unfold sz at hl; omega
    have h4 : x.2.length + (s.1.length + s.2.length) ≤ 100000 := by unfold sz at hl; omega
    have step : ∀ y : LR, sz y ≤ sz x + sz s → ∃ y6 y7, forL (gtup (gcons (gn 3 6) (gcons (gn 3 7) gnil))) (l_sides_beside_0 G) ((List.range' (i + 1) xs.length).zipWith (fun (j : Nat) d => rawT [.int (j : Nat), d]) (xs.map lrD)) [x0, x1, .dat (.int k), x3, .dat (rowD y.1), .dat (rowD y.2), .dat (.int i), .dat (lrD s), x8] =
        some (.nx, [x0, x1, .dat (.int k), x3, .dat (rowD (besG xs (i + 1) k y).1), .dat (rowD (besG xs (i + 1) k y).2), y6, y7, x8]) := fun y hy => by
      have := l_bes (G := G) (x0 := x0) (x1 := x1) (x3 := x3) (x8 := x8) (k := k) xs (i + 1) y (.dat (.int i)) (.dat (lrD s)) (by omega)
      simpa using this
    by_cases c1 : (i : Int) < k
    · obtain ⟨y6, y7, e⟩ := step (x.1 ++ (s.1 ++ s.2), x.2) (by simp [sz]; omega)
      refine ⟨y6, y7, ?_⟩
      simp [List.range'_succ, for_cons, besG, c1, l_sides_beside_0, lrD, h2, h3, rowD] at e ⊢
      exact e
    · by_cases c2 : (i : Int) = k
      · obtain ⟨y6, y7, e⟩ := step (x.1 ++ s.1, s.2) (by simp [sz]; omega)
        refine ⟨y6, y7, ?_⟩
        simp [List.range'_succ, for_cons, besG, c1, c2, l_sides_beside_0, lrD, h1, rowD] at e ⊢
        exact e
      · obtain ⟨y6, y7, e⟩ := step (x.1, x.2 ++ (s.1 ++ s.2)) (by simp [sz]; omega)
        refine ⟨y6, y7, ?_⟩
        simp [List.range'_succ, for_cons, besG, c1, c2, l_sides_beside_0, lrD, h2, h4, rowD] at e ⊢
        exact e
theorem sdf_eq (t : Int) : ∀ ps : List Prog, (sdf ps).map (fun x => x.2 t) = ps.map fun p => sd p t
  | [] => rfl
  | p :: ps => by rw [sdf, List.map_cons, sdf_eq t ps]; rfl
theorem q_bes {ps : List Prog} {m : Nat} {t : Int} {x0 x2 : Slot} (l : ps.length ≤ 1000) (h : ∀ p ∈ ps, SidesOk m p) :
    cmpL 3 (gn 3 8) tyes (q_sides_beside_1 (sem m)) [8] (encs ps) [] [x0, .dat (.int t), x2, .no, .no, .no, .no, .no, .no] = some ((ps.map fun p => sd p t).map lrD, [x0, .dat (.int t), x2, .no, .no, .no, .no, .no, .no]) := by
  rw [encs_eq, List.map_map]
  exact cmp_map enc (fun p => lrD (sd p t)) (by simp) (by decide) rfl ps [] (len3 l) fun p hp => by simp [q_sides_beside_1, h p hp t]
theorem idxI_lt {x : Int} : ∀ {es : List Int} {j : Nat}, idxI x es = some j → j < es.length
  | [], j, e => by cases e
  | y :: r, j, e => by
    unfold idxI at e
    split at e
    · cases e; simp
    · cases q : idxI x r with
      | none => rw [q] at e; cases e
      | some k =>
        rw [q] at e
        cases e
        have := idxI_lt q
        simpa using this
theorem idxI_mem {x : Int} : ∀ {es : List Int}, x ∈ es → ∃ j, idxI x es = some j
  | y :: r, h => by
    unfold idxI
    by_cases c : y = x
    · exact ⟨0, if_pos c⟩
    · rw [if_neg c]
      obtain ⟨j, e⟩ := idxI_mem ((List.mem_cons.mp h).resolve_left fun e => c e.symm)
      exact ⟨j + 1, by rw [e]; rfl⟩
theorem idxD_int {x : Int} : ∀ es : List Int, idxD (.int x) (es.map PyData.int) = idxI x es
  | [] => rfl
  | y :: r => by
    show (if (y == x) = true then some 0 else (idxD (.int x) (r.map PyData.int)).bind fun n => some (n + 1)) = _
    rw [idxD_int r, idxI]
    by_cases c : y = x
    · rw [if_pos (by simpa using c), if_pos c]
    · rw [if_neg (by simpa using c), if_neg c]
      cases idxI x r <;> rfl
theorem flat_ints (es : List Int) : (es.map PyData.int).all flatD = true := by
  rw [List.all_map]
  exact List.all_eq_true.mpr fun _ _ => rfl
theorem gIdx_int {x : Int} {es : List Int} {j : Nat} (h : idxI x es = some j) : gIdx [.int x] (.list (es.map PyData.int)) = some (.d (.int (j : Nat))) := by
  show (if (flatD (.int x) && (es.map PyData.int).all flatD) = true then (idxD (.int x) (es.map PyData.int)).bind fun n => some (R.d (.int (n : Nat))) else none) = _
  rw [flat_ints, idxD_int, h]
  rfl
theorem keyR_is {es : List Int} (h : es ≠ []) : ∃ j : Nat, idxI (minL es) es = some j ∧ keyR es = j ∧ j < es.length := by
  obtain ⟨j, e⟩ := idxI_mem (minL_mem h).1
  exact ⟨j, e, by rw [keyR, e]; rfl, idxI_lt e⟩
theorem keyJ_is {es : List Int} (h : es ≠ []) : ∃ j : Nat, idxI (maxL es) es.reverse = some j ∧ keyJ es = es.length - 1 - (j : Int) ∧ j < es.length := by
  obtain ⟨j, e⟩ := idxI_mem (es := es.reverse) (by rw [List.mem_reverse]; exact (maxL_mem h).1)
  have := idxI_lt e
  rw [List.length_reverse] at this
  exact ⟨j, e, by rw [keyJ, e]; rfl, this⟩
theorem q_key {ps : List Prog} {m : Nat} {x0 : Slot} (l : ps.length ≤ 1000) (h : ∀ p ∈ ps, FinOk m p) :
    cmpL 1 (gn 1 2) tyes (q_key_part_0 (sem m)) [2] (encs ps) [] [x0, .no, .no] = some ((fins ps).map PyData.int, [x0, .no, .no]) := by
  rw [encs_eq, ints_eq]
  exact cmp_map enc (fun p => .int (fin p)) (by simp) (by decide) rfl ps [] (len3 l) fun p hp => by simp [q_key_part_0, show val (sem m 0) [.dat (enc p)] = _ from h p hp]
theorem key_ok {m : Nat} {w : Str} {ps : List Prog} (l : ps.length ≤ 1000 ∧ ps ≠ []) (h : ∀ p ∈ ps, FinOk m p) : val (sem (m + 1) 4) [.dat (.tuple [.str w, .tuple (encs ps)])] = some (.d (.int (if w = "race" then keyR (fins ps) else keyJ (fins ps)))) := by
  have n := fins_ne l.2
  by_cases c : w = "race"
  · obtain ⟨j, e1, e2, e3⟩ := keyR_is n
    simp [e_key_part, b_key_part, q_key l.1 h, c, n, isL, gIdx_int e1, e2]
  · obtain ⟨j, e1, e2, e3⟩ := keyJ_is n
    have e4 : gIdx [.int (maxL (fins ps))] (.list ((fins ps).map PyData.int).reverse) = some (.d (.int (j : Nat))) := by
      rw [← List.map_reverse]
      exact gIdx_int e1
    simp [e_key_part, b_key_part, q_key l.1 h, c, n, isL, e4, e2]
theorem at_encs : ∀ {ps : List Prog} {j : Nat} {p : Prog}, ps[j]? = some p → (fins ps).getD j 0 = fin p ∧ gIx (.tuple (encs ps)) (.int (j : Nat)) = some (.d (enc p)) := fun {ps j p} h => by
  obtain ⟨hj, e⟩ := List.getElem?_eq_some_iff.mp h
  constructor
  · rw [fins_eq, List.getD_eq_getElem?_getD, List.getElem?_map, h]
    rfl
  · show (atI (encs ps) (j : Nat)).bind _ = _
    unfold atI ixN
    rw [if_pos (by omega), if_pos (by rw [encs_eq, List.length_map]; omega), encs_eq]
    simp [h]
theorem bes_ok {m : Nat} {ps : List Prog} (l : ps.length ≤ 1000) (h : ∀ p ∈ ps, SidesOk m p) (hf : ∀ p ∈ ps, FinOk m p) (hw : wts ps ≤ 100000) (t : Int) {j : Nat} (hj : j < ps.length) :
    val (sem (m + 1) 3) [.dat (.tuple (encs ps)), .dat (.int t), .dat (.int (j : Nat))] = some (.d (lrD (shut (decide ((fins ps).getD j 0 ≤ t)) (besG ((sdf ps).map fun x => x.2 t) 0 (j : Nat) ([], []))))) := by
  have z : sz (besG ((sdf ps).map fun x => x.2 t) 0 (j : Nat) ([], [])) ≤ 100000 := by
    have := sz_bes t (j : Nat) ps 0 ([], []) fun p _ => sz_sd p
    simp [sz] at this ⊢
    omega
  have hs : sz (([], []) : LR) + ((ps.map fun p => sd p t).map sz).sum ≤ 100000 := by
    have : ∀ qs : List Prog, ((qs.map fun p => sd p t).map sz).sum ≤ wts qs := fun qs => by
      induction qs with
      | nil => simp [wts]
      | cons q qs ih =>
        have := sz_sd q t
        simp [wts] at ih ⊢
        omega
    have := this ps
    simp [sz] at this ⊢
    omega
  obtain ⟨y6, y7, e⟩ := l_bes (G := sem m) (x0 := .dat (.tuple (encs ps))) (x1 := .dat (.int t)) (x3 := .dat (.list ((ps.map fun p => sd p t).map lrD))) (x8 := .no) (k := (j : Nat)) (ps.map fun p => sd p t) 0 ([], []) .no .no hs
  obtain ⟨g1, g2⟩ := at_encs (List.getElem?_eq_getElem hj)
  have g3 := hf _ (List.getElem_mem hj)
  rw [sdf_eq] at z ⊢
  rw [g1]
  simp [List.range_eq_range', rowD] at e
  by_cases c : fin ps[j] ≤ t
  · simp [e_sides_beside, b_sides_beside, q_bes l h, List.range_eq_range', e, g2, show val (sem m 0) [.dat (enc ps[j])] = _ from g3, c, shut, lrD]
  · simp [e_sides_beside, b_sides_beside, q_bes l h, List.range_eq_range', e, g2, show val (sem m 0) [.dat (enc ps[j])] = _ from g3, c, shut, lrD]
    simp [sz] at z
    simp [z]
theorem wt_mem : ∀ {ps : List Prog} {p : Prog}, p ∈ ps → wt p ≤ wts ps
  | q :: ps, p, h => by
    rw [wts]
    rcases List.mem_cons.mp h with rfl | h
    · omega
    · have := wt_mem h
      omega
theorem fins_len (ps : List Prog) : (fins ps).length = ps.length := by rw [fins_eq, List.length_map]
theorem sides_ok : ∀ p : Prog, ok p → wt p ≤ 100000 → ∀ n, dep p < n → SidesOk n p := by
  refine Prog.ind (fun w _ _ n h t => ?_) (fun w _ _ n h t => ?_) (fun p ih o w n h t => ?_) (fun ps ih o w n h t => ?_) (fun ps ih o w n h t => ?_) (fun ps ih o w n h t => ?_)
  all_goals obtain ⟨m, rfl⟩ : ∃ m, n = m + 1 := ⟨n - 1, by omega⟩
  · by_cases c : t = 0
    · simp [e_sides_of, b_sides_of, enc, sd, lrD, c, wd]
    · simp [e_sides_of, b_sides_of, enc, sd, lrD, c, wd]
  · simp [e_sides_of, b_sides_of, enc, sd, lrD, wd]
  · have e := ih o w m (by rw [dep] at h; omega) t
    have z := sz_sd p t
    rw [wt] at w
    have z2 : (sd p t).1.length + (sd p t).2.length ≤ 100000 := by unfold sz at z; omega
    simp [e_sides_of, b_sides_of, enc, sd, lrD, e, z2]
  all_goals
    rw [dep] at h
    rw [wt] at w
    obtain ⟨m, rfl⟩ : ∃ k, m = k + 1 := ⟨m - 1, by omega⟩
    have hs : ∀ p ∈ ps, SidesOk m p := fun p hp => ih p hp (oks_mem o.2 p hp) (Nat.le_trans (wt_mem hp) w) m (by have := dep_mem hp; omega)
    have hf : ∀ p ∈ ps, FinOk m p := fun p hp => fin_ok p (oks_mem o.2 p hp) m (by have := dep_mem hp; omega)
  · simp [e_sides_of, b_sides_of, enc, seq_ok hs hf w t]
  · obtain ⟨j, e1, e2, e3⟩ := keyJ_is (fins_ne o.1.2)
    rw [fins_len] at e2 e3
    obtain ⟨i, e4⟩ : ∃ i : Nat, ((ps.length : Int) - 1 - j) = i := ⟨ps.length - 1 - j, by omega⟩
    have k := key_ok (w := "join") o.1 hf
    have b := bes_ok o.1.1 hs hf w t (j := i) (by omega)
    simp [e2, e4] at k
    simp [e_sides_of, b_sides_of, enc, k, b, sd, e2, e4]
  · obtain ⟨j, e1, e2, e3⟩ := keyR_is (fins_ne o.1.2)
    rw [fins_len] at e3
    have k := key_ok (w := "race") o.1 hf
    have b := bes_ok o.1.1 hs hf w t (j := j) e3
    simp [e2] at k
    simp [e_sides_of, b_sides_of, enc, k, b, sd, e2]
def mkd (p : Prog) (t : Int) : Row := if fin p ≤ t then (sd p t).1 ++ [none] ++ (sd p t).2 else (sd p t).1
theorem mkd_ok {p : Prog} (o : ok p) (w : wt p ≤ 90000) {n : Nat} (h : dep p + 1 < n) (t : Int) : val (sem n 6) [.dat (enc p), .dat (.int t)] = some (.d (rowD (mkd p t))) := by
  obtain ⟨m, rfl⟩ : ∃ m, n = m + 1 := ⟨n - 1, by omega⟩
  have e := sides_ok p o (by omega) m (by omega) t
  have f := fin_ok p o m (by omega)
  have z := sz_sd p t
  have z1 : (sd p t).1.length + 1 ≤ 100000 := by unfold sz at z; omega
  have z2 : (sd p t).1.length + ((sd p t).2.length + 1) ≤ 100000 := by unfold sz at z; omega
  have z3 : (sd p t).1.length + 1 + (sd p t).2.length ≤ 100000 := by unfold sz at z; omega
  by_cases c : fin p ≤ t
  · simp [e_marked, b_marked, e, f, lrD, mkd, c, z1, z2, z3, wd]
  · simp [e_marked, b_marked, e, f, lrD, mkd, c]
/-! ### counts -/
mutual
def tot : Prog → Int
  | .log _ => 1
  | .await _ => 0
  | .fork p => tot p
  | .seq ps => (tots ps).sum
  | .join ps => (tots ps).sum
  | .race ps => (tots ps).sum
def tots : List Prog → List Int
  | [] => []
  | p :: ps => tot p :: tots ps
end
theorem tots_eq : ∀ ps : List Prog, tots ps = ps.map tot
  | [] => rfl
  | p :: ps => by rw [tots, tots_eq ps]; rfl
theorem q_tot {ps : List Prog} {m : Nat} {x0 x1 : Slot} (l : ps.length ≤ 1000) (h : ∀ p ∈ ps, val (sem m 8) [.dat (enc p)] = some (.d (.int (tot p)))) :
    cmpL 1 (gn 1 2) tyes (q_total_0 (sem m)) [2] (encs ps) [] [x0, x1, .no] = some ((tots ps).map PyData.int, [x0, x1, .no]) := by
  rw [encs_eq, tots_eq, List.map_map]
  exact cmp_map enc (fun p => .int (tot p)) (by simp) (by decide) rfl ps [] (len3 l) fun p hp => by simp [q_total_0, h p hp]
theorem tot_ok : ∀ (p : Prog), ok p → ∀ n, dep p < n → val (sem n 8) [.dat (enc p)] = some (.d (.int (tot p))) := by
  refine Prog.ind (fun w _ n h => ?_) (fun w _ n h => ?_) (fun p ih o n h => ?_) (fun ps ih o n h => ?_) (fun ps ih o n h => ?_) (fun ps ih o n h => ?_)
  all_goals obtain ⟨m, rfl⟩ : ∃ m, n = m + 1 := ⟨n - 1, by omega⟩
  · simp [e_total, b_total, enc, tot]
  · simp [e_total, b_total, enc, tot]
  · simp [e_total, b_total, enc, tot, ih o m (by rw [dep] at h; omega)]
  · simp [e_total, b_total, enc, tot, q_tot o.1 fun p hp => ih p hp (oks_mem o.2 p hp) m (Nat.lt_of_succ_lt (deps_lt hp h))]
  · simp [e_total, b_total, enc, tot, q_tot o.1.1 fun p hp => ih p hp (oks_mem o.2 p hp) m (Nat.lt_of_succ_lt (deps_lt hp h))]
  · simp [e_total, b_total, enc, tot, q_tot o.1.1 fun p hp => ih p hp (oks_mem o.2 p hp) m (Nat.lt_of_succ_lt (deps_lt hp h))]
/-- the sum of the parts, each from its own beginning on; b tells whether a part begins at the end of the one ahead -/
def cG : Bool → List (Int × (Int → Int)) → Int → Int → Int → Int
  | _, [], _, _, a => a
  | b, (f, g) :: r, t, s, a => cG b r t (s + if b then f else 0) (a + g (t - s))
mutual
def cb : Prog → Int → Int
  | .log _, t => if t ≤ 0 then 0 else 1
  | .await _, _ => 0
  | .fork p, t => if t ≤ 0 then 0 else cb p t
  | .seq ps, t => if t ≤ 0 then 0 else cG true (cbf ps) t 0 0
  | .join ps, t => if t ≤ 0 then 0 else cG false (cbf ps) t 0 0
  | .race ps, t => if t ≤ 0 then 0 else cG false (cbf ps) t 0 0
def cbf : List Prog → List (Int × (Int → Int))
  | [] => []
  | p :: ps => (fin p, fun t => cb p t) :: cbf ps
end
theorem l_cb {m : Nat} {x0 : Slot} {w : Str} {t : Int} : ∀ (ps : List Prog) (s a : Int) (x5 : Slot), (∀ p ∈ ps, ∀ t, val (sem m 10) [.dat (enc p), .dat (.int t)] = some (.d (.int (cb p t)))) → (∀ p ∈ ps, FinOk m p) →
    ∃ b y5, forL (gn 2 5) (l_count_before_0 (sem m)) (encs ps) [x0, .dat (.int t), .dat (.str w), .dat (.int a), .dat (.int s), x5] =
      some (.nx, [x0, .dat (.int t), .dat (.str w), .dat (.int (cG (decide (w = "seq")) (cbf ps) t s a)), .dat (.int b), y5])
  | [], s, a, x5, _, _ => ⟨s, x5, by simp [encs, cbf, cG]⟩
  | p :: ps, s, a, x5, h, hf => by
    have h1 := h p (List.mem_cons_self ..) (t - s)
    have h2 : val (sem m 0) [.dat (enc p)] = _ := hf p (List.mem_cons_self ..)
    obtain ⟨b, y5, e⟩ := l_cb (x0 := x0) (w := w) (t := t) ps (s + if decide (w = "seq") = true then fin p else 0) (a + cb p (t - s)) (.dat (enc p)) (fun q hq => h q (List.mem_cons_of_mem _ hq)) fun q hq => hf q (List.mem_cons_of_mem _ hq)
    refine ⟨b, y5, ?_⟩
    by_cases c : w = "seq"
    · simp [encs, cbf, cG, for_cons, l_count_before_0, h1, h2, c] at e ⊢
      exact e
    · simp [encs, cbf, cG, for_cons, l_count_before_0, h1, h2, c] at e ⊢
      exact e
theorem cb_ok : ∀ p : Prog, ok p → ∀ n, dep p < n → ∀ t : Int, val (sem n 10) [.dat (enc p), .dat (.int t)] = some (.d (.int (cb p t))) := by
  refine Prog.ind (fun w _ n h t => ?_) (fun w _ n h t => ?_) (fun p ih o n h t => ?_) (fun ps ih o n h t => ?_) (fun ps ih o n h t => ?_) (fun ps ih o n h t => ?_)
  all_goals obtain ⟨m, rfl⟩ : ∃ m, n = m + 1 := ⟨n - 1, by omega⟩
  all_goals by_cases c : t ≤ 0
  · simp [e_count_before, b_count_before, enc, cb, c]
  · simp [e_count_before, b_count_before, enc, cb, c]
  · simp [e_count_before, b_count_before, enc, cb, c]
  · simp [e_count_before, b_count_before, enc, cb, c]
  · simp [e_count_before, b_count_before, enc, cb, c]
  · simp [e_count_before, b_count_before, enc, cb, c, ih o m (by rw [dep] at h; omega)]
  · simp [e_count_before, b_count_before, enc, cb, c]
  · obtain ⟨b, y5, e⟩ := l_cb (x0 := .dat (enc (.seq ps))) (w := "seq") (t := t) ps 0 0 .no (fun p hp => ih p hp (oks_mem o.2 p hp) m (Nat.lt_of_succ_lt (deps_lt hp h))) fun p hp => fin_ok p (oks_mem o.2 p hp) m (Nat.lt_of_succ_lt (deps_lt hp h))
    simp [enc] at e
    simp [e_count_before, b_count_before, enc, cb, c, e]
  · simp [e_count_before, b_count_before, enc, cb, c]
  · obtain ⟨b, y5, e⟩ := l_cb (x0 := .dat (enc (.join ps))) (w := "join") (t := t) ps 0 0 .no (fun p hp => ih p hp (oks_mem o.2 p hp) m (Nat.lt_of_succ_lt (deps_lt hp h))) fun p hp => fin_ok p (oks_mem o.2 p hp) m (Nat.lt_of_succ_lt (deps_lt hp h))
    simp [enc] at e
    simp [e_count_before, b_count_before, enc, cb, c, e]
  · simp [e_count_before, b_count_before, enc, cb, c]
  · obtain ⟨b, y5, e⟩ := l_cb (x0 := .dat (enc (.race ps))) (w := "race") (t := t) ps 0 0 .no (fun p hp => ih p hp (oks_mem o.2 p hp) m (Nat.lt_of_succ_lt (deps_lt hp h))) fun p hp => fin_ok p (oks_mem o.2 p hp) m (Nat.lt_of_succ_lt (deps_lt hp h))
    simp [enc] at e
    simp [e_count_before, b_count_before, enc, cb, c, e]
end K41
end
section
set_option maxRecDepth 100000
set_option maxHeartbeats 4000000
/-! Mb: moments, changes, the first difference. -/
namespace K41
open PySem PySem.Spec L2 Z
def mG : Bool → List (Int × (Int → List Int)) → Int → List Int → List Int
  | _, [], _, acc => acc
  | c, (f, g) :: r, b, acc => mG c r (b + if c = true then f else 0) (acc ++ g b)
mutual
def mom : Prog → Int → List Int
  | .log _, b => [b, b + 1]
  | .await _, _ => []
  | .fork p, b => mom p b
  | .seq ps, b => mG true (momf ps) b []
  | .join ps, b => mG false (momf ps) b []
  | .race ps, b => mG false (momf ps) b []
def momf : List Prog → List (Int × (Int → List Int))
  | [] => []
  | p :: ps => (fin p, fun b => mom p b) :: momf ps
end
theorem mG_len (c : Bool) : ∀ (ps : List Prog) (b : Int) (acc : List Int), (∀ p ∈ ps, ∀ b, (mom p b).length ≤ 2 * wt p) → (mG c (momf ps) b acc).length ≤ acc.length + 2 * wts ps
  | [], b, acc, _ => by simp [momf, mG]
  | p :: ps, b, acc, h => by
    rw [momf, mG, wts]
    have e := h p (List.mem_cons_self ..) b
    have := mG_len c ps (b + if c = true then fin p else 0) (acc ++ mom p b) fun q hq => h q (List.mem_cons_of_mem _ hq)
    simp at this ⊢
    omega
theorem mom_len : ∀ (p : Prog) (b : Int), (mom p b).length ≤ 2 * wt p := by
  refine Prog.ind (fun w t => ?_) (fun w t => ?_) (fun p ih t => ?_) (fun ps ih t => ?_) (fun ps ih t => ?_) (fun ps ih t => ?_)
  · simp [mom, wt]
  · simp [mom]
  · simpa [mom, wt] using ih t
  · simpa [mom, wt] using mG_len true ps t [] ih
  · simpa [mom, wt] using mG_len false ps t [] ih
  · simpa [mom, wt] using mG_len false ps t [] ih
theorem l_mom {m : Nat} {x0 : Slot} {w : Str} : ∀ (ps : List Prog) (b : Int) (acc : List Int) (x5 : Slot), (∀ p ∈ ps, ∀ b : Int, val (sem m 11) [.dat (enc p), .dat (.int b)] = some (.t ((mom p b).map .int))) → (∀ p ∈ ps, FinOk m p) → acc.length + 2 * wts ps ≤ 100000 →
    ∃ b' y5, forL (gn 2 5) (l_moments_0 (sem m)) (encs ps) [x0, .dat (.int b), .dat (.str w), .no, .own (acc.map .int), x5] =
      some (.nx, [x0, .dat (.int b'), .dat (.str w), .no, .own ((mG (decide (w = "seq")) (momf ps) b acc).map .int), y5])
  | [], b, acc, x5, _, _, _ => ⟨b, x5, by simp [encs, momf, mG]⟩
  | p :: ps, b, acc, x5, h, hf, hl => by
    rw [wts] at hl
    have h1 := h p (List.mem_cons_self ..) b
    have h2 : val (sem m 0) [.dat (enc p)] = _ := hf p (List.mem_cons_self ..)
    have h3 := mom_len p b
    have h4 : acc.length + (mom p b).length ≤ 100000 := by omega
    obtain ⟨b', y5, e⟩ := l_mom (x0 := x0) (w := w) ps (b + if decide (w = "seq") = true then fin p else 0) (acc ++ mom p b) (.dat (enc p)) (fun q hq => h q (List.mem_cons_of_mem _ hq)) (fun q hq => hf q (List.mem_cons_of_mem _ hq)) (by
      rw [List.length_append]
      omega)
    refine ⟨b', y5, ?_⟩
    by_cases c : w = "seq"
    · simp [encs, momf, mG, for_cons, l_moments_0, h1, h2, c, h4] at e ⊢
      exact e
    · simp [encs, momf, mG, for_cons, l_moments_0, h1, h2, c, h4] at e ⊢
      exact e
theorem mom_ok : ∀ p : Prog, ok p → wt p ≤ 40000 → ∀ n, dep p < n → ∀ b : Int, val (sem n 11) [.dat (enc p), .dat (.int b)] = some (.t ((mom p b).map .int)) := by
  refine Prog.ind (fun w _ _ n h t => ?_) (fun w _ _ n h t => ?_) (fun p ih o l n h t => ?_) (fun ps ih o l n h t => ?_) (fun ps ih o l n h t => ?_) (fun ps ih o l n h t => ?_)
  all_goals obtain ⟨m, rfl⟩ : ∃ m, n = m + 1 := ⟨n - 1, by omega⟩
  · simp [e_moments, b_moments, enc, mom]
  · simp [e_moments, b_moments, enc, mom]
  · simp [e_moments, b_moments, enc, mom, ih o l m (by rw [dep] at h; omega)]
  all_goals
    rw [wt] at l
    have hm : ∀ p ∈ ps, ∀ b : Int, val (sem m 11) [.dat (enc p), .dat (.int b)] = some (.t ((mom p b).map .int)) := fun p hp => ih p hp (oks_mem o.2 p hp) (Nat.le_trans (wt_mem hp) l) m (Nat.lt_of_succ_lt (deps_lt hp h))
    have hf : ∀ p ∈ ps, FinOk m p := fun p hp => fin_ok p (oks_mem o.2 p hp) m (Nat.lt_of_succ_lt (deps_lt hp h))
  · obtain ⟨b, y5, e⟩ := l_mom (x0 := .dat (enc (.seq ps))) (w := "seq") ps t [] .no hm hf (by simp; omega)
    simp [enc] at e
    simp [e_moments, b_moments, enc, mom, e]
  · obtain ⟨b, y5, e⟩ := l_mom (x0 := .dat (enc (.join ps))) (w := "join") ps t [] .no hm hf (by simp; omega)
    simp [enc] at e
    simp [e_moments, b_moments, enc, mom, e]
  · obtain ⟨b, y5, e⟩ := l_mom (x0 := .dat (enc (.race ps))) (w := "race") ps t [] .no hm hf (by simp; omega)
    simp [enc] at e
    simp [e_moments, b_moments, enc, mom, e]
def chg (p : Prog) : List Int := srtI (dd (0 :: fin p :: mom p 0))
theorem srtset {ns : List Int} (h : ns.length ≤ 4000) (h2 : (srtI (dd ns)).length < 64) : gSrtSet (.list (ns.map PyData.int)) = some (.t ((srtI (dd ns)).map .int)) := by
  show (intsOf (ns.map PyData.int)).bind _ = _
  rw [intsOf_map]
  exact if_pos ⟨h, h2⟩
theorem srtsetT {ns : List Int} (h : ns.length ≤ 4000) (h2 : (srtI (dd ns)).length < 64) : gSrtSet (.tuple (ns.map PyData.int)) = some (.t ((srtI (dd ns)).map .int)) := by
  show (intsOf (ns.map PyData.int)).bind _ = _
  rw [intsOf_map]
  exact if_pos ⟨h, h2⟩
theorem op_addl (a b : List D) (h : a.length + b.length ≤ 100000) : gAdd (.list a) (.list b) = some (.t (a ++ b)) := if_pos h
theorem chg_ok {p : Prog} (o : ok p) (l : wt p ≤ 1000) (hc : (chg p).length < 64) {n : Nat} (h : dep p + 1 < n) : val (sem n 12) [.dat (enc p)] = some (.d (.tuple ((chg p).map .int))) := by
  obtain ⟨m, rfl⟩ : ∃ m, n = m + 1 := ⟨n - 1, by omega⟩
  have f : val (sem m 0) [.dat (enc p)] = _ := fin_ok p o m (by omega)
  have g := mom_ok p o (by omega) m (by omega) 0
  have z := mom_len p 0
  have e := srtset (ns := 0 :: fin p :: mom p 0) (by simp; omega) hc
  have a := op_addl [.int 0, .int (fin p)] ((mom p 0).map PyData.int) (by simp; omega)
  simp at e a
  simp [e_changes, b_changes, f, g, a, e, chg]

/-! ### rows, compared -/
def fu : Row → Row → Nat
  | x :: xs, y :: ys => if x = y then fu xs ys + 1 else 0
  | _, _ => 0
theorem eq_wd (n : Bool) (a b : Option Str) : gEq n (wd a) (wd b) = some (.d (.bool (if n then !decide (a = b) else decide (a = b)))) := by
  cases a <;> cases b <;> simp [wd, gEq, scalD]
theorem ix_row {r : Row} {i : Nat} {x : Option Str} (h : r[i]? = some x) : gIx (rowD r) (.int (i : Nat)) = some (.d (wd x)) := by
  obtain ⟨hi, e⟩ := List.getElem?_eq_some_iff.mp h
  show (atI (r.map wd) (i : Nat)).bind _ = _
  unfold atI ixN
  rw [if_pos (by omega), if_pos (by rw [List.length_map]; omega)]
  simp [h]
theorem drop_at' {r : Row} {i : Nat} (h : i < r.length) : r.drop i = r[i] :: r.drop (i + 1) := List.drop_eq_getElem_cons h
theorem fu_nil {r s : Row} (h : r = [] ∨ s = []) : fu r s = 0 := by
  rcases h with rfl | rfl
  · cases s <;> rfl
  · cases r <;> rfl
theorem w_fu {G : Nat → FM} {r s : Row} : ∀ (f i : Nat), min r.length s.length < f + i → i ≤ min r.length s.length → whL (c_first_unequal_0 G) (l_first_unequal_1 G) f [.dat (rowD r), .dat (rowD s), .dat (.int (i : Nat))] =
    some (.nx, [.dat (rowD r), .dat (rowD s), .dat (.int ((i + fu (r.drop i) (s.drop i) : Nat)))])
  | 0, i, h, h2 => absurd h (by omega)
  | f + 1, i, h, h2 => by
    unfold whL
    by_cases c : i < r.length ∧ i < s.length
    · have c1 : (i : Int) < (if s.length < r.length then (s.length : Int) else r.length) := by
        split <;> omega
      have g1 := ix_row (List.getElem?_eq_getElem c.1)
      have g2 := ix_row (List.getElem?_eq_getElem c.2)
      rw [drop_at' c.1, drop_at' c.2, fu]
      simp only [rowD] at g1 g2
      by_cases q : r[i] = s[i]
      · have e := w_fu (G := G) (r := r) (s := s) f (i + 1) (by omega) (by omega)
        rw [if_pos q]
        have e2 : ((i + (fu (r.drop (i + 1)) (s.drop (i + 1)) + 1) : Nat) : Int) = ((i + 1 + fu (r.drop (i + 1)) (s.drop (i + 1)) : Nat) : Int) := by omega
        rw [e2, ← e]
        simp [c_first_unequal_0, l_first_unequal_1, g1, g2, eq_wd, q, c1]
      · rw [if_neg q]
        simp [c_first_unequal_0, l_first_unequal_1, g1, g2, eq_wd, q, c1]
    · have c1 : ¬ ((i : Int) < (if s.length < r.length then (s.length : Int) else r.length)) := by
        split <;> omega
      have e : fu (r.drop i) (s.drop i) = 0 := fu_nil (by
        rcases Nat.lt_or_ge i r.length with q | q
        · exact .inr (List.drop_eq_nil_of_le (by omega))
        · exact .inl (List.drop_eq_nil_of_le q))
      rw [e]
      simp [c_first_unequal_0, c1]
theorem fu_ok {n : Nat} (h : 0 < n) {r s : Row} (hr : r.length < 999) : val (sem n 13) [.dat (rowD r), .dat (rowD s)] = some (.d (.int (fu r s))) := by
  obtain ⟨m, rfl⟩ : ∃ m, n = m + 1 := ⟨n - 1, by omega⟩
  have e := w_fu (G := sem m) (r := r) (s := s) 1000 0 (by omega) (by omega)
  simp [rowD] at e
  simp [e_first_unequal, b_first_unequal, e]
/-- words that can be laid -/
def lay (r : Row) : Prop := PyData.canLayAll0 (r.map wd) = true
theorem lay_nil : lay [] := rfl
theorem lay_all {r : Row} : lay r ↔ ∀ x ∈ r, PyData.canLay0 (wd x) = true := by
  unfold lay
  induction r with
  | nil => simp [PyData.canLayAll0]
  | cons a r ih => simp [PyData.canLayAll0, ih]
theorem lay_app {r s : Row} : lay (r ++ s) ↔ lay r ∧ lay s := by
  rw [lay_all, lay_all, lay_all]
  simp only [List.mem_append]
  exact ⟨fun h => ⟨fun x hx => h x (.inl hx), fun x hx => h x (.inr hx)⟩, fun h x hx => hx.elim (h.1 x) (h.2 x)⟩
abbrev layL (x : LR) : Prop := lay x.1 ∧ lay x.2
theorem lay_shut {c : Bool} {x : LR} (h : layL x) : layL (shut c x) := by
  unfold shut
  cases c
  · exact ⟨lay_app.mpr h, lay_nil⟩
  · exact h
theorem lay_seq : ∀ (ps : List Prog) (t : Int) (L R : Row), lay L → lay R → (∀ p ∈ ps, ∀ t, layL (sd p t)) → layL (seqG (sdf ps) t L R).1
  | [], t, L, R, hL, hR, _ => ⟨hL, hR⟩
  | p :: ps, t, L, R, hL, hR, h => by
    rw [sdf, seqG]
    have e := h p (List.mem_cons_self ..) t
    split
    · exact ⟨hL, hR⟩
    · exact lay_seq ps _ _ _ (lay_app.mpr ⟨hL, e.1⟩) (lay_app.mpr ⟨e.2, hR⟩) fun q hq => h q (List.mem_cons_of_mem _ hq)
theorem lay_bes (t k : Int) : ∀ (ps : List Prog) (i : Int) (x : LR), layL x → (∀ p ∈ ps, ∀ t, layL (sd p t)) → layL (besG ((sdf ps).map fun x => x.2 t) i k x)
  | [], i, x, hx, _ => hx
  | p :: ps, i, x, hx, h => by
    rw [sdf, List.map_cons, besG]
    have e := h p (List.mem_cons_self ..) t
    refine lay_bes t k ps _ _ ?_ fun q hq => h q (List.mem_cons_of_mem _ hq)
    split
    · exact ⟨lay_app.mpr ⟨hx.1, lay_app.mpr e⟩, hx.2⟩
    · split
      · exact ⟨lay_app.mpr ⟨hx.1, e.1⟩, e.2⟩
      · exact ⟨hx.1, lay_app.mpr ⟨hx.2, lay_app.mpr e⟩⟩
theorem lay_sd : ∀ (p : Prog), ok p → ∀ t : Int, layL (sd p t) := by
  refine Prog.ind (fun w o t => ?_) (fun w _ t => ?_) (fun p ih o t => ?_) (fun ps ih o t => ?_) (fun ps ih o t => ?_) (fun ps ih o t => ?_)
  · rw [sd]
    split
    · exact ⟨lay_all.mpr fun x hx => by rw [List.mem_singleton.mp hx]; exact o, lay_nil⟩
    · exact ⟨lay_nil, lay_nil⟩
  · exact ⟨lay_nil, lay_nil⟩
  · rw [sd]
    exact ⟨lay_app.mpr (ih o t), lay_nil⟩
  · rw [sd]
    exact lay_shut (lay_seq ps t [] [] lay_nil lay_nil fun p hp => ih p hp (oks_mem o.2 p hp))
  · rw [sd]
    exact lay_shut (lay_bes _ _ ps _ _ ⟨lay_nil, lay_nil⟩ fun p hp => ih p hp (oks_mem o.2 p hp))
  · rw [sd]
    exact lay_shut (lay_bes _ _ ps _ _ ⟨lay_nil, lay_nil⟩ fun p hp => ih p hp (oks_mem o.2 p hp))
theorem lay_mkd {p : Prog} (o : ok p) (t : Int) : lay (mkd p t) := by
  have e := lay_sd p o t
  unfold mkd
  split
  · exact lay_app.mpr ⟨lay_app.mpr ⟨e.1, rfl⟩, e.2⟩
  · exact e.1
theorem len_mkd (p : Prog) (t : Int) : (mkd p t).length ≤ wt p + 1 := by
  have := sz_sd p t
  unfold mkd sz at *
  split
  · simp
    omega
  · omega
theorem eqv_wd (a b : Option Str) : PyData.eqv (wd a) (wd b) = decide (a = b) := by
  cases a <;> cases b <;> simp [wd, PyData.eqv]
  rename_i a b
  by_cases h : a = b
  · simp [h]
  · simp [h]
theorem eqv_row : ∀ (r s : Row), PyData.eqvAll (r.map wd) (s.map wd) = decide (r = s)
  | [], [] => rfl
  | [], _ :: _ => rfl
  | _ :: _, [] => rfl
  | a :: r, b :: s => by
    show (PyData.eqv (wd a) (wd b) && PyData.eqvAll (r.map wd) (s.map wd)) = _
    rw [eqv_wd, eqv_row r s]
    simp
theorem dep_row (r : Row) : PyData.depthAll (r.map wd) = 0 := by
  induction r with
  | nil => rfl
  | cons a r ih => cases a <;> simp [PyData.depthAll, PyData.depth, wd, ih]
theorem shaped_row {r : Row} (h : lay r) : SeqAt.shaped (rowD r) = true := by
  unfold SeqAt.shaped
  rw [Bool.and_eq_true]
  refine ⟨?_, decide_eq_true ?_⟩
  · rw [PyData.canLay0]
    exact h
  · rw [PyData.depth, dep_row]
    omega
theorem eq_row (n : Bool) {r s : Row} (hr : lay r) (hs : lay s) : gEq n (rowD r) (rowD s) = some (.d (.bool (if n then !decide (r = s) else decide (r = s)))) := by
  show (if (SeqAt.shaped (rowD r) && SeqAt.shaped (rowD s)) = true then some (R.d (.bool (if n then !PyData.eqvAll (r.map wd) (s.map wd) else PyData.eqvAll (r.map wd) (s.map wd)))) else none) = _
  rw [shaped_row hr, shaped_row hs, eqv_row]
  rfl
end K41
end
section
set_option maxRecDepth 100000
set_option maxHeartbeats 4000000
/-! Mc: the first difference. -/
namespace K41
open PySem PySem.Spec L2 Z
def findD (p q : Prog) : List Int → Option (Int × Nat)
  | [] => none
  | t :: r => if mkd p t = mkd q t then findD p q r else some (t, fu (mkd p t) (mkd q t))
theorem findD_app (p q : Prog) : ∀ (a b : List Int), findD p q (a ++ b) = match findD p q a with
    | none => findD p q b
    | some x => some x
  | [], b => rfl
  | t :: a, b => by
    rw [List.cons_append, findD, findD]
    split
    · exact findD_app p q a b
    · rfl
def outD : Option (Int × Nat) → Out
  | none => .nx
  | some (t, i) => .rt (.d (.tuple [.int t, .int (i : Nat)]))
abbrev MkdOk (m : Nat) (p : Prog) : Prop := ∀ t : Int, val (sem m 6) [.dat (enc p), .dat (.int t)] = some (.d (rowD (mkd p t)))
/-- fit to be compared -/
structure Fit (m : Nat) (p : Prog) : Prop where
  ok : ok p
  mkw : MkdOk m p
  le : wt p ≤ 900
theorem l_in {m : Nat} {p q : Prog} {x2 x3 x4 : Slot} (hm : 0 < m) (hp : Fit m p) (hq : Fit m q) : ∀ (ts : List Int) (x5 x6 x7 : Slot), ∃ y5 y6 y7,
    forL (gn 2 5) (l_first_difference_0 (sem m)) (ts.map .int) [.dat (enc p), .dat (enc q), x2, x3, x4, x5, x6, x7] = some (outD (findD p q ts), [.dat (enc p), .dat (enc q), x2, x3, x4, y5, y6, y7])
  | [], x5, x6, x7 => ⟨x5, x6, x7, rfl⟩
  | t :: ts, x5, x6, x7 => by
    have h1 := hp.mkw t
    have h2 := hq.mkw t
    have h3 := eq_row true (lay_mkd hp.ok t) (lay_mkd hq.ok t)
    have hl := len_mkd p t
    have hw := hp.le
    have h4 := fu_ok hm (r := mkd p t) (s := mkd q t) (by omega)
    simp only [rowD] at h1 h2 h3 h4
    by_cases c : mkd p t = mkd q t
    · obtain ⟨y5, y6, y7, e⟩ := l_in (x2 := x2) (x3 := x3) (x4 := x4) hm hp hq ts (.dat (.int t)) (.dat (.tuple ((mkd p t).map wd))) (.dat (.tuple ((mkd q t).map wd)))
      refine ⟨y5, y6, y7, ?_⟩
      rw [findD, if_pos c]
      rw [← c] at h3
      simp [for_cons, l_first_difference_0, h1, h2, h3, ← c] at e ⊢
      exact e
    · refine ⟨.dat (.int t), .dat (.tuple ((mkd p t).map wd)), .dat (.tuple ((mkd q t).map wd)), ?_⟩
      rw [findD, if_neg c]
      simp [for_cons, l_first_difference_0, h1, h2, h3, h4, c, outD]
def rngI (b e : Int) : List Int := (List.range (e - b).toNat).map fun k => b + (k : Nat)
def cut60 (b e : Int) : Int := if b + 60 < e then b + 60 else e
def scanP : List (Int × Int) → List Int
  | [] => []
  | x :: r => rngI x.1 (cut60 x.1 x.2) ++ scanP r
theorem intsD_eq (b e : Int) : intsD b (e - b).toNat = (rngI b e).map .int := by
  unfold intsD rngI
  rw [List.map_map]
  rfl
abbrev Sm (i : Int) : Prop := 0 ≤ i ∧ i < 2 ^ 61
theorem small_of {i : Int} (h : Sm i) : smallI i = true := by
  unfold smallI
  simp
  omega
theorem small_cut {b e : Int} (h : Sm b) (h2 : 0 ≤ e) : smallI (cut60 b e) = true := by
  unfold smallI cut60
  split <;> simp <;> omega
theorem l_out {m : Nat} {p q : Prog} {x2 : Slot} (hm : 0 < m) (hp : Fit m p) (hq : Fit m q) : ∀ (xs : List (Int × Int)) (x3 x4 x5 x6 x7 : Slot), (∀ x ∈ xs, Sm x.1 ∧ 0 ≤ x.2) → ∃ y3 y4 y5 y6 y7,
    forL (gtup (gcons (gn 2 3) (gcons (gn 2 4) gnil))) (l_first_difference_1 (sem m)) (xs.map fun x => rawT [.int x.1, .int x.2]) [.dat (enc p), .dat (enc q), x2, x3, x4, x5, x6, x7] = some (outD (findD p q (scanP xs)), [.dat (enc p), .dat (enc q), x2, y3, y4, y5, y6, y7])
  | [], x3, x4, x5, x6, x7, _ => ⟨x3, x4, x5, x6, x7, rfl⟩
  | x :: xs, x3, x4, x5, x6, x7, h => by
    have hx := h x (List.mem_cons_self ..)
    have s1 := small_of hx.1
    have s2 := small_cut hx.1 hx.2
    obtain ⟨y5, y6, y7, e⟩ := l_in (x2 := x2) (x3 := .dat (.int x.1)) (x4 := .dat (.int x.2)) hm hp hq (rngI x.1 (cut60 x.1 x.2)) x5 x6 x7
    rw [← intsD_eq] at e
    unfold cut60 at s2 e
    rw [scanP, findD_app]
    cases f : findD p q (rngI x.1 (cut60 x.1 x.2)) with
    | none =>
      unfold cut60 at f
      rw [f] at e
      obtain ⟨z3, z4, z5, z6, z7, e2⟩ := l_out (x2 := x2) hm hp hq xs (.dat (.int x.1)) (.dat (.int x.2)) y5 y6 y7 fun y hy => h y (List.mem_cons_of_mem _ hy)
      refine ⟨z3, z4, z5, z6, z7, ?_⟩
      simp [for_cons, l_first_difference_1, s1, s2, e, outD] at e2 ⊢
      exact e2
    | some w =>
      unfold cut60 at f
      rw [f] at e
      refine ⟨.dat (.int x.1), .dat (.int x.2), y5, y6, y7, ?_⟩
      simp [for_cons, l_first_difference_1, s1, s2, e, outD]
/-- the bounds -/
def bnds (p q : Prog) : List Int := srtI (dd (chg p ++ chg q))
def lastI (l : List Int) : Int := l.getLastD 0
def prs (l : List Int) : List (Int × Int) := l.zip (l.tail ++ [lastI l + 60])
def fd (p q : Prog) : Option (Int × Nat) := findD p q (scanP (prs (bnds p q)))
def fdD : Option (Int × Nat) → D
  | none => .none
  | some (t, i) => .tuple [.int t, .int (i : Nat)]
theorem cut1 (x : D) (xs : List D) : gSl (some 1) none (.list (x :: xs)) = some (.t xs) := by
  show some (R.t (cutD (x :: xs) (some 1) none)) = _
  unfold cutD
  rw [HT.sIx_none, show (1 : Int) = ((1 : Nat) : Int) from rfl, HT.sIx_nat]
  have : min 1 (x :: xs).length = 1 := by rw [List.length_cons]; omega
  rw [this, List.drop_succ_cons, List.drop_zero, List.length_cons, Nat.add_sub_cancel, List.take_length]
theorem ix_last (x : Int) (xs : List Int) : gIx (.list ((x :: xs).map PyData.int)) (.int (-1)) = some (.d (.int (lastI (x :: xs)))) := by
  show (atI ((x :: xs).map PyData.int) (-1)).bind _ = _
  unfold atI ixN
  rw [if_neg (by omega), if_pos (by rw [List.length_map, List.length_cons]; omega)]
  have e : ((-1 : Int) + (((x :: xs).map PyData.int).length : Nat)).toNat = (x :: xs).length - 1 := by
    rw [List.length_map, List.length_cons]
    omega
  rw [e]
  show (((x :: xs).map PyData.int)[(x :: xs).length - 1]?).bind _ = _
  rw [List.getElem?_map, ← List.getLast?_eq_getElem?, List.getLast?_cons]
  unfold lastI
  rw [List.getLastD_eq_getLast?, List.getLast?_cons]
  rfl
theorem zip_raw : ∀ (a b : List Int), List.zipWith (fun x y => rawT [x, y]) (a.map PyData.int) (b.map PyData.int) = (a.zip b).map fun x => rawT [.int x.1, .int x.2]
  | [], _ => rfl
  | _ :: _, [] => rfl
  | x :: a, y :: b => by
    rw [List.map_cons, List.map_cons, List.zipWith_cons_cons, zip_raw a b]
    rfl
theorem fd_ok {p q : Prog} {n : Nat} (hp : ok p) (hq : ok q) (wp : wt p ≤ 900) (wq : wt q ≤ 900) (cp : (chg p).length < 64) (cq : (chg q).length < 64) (cb : (bnds p q).length < 64) (b0 : ∀ b ∈ bnds p q, Sm b) (hn : max (dep p) (dep q) + 2 < n) :
    val (sem n 14) [.dat (enc p), .dat (enc q)] = some (.d (fdD (fd p q))) := by
  obtain ⟨m, rfl⟩ : ∃ m, n = m + 1 := ⟨n - 1, by omega⟩
  have g1 := chg_ok hp (by omega) cp (n := m) (by omega)
  have g2 := chg_ok hq (by omega) cq (n := m) (by omega)
  have fp : Fit m p := ⟨hp, fun t => mkd_ok hp (by omega) (by omega) t, wp⟩
  have fq : Fit m q := ⟨hq, fun t => mkd_ok hq (by omega) (by omega) t, wq⟩
  have g3 := srtsetT (ns := chg p ++ chg q) (by rw [List.length_append]; omega) cb
  rw [List.map_append] at g3
  have g4 : (chg p).length + (chg q).length ≤ 100000 := by omega
  have z0 : (0 : Int) ∈ bnds p q := by
    unfold bnds chg
    rw [srt_mem, dd_mem, List.mem_append, srt_mem, dd_mem]
    exact .inl (List.mem_cons_self ..)
  have hb : ∀ x ∈ prs (bnds p q), Sm x.1 ∧ 0 ≤ x.2 := fun x hx => by
    obtain ⟨h1, h2⟩ := List.of_mem_zip hx
    refine ⟨b0 _ h1, ?_⟩
    rcases List.mem_append.mp h2 with h2 | h2
    · exact (b0 _ (List.mem_of_mem_tail h2)).1
    · have : 0 ≤ lastI (bnds p q) := by
        unfold lastI
        rw [List.getLastD_eq_getLast?]
        cases e : (bnds p q).getLast? with
        | none => exact Int.le_refl 0
        | some y => exact (b0 y (List.mem_of_getLast? e)).1
      rw [List.mem_singleton.mp h2]
      omega
  obtain ⟨y3, y4, y5, y6, y7, e⟩ := l_out (x2 := .dat (.list ((bnds p q).map .int))) (by omega) fp fq (prs (bnds p q)) .no .no .no .no .no hb
  unfold fd
  unfold prs at e ⊢
  rw [← zip_raw] at e
  cases hbs : bnds p q with
  | nil => rw [hbs] at z0; cases z0
  | cons b bs =>
    have g5 := ix_last b bs
    have g6 := cut1 (.int b) (bs.map .int)
    rw [show srtI (dd (chg p ++ chg q)) = b :: bs from hbs] at g3
    rw [hbs] at e
    simp at g3 g5 g6 e
    have g7 : bs.length + 1 ≤ 100000 := by
      rw [hbs] at cb
      simp at cb
      omega
    have g8 := op_addl (bs.map PyData.int) [.int (lastI (b :: bs) + 60)] (by simpa using g7)
    simp [e_first_difference, b_first_difference, g1, g2, g3, g4, g5, g6, g8, gNeg, e]
    cases findD p q (scanP ((b :: bs).zip (bs ++ [lastI (b :: bs) + 60]))) with
    | none => simp [outD, fdD]
    | some w => simp [outD, fdD]
end K41
end
section
set_option maxRecDepth 100000
set_option maxHeartbeats 4000000
/-! Md: tests. -/
namespace K41
open PySem PySem.Spec L2 Z
theorem same_ok {p q : Prog} {n : Nat} (h : val (sem n 14) [.dat (enc p), .dat (enc q)] = some (.d (fdD (fd p q)))) : val (sem (n + 1) 15) [.dat (enc p), .dat (enc q)] = some (.d (.bool (fd p q).isNone)) := by
  cases e : fd p q with
  | none => simp [e_same, b_same, h, e, fdD]
  | some w => simp [e_same, b_same, h, e, fdD]
def oD : Option Int → D
  | none => .none
  | some i => .int i
def testD (b s : Option Int) : D := .tuple [oD b, oD s]
def one (c : Prop) [Decidable c] : Int := if c then 1 else 0
def tc (p : Prog) (b s : Option Int) : Option Int → Int
  | none => tot p + (if b.isSome = true then 1 else 0) + (if s.isSome = true then 1 else 0)
  | some t => cb p t + (match b with | none => 0 | some b => if fin p + b < t then 1 else 0) + (match s with | none => 0 | some s => if s < t then 1 else 0)
theorem tc_ok {p : Prog} (o : ok p) {n : Nat} (h : dep p + 1 < n) (b s t : Option Int) : val (sem n 16) [.dat (enc p), .dat (testD b s), .dat (oD t)] = some (.d (.int (tc p b s t))) := by
  obtain ⟨m, rfl⟩ : ∃ m, n = m + 1 := ⟨n - 1, by omega⟩
  have f : val (sem m 0) [.dat (enc p)] = _ := fin_ok p o m (by omega)
  have g := tot_ok p o m (by omega)
  have k := cb_ok p o m (by omega)
  cases t with
  | none => cases b <;> cases s <;> simp [e_test_count, b_test_count, testD, oD, f, g, tc]
  | some t =>
    have k := k t
    cases b with
    | none =>
      cases s with
      | none => simp [e_test_count, b_test_count, testD, oD, f, g, k, tc]
      | some s => by_cases c : s < t <;> simp [e_test_count, b_test_count, testD, oD, f, g, k, tc, c]
    | some b =>
      cases s with
      | none => by_cases c : fin p + b < t <;> simp [e_test_count, b_test_count, testD, oD, f, g, k, tc, c]
      | some s => by_cases c : s < t <;> by_cases c2 : fin p + b < t <;> simp [e_test_count, b_test_count, testD, oD, f, g, k, tc, c, c2]
/-- no gap among a part's own words -/
def nog (r : Row) : Prop := none ∉ r
theorem nog_app {r s : Row} (h : nog r) (h2 : nog s) : nog (r ++ s) := fun z => (List.mem_append.mp z).elim h h2
abbrev nogL (x : LR) : Prop := nog x.1 ∧ nog x.2
theorem nog_nil : nog [] := fun z => by cases z
theorem nog_shut {c : Bool} {x : LR} (h : nogL x) : nogL (shut c x) := by
  unfold shut
  cases c
  · exact ⟨nog_app h.1 h.2, nog_nil⟩
  · exact h
theorem nog_seq : ∀ (ps : List Prog) (t : Int) (L R : Row), nog L → nog R → (∀ p ∈ ps, ∀ t, nogL (sd p t)) → nogL (seqG (sdf ps) t L R).1
  | [], t, L, R, hL, hR, _ => ⟨hL, hR⟩
  | p :: ps, t, L, R, hL, hR, h => by
    rw [sdf, seqG]
    have e := h p (List.mem_cons_self ..) t
    split
    · exact ⟨hL, hR⟩
    · exact nog_seq ps _ _ _ (nog_app hL e.1) (nog_app e.2 hR) fun q hq => h q (List.mem_cons_of_mem _ hq)
theorem nog_bes (t k : Int) : ∀ (ps : List Prog) (i : Int) (x : LR), nogL x → (∀ p ∈ ps, ∀ t, nogL (sd p t)) → nogL (besG ((sdf ps).map fun x => x.2 t) i k x)
  | [], i, x, hx, _ => hx
  | p :: ps, i, x, hx, h => by
    rw [sdf, List.map_cons, besG]
    have e := h p (List.mem_cons_self ..) t
    refine nog_bes t k ps _ _ ?_ fun q hq => h q (List.mem_cons_of_mem _ hq)
    split
    · exact ⟨nog_app hx.1 (nog_app e.1 e.2), hx.2⟩
    · split
      · exact ⟨nog_app hx.1 e.1, e.2⟩
      · exact ⟨hx.1, nog_app hx.2 (nog_app e.1 e.2)⟩
theorem nog_sd : ∀ (p : Prog) (t : Int), nogL (sd p t) := by
  refine Prog.ind (fun w t => ?_) (fun w t => ?_) (fun p ih t => ?_) (fun ps ih t => ?_) (fun ps ih t => ?_) (fun ps ih t => ?_)
  · rw [sd]
    split
    · exact ⟨fun z => (nomatch List.mem_singleton.mp z), nog_nil⟩
    · exact ⟨nog_nil, nog_nil⟩
  · exact ⟨nog_nil, nog_nil⟩
  · rw [sd]
    exact ⟨nog_app (ih t).1 (ih t).2, nog_nil⟩
  · rw [sd]
    exact nog_shut (nog_seq ps t [] [] nog_nil nog_nil ih)
  · rw [sd]
    exact nog_shut (nog_bes _ _ ps _ _ ⟨nog_nil, nog_nil⟩ ih)
  · rw [sd]
    exact nog_shut (nog_bes _ _ ps _ _ ⟨nog_nil, nog_nil⟩ ih)
theorem flat_row (r : Row) : (r.map wd).all flatD = true := by
  rw [List.all_map]
  exact List.all_eq_true.mpr fun x _ => by cases x <;> rfl
theorem in_row (r : Row) : inD .none (r.map wd) = decide (none ∈ r) := by
  induction r with
  | nil => rfl
  | cons a r ih =>
    show (eqF (wd a) .none || inD .none (r.map wd)) = _
    rw [ih]
    cases a <;> simp [wd, eqF]
theorem gin_row (r : Row) : gIn false .none (.list (r.map wd)) = some (.d (.bool (decide (none ∈ r)))) := by
  show (if (flatD .none && (r.map wd).all flatD) = true then some (R.d (.bool (inD .none (r.map wd)))) else none) = _
  rw [flat_row, in_row]
  rfl
theorem gin_rowT (r : Row) : gIn false .none (rowD r) = some (.d (.bool (decide (none ∈ r)))) := by
  show (if (flatD .none && (r.map wd).all flatD) = true then some (R.d (.bool (inD .none (r.map wd)))) else none) = _
  rw [flat_row, in_row]
  rfl
theorem idx_row : ∀ {L : Row} (S : Row), nog L → idxD .none ((L ++ none :: S).map wd) = some L.length
  | [], S, _ => rfl
  | none :: L, S, h => absurd (List.mem_cons_self ..) h
  | some a :: L, S, h => by
    show (if eqF (wd (some a)) .none = true then some 0 else (idxD .none ((L ++ none :: S).map wd)).bind fun n => some (n + 1)) = _
    rw [idx_row S fun z => h (List.mem_cons_of_mem _ z)]
    rfl
theorem gidx_row {L : Row} (S : Row) (h : nog L) : gIdx [.none] (.list ((L ++ none :: S).map wd)) = some (.d (.int (L.length : Nat))) := by
  show (if (flatD .none && ((L ++ none :: S).map wd).all flatD) = true then (idxD .none ((L ++ none :: S).map wd)).bind fun n => some (R.d (.int (n : Nat))) else none) = _
  rw [flat_row, idx_row S h]
  rfl
theorem gidx_rowT {L : Row} (S : Row) (h : nog L) : gIdxT .none (rowD (L ++ none :: S)) = some (.d (.int (L.length : Nat))) := by
  show (if (flatD .none && ((L ++ none :: S).map wd).all flatD) = true then (idxD .none ((L ++ none :: S).map wd)).bind fun n => some (R.d (.int (n : Nat))) else none) = _
  rw [flat_row, idx_row S h]
  rfl
theorem sl_to (xs : List D) (k : Nat) (h : k ≤ xs.length) : gSl none (some (k : Nat)) (.list xs) = some (.t (xs.take k)) := by
  show some (R.t (cutD xs none (some (k : Nat)))) = _
  unfold cutD
  rw [HT.sIx_none, HT.sIx_nat, List.drop_zero, Nat.min_eq_left h, Nat.sub_zero]
theorem sl_from (xs : List D) (k : Nat) (h : k ≤ xs.length) : gSl (some (k : Nat)) none (.list xs) = some (.t (xs.drop k)) := by
  show some (R.t (cutD xs (some (k : Nat)) none)) = _
  unfold cutD
  rw [HT.sIx_none, HT.sIx_nat, Nat.min_eq_left h, List.take_of_length_le (by rw [List.length_drop]; omega)]
def trow (p : Prog) (b s : Option Int) (t : Int) : List D :=
  ((if fin p ≤ t then (sd p t).1.map wd ++ (if b = some (t - fin p) then [.int 0] else []) ++ (sd p t).2.map wd else (sd p t).1.map wd)) ++ (if s = some t then [.int 1] else [])
theorem trow_ok {p : Prog} (o : ok p) (w : wt p ≤ 90000) {n : Nat} (h : dep p + 2 < n) (b s : Option Int) (t : Int) : val (sem n 17) [.dat (enc p), .dat (testD b s), .dat (.int t)] = some (.t (trow p b s t)) := by
  obtain ⟨m, rfl⟩ : ∃ m, n = m + 1 := ⟨n - 1, by omega⟩
  have f : val (sem m 0) [.dat (enc p)] = _ := fin_ok p o m (by omega)
  have k := mkd_ok o w (n := m) (by omega) t
  have z := sz_sd p t
  have nb := nog_sd p t
  unfold sz at z
  simp only [rowD] at k
  have lb : ((sd p t).1.length : Nat) ≤ 90000 := by omega
  by_cases c : fin p ≤ t
  · have e1 : mkd p t = (sd p t).1 ++ none :: (sd p t).2 := by rw [mkd, if_pos c]; simp
    have i1 := gin_row ((sd p t).1 ++ none :: (sd p t).2)
    have i2 := gidx_row (sd p t).2 nb.1
    have i3 := sl_to (((sd p t).1 ++ none :: (sd p t).2).map wd) (sd p t).1.length (by simp)
    have i4 := sl_from (((sd p t).1 ++ none :: (sd p t).2).map wd) ((sd p t).1.length + 1) (by simp)
    have i5 : (((sd p t).1 ++ none :: (sd p t).2).map wd).take (sd p t).1.length = (sd p t).1.map wd := by
      rw [List.map_append, List.take_left' (by simp)]
    have i6 : (((sd p t).1 ++ none :: (sd p t).2).map wd).drop ((sd p t).1.length + 1) = (sd p t).2.map wd := by
      rw [List.map_append, List.map_cons, List.drop_append, List.drop_of_length_le (by simp)]
      simp
    rw [i5] at i3
    rw [i6] at i4
    rw [e1] at k
    have z1 : (sd p t).1.length + (sd p t).2.length ≤ 90000 := by omega
    simp at i1 i2 i3 i4 k
    cases b with
    | none =>
      cases s with
      | none => simp (disch := (first | (simp; done) | (simp; omega))) [e_test_row, b_test_row, testD, oD, f, k, i1, i2, i3, i4, op_addl, isL, trow, c]
      | some s => by_cases c3 : s = t <;> simp (disch := (first | (simp; done) | (simp; omega))) [e_test_row, b_test_row, testD, oD, f, k, i1, i2, i3, i4, op_addl, isL, trow, c, c3]
    | some b =>
      have q : (b = t - fin p) ↔ (fin p + b = t) := by omega
      cases s with
      | none => by_cases c2 : fin p + b = t <;> simp (disch := (first | (simp; done) | (simp; omega))) [e_test_row, b_test_row, testD, oD, f, k, i1, i2, i3, i4, op_addl, isL, trow, c, q, c2]
      | some s => by_cases c2 : fin p + b = t <;> by_cases c3 : s = t <;> simp (disch := (first | (simp; done) | (simp; omega))) [e_test_row, b_test_row, testD, oD, f, k, i1, i2, i3, i4, op_addl, isL, trow, c, q, c2, c3]
  · have e1 : mkd p t = (sd p t).1 := by rw [mkd, if_neg c]
    have i1 := gin_row (sd p t).1
    rw [decide_eq_false (show ¬ none ∈ (sd p t).1 from nb.1)] at i1
    rw [e1] at k
    cases s with
    | none => simp (disch := (first | (simp; done) | (simp; omega))) [e_test_row, b_test_row, testD, oD, f, k, i1, op_addl, isL, trow, c]
    | some s => by_cases c3 : s = t <;> simp (disch := (first | (simp; done) | (simp; omega))) [e_test_row, b_test_row, testD, oD, f, k, i1, op_addl, isL, trow, c, c3]
end K41
end
section
set_option maxRecDepth 100000
set_option maxHeartbeats 4000000
set_option exponentiation.threshold 2000
/-! Me: entries of test logs. -/
namespace K41
open PySem PySem.Spec L2 Z
theorem cG_le (c : Bool) {t1 t2 : Int} (h : t1 ≤ t2) : ∀ (ps : List Prog) (s a1 a2 : Int), a1 ≤ a2 → (∀ p ∈ ps, ∀ u v : Int, u ≤ v → cb p u ≤ cb p v) → cG c (cbf ps) t1 s a1 ≤ cG c (cbf ps) t2 s a2
  | [], s, a1, a2, ha, _ => ha
  | p :: ps, s, a1, a2, ha, hp => by
    rw [cbf, cG, cG]
    have := hp p (List.mem_cons_self ..) (t1 - s) (t2 - s) (by omega)
    exact cG_le c h ps _ _ _ (by omega) fun q hq => hp q (List.mem_cons_of_mem _ hq)
theorem cG_ge (c : Bool) (t : Int) : ∀ (ps : List Prog) (s a : Int), (∀ p ∈ ps, ∀ u : Int, 0 ≤ cb p u) → a ≤ cG c (cbf ps) t s a
  | [], s, a, _ => Int.le_refl a
  | p :: ps, s, a, hp => by
    rw [cbf, cG]
    have := hp p (List.mem_cons_self ..) (t - s)
    have := cG_ge c t ps (s + if c = true then fin p else 0) (a + cb p (t - s)) fun q hq => hp q (List.mem_cons_of_mem _ hq)
    omega
theorem cb_pos : ∀ (p : Prog) (t : Int), 0 ≤ cb p t := by
  refine Prog.ind (fun w t => ?_) (fun w t => ?_) (fun p ih t => ?_) (fun ps ih t => ?_) (fun ps ih t => ?_) (fun ps ih t => ?_)
  all_goals rw [cb]
  · split <;> omega
  · exact Int.le_refl 0
  · split
    · exact Int.le_refl 0
    · exact ih t
  · split
    · exact Int.le_refl 0
    · exact cG_ge _ t ps 0 0 ih
  · split
    · exact Int.le_refl 0
    · exact cG_ge _ t ps 0 0 ih
  · split
    · exact Int.le_refl 0
    · exact cG_ge _ t ps 0 0 ih
theorem cb_le : ∀ (p : Prog) (t1 t2 : Int), t1 ≤ t2 → cb p t1 ≤ cb p t2 := by
  refine Prog.ind (fun w t1 t2 h => ?_) (fun w t1 t2 h => ?_) (fun p ih t1 t2 h => ?_) (fun ps ih t1 t2 h => ?_) (fun ps ih t1 t2 h => ?_) (fun ps ih t1 t2 h => ?_)
  all_goals rw [cb, cb]
  · split <;> split <;> omega
  · exact Int.le_refl 0
  all_goals
    by_cases c : t2 ≤ 0
    · rw [if_pos c, if_pos (by omega)]
      exact Int.le_refl 0
    · rw [if_neg c]
      split
      · first | exact cb_pos _ _ | exact cG_ge _ _ ps 0 0 fun p _ => cb_pos p
      · first | exact ih _ _ h | exact cG_le _ h ps 0 0 0 (Int.le_refl 0) ih
theorem tc_le (p : Prog) (b s : Option Int) {t1 t2 : Int} (h : t1 ≤ t2) : tc p b s (some t1) ≤ tc p b s (some t2) := by
  have := cb_le p t1 t2 h
  cases b <;> cases s <;> simp only [tc] <;> (try split) <;> (try split) <;> (try split) <;> (try split) <;> omega
theorem wh_t {c : TM} {b : SM} {f : Nat} {s s2 : DS} (h : c s = some (true, s)) (h2 : b s = some (.nx, s2)) : whL c b (f + 1) s = whL c b f s2 := by
  show (c s).bind _ = _
  rw [h]
  simp [h2]
theorem wh_f {c : TM} {b : SM} {f : Nat} {s : DS} (h : c s = some (false, s)) : whL c b (f + 1) s = some (.nx, s) := by
  show (c s).bind _ = _
  rw [h]
  simp
theorem mul2 {i : Int} (h0 : 0 ≤ i) (h : i < 2 ^ 64) : gMul (.int i) (.int 2) = some (.d (.int (i * 2))) := by
  refine if_pos ?_
  have h1 : i.natAbs < 2 ^ 64 := by omega
  have h2 : i.natAbs.log2 ≤ 64 := by
    rcases Nat.eq_zero_or_pos i.natAbs with q | q
    · rw [q]
      decide
    · exact Nat.le_of_lt ((Nat.log2_lt (by omega)).mpr h1)
  have h3 : (2 : Int).natAbs.log2 = 1 := by decide
  omega
theorem div2 (i : Int) : gDiv (.int i) (.int 2) = some (.d (.int (i / 2))) := by
  show (if 0 < (2 : Int) ∧ (2 : Int).natAbs.log2 < 9000 then some (R.d (.int (i / 2))) else none) = _
  exact if_pos (by decide)
abbrev TcOk (m : Nat) (p : Prog) (b s : Option Int) : Prop := ∀ t : Int, val (sem m 16) [.dat (enc p), .dat (testD b s), .dat (.int t)] = some (.d (.int (tc p b s (some t))))
/-- the doubling -/
theorem w_dbl {m : Nat} {p : Prog} {b s : Option Int} {number l : Int} {x5 : Slot} (ht : TcOk m p b s) (h1 : tc p b s (some l) ≤ number) (h2 : number < tc p b s (some (l + 1))) (hl : l < 2 ^ 63) : ∀ (f : Nat) (lo hi : Int), lo ≤ l → 1 ≤ hi → (hi = 1 ∨ hi ≤ 2 * l) → l < hi * 2 ^ f →
    ∃ lo' hi', lo' ≤ l ∧ l < hi' ∧ (hi' = 1 ∨ hi' ≤ 2 * l) ∧ (lo' = lo ∨ 0 < lo') ∧ whL (c_test_entry_2 (sem m)) (l_test_entry_3 (sem m)) (f + 1) [.dat (enc p), .dat (testD b s), .dat (.int number), .dat (.int lo), .dat (.int hi), x5] =
      some (.nx, [.dat (enc p), .dat (testD b s), .dat (.int number), .dat (.int lo'), .dat (.int hi'), x5])
  | f, lo, hi, a1, a2, a3, a4 => by
    have e := ht hi
    by_cases c : tc p b s (some hi) ≤ number
    · have hh : hi ≤ l := by
        rcases Int.lt_or_le l hi with q | q
        · have := tc_le p b s (show l + 1 ≤ hi by omega)
          omega
        · exact q
      cases f with
      | zero => omega
      | succ f =>
        have e4 : hi * 2 ^ (f + 1) = hi * 2 * 2 ^ f := by rw [Int.pow_succ, Int.mul_comm (2 ^ f) 2, Int.mul_assoc]
        obtain ⟨lo', hi', b1, b2, b3, b4, b5⟩ := w_dbl (x5 := x5) ht h1 h2 hl f hi (hi * 2) hh (by omega) (.inr (by omega)) (by rw [← e4]; exact a4)
        refine ⟨lo', hi', b1, b2, b3, .inr (b4.elim (fun q => by omega) id), ?_⟩
        have m2 := mul2 (i := hi) (by omega) (by omega)
        rw [← b5]
        refine wh_t ?_ ?_
        · simp [c_test_entry_2, e, c]
        · simp [l_test_entry_3, m2]
    · refine ⟨lo, hi, a1, ?_, a3, .inl rfl, wh_f (by simp [c_test_entry_2, e, c])⟩
      rcases Int.lt_or_le l hi with q | q
      · exact q
      · have := tc_le p b s q
        omega
/-- the halving -/
theorem w_hlv {m : Nat} {p : Prog} {b s : Option Int} {number l : Int} (ht : TcOk m p b s) (h1 : tc p b s (some l) ≤ number) (h2 : number < tc p b s (some (l + 1))) : ∀ (f : Nat) (lo hi : Int) (x5 : Slot), lo ≤ l → l < hi → hi - lo ≤ 2 ^ f →
    ∃ y5, whL (c_test_entry_0 (sem m)) (l_test_entry_1 (sem m)) (f + 1) [.dat (enc p), .dat (testD b s), .dat (.int number), .dat (.int lo), .dat (.int hi), x5] =
      some (.nx, [.dat (enc p), .dat (testD b s), .dat (.int number), .dat (.int l), .dat (.int (l + 1)), y5])
  | f, lo, hi, x5, a1, a2, a3 => by
    by_cases c : 1 < hi - lo
    · cases f with
      | zero => omega
      | succ f =>
        have e4 : (2 : Int) ^ (f + 1) = 2 * 2 ^ f := by rw [Int.pow_succ, Int.mul_comm]
        have e := ht ((lo + hi) / 2)
        have d2 := div2 (lo + hi)
        by_cases c2 : tc p b s (some ((lo + hi) / 2)) ≤ number
        · have hh : (lo + hi) / 2 ≤ l := by
            rcases Int.lt_or_le l ((lo + hi) / 2) with q | q
            · have := tc_le p b s (show l + 1 ≤ (lo + hi) / 2 by omega)
              omega
            · exact q
          obtain ⟨y5, g⟩ := w_hlv ht h1 h2 f ((lo + hi) / 2) hi (.dat (.int ((lo + hi) / 2))) hh a2 (by omega)
          refine ⟨y5, ?_⟩
          rw [← g]
          refine wh_t ?_ ?_
          · simp [c_test_entry_0, c]
          · simp [l_test_entry_1, d2, e, c2]
        · have hh : l < (lo + hi) / 2 := by
            rcases Int.lt_or_le l ((lo + hi) / 2) with q | q
            · exact q
            · have := tc_le p b s q
              omega
          obtain ⟨y5, g⟩ := w_hlv ht h1 h2 f lo ((lo + hi) / 2) (.dat (.int ((lo + hi) / 2))) a1 hh (by omega)
          refine ⟨y5, ?_⟩
          rw [← g]
          refine wh_t ?_ ?_
          · simp [c_test_entry_0, c]
          · simp [l_test_entry_1, d2, e, c2]
    · have q1 : lo = l := by omega
      have q2 : hi = l + 1 := by omega
      subst q1 q2
      exact ⟨x5, wh_f (by simp [c_test_entry_0, c])⟩
theorem te_none {p : Prog} (o : ok p) {n : Nat} (h : dep p + 2 < n) {b s : Option Int} {number : Int} (hn : tc p b s none ≤ number) : val (sem n 18) [.dat (enc p), .dat (testD b s), .dat (.int number)] = some (.d .none) := by
  obtain ⟨m, rfl⟩ : ∃ m, n = m + 1 := ⟨n - 1, by omega⟩
  have e := tc_ok o (n := m) (by omega) b s none
  simp [oD] at e
  simp [e_test_entry, b_test_entry, e, hn]
theorem te_at {p : Prog} (o : ok p) (w : wt p ≤ 90000) {n : Nat} (h : dep p + 3 < n) {b s : Option Int} {number : Int} (hn : number < tc p b s none) (l : Int) (l0 : 0 ≤ l) (l1 : l < 2 ^ 63) (h1 : tc p b s (some l) ≤ number) (h2 : number < tc p b s (some (l + 1)))
    {d : D} (hd : (trow p b s l)[(number - tc p b s (some l)).toNat]? = some d) : val (sem n 18) [.dat (enc p), .dat (testD b s), .dat (.int number)] = some (.d d) := by
  obtain ⟨m, rfl⟩ : ∃ m, n = m + 1 := ⟨n - 1, by omega⟩
  have e := tc_ok o (n := m) (by omega) b s none
  have ht : TcOk m p b s := fun t => tc_ok o (n := m) (by omega) b s (some t)
  obtain ⟨lo', hi', b1, b2, b3, b4, b5⟩ := w_dbl (x5 := .no) ht h1 h2 l1 999 0 1 l0 (by omega) (.inl rfl) (by
    have : (2 : Int) ^ 63 ≤ 1 * 2 ^ 999 := by decide
    omega)
  obtain ⟨y5, b6⟩ := w_hlv ht h1 h2 999 lo' hi' .no b1 b2 (by
    have : (2 : Int) ^ 64 ≤ 2 ^ 999 := by decide
    omega)
  have r := trow_ok o w (n := m) (by omega) b s l
  have k := ht l
  have c : ¬ tc p b s none ≤ number := by omega
  have ix : gIx (.list (trow p b s l)) (.int (number - tc p b s (some l))) = some (.d d) := by
    obtain ⟨hj, _⟩ := List.getElem?_eq_some_iff.mp hd
    show (atI (trow p b s l) (number - tc p b s (some l))).bind _ = _
    unfold atI ixN
    rw [if_pos (by omega), if_pos (by omega)]
    show ((trow p b s l)[(number - tc p b s (some l)).toNat]?).bind _ = _
    rw [hd]
    rfl
  simp [oD] at e
  simp [e_test_entry, b_test_entry, e, c, b5, b6, r, k, ix]
end K41
end
section
set_option maxRecDepth 100000
set_option maxHeartbeats 4000000
/-! Mf: tellers. -/
namespace K41
open PySem PySem.Spec L2 Z
section
variable (i : Int) (b : Bool) (w : Str) (xs : List D)
@[simp] theorem ii_int : gIsi "int" (.int i) = some (.d (.bool true)) := by rfl
@[simp] theorem ib_int : gIsi "bool" (.int i) = some (.d (.bool false)) := by rfl
@[simp] theorem ib_bool : gIsi "bool" (.bool b) = some (.d (.bool true)) := by rfl
@[simp] theorem ib_none : gIsi "bool" .none = some (.d (.bool false)) := by rfl
@[simp] theorem ib_tup : gIsi "bool" (.tuple xs) = some (.d (.bool false)) := by rfl
@[simp] theorem ib_list : gIsi "bool" (.list xs) = some (.d (.bool false)) := by rfl
@[simp] theorem it_int : gIsi "tuple" (.int i) = some (.d (.bool false)) := by rfl
@[simp] theorem it_none : gIsi "tuple" .none = some (.d (.bool false)) := by rfl
@[simp] theorem it_tup : gIsi "tuple" (.tuple xs) = some (.d (.bool true)) := by rfl
@[simp] theorem it_list : gIsi "tuple" (.list xs) = some (.d (.bool false)) := by rfl
@[simp] theorem il_int : gIsi "list" (.int i) = some (.d (.bool false)) := by rfl
@[simp] theorem il_none : gIsi "list" .none = some (.d (.bool false)) := by rfl
@[simp] theorem il_tup : gIsi "list" (.tuple xs) = some (.d (.bool false)) := by rfl
@[simp] theorem il_list : gIsi "list" (.list xs) = some (.d (.bool true)) := by rfl
end
def kixT (b : XM) : R × DS → Option (R × DS) := fun p => (rv p.2 p.1).bind fun dx => (isTp dx).bind fun _ => (b p.2).bind fun q => (rv q.2 q.1).bind fun dy => (gIdxT dy dx).bind fun z => some (z, q.2)
@[simp] theorem ap_xidxT (a b : XM) (s : DS) : xidxT a b s = (a s).bind (kixT b) := rfl
@[simp] theorem ap_kixT (b : XM) (r : R) (s : DS) : kixT b (r, s) = (rv s r).bind fun dx => (isTp dx).bind fun _ => (b s).bind fun q => (rv q.2 q.1).bind fun dy => (gIdxT dy dx).bind fun z => some (z, q.2) := rfl
theorem isn_ok {n : Nat} (h : 0 < n) (i : Int) : val (sem n 7) [.dat (.int i)] = some (.d (.bool (decide (0 ≤ i)))) := by
  obtain ⟨m, rfl⟩ : ∃ m, n = m + 1 := ⟨n - 1, by omega⟩
  simp [e_is_number, b_is_number]
def okN : Option Int → Bool
  | none => true
  | some i => decide (0 ≤ i)
theorem ist_ok {n : Nat} (h : 1 < n) (b s : Option Int) : val (sem n 20) [.dat (testD b s)] = some (.d (.bool (okN b && okN s))) := by
  obtain ⟨m, rfl⟩ : ∃ m, n = m + 1 := ⟨n - 1, by omega⟩
  have e : cmpL 1 (gn 1 1) tyes (q_is_test_0 (sem m)) [1] ([b, s].map oD) [] [.dat (testD b s), .no] = some ([] ++ [b, s].map (fun o => PyData.bool (okN o)), [.dat (testD b s), .no]) := by
    refine cmp_map oD (fun o => .bool (okN o)) (by simp) (by decide) rfl [b, s] [] (by simp) fun o _ => ?_
    cases o with
    | none => simp [q_is_test_0, oD, okN]
    | some i => simp [q_is_test_0, oD, okN, isn_ok (show 0 < m by omega) i]
  have a : gAll [.list [.bool (okN b), .bool (okN s)]] = some (.d (.bool (okN b && okN s))) := by
    have := op_all [okN b, okN s]
    simpa using this
  simp [testD] at e
  simp [e_is_test, b_is_test, testD, e, a]
theorem st_ok {p q : Prog} {n : Nat} {b s : Option Int} {k : Int} {d1 d2 : D} {r : Bool} (h : 1 < n) (hb : okN b = true) (hs : okN s = true) (hk : 0 ≤ k) (h1 : val (sem n 18) [.dat (enc p), .dat (testD b s), .dat (.int k)] = some (.d d1)) (h2 : val (sem n 18) [.dat (enc q), .dat (testD b s), .dat (.int k)] = some (.d d2))
    (he : gEq true d1 d2 = some (.d (.bool r))) : val (sem (n + 1) 21) [.dat (enc p), .dat (enc q), .dat (.tuple [testD b s, .int k])] = some (.d (.bool r)) := by
  have e1 := ist_ok h b s
  rw [hb, hs] at e1
  have e2 := isn_ok (show 0 < n by omega) k
  rw [decide_eq_true hk] at e2
  simp at e1
  simp [e_shows_teller, b_shows_teller, e1, e2, h1, h2, he]
/-! ### teller -/
def gp (p : Prog) (t : Int) : Option Int := if fin p ≤ t then some ((sd p t).1.length : Nat) else none
theorem gp_in (p : Prog) (t : Int) : gIn false .none (rowD (mkd p t)) = some (.d (.bool (gp p t).isSome)) := by
  rw [gin_rowT]
  unfold gp mkd
  by_cases c : fin p ≤ t
  · simp [c]
  · simp [c]
    exact (nog_sd p t).1
theorem gp_ix {p : Prog} {t : Int} (c : fin p ≤ t) : gIdxT .none (rowD (mkd p t)) = some (.d (.int ((sd p t).1.length : Nat))) := by
  have e : mkd p t = (sd p t).1 ++ none :: (sd p t).2 := by rw [mkd, if_pos c]; simp
  rw [e]
  exact gidx_rowT _ (nog_sd p t).1
theorem slT_to (xs : List D) (k : Nat) (h : k ≤ xs.length) : gSl none (some (k : Nat)) (.tuple xs) = some (.d (.tuple (xs.take k))) := by
  show some (R.d (.tuple (cutD xs none (some (k : Nat))))) = _
  unfold cutD
  rw [HT.sIx_none, HT.sIx_nat, List.drop_zero, Nat.min_eq_left h, Nat.sub_zero]
theorem fu_le : ∀ (r s : Row), fu r s ≤ r.length
  | x :: r, y :: s => by
    rw [fu]
    split
    · have := fu_le r s
      simpa using this
    · omega
  | [], s => by rw [fu_nil (.inl rfl)]; omega
  | x :: r, [] => by rw [fu_nil (.inr rfl)]; omega
theorem fd_fu {p q : Prog} : ∀ {ts : List Int} {t : Int} {i : Nat}, findD p q ts = some (t, i) → i = fu (mkd p t) (mkd q t)
  | [], _, _, e => by cases e
  | u :: ts, t, i, e => by
    rw [findD] at e
    split at e
    · exact fd_fu e
    · cases e
      rfl
def tlD (p q : Prog) (t : Int) (i : Nat) : D :=
  if gp p t = some (i : Int) ∨ gp q t = some (i : Int) then .tuple [testD (some (t - (if fin q < fin p then fin q else fin p))) (some t), .int (cb p t + i)]
  else .tuple [testD none (some t), .int (cb p t + (i - (if none ∈ (mkd p t).take i then 1 else 0)))]
theorem tl_none {p q : Prog} {n : Nat} (h : val (sem n 14) [.dat (enc p), .dat (enc q)] = some (.d (fdD (fd p q)))) (e : fd p q = none) : val (sem (n + 1) 19) [.dat (enc p), .dat (enc q)] = some (.d .none) := by
  rw [e] at h
  simp [fdD] at h
  simp [e_teller, b_teller, h]
theorem tl_ok {p q : Prog} {n : Nat} (op : ok p) (oq : ok q) (wp : wt p ≤ 900) (wq : wt q ≤ 900) (hn : max (dep p) (dep q) + 2 < n) {t : Int} {i : Nat} (h : val (sem n 14) [.dat (enc p), .dat (enc q)] = some (.d (fdD (fd p q)))) (e : fd p q = some (t, i)) :
    val (sem (n + 1) 19) [.dat (enc p), .dat (enc q)] = some (.d (tlD p q t i)) := by
  rw [e] at h
  have f1 : val (sem n 0) [.dat (enc p)] = _ := fin_ok p op n (by omega)
  have f2 : val (sem n 0) [.dat (enc q)] = _ := fin_ok q oq n (by omega)
  have k1 := mkd_ok op (by omega) (n := n) (by omega) t
  have k2 := mkd_ok oq (by omega) (n := n) (by omega) t
  have c1 := cb_ok p op n (by omega) t
  have g1 := gp_in p t
  have g2 := gp_in q t
  have hi : i ≤ ((mkd p t).map wd).length := by
    rw [fd_fu e, List.length_map]
    exact fu_le _ _
  have s1 := slT_to ((mkd p t).map wd) i hi
  have n1 := gin_rowT ((mkd p t).take i)
  simp only [rowD, List.map_take] at k1 k2 g1 g2 n1 s1
  simp [fdD] at h
  unfold tlD
  by_cases a1 : fin p ≤ t
  · have i1 := gp_ix a1
    have p1 : gp p t = some ((sd p t).1.length : Int) := if_pos a1
    by_cases a2 : fin q ≤ t
    · have i2 := gp_ix a2
      have p2 : gp q t = some ((sd q t).1.length : Int) := if_pos a2
      simp only [rowD] at i1 i2
      rw [p1] at g1
      rw [p2] at g2
      rw [p1, p2]
      simp at g1 g2
      by_cases z1 : (sd p t).1.length = i
      · simp [e_teller, b_teller, h, f1, f2, k1, k2, c1, g1, g2, isTp, s1, n1, testD, oD, i1, i2, z1]
      · have y1 : ¬ ((sd p t).1.length : Int) = i := by omega
        by_cases z2 : (sd q t).1.length = i
        · simp [e_teller, b_teller, h, f1, f2, k1, k2, c1, g1, g2, isTp, s1, n1, testD, oD, i1, i2, z1, z2, y1]
        · have y2 : ¬ ((sd q t).1.length : Int) = i := by omega
          by_cases z3 : none ∈ (mkd p t).take i <;> simp [e_teller, b_teller, h, f1, f2, k1, k2, c1, g1, g2, isTp, s1, n1, testD, oD, i1, i2, z1, z2, z3, y1, y2]
    · have p2 : gp q t = none := if_neg a2
      simp only [rowD] at i1
      rw [p1] at g1
      rw [p2] at g2
      rw [p1, p2]
      simp at g1 g2
      by_cases z1 : (sd p t).1.length = i
      · simp [e_teller, b_teller, h, f1, f2, k1, k2, c1, g1, g2, isTp, s1, n1, testD, oD, i1, z1]
      · have y1 : ¬ ((sd p t).1.length : Int) = i := by omega
        by_cases z3 : none ∈ (mkd p t).take i <;> simp [e_teller, b_teller, h, f1, f2, k1, k2, c1, g1, g2, isTp, s1, n1, testD, oD, i1, z1, z3, y1]
  · have p1 : gp p t = none := if_neg a1
    rw [p1] at g1
    rw [p1]
    simp at g1
    by_cases a2 : fin q ≤ t
    · have i2 := gp_ix a2
      have p2 : gp q t = some ((sd q t).1.length : Int) := if_pos a2
      simp only [rowD] at i2
      rw [p2] at g2
      rw [p2]
      simp at g2
      by_cases z2 : (sd q t).1.length = i
      · simp [e_teller, b_teller, h, f1, f2, k1, k2, c1, g1, g2, isTp, s1, n1, testD, oD, i2, z2]
      · have y2 : ¬ ((sd q t).1.length : Int) = i := by omega
        by_cases z3 : none ∈ (mkd p t).take i <;> simp [e_teller, b_teller, h, f1, f2, k1, k2, c1, g1, g2, isTp, s1, n1, testD, oD, i2, z2, z3, y2]
    · have p2 : gp q t = none := if_neg a2
      rw [p2] at g2
      rw [p2]
      simp at g2
      by_cases z3 : none ∈ (mkd p t).take i <;> simp [e_teller, b_teller, h, f1, f2, k1, k2, c1, g1, g2, isTp, s1, n1, testD, oD, z3]
end K41
end
section
set_option maxRecDepth 100000
set_option maxHeartbeats 4000000
/-! Mg: where the first difference lies; the race and the join. -/
namespace K41
open PySem PySem.Spec L2 Z
theorem len_sub {α : Type} [DecidableEq α] : ∀ {xs S : List α}, xs.Nodup → (∀ x ∈ xs, x ∈ S) → xs.length ≤ S.length
  | [], S, _, _ => Nat.zero_le _
  | x :: xs, S, h, hs => by
    obtain ⟨h1, h2⟩ := List.nodup_cons.mp h
    have m := hs x (List.mem_cons_self ..)
    have := len_sub (S := S.erase x) h2 fun y hy => (List.mem_erase_of_ne (fun e : y = x => h1 (by rw [← e]; exact hy))).mpr (hs y (List.mem_cons_of_mem _ hy))
    rw [List.length_erase_of_mem m] at this
    have := List.length_pos_of_mem m
    rw [List.length_cons]
    omega
theorem few {ns S : List Int} (h : ∀ x ∈ ns, x ∈ S) : (srtI (dd ns)).length ≤ S.length := len_sub (srt_nodup _ (dd_nodup ns)) fun x hx => h x (dd_mem.mp (srt_mem.mp hx))
theorem prs2 (b c : Int) (r : List Int) : prs (b :: c :: r) = (b, c) :: prs (c :: r) := by
  unfold prs lastI
  simp
theorem findD_none {p q : Prog} : ∀ {ts : List Int}, (∀ t ∈ ts, mkd p t = mkd q t) → findD p q ts = none
  | [], _ => rfl
  | t :: ts, h => by rw [findD, if_pos (h t (List.mem_cons_self ..)), findD_none fun u hu => h u (List.mem_cons_of_mem _ hu)]
theorem rng_mem {b e t : Int} (h : t ∈ rngI b e) : b ≤ t ∧ t < e := by
  unfold rngI at h
  obtain ⟨k, hk, rfl⟩ := List.mem_map.mp h
  have := List.mem_range.mp hk
  omega
theorem rng_hd {b e : Int} (h : b < e) : ∃ r, rngI b e = b :: r := by
  unfold rngI
  obtain ⟨k, hk⟩ : ∃ k, (e - b).toNat = k + 1 := ⟨(e - b).toNat - 1, by omega⟩
  rw [hk, List.range_succ_eq_map]
  exact ⟨(List.range k).map ((fun k : Nat => b + (k : Int)) ∘ Nat.succ), by simp⟩
theorem find_at {p q : Prog} {t0 : Int} (hne : mkd p t0 ≠ mkd q t0) : ∀ (bs : List Int), bs.Pairwise (· < ·) → t0 ∈ bs → (∀ b ∈ bs, 0 ≤ b) → (∀ t, 0 ≤ t → t < t0 → mkd p t = mkd q t) → findD p q (scanP (prs bs)) = some (t0, fu (mkd p t0) (mkd q t0))
  | [], _, h, _, _ => by cases h
  | [b], _, h, h0, he => by
    have : t0 = b := List.mem_singleton.mp h
    subst this
    obtain ⟨r, e⟩ := rng_hd (b := t0) (e := cut60 t0 (t0 + 60)) (by unfold cut60; split <;> omega)
    have e2 : prs [t0] = [(t0, t0 + 60)] := by simp [prs, lastI]
    rw [e2, scanP, e, List.cons_append, findD, if_neg hne]
  | b :: c :: r, hs, h, h0, he => by
    obtain ⟨h1, h2⟩ := List.pairwise_cons.mp hs
    have hc := h1 c (List.mem_cons_self ..)
    rw [prs2, scanP]
    rcases List.mem_cons.mp h with e | h
    · subst e
      obtain ⟨r, e⟩ := rng_hd (b := t0) (e := cut60 t0 c) (by unfold cut60; split <;> omega)
      show findD p q (rngI t0 (cut60 t0 c) ++ _) = _
      rw [e, List.cons_append, findD, if_neg hne]
    · have hct : c ≤ t0 := by
        rcases List.mem_cons.mp h with e | h
        · omega
        · have := (List.pairwise_cons.mp h2).1 t0 h
          omega
      have n : findD p q (rngI b (cut60 b c)) = none := findD_none fun t ht => by
        obtain ⟨a1, a2⟩ := rng_mem ht
        have := h0 b (List.mem_cons_self ..)
        refine he t (by omega) ?_
        unfold cut60 at a2
        split at a2 <;> omega
      show findD p q (rngI b (cut60 b c) ++ _) = _
      rw [findD_app, n]
      exact find_at hne (c :: r) h2 h (fun y hy => h0 y (List.mem_cons_of_mem _ hy)) he
/-- two programs that can be compared: all that first_difference asks -/
structure Pair (p q : Prog) : Prop where
  op : ok p
  oq : ok q
  wp : wt p ≤ 900
  wq : wt q ≤ 900
  cp : (chg p).length < 64
  cq : (chg q).length < 64
  cb : (bnds p q).length < 64
  b0 : ∀ b ∈ bnds p q, Sm b
  d : max (dep p) (dep q) ≤ 10
theorem Pair.of {p q : Prog} {S : List Int} (op : ok p) (oq : ok q) (wp : wt p ≤ 900) (wq : wt q ≤ 900) (d : max (dep p) (dep q) ≤ 10) (l : S.length < 64) (h : ∀ x ∈ S, Sm x) (hp : ∀ x ∈ 0 :: fin p :: mom p 0, x ∈ S) (hq : ∀ x ∈ 0 :: fin q :: mom q 0, x ∈ S) : Pair p q := by
  have c1 : ∀ x ∈ chg p, x ∈ S := fun x hx => hp x (dd_mem.mp (srt_mem.mp hx))
  have c2 : ∀ x ∈ chg q, x ∈ S := fun x hx => hq x (dd_mem.mp (srt_mem.mp hx))
  have c3 : ∀ x ∈ chg p ++ chg q, x ∈ S := fun x hx => (List.mem_append.mp hx).elim (c1 x) (c2 x)
  exact ⟨op, oq, wp, wq, Nat.lt_of_le_of_lt (few hp) l, Nat.lt_of_le_of_lt (few hq) l, Nat.lt_of_le_of_lt (few c3) l, fun b hb => h b (c3 b (dd_mem.mp (srt_mem.mp hb))), d⟩
theorem Pair.swap {p q : Prog} (h : Pair p q) : Pair q p := by
  have e : bnds q p = bnds p q := lt_unique (srt_lt _ (dd_nodup _)) (srt_lt _ (dd_nodup _)) fun k => by
    unfold bnds
    rw [srt_mem, srt_mem, dd_mem, dd_mem, List.mem_append, List.mem_append]
    exact or_comm
  exact ⟨h.oq, h.op, h.wq, h.wp, h.cq, h.cp, e ▸ h.cb, e ▸ h.b0, by have := h.d; omega⟩
theorem Pair.run {p q : Prog} (h : Pair p q) {n : Nat} (hn : 13 < n) : val (sem n 14) [.dat (enc p), .dat (enc q)] = some (.d (fdD (fd p q))) :=
  fd_ok h.op h.oq h.wp h.wq h.cp h.cq h.cb h.b0 (by have := h.d; omega)
theorem Pair.at {p q : Prog} (h : Pair p q) {t0 : Int} (hb : t0 ∈ 0 :: fin p :: mom p 0 ∨ t0 ∈ 0 :: fin q :: mom q 0) (he : ∀ t, 0 ≤ t → t < t0 → mkd p t = mkd q t) (hne : mkd p t0 ≠ mkd q t0) : fd p q = some (t0, fu (mkd p t0) (mkd q t0)) := by
  refine find_at hne (bnds p q) (srt_lt _ (dd_nodup _)) ?_ (fun b hb => (h.b0 b hb).1) he
  unfold bnds
  rw [srt_mem, dd_mem, List.mem_append]
  exact hb.imp (fun z => srt_mem.mpr (dd_mem.mpr z)) fun z => srt_mem.mpr (dd_mem.mpr z)
/-! ### the race and the join of the same parts -/
abbrev wa : Str := "a"
abbrev wb : Str := "b"
abbrev wz : Str := "z"
def lft (m : Int) : Prog := .seq [.log wa, .await m]
def rgt (m : Int) : Prog := .seq [.await m, .log wb]
def fast (m : Int) : Prog := .race [lft m, rgt m]
def slow (m : Int) : Prog := .join [lft m, rgt m]
section
variable {m : Int} (h1 : 1 ≤ m) (h2 : m ≤ 10 ^ 18)
include h1
theorem sd_lft (t : Int) : sd (lft m) t = if t = 0 then ([some wa], []) else ([], []) := by
  by_cases c : t = 0
  · subst c
    have : ¬ m ≤ 0 := by omega
    simp [lft, sd, sdf, seqG, fin, shut, this]
  · by_cases c2 : t < 0
    · have : ¬ 0 ≤ t := by omega
      simp [lft, sd, sdf, seqG, shut, c, c2, this]
    · simp [lft, sd, sdf, seqG, fin, shut, c, c2]
theorem sd_rgt (t : Int) : sd (rgt m) t = if t = m then ([some wb], []) else ([], []) := by
  by_cases c2 : t < 0
  · have : ¬ 0 ≤ t := by omega
    have : ¬ t = m := by omega
    simp [rgt, sd, sdf, seqG, shut, c2, *]
  · by_cases c3 : t < m
    · have e1 : t - m < 0 := by omega
      have e2 : ¬ t = m := by omega
      simp [rgt, sd, sdf, seqG, fin, shut, c2, e1, e2]
    · have e1 : ¬ t - m < 0 := by omega
      by_cases c : t = m
      · subst c
        simp [rgt, sd, sdf, seqG, fin, shut, c2]
      · have e2 : ¬ t - m = 0 := by omega
        simp [rgt, sd, sdf, seqG, fin, shut, c2, e1, e2, c]
theorem fin_lft : fin (lft m) = m := by simp [lft, fin, fins]
theorem fin_rgt : fin (rgt m) = m := by simp [rgt, fin, fins]
theorem fins_lr : fins [lft m, rgt m] = [m, m] := by rw [fins, fins, fins, fin_lft h1, fin_rgt h1]
theorem fin_fast : fin (fast m) = m := by rw [fast, fin, fins_lr h1]; simp [minL]
theorem fin_slow : fin (slow m) = m := by rw [slow, fin, fins_lr h1]; simp [maxL]
theorem sd_fast (t : Int) : sd (fast m) t = if t = 0 then ([some wa], []) else if t = m then ([], [some wb]) else ([], []) := by
  have k : keyR [m, m] = 0 := by simp [keyR, minL, idxI]
  rw [fast, sd, fins_lr h1, k]
  simp only [sdf, List.map_cons, List.map_nil, sd_lft h1, sd_rgt h1, besG]
  by_cases c : t = 0
  · subst c
    have e1 : ¬ (0 : Int) = m := by omega
    have e2 : ¬ m ≤ 0 := by omega
    simp [shut, e1, e2]
  · by_cases c2 : t = m
    · subst c2
      simp [shut, c]
    · by_cases c3 : m ≤ t <;> simp [shut, c, c2, c3]
theorem sd_slow (t : Int) : sd (slow m) t = if t = 0 then ([some wa], []) else if t = m then ([some wb], []) else ([], []) := by
  have k : keyJ [m, m] = 1 := by simp [keyJ, maxL, idxI]
  rw [slow, sd, fins_lr h1, k]
  simp only [sdf, List.map_cons, List.map_nil, sd_lft h1, sd_rgt h1, besG]
  by_cases c : t = 0
  · subst c
    have e1 : ¬ (0 : Int) = m := by omega
    have e2 : ¬ m ≤ 0 := by omega
    simp [shut, e1, e2]
  · by_cases c2 : t = m
    · subst c2
      simp [shut, c]
    · by_cases c3 : m ≤ t <;> simp [shut, c, c2, c3]
end
end K41
end
section
set_option maxRecDepth 100000
set_option maxHeartbeats 4000000
/-! Mh: _law_gaps_right. -/
namespace K41
open PySem PySem.Spec L2 Z
mutual
theorem eqv_self : ∀ d : D, PyData.canLay0 d = true → PyData.eqv d d = true
  | .none, _ => rfl
  | .bool b, _ => by simp [PyData.eqv]
  | .int i, _ => by simp [PyData.eqv]
  | .str x, _ => by simp [PyData.eqv]
  | .list xs, h => by
    rw [PyData.eqv]
    exact eqvs_self xs (by simpa [PyData.canLay0] using h)
  | .tuple xs, h => by
    rw [PyData.eqv]
    exact eqvs_self xs (by simpa [PyData.canLay0] using h)
  | .dict _, h => by simp [PyData.canLay0] at h
theorem eqvs_self : ∀ ds : List D, PyData.canLayAll0 ds = true → PyData.eqvAll ds ds = true
  | [], _ => rfl
  | d :: ds, h => by
    have h' : PyData.canLay0 d = true ∧ PyData.canLayAll0 ds = true := by simpa [PyData.canLayAll0] using h
    rw [PyData.eqvAll, eqv_self d h'.1, eqvs_self ds h'.2]
    rfl
end
theorem eq_self (n : Bool) {x : D} (h : SeqAt.shaped x = true) (hs : scalD x x = none) : gEq n x x = some (.d (.bool (!n))) := by
  have c : PyData.canLay0 x = true := by
    unfold SeqAt.shaped at h
    rw [Bool.and_eq_true] at h
    exact h.1
  unfold gEq
  rw [hs]
  show (if (SeqAt.shaped x && SeqAt.shaped x) = true then some (R.d (.bool (if n = true then !PyData.eqv x x else PyData.eqv x x))) else none) = _
  rw [h, eqv_self x c]
  cases n <;> rfl
theorem cmp_nil (np : Nat) (tg : D → DS → Option DS) (tt : TM) (elt : XM) (vs : List Nat) (acc : List D) (s : DS) : cmpL np tg tt elt vs [] acc s = some (acc, s) := rfl
theorem cmp_cons (np : Nat) (tg : D → DS → Option DS) (elt : XM) (vs : List Nat) (x : D) (xs acc : List D) (s : DS) : cmpL np tg tyes elt vs (x :: xs) acc s = (tg x s).bind fun s1 => (elt s1).bind fun q => (fz np q.2 q.1).bind fun w => if acc.length < 100000 then cmpL np tg tyes elt vs xs (acc ++ [w.1]) (wipeD w.2 vs) else none := by
  show (tg x s).bind _ = _
  cases tg x s with
  | none => rfl
  | some s1 => rfl
theorem la : PyData.canLay0 (.str wa) = true := by decide +kernel
theorem lb : PyData.canLay0 (.str wb) = true := by decide +kernel
theorem lz : PyData.canLay0 (.str wz) = true := by decide +kernel
section
variable {m : Int} (h1 : 1 ≤ m) (h2 : m ≤ 10 ^ 18)
include h1
theorem ok_lft : ok (lft m) := by
  have : 0 ≤ m := by omega
  simp [ok, oks, lft, la, this]
theorem ok_rgt : ok (rgt m) := by
  have : 0 ≤ m := by omega
  simp [ok, oks, rgt, lb, this]
theorem ok_fast : ok (fast m) := by simp [fast, ok, oks, ok_lft h1, ok_rgt h1]
theorem ok_slow : ok (slow m) := by simp [slow, ok, oks, ok_lft h1, ok_rgt h1]
theorem cb_lft (t : Int) : cb (lft m) t = if t ≤ 0 then 0 else 1 := by
  by_cases c : t ≤ 0 <;> simp [lft, cb, cbf, cG, c]
theorem cb_rgt (t : Int) : cb (rgt m) t = if t ≤ m then 0 else 1 := by
  by_cases c : t ≤ 0
  · have : t ≤ m := by omega
    simp [rgt, cb, cbf, cG, c, this]
  · by_cases c2 : t ≤ m
    · have : t - m ≤ 0 := by omega
      simp [rgt, cb, cbf, cG, fin, c, c2, this]
    · have : ¬ t - m ≤ 0 := by omega
      simp [rgt, cb, cbf, cG, fin, c, c2, this]
theorem cb_fast (t : Int) : cb (fast m) t = if t ≤ 0 then 0 else 1 + if t ≤ m then 0 else 1 := by
  by_cases c : t ≤ 0 <;> simp [fast, cb, cbf, cG, cb_lft h1, cb_rgt h1, c]
theorem cb_slow (t : Int) : cb (slow m) t = if t ≤ 0 then 0 else 1 + if t ≤ m then 0 else 1 := by
  by_cases c : t ≤ 0 <;> simp [slow, cb, cbf, cG, cb_lft h1, cb_rgt h1, c]
theorem tot_fast : tot (fast m) = 2 := by simp [fast, lft, rgt, tot, tots]
theorem tot_slow : tot (slow m) = 2 := by simp [slow, lft, rgt, tot, tots]
theorem mom_fast : mom (fast m) 0 = [0, 1, m, m + 1] := by simp [fast, lft, rgt, mom, momf, mG, fin]
theorem mom_slow : mom (slow m) 0 = [0, 1, m, m + 1] := by simp [slow, lft, rgt, mom, momf, mG, fin]
include h2
theorem pair_fs : Pair (fast m) (slow m) := by
  refine Pair.of (S := [0, 1, m, m + 1]) (ok_fast h1) (ok_slow h1) (by simp [fast, lft, rgt, wt, wts]) (by simp [slow, lft, rgt, wt, wts]) (by simp [fast, slow, lft, rgt, dep, deps]) (by simp) (fun x hx => ?_) (fun x hx => ?_) (fun x hx => ?_)
  · simp at hx
    unfold Sm
    omega
  · rw [fin_fast h1, mom_fast h1] at hx
    simp at hx ⊢
    omega
  · rw [fin_slow h1, mom_slow h1] at hx
    simp at hx ⊢
    omega
theorem mk_fast : mkd (fast m) m = [none, some wb] := by
  have : ¬ m = 0 := by omega
  simp [mkd, fin_fast h1, sd_fast h1, this]
theorem mk_slow : mkd (slow m) m = [some wb, none] := by
  have : ¬ m = 0 := by omega
  simp [mkd, fin_slow h1, sd_slow h1, this]
theorem mk_ahead (t : Int) (ht : t < m) : mkd (fast m) t = mkd (slow m) t := by
  have e : ¬ m ≤ t := by omega
  have e2 : ¬ t = m := by omega
  simp [mkd, fin_slow h1, sd_slow h1, fin_fast h1, sd_fast h1, e, e2]
theorem fd_fs : fd (fast m) (slow m) = some (m, 0) := by
  have e := (pair_fs h1 h2).at (t0 := m) (.inl (by rw [fin_fast h1]; simp)) (fun t _ ht => mk_ahead h1 h2 t ht) (by rw [mk_fast h1 h2, mk_slow h1 h2]; simp)
  rw [e, mk_fast h1 h2, mk_slow h1 h2]
  rfl
theorem fd_sf : fd (slow m) (fast m) = some (m, 0) := by
  have e := (pair_fs h1 h2).swap.at (t0 := m) (.inr (by rw [fin_fast h1]; simp)) (fun t _ ht => (mk_ahead h1 h2 t ht).symm) (by rw [mk_fast h1 h2, mk_slow h1 h2]; simp)
  rw [e, mk_fast h1 h2, mk_slow h1 h2]
  rfl

theorem cbm_fast : cb (fast m) m = 1 := by
  have : ¬ m ≤ 0 := by omega
  simp [cb_fast h1, this]
theorem cbm1_fast : cb (fast m) (m + 1) = 2 := by
  have : ¬ m + 1 ≤ 0 := by omega
  have : ¬ m + 1 ≤ m := by omega
  simp [cb_fast h1, *]
theorem cb0_fast : cb (fast m) 0 = 0 := by simp [cb_fast h1]
theorem cb1_fast : cb (fast m) 1 = 1 := by simp [cb_fast h1, show (1 : Int) ≤ m from h1]
theorem te_fast {n : Nat} (hn : 13 < n) (b s : Option Int) (k l c c2 : Int) (l0 : 0 ≤ l) (l1 : l ≤ m) (hk : k < tc (fast m) b s none) (e1 : tc (fast m) b s (some l) = c) (e2 : tc (fast m) b s (some (l + 1)) = c2) (hl : c ≤ k) (hr : k < c2) {row : List D} (er : trow (fast m) b s l = row) {d : D} (hd : row[(k - c).toNat]? = some d) :
    val (sem n 18) [.dat (enc (fast m)), .dat (testD b s), .dat (.int k)] = some (.d d) :=
  te_at (ok_fast h1) (by simp [fast, lft, rgt, wt, wts]) (by simp [fast, lft, rgt, dep, deps]; omega) hk l l0 (by omega) (by rw [e1]; exact hl) (by rw [e2]; exact hr) (by rw [er, e1]; exact hd)

theorem cbm_slow : cb (slow m) m = 1 := by
  have : ¬ m ≤ 0 := by omega
  simp [cb_slow h1, this]
theorem cbm1_slow : cb (slow m) (m + 1) = 2 := by
  have : ¬ m + 1 ≤ 0 := by omega
  have : ¬ m + 1 ≤ m := by omega
  simp [cb_slow h1, *]
theorem cb0_slow : cb (slow m) 0 = 0 := by simp [cb_slow h1]
theorem cb1_slow : cb (slow m) 1 = 1 := by simp [cb_slow h1, show (1 : Int) ≤ m from h1]
theorem te_slow {n : Nat} (hn : 13 < n) (b s : Option Int) (k l c c2 : Int) (l0 : 0 ≤ l) (l1 : l ≤ m) (hk : k < tc (slow m) b s none) (e1 : tc (slow m) b s (some l) = c) (e2 : tc (slow m) b s (some (l + 1)) = c2) (hl : c ≤ k) (hr : k < c2) {row : List D} (er : trow (slow m) b s l = row) {d : D} (hd : row[(k - c).toNat]? = some d) :
    val (sem n 18) [.dat (enc (slow m)), .dat (testD b s), .dat (.int k)] = some (.d d) :=
  te_at (ok_slow h1) (by simp [slow, lft, rgt, wt, wts]) (by simp [slow, lft, rgt, dep, deps]; omega) hk l l0 (by omega) (by rw [e1]; exact hl) (by rw [e2]; exact hr) (by rw [er, e1]; exact hd)
theorem fast_1_0 {n : Nat} (hn : 13 < n) : val (sem n 18) [.dat (enc (fast m)), .dat (testD (some 0) (some m)), .dat (.int 0)] = some (.d (.str wa)) := by
  have a1 : ¬ m = 0 := by omega
  have a2 : ¬ m < 1 := by omega
  have a3 : ¬ m < 0 := by omega
  have a4 : ¬ m ≤ 0 := by omega
  have a5 : m < m + 1 := by omega
  have a6 : ¬ m + 1 < m := by omega
  refine te_fast h1 h2 hn (some 0) (some m) 0 0 0 1 (by omega) (by omega) ?_ ?_ ?_ (by decide) (by decide) (row := [.str wa]) ?_ rfl
  · simp [tc, tot_fast h1]
  · simp [tc, cbm_fast h1 h2, cb0_fast h1 h2, fin_fast h1, a2, a3, a6]
  · simp [tc, cbm1_fast h1 h2, cb1_fast h1 h2, fin_fast h1, a2, a3, a5]
  · simp [trow, fin_fast h1, sd_fast h1, a1, a4, wd]
theorem fast_1_1 {n : Nat} (hn : 13 < n) : val (sem n 18) [.dat (enc (fast m)), .dat (testD (some 0) (some m)), .dat (.int 1)] = some (.d (.int 0)) := by
  have a1 : ¬ m = 0 := by omega
  have a2 : ¬ m < 1 := by omega
  have a3 : ¬ m < 0 := by omega
  have a4 : ¬ m ≤ 0 := by omega
  have a5 : m < m + 1 := by omega
  have a6 : ¬ m + 1 < m := by omega
  refine te_fast h1 h2 hn (some 0) (some m) 1 m 1 4 (by omega) (by omega) ?_ ?_ ?_ (by decide) (by decide) (row := [.int 0, .str wb, .int 1]) ?_ rfl
  · simp [tc, tot_fast h1]
  · simp [tc, cbm_fast h1 h2, cb0_fast h1 h2, fin_fast h1, a2, a3, a6]
  · simp [tc, cbm1_fast h1 h2, cb1_fast h1 h2, fin_fast h1, a2, a3, a5]
  · simp [trow, fin_fast h1, sd_fast h1, a1, a4, wd]
theorem fast_1_2 {n : Nat} (hn : 13 < n) : val (sem n 18) [.dat (enc (fast m)), .dat (testD (some 0) (some m)), .dat (.int 2)] = some (.d (.str wb)) := by
  have a1 : ¬ m = 0 := by omega
  have a2 : ¬ m < 1 := by omega
  have a3 : ¬ m < 0 := by omega
  have a4 : ¬ m ≤ 0 := by omega
  have a5 : m < m + 1 := by omega
  have a6 : ¬ m + 1 < m := by omega
  refine te_fast h1 h2 hn (some 0) (some m) 2 m 1 4 (by omega) (by omega) ?_ ?_ ?_ (by decide) (by decide) (row := [.int 0, .str wb, .int 1]) ?_ rfl
  · simp [tc, tot_fast h1]
  · simp [tc, cbm_fast h1 h2, cb0_fast h1 h2, fin_fast h1, a2, a3, a6]
  · simp [tc, cbm1_fast h1 h2, cb1_fast h1 h2, fin_fast h1, a2, a3, a5]
  · simp [trow, fin_fast h1, sd_fast h1, a1, a4, wd]
theorem fast_1_3 {n : Nat} (hn : 13 < n) : val (sem n 18) [.dat (enc (fast m)), .dat (testD (some 0) (some m)), .dat (.int 3)] = some (.d (.int 1)) := by
  have a1 : ¬ m = 0 := by omega
  have a2 : ¬ m < 1 := by omega
  have a3 : ¬ m < 0 := by omega
  have a4 : ¬ m ≤ 0 := by omega
  have a5 : m < m + 1 := by omega
  have a6 : ¬ m + 1 < m := by omega
  refine te_fast h1 h2 hn (some 0) (some m) 3 m 1 4 (by omega) (by omega) ?_ ?_ ?_ (by decide) (by decide) (row := [.int 0, .str wb, .int 1]) ?_ rfl
  · simp [tc, tot_fast h1]
  · simp [tc, cbm_fast h1 h2, cb0_fast h1 h2, fin_fast h1, a2, a3, a6]
  · simp [tc, cbm1_fast h1 h2, cb1_fast h1 h2, fin_fast h1, a2, a3, a5]
  · simp [trow, fin_fast h1, sd_fast h1, a1, a4, wd]
theorem fast_1_4 {n : Nat} (hn : 13 < n) : val (sem n 18) [.dat (enc (fast m)), .dat (testD (some 0) (some m)), .dat (.int 4)] = some (.d .none) :=
  te_none (ok_fast h1) (by simp [fast, lft, rgt, dep, deps]; omega) (by simp [tc, tot_fast h1])
theorem fast_2_1 {n : Nat} (hn : 13 < n) : val (sem n 18) [.dat (enc (fast m)), .dat (testD (some 0) none), .dat (.int 1)] = some (.d (.int 0)) := by
  have a1 : ¬ m = 0 := by omega
  have a2 : ¬ m < 1 := by omega
  have a3 : ¬ m < 0 := by omega
  have a4 : ¬ m ≤ 0 := by omega
  have a5 : m < m + 1 := by omega
  have a6 : ¬ m + 1 < m := by omega
  refine te_fast h1 h2 hn (some 0) none 1 m 1 3 (by omega) (by omega) ?_ ?_ ?_ (by decide) (by decide) (row := [.int 0, .str wb]) ?_ rfl
  · simp [tc, tot_fast h1]
  · simp [tc, cbm_fast h1 h2, cb0_fast h1 h2, fin_fast h1, a2, a3, a6]
  · simp [tc, cbm1_fast h1 h2, cb1_fast h1 h2, fin_fast h1, a2, a3, a5]
  · simp [trow, fin_fast h1, sd_fast h1, a1, a4, wd]
theorem fast_3_1 {n : Nat} (hn : 13 < n) : val (sem n 18) [.dat (enc (fast m)), .dat (testD none (some m)), .dat (.int 1)] = some (.d (.str wb)) := by
  have a1 : ¬ m = 0 := by omega
  have a2 : ¬ m < 1 := by omega
  have a3 : ¬ m < 0 := by omega
  have a4 : ¬ m ≤ 0 := by omega
  have a5 : m < m + 1 := by omega
  have a6 : ¬ m + 1 < m := by omega
  refine te_fast h1 h2 hn none (some m) 1 m 1 3 (by omega) (by omega) ?_ ?_ ?_ (by decide) (by decide) (row := [.str wb, .int 1]) ?_ rfl
  · simp [tc, tot_fast h1]
  · simp [tc, cbm_fast h1 h2, cb0_fast h1 h2, fin_fast h1, a2, a3, a6]
  · simp [tc, cbm1_fast h1 h2, cb1_fast h1 h2, fin_fast h1, a2, a3, a5]
  · simp [trow, fin_fast h1, sd_fast h1, a1, a4, wd]
theorem fast_4_1 {n : Nat} (hn : 13 < n) : val (sem n 18) [.dat (enc (fast m)), .dat (testD (some 1) none), .dat (.int 1)] = some (.d (.str wb)) := by
  have a1 : ¬ m = 0 := by omega
  have a2 : ¬ m < 1 := by omega
  have a3 : ¬ m < 0 := by omega
  have a4 : ¬ m ≤ 0 := by omega
  have a5 : m < m + 1 := by omega
  have a6 : ¬ m + 1 < m := by omega
  refine te_fast h1 h2 hn (some 1) none 1 m 1 2 (by omega) (by omega) ?_ ?_ ?_ (by decide) (by decide) (row := [.str wb]) ?_ rfl
  · simp [tc, tot_fast h1]
  · simp [tc, cbm_fast h1 h2, cb0_fast h1 h2, fin_fast h1, a2, a3, a6]
  · simp [tc, cbm1_fast h1 h2, cb1_fast h1 h2, fin_fast h1, a2, a3, a5]
  · simp [trow, fin_fast h1, sd_fast h1, a1, a4, wd]
theorem fast_5_3 {n : Nat} (hn : 13 < n) : val (sem n 18) [.dat (enc (fast m)), .dat (testD (some 0) none), .dat (.int 3)] = some (.d .none) :=
  te_none (ok_fast h1) (by simp [fast, lft, rgt, dep, deps]; omega) (by simp [tc, tot_fast h1])
theorem slow_1_0 {n : Nat} (hn : 13 < n) : val (sem n 18) [.dat (enc (slow m)), .dat (testD (some 0) (some m)), .dat (.int 0)] = some (.d (.str wa)) := by
  have a1 : ¬ m = 0 := by omega
  have a2 : ¬ m < 1 := by omega
  have a3 : ¬ m < 0 := by omega
  have a4 : ¬ m ≤ 0 := by omega
  have a5 : m < m + 1 := by omega
  have a6 : ¬ m + 1 < m := by omega
  refine te_slow h1 h2 hn (some 0) (some m) 0 0 0 1 (by omega) (by omega) ?_ ?_ ?_ (by decide) (by decide) (row := [.str wa]) ?_ rfl
  · simp [tc, tot_slow h1]
  · simp [tc, cbm_slow h1 h2, cb0_slow h1 h2, fin_slow h1, a2, a3, a6]
  · simp [tc, cbm1_slow h1 h2, cb1_slow h1 h2, fin_slow h1, a2, a3, a5]
  · simp [trow, fin_slow h1, sd_slow h1, a1, a4, wd]
theorem slow_1_1 {n : Nat} (hn : 13 < n) : val (sem n 18) [.dat (enc (slow m)), .dat (testD (some 0) (some m)), .dat (.int 1)] = some (.d (.str wb)) := by
  have a1 : ¬ m = 0 := by omega
  have a2 : ¬ m < 1 := by omega
  have a3 : ¬ m < 0 := by omega
  have a4 : ¬ m ≤ 0 := by omega
  have a5 : m < m + 1 := by omega
  have a6 : ¬ m + 1 < m := by omega
  refine te_slow h1 h2 hn (some 0) (some m) 1 m 1 4 (by omega) (by omega) ?_ ?_ ?_ (by decide) (by decide) (row := [.str wb, .int 0, .int 1]) ?_ rfl
  · simp [tc, tot_slow h1]
  · simp [tc, cbm_slow h1 h2, cb0_slow h1 h2, fin_slow h1, a2, a3, a6]
  · simp [tc, cbm1_slow h1 h2, cb1_slow h1 h2, fin_slow h1, a2, a3, a5]
  · simp [trow, fin_slow h1, sd_slow h1, a1, a4, wd]
theorem slow_1_2 {n : Nat} (hn : 13 < n) : val (sem n 18) [.dat (enc (slow m)), .dat (testD (some 0) (some m)), .dat (.int 2)] = some (.d (.int 0)) := by
  have a1 : ¬ m = 0 := by omega
  have a2 : ¬ m < 1 := by omega
  have a3 : ¬ m < 0 := by omega
  have a4 : ¬ m ≤ 0 := by omega
  have a5 : m < m + 1 := by omega
  have a6 : ¬ m + 1 < m := by omega
  refine te_slow h1 h2 hn (some 0) (some m) 2 m 1 4 (by omega) (by omega) ?_ ?_ ?_ (by decide) (by decide) (row := [.str wb, .int 0, .int 1]) ?_ rfl
  · simp [tc, tot_slow h1]
  · simp [tc, cbm_slow h1 h2, cb0_slow h1 h2, fin_slow h1, a2, a3, a6]
  · simp [tc, cbm1_slow h1 h2, cb1_slow h1 h2, fin_slow h1, a2, a3, a5]
  · simp [trow, fin_slow h1, sd_slow h1, a1, a4, wd]
theorem slow_1_3 {n : Nat} (hn : 13 < n) : val (sem n 18) [.dat (enc (slow m)), .dat (testD (some 0) (some m)), .dat (.int 3)] = some (.d (.int 1)) := by
  have a1 : ¬ m = 0 := by omega
  have a2 : ¬ m < 1 := by omega
  have a3 : ¬ m < 0 := by omega
  have a4 : ¬ m ≤ 0 := by omega
  have a5 : m < m + 1 := by omega
  have a6 : ¬ m + 1 < m := by omega
  refine te_slow h1 h2 hn (some 0) (some m) 3 m 1 4 (by omega) (by omega) ?_ ?_ ?_ (by decide) (by decide) (row := [.str wb, .int 0, .int 1]) ?_ rfl
  · simp [tc, tot_slow h1]
  · simp [tc, cbm_slow h1 h2, cb0_slow h1 h2, fin_slow h1, a2, a3, a6]
  · simp [tc, cbm1_slow h1 h2, cb1_slow h1 h2, fin_slow h1, a2, a3, a5]
  · simp [trow, fin_slow h1, sd_slow h1, a1, a4, wd]
theorem slow_1_4 {n : Nat} (hn : 13 < n) : val (sem n 18) [.dat (enc (slow m)), .dat (testD (some 0) (some m)), .dat (.int 4)] = some (.d .none) :=
  te_none (ok_slow h1) (by simp [slow, lft, rgt, dep, deps]; omega) (by simp [tc, tot_slow h1])
theorem slow_2_1 {n : Nat} (hn : 13 < n) : val (sem n 18) [.dat (enc (slow m)), .dat (testD (some 0) none), .dat (.int 1)] = some (.d (.str wb)) := by
  have a1 : ¬ m = 0 := by omega
  have a2 : ¬ m < 1 := by omega
  have a3 : ¬ m < 0 := by omega
  have a4 : ¬ m ≤ 0 := by omega
  have a5 : m < m + 1 := by omega
  have a6 : ¬ m + 1 < m := by omega
  refine te_slow h1 h2 hn (some 0) none 1 m 1 3 (by omega) (by omega) ?_ ?_ ?_ (by decide) (by decide) (row := [.str wb, .int 0]) ?_ rfl
  · simp [tc, tot_slow h1]
  · simp [tc, cbm_slow h1 h2, cb0_slow h1 h2, fin_slow h1, a2, a3, a6]
  · simp [tc, cbm1_slow h1 h2, cb1_slow h1 h2, fin_slow h1, a2, a3, a5]
  · simp [trow, fin_slow h1, sd_slow h1, a1, a4, wd]
theorem slow_3_1 {n : Nat} (hn : 13 < n) : val (sem n 18) [.dat (enc (slow m)), .dat (testD none (some m)), .dat (.int 1)] = some (.d (.str wb)) := by
  have a1 : ¬ m = 0 := by omega
  have a2 : ¬ m < 1 := by omega
  have a3 : ¬ m < 0 := by omega
  have a4 : ¬ m ≤ 0 := by omega
  have a5 : m < m + 1 := by omega
  have a6 : ¬ m + 1 < m := by omega
  refine te_slow h1 h2 hn none (some m) 1 m 1 3 (by omega) (by omega) ?_ ?_ ?_ (by decide) (by decide) (row := [.str wb, .int 1]) ?_ rfl
  · simp [tc, tot_slow h1]
  · simp [tc, cbm_slow h1 h2, cb0_slow h1 h2, fin_slow h1, a2, a3, a6]
  · simp [tc, cbm1_slow h1 h2, cb1_slow h1 h2, fin_slow h1, a2, a3, a5]
  · simp [trow, fin_slow h1, sd_slow h1, a1, a4, wd]
theorem slow_4_1 {n : Nat} (hn : 13 < n) : val (sem n 18) [.dat (enc (slow m)), .dat (testD (some 1) none), .dat (.int 1)] = some (.d (.str wb)) := by
  have a1 : ¬ m = 0 := by omega
  have a2 : ¬ m < 1 := by omega
  have a3 : ¬ m < 0 := by omega
  have a4 : ¬ m ≤ 0 := by omega
  have a5 : m < m + 1 := by omega
  have a6 : ¬ m + 1 < m := by omega
  refine te_slow h1 h2 hn (some 1) none 1 m 1 2 (by omega) (by omega) ?_ ?_ ?_ (by decide) (by decide) (row := [.str wb]) ?_ rfl
  · simp [tc, tot_slow h1]
  · simp [tc, cbm_slow h1 h2, cb0_slow h1 h2, fin_slow h1, a2, a3, a6]
  · simp [tc, cbm1_slow h1 h2, cb1_slow h1 h2, fin_slow h1, a2, a3, a5]
  · simp [trow, fin_slow h1, sd_slow h1, a1, a4, wd]
theorem slow_5_3 {n : Nat} (hn : 13 < n) : val (sem n 18) [.dat (enc (slow m)), .dat (testD (some 0) none), .dat (.int 3)] = some (.d .none) :=
  te_none (ok_slow h1) (by simp [slow, lft, rgt, dep, deps]; omega) (by simp [tc, tot_slow h1])
theorem eq_2i (n : Bool) (a b c d : Int) : gEq n (.tuple [.int a, .int b]) (.tuple [.int c, .int d]) = some (.d (.bool (if n then !decide (a = c ∧ b = d) else decide (a = c ∧ b = d)))) := by
  show (if true = true then some (R.d (.bool (if n then !((a == c) && ((b == d) && true)) else ((a == c) && ((b == d) && true))))) else none) = _
  rw [if_pos rfl, Bool.and_true]
  have e : ((a == c) && (b == d)) = decide (a = c ∧ b = d) := by
    by_cases x : a = c <;> by_cases y : b = d <;> simp [x, y]
  rw [e]
theorem enc_fast : enc (fast m) = .tuple [.str "race", .tuple [.tuple [.str "seq", .tuple [.tuple [.str "log", .str "a"], .tuple [.str "await", .int m]]], .tuple [.str "seq", .tuple [.tuple [.str "await", .int m], .tuple [.str "log", .str "b"]]]]] := by
  simp [fast, lft, rgt, enc, encs]
theorem enc_slow : enc (slow m) = .tuple [.str "join", .tuple [.tuple [.str "seq", .tuple [.tuple [.str "log", .str "a"], .tuple [.str "await", .int m]]], .tuple [.str "seq", .tuple [.tuple [.str "await", .int m], .tuple [.str "log", .str "b"]]]]] := by
  simp [slow, lft, rgt, enc, encs]
theorem gaps_ok {n : Nat} (hn : 14 < n) : val (sem (n + 1) 25) [.dat (.int m)] = some (.d (.bool true)) := by
  obtain ⟨k, rfl⟩ : ∃ k, n = k + 1 := ⟨n - 1, by omega⟩
  have f1 := (pair_fs h1 h2).run (n := k + 1) (by omega)
  have f2 := (pair_fs h1 h2).swap.run (n := k + 1) (by omega)
  rw [fd_fs h1 h2] at f1
  rw [fd_sf h1 h2] at f2
  have hk : 13 < k := by omega
  have hk2 : 13 < k + 1 := by omega
  have s1 := st_ok (n := k) (b := some 0) (s := none) (k := 1) (r := true) (by omega) rfl rfl (by decide) (fast_2_1 h1 h2 hk) (slow_2_1 h1 h2 hk) (by rfl)
  have s2 := st_ok (n := k) (b := none) (s := some m) (k := 1) (r := false) (by omega) rfl (decide_eq_true (by omega)) (by decide) (fast_3_1 h1 h2 hk) (slow_3_1 h1 h2 hk) (by simp)
  have s3 := st_ok (n := k) (b := some 1) (s := none) (k := 1) (r := false) (by omega) rfl rfl (by decide) (fast_4_1 h1 h2 hk) (slow_4_1 h1 h2 hk) (by simp)
  have s4 := st_ok (n := k) (b := some 0) (s := none) (k := 3) (r := false) (by omega) rfl rfl (by decide) (fast_5_3 h1 h2 hk) (slow_5_3 h1 h2 hk) (by rfl)
  have g10 := fast_1_0 h1 h2 hk2
  have g11 := fast_1_1 h1 h2 hk2
  have g12 := fast_1_2 h1 h2 hk2
  have g13 := fast_1_3 h1 h2 hk2
  have g14 := fast_1_4 h1 h2 hk2
  have j10 := slow_1_0 h1 h2 hk2
  have j11 := slow_1_1 h1 h2 hk2
  have j12 := slow_1_2 h1 h2 hk2
  have j13 := slow_1_3 h1 h2 hk2
  have j14 := slow_1_4 h1 h2 hk2
  have q : ∀ n, gEq n (.list [.list [.str "a", .int 0, .str "b", .int 1, .none], .list [.str "a", .str "b", .int 0, .int 1, .none]]) (.list [.list [.str "a", .int 0, .str "b", .int 1, .none], .list [.str "a", .str "b", .int 0, .int 1, .none]]) = some (.d (.bool (!n))) := fun n => eq_self n (by decide +kernel) rfl
  have r5 : intsD 0 5 = [.int 0, .int 1, .int 2, .int 3, .int 4] := by rfl
  have sm : smallI 5 = true := by decide
  simp only [enc_fast h1 h2, enc_slow h1 h2, testD, oD, fdD, wa, wb] at f1 f2 s1 s2 s3 s4 g10 g11 g12 g13 g14 j10 j11 j12 j13 j14
  simp [e__law_gaps_right, b__law_gaps_right, f1, f2, eq_2i h1 h2, cmp_nil, cmp_cons, q__law_gaps_right_1, q__law_gaps_right_0, r5, sm, g10, g11, g12, g13, g14, j10, j11, j12, j13, j14, q, s1, s2, s3, s4]
end
end K41
end
section
set_option maxRecDepth 100000
set_option maxHeartbeats 4000000
set_option exponentiation.threshold 5000
/-! Mi: the pot. -/
namespace K41
open PySem PySem.Spec L2 Z
theorem lg {i : Int} {k : Nat} (h : i.natAbs < 2 ^ k) : i.natAbs.log2 ≤ k := by
  rcases Nat.eq_zero_or_pos i.natAbs with q | q
  · rw [q]
    exact Nat.zero_le _
  · exact Nat.le_of_lt ((Nat.log2_lt (by omega)).mpr h)
theorem mulOk {i j : Int} (h1 : i.natAbs < 2 ^ 2000) (h2 : j.natAbs < 2 ^ 2000) : gMul (.int i) (.int j) = some (.d (.int (i * j))) := by
  have a := lg h1
  have b := lg h2
  exact if_pos (by omega)
theorem nat_lt {i : Int} {k : Nat} (h0 : 0 ≤ i) (h : i < 2 ^ k) : i.natAbs < 2 ^ k := by
  have e : ((i.natAbs : Nat) : Int) = i := Int.natAbs_of_nonneg h0
  have : ((i.natAbs : Nat) : Int) < ((2 ^ k : Nat) : Int) := by
    rw [e]
    simpa using h
  exact Int.ofNat_lt.mp this
theorem up {i : Int} {k : Nat} (h : i.natAbs < 2 ^ k) (hk : k ≤ 2000) : i.natAbs < 2 ^ 2000 := Nat.lt_of_lt_of_le h (Nat.pow_le_pow_right (by decide) hk)
theorem small_nat {i : Int} (h0 : 0 ≤ i) (h : i < 2 ^ 200) : i.natAbs < 2 ^ 2000 := up (nat_lt h0 h) (by decide)
theorem pow3 {i : Int} (h0 : 0 ≤ i) (h : i < 2 ^ 200) : gPowW (.int i) (.int 3) = some (.d (.int (i ^ 3))) := by
  have a := lg (nat_lt h0 h)
  have e : gPowW (.int i) (.int 3) = some (.d (.int (i ^ (3 : Int).toNat))) := if_pos ⟨by decide, by decide, by omega⟩
  exact e
theorem modOk {i j : Int} (h : 0 < j) : gMod (.int i) (.int j) = some (.d (.int (i % j))) := if_pos h
theorem divOk {i j : Int} (h : 0 < j) (h2 : j < 2 ^ 200) : gDiv (.int i) (.int j) = some (.d (.int (i / j))) := by
  have a := lg (nat_lt (by omega) h2)
  exact if_pos ⟨h, by omega⟩
theorem powW {i j : Int} (h1 : 0 ≤ j) (h2 : j ≤ 1000) (h3 : i.natAbs.log2 ≤ 10000) : gPowW (.int i) (.int j) = some (.d (.int (i ^ j.toNat))) := if_pos ⟨h1, h2, h3⟩
def kout (as : DS) : Out × DS → Option (Rt × DS)
  | (.rt r, s) => some (r, outs as s)
  | (.nx, s) => some (.d .none, outs as s)
  | _ => none
@[simp] theorem kout_rt (as : DS) (r : Rt) (s : DS) : kout as (.rt r, s) = some (r, outs as s) := rfl
theorem run_as (np n : Nat) (body : SM) (as : DS) (h : as.length = np) (h2 : np ≤ n) : Z.run np n body as = (body (as ++ List.replicate (n - np) .no)).bind (kout as) := by
  unfold Z.run
  rw [if_pos ⟨h, h2⟩]
  cases body (as ++ List.replicate (n - np) .no) with
  | none => rfl
  | some p =>
    obtain ⟨o, s⟩ := p
    cases o <;> rfl
theorem pot_ok {n : Nat} (ns : List Int) : ∃ a b : Int, 0 ≤ b ∧ b < 2 ^ 61 ∧ val (sem (n + 1) 22) [.dat (scr (ns.map .int)), .dat (.int 0)] = some (.t [.int a, .int b, .int 0]) := by
  have p60 : gPow (.int 10) (.int 60) = some (.d (.int (10 ^ 60))) := by
    show (if 0 ≤ (60 : Int) ∧ (60 : Int) ≤ 1000000 ∧ (10 : Int).natAbs < 2 ^ 64 then some (R.d (.int (10 ^ (60 : Int).toNat))) else none) = _
    exact if_pos (by decide)
  have p18 : gPow (.int 10) (.int 18) = some (.d (.int (10 ^ 18))) := by
    show (if 0 ≤ (18 : Int) ∧ (18 : Int) ≤ 1000000 ∧ (10 : Int).natAbs < 2 ^ 64 then some (R.d (.int (10 ^ (18 : Int).toNat))) else none) = _
    exact if_pos (by decide)
  have p300 : gPowW (.int (10 ^ 60)) (.int 5) = some (.d (.int (10 ^ 300))) := by
    have a := lg (i := 10 ^ 60) (k := 200) (by decide)
    rw [powW (i := 10 ^ 60) (j := 5) (by decide) (by decide) (by omega)]
    rfl
  have main : ∀ cell : Int, ∃ a b : Int, 0 ≤ b ∧ b < 2 ^ 61 ∧ ∀ x0 x1 : Slot, (ksq (sseq (sasg 2 3 (x2 gMul (x2 gMod (xcb gAbs (acons (xv 2) anil)) (x2 gPowW (x2 gPow (xc (.int 10)) (xc (.int 60))) (xc (.int 5)))) (xcb gInt (acons (x2 gGe (xcb gAbs (acons (xv 2) anil)) (x2 gPow (xc (.int 10)) (xc (.int 18)))) anil))))
      (sret 2 (xlst (dcons 2 (xv 3) (dcons 2 (x2 gMod (x2 gAdd (x2 gAdd (x2 gMul (x2 gMod (xv 2) (xc (.int 2305843009213693951))) (xc (.int 69621))) (x2 gMul (x2 gMul (xc (.int 7919)) (xv 1)) (xv 1))) (xc (.int 31))) (xc (.int 2305843009213693921))) (dcons 2 (xc (.int 0)) dnil)))))) (.nx, [x0, .dat (.int 0), .dat (.int cell), .no])).bind fin1 = some (.t [.int a, .int b, .int 0]) := fun cell => by
    have ab : gAbs [.int cell] = some (.d (.int (if cell < 0 then -cell else cell))) := rfl
    generalize ea : (if cell < 0 then -cell else cell) = ac at ab
    have m1 : gMod (.int ac) (.int (10 ^ 300)) = some (.d (.int (ac % 10 ^ 300))) := modOk (by decide)
    have b1 : 0 ≤ ac % 10 ^ 300 := Int.emod_nonneg _ (by decide)
    have b2 : ac % 10 ^ 300 < 10 ^ 300 := Int.emod_lt_of_pos _ (by decide)
    have b3 : (ac % 10 ^ 300).natAbs < 2 ^ 2000 := up (k := 1000) (nat_lt b1 (Int.lt_trans b2 (by decide))) (by decide)
    have m2 : ∀ k : Int, (k = 0 ∨ k = 1) → gMul (.int (ac % 10 ^ 300)) (.int k) = some (.d (.int ((ac % 10 ^ 300) * k))) := fun k hk => mulOk b3 (by rcases hk with rfl | rfl <;> decide)
    have m3 : gMod (.int cell) (.int 2305843009213693951) = some (.d (.int (cell % 2305843009213693951))) := modOk (by decide)
    have m4 : gMul (.int (cell % 2305843009213693951)) (.int 69621) = some (.d (.int (cell % 2305843009213693951 * 69621))) := mulOk (small_nat (by omega) (by omega)) (by decide)
    have m5 : gMul (.int 7919) (.int 0) = some (.d (.int 0)) := mulOk (by decide) (by decide)
    have m6 : gMul (.int 0) (.int 0) = some (.d (.int 0)) := mulOk (by decide) (by decide)
    have m7 : ∀ i : Int, gMod (.int i) (.int 2305843009213693921) = some (.d (.int (i % 2305843009213693921))) := fun i => modOk (by decide)
    have g0 : gAbs [.int cell] = some (.d (.int ac)) := ab
    refine ⟨(ac % 10 ^ 300) * (if (10 ^ 18 : Int) ≤ ac then 1 else 0), (cell % 2305843009213693951 * 69621 + 0 + 31) % 2305843009213693921, by omega, by omega, fun x0 x1 => ?_⟩
    have m8 := m2 (if (10 ^ 18 : Int) ≤ ac then 1 else 0) (by split <;> simp)
    simp at m1 m8 p60 p18 p300
    simp [g0, p60, p18, p300, m1, m3, m4, m5, m6, m7, m8]
  have e22 : ∀ x0 x1 : Slot, val (sem (n + 1) 22) [x0, x1] = _ := e__law_pot n
  cases ns with
  | nil =>
    obtain ⟨a, b, h1, h2, h3⟩ := main 9
    refine ⟨a, b, h1, h2, ?_⟩
    have m5 : gMul (.int 17) (.int 0) = some (.d (.int 0)) := mulOk (by decide) (by decide)
    have gl : gLen [scr []] = some (.d (.int 0)) := rfl
    rw [← h3 (.dat (scr [])) (.dat (.int 0)), e22]
    simp [b__law_pot, m5, gl]
  | cons c cs =>
    obtain ⟨a, b, h1, h2, h3⟩ := main c
    refine ⟨a, b, h1, h2, ?_⟩
    have gl : gLen [scr (.int c :: cs.map .int)] = some (.d (.int ((cs.length + 1 : Nat)))) := by
      show some (R.d (.int (((PyData.int c :: cs.map PyData.int).length : Nat)))) = _
      simp
    have gx : gIx (scr (.int c :: cs.map .int)) (.int 0) = some (.d (.int c)) := by
      show (atI (PyData.int c :: cs.map PyData.int) 0).bind _ = _
      unfold atI ixN
      rw [if_pos (by decide), if_pos (by rw [List.length_cons]; omega)]
      rfl
    have lt : (0 : Int) < ((cs.length + 1 : Nat) : Int) := by omega
    rw [List.map_cons, ← h3 (.dat (scr (.int c :: cs.map .int))) (.dat (.int 0)), e22]
    simp only [b__law_pot, ap_sseq, ap_sasg, ap_xif, ap_tb, ap_x2, ap_xv]
    simp [gl, gx, lt]
@[simp] theorem ix_l2 (a b c : D) (r : List D) : gIx (.list (a :: b :: c :: r)) (.int 2) = some (.d c) := by
  show (atI (a :: b :: c :: r) 2).bind _ = _
  unfold atI ixN
  rw [if_pos (by decide), if_pos (by rw [List.length_cons, List.length_cons, List.length_cons]; omega)]
  rfl
theorem primes (j : Int) (h0 : 0 ≤ j) (h : j < 5) : ∃ p : Int, 0 < p ∧ p < 2 ^ 31 ∧ gIx (.list [.int 2147483647, .int 2147483629, .int 2147483587, .int 2147483579, .int 2147483563]) (.int j) = some (.d (.int p)) := by
  have : j = 0 ∨ j = 1 ∨ j = 2 ∨ j = 3 ∨ j = 4 := by omega
  rcases this with rfl | rfl | rfl | rfl | rfl
  · exact ⟨2147483647, by decide, by decide, rfl⟩
  · exact ⟨2147483629, by decide, by decide, rfl⟩
  · exact ⟨2147483587, by decide, by decide, rfl⟩
  · exact ⟨2147483579, by decide, by decide, rfl⟩
  · exact ⟨2147483563, by decide, by decide, rfl⟩
theorem take_ok {n : Nat} {a b c k : Int} (b0 : 0 ≤ b) (b1 : b < 2 ^ 61) (c0 : 0 ≤ c) (c1 : c ≤ 1000) (k0 : 0 < k) (k1 : k ≤ 10 ^ 18) : ∃ r a' c' : Int, 0 ≤ r ∧ r < k ∧ 0 ≤ c' ∧ c' ≤ c + 1 ∧
    sem (n + 1) 23 [.own [.int a, .int b, .int c], .dat (.int k)] = some (.d (.int r), [.own [.int a', .int b, .int c'], .dat (.int k)]) := by
  by_cases h : 0 < a
  · refine ⟨a % k, a / k, c, Int.emod_nonneg _ (by omega), Int.emod_lt_of_pos _ k0, c0, by omega, ?_⟩
    show Z.run 2 5 (b__law_take (sem n)) _ = _
    rw [run_as 2 5 _ _ rfl (by decide)]
    simp [b__law_take, h, modOk k0, divOk k0 (by omega), sput, ixN, outs]
  · obtain ⟨p, p0, p1, p2⟩ := primes ((c + 1) % 5) (by omega) (by omega)
    have x1 : 0 ≤ b + 99991 * (c + 1) * (c + 1) + 23 ∧ b + 99991 * (c + 1) * (c + 1) + 23 < 2 ^ 200 := by
      have : 0 ≤ 99991 * (c + 1) * (c + 1) := Int.mul_nonneg (Int.mul_nonneg (by omega) (by omega)) (by omega)
      have : 99991 * (c + 1) * (c + 1) ≤ 99991 * 1001 * 1001 := Int.mul_le_mul (Int.mul_le_mul (Int.le_refl _) (by omega) (by omega) (by omega)) (by omega) (by omega) (by omega)
      omega
    have m1 : gMul (.int 99991) (.int (c + 1)) = some (.d (.int (99991 * (c + 1)))) := mulOk (by decide) (small_nat (by omega) (by omega))
    have m2 : gMul (.int (99991 * (c + 1))) (.int (c + 1)) = some (.d (.int (99991 * (c + 1) * (c + 1)))) := mulOk (small_nat (by omega) (by omega)) (small_nat (by omega) (by omega))
    have m3 := pow3 x1.1 x1.2
    generalize ex : (b + 99991 * (c + 1) * (c + 1) + 23) ^ 3 = y at m3
    have m4 : gMod (.int y) (.int p) = some (.d (.int (y % p))) := modOk p0
    have y0 : 0 ≤ y % p := Int.emod_nonneg _ (by omega)
    have y1 : y % p < p := Int.emod_lt_of_pos _ p0
    have m5 : gMod (.int (y % p)) (.int 10007) = some (.d (.int (y % p % 10007))) := modOk (by decide)
    have m6 : gMul (.int 71) (.int (c + 1)) = some (.d (.int (71 * (c + 1)))) := mulOk (by decide) (small_nat (by omega) (by omega))
    have m7 : gMul (.int (y % p)) (.int (y % p % 10007 + 71 * (c + 1))) = some (.d (.int (y % p * (y % p % 10007 + 71 * (c + 1))))) := mulOk (small_nat y0 (by omega)) (small_nat (by omega) (by omega))
    have m8 : ∀ i : Int, gMod (.int i) (.int 2305843009213693907) = some (.d (.int (i % 2305843009213693907))) := fun i => modOk (by decide)
    have m9 : ∀ i : Int, gDiv (.int i) (.int 103) = some (.d (.int (i / 103))) := fun i => divOk (by decide) (by decide)
    have m10 : ∀ i : Int, gMod (.int i) (.int k) = some (.d (.int (i % k))) := fun i => modOk k0
    have m11 : gMod (.int (c + 1)) (.int 5) = some (.d (.int ((c + 1) % 5))) := modOk (by decide)
    refine ⟨y % p * (y % p % 10007 + 71 * (c + 1)) % 2305843009213693907 / 103 % k, a, c + 1, Int.emod_nonneg _ (by omega), Int.emod_lt_of_pos _ k0, by omega, Int.le_refl _, ?_⟩
    show Z.run 2 5 (b__law_take (sem n)) _ = _
    rw [run_as 2 5 _ _ rfl (by decide)]
    simp [b__law_take, h, sput, ixN, outs, m1, m2, m3, m4, m5, m6, m7, m8, m9, m10, m11, p2]
end K41
end
section
set_option maxRecDepth 100000
set_option maxHeartbeats 4000000
/-! Mj: six rows of twelve logs. -/
namespace K41
open PySem PySem.Spec L2 Z
theorem of_ok {n : Nat} {a b c x : Int} (b0 : 0 ≤ b) (b1 : b < 2 ^ 61) (c0 : 0 ≤ c) (c1 : c ≤ 1000) (x0 : 0 ≤ x) (x1 : x ≤ 11) : ∃ r a' c' : Int, 0 ≤ r ∧ r ≤ 11 ∧ 0 ≤ c' ∧ c' ≤ c + 1 ∧
    sem (n + 2) 24 [.own [.int a, .int b, .int c], .dat (.list [.int 0, .int 0, .int 1, .int x])] = some (.d (.int r), [.own [.int a', .int b, .int c'], .dat (.list [.int 0, .int 0, .int 1, .int x])]) := by
  obtain ⟨r, a', c', r0, r1, h1, h2, e⟩ := take_ok (n := n) (a := a) (k := 4) b0 b1 c0 c1 (by decide) (by decide)
  obtain ⟨v, v0, v1, g⟩ : ∃ v : Int, 0 ≤ v ∧ v ≤ 11 ∧ gIx (.list [.int 0, .int 0, .int 1, .int x]) (.int r) = some (.d (.int v)) := by
    have : r = 0 ∨ r = 1 ∨ r = 2 ∨ r = 3 := by omega
    rcases this with rfl | rfl | rfl | rfl
    · exact ⟨0, by decide, by decide, rfl⟩
    · exact ⟨0, by decide, by decide, rfl⟩
    · exact ⟨1, by decide, by decide, rfl⟩
    · exact ⟨x, x0, x1, rfl⟩
  refine ⟨v, a', c', v0, v1, h1, h2, ?_⟩
  show Z.run 2 2 (b__law_of (sem (n + 1))) _ = _
  rw [run_as 2 2 _ _ rfl (by decide)]
  simp [b__law_of, outs, xcall, pmutC, pcons, argS, lent, back, e, g, pnil, pmut]
/-! ### rows of logs, no time in them -/
def logs (ws : List Str) : List Prog := ws.map .log
def chunk (ws : List Str) (k : Nat) : List Str := (ws.drop (12 * k)).take 12
def six (ws : List Str) : Prog := .seq ((List.range 6).map fun k => .seq (logs (chunk ws k)))
/-- what takes no time and says its words at once -/
structure Now (p : Prog) (L R : Row) : Prop where
  f : fin p = 0
  z : sd p 0 = (L, R)
  p : ∀ t : Int, t ≠ 0 → sd p t = ([], [])
theorem now_log (w : Str) : Now (.log w) [some w] [] := ⟨rfl, by simp [sd], fun t h => by simp [sd, h]⟩
theorem seq_at0 : ∀ (ps : List (Prog × Row × Row)) (L R : Row), (∀ x ∈ ps, Now x.1 x.2.1 x.2.2) → seqG (sdf (ps.map (·.1))) 0 L R = ((L ++ (ps.map (·.2.1)).flatten, (ps.reverse.map (·.2.2)).flatten ++ R), 0)
  | [], L, R, _ => by simp [sdf, seqG]
  | x :: ps, L, R, h => by
    have e := h x (List.mem_cons_self ..)
    rw [List.map_cons, sdf, seqG, if_neg (by omega), e.f, e.z]
    have := seq_at0 ps (L ++ x.2.1) (x.2.2 ++ R) fun y hy => h y (List.mem_cons_of_mem _ hy)
    rw [Int.sub_zero]
    simp only [this]
    simp
theorem seq_off : ∀ (ps : List (Prog × Row × Row)) (t : Int), t ≠ 0 → (∀ x ∈ ps, Now x.1 x.2.1 x.2.2) → (seqG (sdf (ps.map (·.1))) t [] []).1 = ([], [])
  | [], t, _, _ => by simp [sdf, seqG]
  | x :: ps, t, ht, h => by
    have e := h x (List.mem_cons_self ..)
    rw [List.map_cons, sdf, seqG]
    split
    · rfl
    · rw [e.f, e.p t ht, Int.sub_zero]
      exact seq_off ps t ht fun y hy => h y (List.mem_cons_of_mem _ hy)
theorem fins0 : ∀ (ps : List (Prog × Row × Row)), (∀ x ∈ ps, Now x.1 x.2.1 x.2.2) → (fins (ps.map (·.1))).sum = 0
  | [], _ => rfl
  | x :: ps, h => by
    rw [List.map_cons, fins, List.sum_cons, (h x (List.mem_cons_self ..)).f, fins0 ps fun y hy => h y (List.mem_cons_of_mem _ hy)]
    rfl
theorem now_seq (ps : List (Prog × Row × Row)) (h : ∀ x ∈ ps, Now x.1 x.2.1 x.2.2) : Now (.seq (ps.map (·.1))) (ps.map (·.2.1)).flatten (ps.reverse.map (·.2.2)).flatten := by
  refine ⟨by rw [fin]; exact fins0 ps h, ?_, fun t ht => ?_⟩
  · rw [sd, seq_at0 ps [] [] h]
    simp [shut]
  · rw [sd, seq_off ps t ht h]
    unfold shut
    split <;> rfl
theorem now_logs (ws : List Str) : Now (.seq (logs ws)) (ws.map some) [] := by
  have := now_seq (ws.map fun w => (Prog.log w, [some w], [])) fun x hx => by
    obtain ⟨w, _, rfl⟩ := List.mem_map.mp hx
    exact now_log w
  simp only [List.map_map, ← List.map_reverse] at this
  have e1 : ∀ vs : List Str, ((vs.map ((fun x : Prog × Row × Row => x.2.1) ∘ fun w => (Prog.log w, [some w], []))).flatten : Row) = vs.map some := fun vs => by
    induction vs with
    | nil => rfl
    | cons w vs ih =>
      rw [List.map_cons, List.flatten_cons, ih]
      rfl
  have e2 : ∀ vs : List Str, ((vs.map ((fun x : Prog × Row × Row => x.2.2) ∘ fun w => (Prog.log w, [some w], []))).flatten : Row) = [] := fun vs => by
    induction vs with
    | nil => rfl
    | cons w vs ih =>
      rw [List.map_cons, List.flatten_cons, ih]
      rfl
  rw [e1, e2] at this
  exact this
theorem chunks (ws : List Str) (h : ws.length = 72) : ((List.range 6).map fun k => (chunk ws k).map some).flatten = (ws.map some : Row) := by
  have e : ∀ k : Nat, (chunk ws k).map some = ((ws.map some : Row).drop (12 * k)).take 12 := fun k => by unfold chunk; rw [List.map_take, List.map_drop]
  have l : (ws.map some : Row).length = 72 := by rw [List.length_map, h]
  generalize (ws.map some : Row) = r at e l
  have r6 : List.range 6 = [0, 1, 2, 3, 4, 5] := by decide
  simp only [e, r6, List.map_cons, List.map_nil, List.flatten_cons, List.flatten_nil, List.append_nil]
  have s : ∀ k : Nat, (r.drop k).take 12 ++ r.drop (k + 12) = r.drop k := fun k => by
    rw [← List.drop_drop, List.take_append_drop]
  have d72 : r.drop 72 = [] := List.drop_eq_nil_of_le (by omega)
  have s5 := s 60
  rw [d72, List.append_nil] at s5
  show (r.drop 0).take 12 ++ ((r.drop 12).take 12 ++ ((r.drop 24).take 12 ++ ((r.drop 36).take 12 ++ ((r.drop 48).take 12 ++ (r.drop 60).take 12)))) = r
  rw [s5, s 48, s 36, s 24, s 12, s 0, List.drop_zero]
theorem now_six (ws : List Str) (h : ws.length = 72) : Now (six ws) (ws.map some) [] := by
  have := now_seq ((List.range 6).map fun k => (Prog.seq (logs (chunk ws k)), (chunk ws k).map some, [])) fun x hx => by
    obtain ⟨k, _, rfl⟩ := List.mem_map.mp hx
    exact now_logs (chunk ws k)
  simp only [List.map_map, ← List.map_reverse] at this
  have e1 : (((List.range 6).map ((fun x : Prog × Row × Row => x.2.1) ∘ fun k => (Prog.seq (logs (chunk ws k)), (chunk ws k).map some, []))).flatten : Row) = ws.map some := chunks ws h
  have e2 : ((List.map ((fun x : Prog × Row × Row => x.2.2) ∘ fun k => (Prog.seq (logs (chunk ws k)), (chunk ws k).map some, [])) (List.range 6).reverse).flatten : Row) = [] := by simp
  rw [e1, e2] at this
  exact this
theorem mk_now {p : Prog} {L R : Row} (h : Now p L R) (t : Int) (ht : 0 ≤ t) : mkd p t = if t = 0 then L ++ none :: R else [none] := by
  unfold mkd
  rw [h.f, if_pos ht]
  by_cases c : t = 0
  · subst c
    rw [h.z, if_pos rfl]
    simp
  · rw [h.p t c, if_neg c]
    rfl
end K41
end
section
set_option maxRecDepth 100000
set_option maxHeartbeats 4000000
/-! Mk: long rows: counts, differences, entries. -/
namespace K41
open PySem PySem.Spec L2 Z
/-- what takes no time: its counts -/
structure NowC (p : Prog) (N : Nat) : Prop where
  f : fin p = 0
  w : wt p = N
  t : tot p = (N : Int)
  c : ∀ t : Int, cb p t = if t ≤ 0 then 0 else (N : Int)
  m : ∀ b x : Int, x ∈ mom p b → x = b ∨ x = b + 1
theorem nowc_log (w : Str) : NowC (.log w) 1 := ⟨rfl, rfl, rfl, fun t => by simp [cb], fun b x h => by simpa [mom] using h⟩
theorem cG_now (c : Bool) (t : Int) : ∀ (xs : List (Prog × Nat)) (a : Int), (∀ x ∈ xs, NowC x.1 x.2) → cG c (cbf (xs.map (·.1))) t 0 a = a + if t ≤ 0 then 0 else (((xs.map (·.2)).sum : Nat) : Int)
  | [], a, _ => by simp [cbf, cG]
  | x :: xs, a, h => by
    have e := h x (List.mem_cons_self ..)
    rw [List.map_cons, cbf, cG, e.f]
    have z : (0 : Int) + (if c = true then 0 else 0) = 0 := by cases c <;> rfl
    rw [z, Int.sub_zero, cG_now c t xs _ fun y hy => h y (List.mem_cons_of_mem _ hy)]
    simp only [e.c t]
    split
    · simp
    · simp
      omega
theorem mG_now (c : Bool) (b : Int) : ∀ (xs : List (Prog × Nat)) (acc : List Int), (∀ x ∈ xs, NowC x.1 x.2) → (∀ x ∈ acc, x = b ∨ x = b + 1) → ∀ x ∈ mG c (momf (xs.map (·.1))) b acc, x = b ∨ x = b + 1
  | [], acc, _, ha => ha
  | x :: xs, acc, h, ha => by
    have e := h x (List.mem_cons_self ..)
    rw [List.map_cons, momf, mG, e.f]
    have z : b + (if c = true then 0 else 0) = b := by cases c <;> simp
    rw [z]
    exact mG_now c b xs _ (fun y hy => h y (List.mem_cons_of_mem _ hy)) fun y hy => (List.mem_append.mp hy).elim (ha y) (e.m b y)
theorem wts_now : ∀ (xs : List (Prog × Nat)), (∀ x ∈ xs, NowC x.1 x.2) → wts (xs.map (·.1)) = (xs.map (·.2)).sum
  | [], _ => rfl
  | x :: xs, h => by
    rw [List.map_cons, wts, (h x (List.mem_cons_self ..)).w, wts_now xs fun y hy => h y (List.mem_cons_of_mem _ hy)]
    rfl
theorem tots_now : ∀ (xs : List (Prog × Nat)), (∀ x ∈ xs, NowC x.1 x.2) → (tots (xs.map (·.1))).sum = (((xs.map (·.2)).sum : Nat) : Int)
  | [], _ => rfl
  | x :: xs, h => by
    rw [List.map_cons, tots, List.sum_cons, (h x (List.mem_cons_self ..)).t, tots_now xs fun y hy => h y (List.mem_cons_of_mem _ hy)]
    simp
theorem finsC : ∀ (xs : List (Prog × Nat)), (∀ x ∈ xs, NowC x.1 x.2) → (fins (xs.map (·.1))).sum = 0
  | [], _ => rfl
  | x :: xs, h => by
    rw [List.map_cons, fins, List.sum_cons, (h x (List.mem_cons_self ..)).f, finsC xs fun y hy => h y (List.mem_cons_of_mem _ hy)]
    rfl
theorem nowc_seq (xs : List (Prog × Nat)) (h : ∀ x ∈ xs, NowC x.1 x.2) : NowC (.seq (xs.map (·.1))) (xs.map (·.2)).sum := by
  refine ⟨by rw [fin]; exact finsC xs h, by rw [wt]; exact wts_now xs h, by rw [tot]; exact tots_now xs h, fun t => ?_, fun b x hx => ?_⟩
  · rw [cb, cG_now true t xs 0 h]
    split <;> simp
  · rw [mom] at hx
    exact mG_now true b xs [] h (by simp) x hx
theorem nowc_race (xs : List (Prog × Nat)) (hn : minL (fins (xs.map (·.1))) = 0) (h : ∀ x ∈ xs, NowC x.1 x.2) : NowC (.race (xs.map (·.1))) (xs.map (·.2)).sum := by
  refine ⟨by rw [fin]; exact hn, by rw [wt]; exact wts_now xs h, by rw [tot]; exact tots_now xs h, fun t => ?_, fun b x hx => ?_⟩
  · rw [cb, cG_now false t xs 0 h]
    split <;> simp
  · rw [mom] at hx
    exact mG_now false b xs [] h (by simp) x hx
theorem nowc_logs (ws : List Str) : NowC (.seq (logs ws)) ws.length := by
  have := nowc_seq (ws.map fun w => (Prog.log w, 1)) fun x hx => by
    obtain ⟨w, _, rfl⟩ := List.mem_map.mp hx
    exact nowc_log w
  simp only [List.map_map] at this
  have e : ∀ vs : List Str, (vs.map ((fun x : Prog × Nat => x.2) ∘ fun w => (Prog.log w, 1))).sum = vs.length := fun vs => by
    induction vs with
    | nil => rfl
    | cons v vs ih =>
      rw [List.map_cons, List.sum_cons, ih, List.length_cons]
      show 1 + vs.length = _
      omega
  rw [e] at this
  exact this
theorem chunk_len {ws : List Str} (h : ws.length = 72) {k : Nat} (hk : k < 6) : (chunk ws k).length = 12 := by
  unfold chunk
  rw [List.length_take, List.length_drop]
  omega
theorem nowc_six {ws : List Str} (h : ws.length = 72) : NowC (six ws) 72 := by
  have := nowc_seq ((List.range 6).map fun k => (Prog.seq (logs (chunk ws k)), (chunk ws k).length)) fun x hx => by
    obtain ⟨k, _, rfl⟩ := List.mem_map.mp hx
    exact nowc_logs (chunk ws k)
  simp only [List.map_map] at this
  have e : ((List.range 6).map ((fun x : Prog × Nat => x.2) ∘ fun k => (Prog.seq (logs (chunk ws k)), (chunk ws k).length))).sum = 72 := by
    have r6 : List.range 6 = [0, 1, 2, 3, 4, 5] := by decide
    simp [r6, chunk_len h]
  rw [e] at this
  exact this
theorem ok_logs {ws : List Str} (l : ws.length ≤ 1000) (h : ∀ w ∈ ws, PyData.canLay0 (.str w) = true) : ok (.seq (logs ws)) := by
  refine ⟨by rw [logs, List.length_map]; exact l, ?_⟩
  unfold logs
  clear l
  induction ws with
  | nil => trivial
  | cons w ws ih => exact ⟨h w (List.mem_cons_self ..), ih fun v hv => h v (List.mem_cons_of_mem _ hv)⟩
theorem chunk_mem {ws : List Str} {k : Nat} {w : Str} (h : w ∈ chunk ws k) : w ∈ ws := List.mem_of_mem_drop (List.mem_of_mem_take h)
theorem oks_of {ps : List Prog} (h : ∀ p ∈ ps, ok p) : oks ps := by
  induction ps with
  | nil => trivial
  | cons p ps ih => exact ⟨h p (List.mem_cons_self ..), ih fun q hq => h q (List.mem_cons_of_mem _ hq)⟩
theorem ok_six {ws : List Str} (hl : ws.length = 72) (h : ∀ w ∈ ws, PyData.canLay0 (.str w) = true) : ok (six ws) := by
  refine ⟨by simp, oks_of fun p hp => ?_⟩
  obtain ⟨k, _, rfl⟩ := List.mem_map.mp hp
  refine ok_logs ?_ fun w hw => h w (chunk_mem hw)
  unfold chunk
  rw [List.length_take]
  omega
theorem deps_le {ps : List Prog} {n : Nat} (h : ∀ p ∈ ps, dep p ≤ n) : deps ps ≤ n := by
  induction ps with
  | nil => exact Nat.zero_le _
  | cons p ps ih =>
    have a := h p (List.mem_cons_self ..)
    have b := ih fun q hq => h q (List.mem_cons_of_mem _ hq)
    rw [deps]
    omega
theorem dep_logs (ws : List Str) : dep (.seq (logs ws)) ≤ 2 := by
  have : deps (logs ws) ≤ 0 := deps_le fun p hp => by
    obtain ⟨w, _, rfl⟩ := List.mem_map.mp hp
    exact Nat.le_refl _
  rw [dep]
  omega
theorem dep_six (ws : List Str) : dep (six ws) ≤ 4 := by
  have : deps ((List.range 6).map fun k => Prog.seq (logs (chunk ws k))) ≤ 2 := deps_le fun p hp => by
    obtain ⟨k, _, rfl⟩ := List.mem_map.mp hp
    exact dep_logs _
  rw [six, dep]
  omega
/-- two that take no time, compared -/
theorem pair_now {p q : Prog} {N M : Nat} (hp : NowC p N) (hq : NowC q M) (op : ok p) (oq : ok q) (dp : dep p ≤ 10) (dq : dep q ≤ 10) (lN : N ≤ 900) (lM : M ≤ 900) : Pair p q := by
  refine Pair.of (S := [0, 1]) op oq (by rw [hp.w]; exact lN) (by rw [hq.w]; exact lM) (by omega) (by decide) (fun x hx => ?_) (fun x hx => ?_) (fun x hx => ?_)
  · simp at hx
    unfold Sm
    omega
  · rw [hp.f] at hx
    rcases List.mem_cons.mp hx with h | h
    · simp [h]
    · rcases List.mem_cons.mp h with h | h
      · simp [h]
      · have := hp.m 0 x h
        simp
        omega
  · rw [hq.f] at hx
    rcases List.mem_cons.mp hx with h | h
    · simp [h]
    · rcases List.mem_cons.mp h with h | h
      · simp [h]
      · have := hq.m 0 x h
        simp
        omega
theorem fd_now {p q : Prog} {L R L' R' : Row} (h : Pair p q) (hp : Now p L R) (hq : Now q L' R') (ne : L ++ none :: R ≠ L' ++ none :: R') : fd p q = some (0, fu (L ++ none :: R) (L' ++ none :: R')) := by
  have e1 := mk_now hp 0 (Int.le_refl 0)
  have e2 := mk_now hq 0 (Int.le_refl 0)
  rw [if_pos rfl] at e1 e2
  have := h.at (t0 := 0) (.inl (by simp)) (fun t h0 h1 => absurd h0 (by omega)) (by rw [e1, e2]; exact ne)
  rw [this, e1, e2]
theorem fu_rep {x y z : Option Str} (h : y ≠ z) (r s : Row) : ∀ k : Nat, fu (List.replicate k x ++ y :: r) (List.replicate k x ++ z :: s) = k
  | 0 => by simp [fu, h]
  | k + 1 => by
    rw [List.replicate_succ, List.cons_append, List.cons_append, fu, if_pos rfl, fu_rep h r s k]
theorem te_now {p : Prog} {N : Nat} {L R : Row} (hp : NowC p N) (h : Now p L R) (o : ok p) (dp : dep p ≤ 10) (lN : N ≤ 900) {n : Nat} (hn : 13 < n) (b s : Option Int) (hb : b = none ∨ b = some 0) (hs : s = none ∨ s = some 0) (k : Nat) (hk : (k : Int) < N)
    {d : D} (hd : ((L.map wd ++ (if b = some 0 then [.int 0] else []) ++ R.map wd) ++ (if s = some 0 then [.int 1] else []))[k]? = some d) : val (sem n 18) [.dat (enc p), .dat (testD b s), .dat (.int k)] = some (.d d) := by
  have c0 : cb p 0 = 0 := by rw [hp.c]; rfl
  have c1 : cb p 1 = N := by rw [hp.c]; rfl
  have t0 : tc p b s (some 0) = 0 := by
    rcases hb with rfl | rfl <;> rcases hs with rfl | rfl <;> simp [tc, c0, hp.f]
  have t1 : (N : Int) ≤ tc p b s (some (0 + 1)) := by
    rcases hb with rfl | rfl <;> rcases hs with rfl | rfl <;> simp [tc, c1, hp.f] <;> omega
  have t2 : (N : Int) ≤ tc p b s none := by
    rcases hb with rfl | rfl <;> rcases hs with rfl | rfl <;> simp [tc, hp.t] <;> omega
  refine te_at o (by rw [hp.w]; omega) (by omega) (by omega) 0 (Int.le_refl 0) (by decide) (by rw [t0]; omega) (by omega) ?_
  rw [t0]
  have e : trow p b s 0 = (L.map wd ++ (if b = some 0 then [.int 0] else []) ++ R.map wd) ++ (if s = some 0 then [.int 1] else []) := by
    unfold trow
    rw [hp.f, if_pos (Int.le_refl 0), h.z]
    rfl
  rw [e]
  simpa using hd
end K41
end
section
set_option maxRecDepth 100000
set_option maxHeartbeats 4000000
/-! Ml: _law_long_rows_right. -/
namespace K41
open PySem PySem.Spec L2 Z
def as72 : List Str := List.replicate 72 wa
def oth (k : Nat) : List Str := List.replicate k wa ++ wb :: List.replicate (71 - k) wa
def LG (ws : List Str) : List D := ws.map fun w => .tuple [.str "log", .str w]
theorem enc_logs (ws : List Str) : enc (.seq (logs ws)) = .tuple [.str "seq", .tuple (LG ws)] := by
  rw [enc, encs_eq, logs, List.map_map]
  have : ws.map (enc ∘ Prog.log) = LG ws := by
    unfold LG
    refine List.map_congr_left fun w _ => ?_
    show enc (.log w) = _
    rw [enc]
  rw [this]
theorem enc_six (ws : List Str) : enc (six ws) = .tuple [.str "seq", .tuple ((List.range 6).map fun k => .tuple [.str "seq", .tuple (LG (chunk ws k))])] := by
  rw [six, enc, encs_eq, List.map_map]
  have : (List.range 6).map (enc ∘ fun k => Prog.seq (logs (chunk ws k))) = (List.range 6).map fun k => .tuple [.str "seq", .tuple (LG (chunk ws k))] := List.map_congr_left fun k _ => enc_logs (chunk ws k)
  rw [this]
theorem sl_mid (xs : List D) (k : Nat) (h : 12 * k + 12 ≤ xs.length) : gSl (some ((k : Int) * 12)) (some ((k : Int) * 12 + 12)) (.list xs) = some (.t ((xs.drop (12 * k)).take 12)) := by
  have e1 : (k : Int) * 12 = ((12 * k : Nat) : Int) := by omega
  have e2 : (k : Int) * 12 + 12 = ((12 * k + 12 : Nat) : Int) := by omega
  rw [e2, e1]
  show some (R.t (cutD xs (some ((12 * k : Nat) : Int)) (some ((12 * k + 12 : Nat) : Int)))) = _
  unfold cutD
  have a : min (12 * k) xs.length = 12 * k := by omega
  have b : min (12 * k + 12) xs.length = 12 * k + 12 := by omega
  rw [HT.sIx_nat, HT.sIx_nat, a, b, Nat.add_sub_cancel_left]
theorem LG_chunk (ws : List Str) (k : Nat) : ((LG ws).drop (12 * k)).take 12 = LG (chunk ws k) := by
  unfold LG chunk
  rw [List.map_take, List.map_drop]
theorem LG_len (ws : List Str) : (LG ws).length = ws.length := by rw [LG, List.length_map]
theorem LG_sm {ws : List Str} (h : ws.length ≤ 100) : (LG ws).length ≤ 100 := by rw [LG_len]; exact h
theorem ints6 : intsC 0 12 6 = (List.range 6).map fun k : Nat => PyData.int ((k : Int) * 12) := by
  unfold intsC
  simp
theorem q_left {G : Nat → FM} {ws : List Str} (h : ws.length = 72) {x0 x2 x3 x4 x5 x6 x7 x8 : Slot} : cmpL 1 (gn 1 9) tyes (q__law_long_rows_right_1 G) [9] (intsC 0 12 6) [] [x0, .own (LG ws), x2, x3, x4, x5, x6, x7, x8, .no] =
    some ((List.range 6).map fun k => .tuple [.str "seq", .tuple (LG (chunk ws k))], [x0, .own (LG ws), x2, x3, x4, x5, x6, x7, x8, .no]) := by
  rw [ints6]
  refine cmp_map (fun k : Nat => PyData.int ((k : Int) * 12)) (fun k => .tuple [.str "seq", .tuple (LG (chunk ws k))]) (by simp) (by decide) rfl (List.range 6) [] (by simp) fun k hk => ?_
  have s := sl_mid (LG ws) k (by rw [LG_len, h]; have := List.mem_range.mp hk; omega)
  rw [LG_chunk] at s
  simp [q__law_long_rows_right_1, s]
theorem q_right {G : Nat → FM} {ws : List Str} (h : ws.length = 72) {x0 x1 x2 x4 x5 x6 x7 x8 : Slot} : cmpL 1 (gn 1 9) tyes (q__law_long_rows_right_0 G) [9] (intsC 0 12 6) [] [x0, x1, x2, .own (LG ws), x4, x5, x6, x7, x8, .no] =
    some ((List.range 6).map fun k => .tuple [.str "seq", .tuple (LG (chunk ws k))], [x0, x1, x2, .own (LG ws), x4, x5, x6, x7, x8, .no]) := by
  rw [ints6]
  refine cmp_map (fun k : Nat => PyData.int ((k : Int) * 12)) (fun k => .tuple [.str "seq", .tuple (LG (chunk ws k))]) (by simp) (by decide) rfl (List.range 6) [] (by simp) fun k hk => ?_
  have s := sl_mid (LG ws) k (by rw [LG_len, h]; have := List.mem_range.mp hk; omega)
  rw [LG_chunk] at s
  simp [q__law_long_rows_right_0, s]
theorem as_len : as72.length = 72 := List.length_replicate ..
theorem oth_len {k : Nat} (h : k ≤ 71) : (oth k).length = 72 := by
  unfold oth
  simp
  omega
theorem as_ok : ∀ w ∈ as72, PyData.canLay0 (.str w) = true := fun w hw => by
  rw [List.eq_of_mem_replicate hw]
  exact la
theorem oth_ok (k : Nat) : ∀ w ∈ oth k, PyData.canLay0 (.str w) = true := fun w hw => by
  rcases List.mem_append.mp hw with h | h
  · rw [List.eq_of_mem_replicate h]
    exact la
  · rcases List.mem_cons.mp h with h | h
    · rw [h]
      exact lb
    · rw [List.eq_of_mem_replicate h]
      exact la
abbrev LL : Prog := six as72
abbrev RR' (k : Nat) : Prog := six (oth k)
theorem row_as {k : Nat} (h : k ≤ 71) : (as72.map some : Row) = List.replicate k (some wa) ++ some wa :: List.replicate (71 - k) (some wa) := by
  unfold as72
  rw [List.map_replicate]
  rw [← List.replicate_succ, List.replicate_append_replicate]
  congr 1
  omega
theorem row_oth (k : Nat) : ((oth k).map some : Row) = List.replicate k (some wa) ++ some wb :: List.replicate (71 - k) (some wa) := by
  unfold oth
  simp
theorem ab : ¬ (some wa : Option Str) = some wb := fun e => absurd (Option.some.inj e) (by decide)
section
variable {k : Nat} (h : k ≤ 71)
include h
theorem pair_LR : Pair LL (RR' k) := pair_now (nowc_six as_len) (nowc_six (oth_len h)) (ok_six as_len as_ok) (ok_six (oth_len h) (oth_ok k)) (Nat.le_trans (dep_six _) (by decide)) (Nat.le_trans (dep_six _) (by decide)) (by decide) (by decide)
theorem fu_LR : fu ((as72.map some : Row) ++ none :: []) (((oth k).map some : Row) ++ none :: []) = k := by
  rw [row_as h, row_oth, List.append_assoc, List.append_assoc]
  exact fu_rep ab _ _ k
theorem fd_LR : fd LL (RR' k) = some (0, k) := by
  have := fd_now (pair_LR h) (now_six as72 as_len) (now_six (oth k) (oth_len h)) (fun e => by
    have z := List.append_cancel_right e
    rw [row_as h, row_oth] at z
    have z2 := List.append_cancel_left z
    exact ab (List.cons.inj z2).1)
  rw [this, fu_LR h]
theorem at_as : (as72.map some : Row)[k]? = some (some wa) := by rw [row_as h]; simp
theorem at_oth : ((oth k).map some : Row)[k]? = some (some wb) := by rw [row_oth]; simp
theorem te_L {n : Nat} (hn : 13 < n) (s : Option Int) (hs : s = none ∨ s = some 0) : val (sem n 18) [.dat (enc LL), .dat (testD none s), .dat (.int k)] = some (.d (.str wa)) := by
  refine te_now (nowc_six as_len) (now_six as72 as_len) (ok_six as_len as_ok) (Nat.le_trans (dep_six _) (by decide)) (by decide) hn none s (.inl rfl) hs k (by omega) ?_
  have l : k < ((as72.map some : Row).map wd).length := by simp [as_len]; omega
  have g : ((as72.map some : Row).map wd)[k]? = some (.str wa) := by rw [List.getElem?_map, at_as h]; rfl
  rw [List.append_assoc, List.append_assoc, List.getElem?_append_left l, g]
theorem te_R {n : Nat} (hn : 13 < n) (s : Option Int) (hs : s = none ∨ s = some 0) : val (sem n 18) [.dat (enc (RR' k)), .dat (testD none s), .dat (.int k)] = some (.d (.str wb)) := by
  refine te_now (nowc_six (oth_len h)) (now_six (oth k) (oth_len h)) (ok_six (oth_len h) (oth_ok k)) (Nat.le_trans (dep_six _) (by decide)) (by decide) hn none s (.inl rfl) hs k (by omega) ?_
  have l : k < (((oth k).map some : Row).map wd).length := by simp [oth_len h]; omega
  have g : (((oth k).map some : Row).map wd)[k]? = some (.str wb) := by rw [List.getElem?_map, at_oth h]; rfl
  rw [List.append_assoc, List.append_assoc, List.getElem?_append_left l, g]
theorem tl_LR {n : Nat} (hn : 13 < n) : val (sem (n + 1) 19) [.dat (enc LL), .dat (enc (RR' k))] = some (.d (.tuple [testD none (some 0), .int k])) := by
  have p := pair_LR h
  have e := tl_ok p.op p.oq p.wp p.wq (by have := p.d; omega) (p.run hn) (fd_LR h)
  rw [e]
  have g1 : gp LL 0 = some (72 : Int) := by
    unfold gp
    rw [(nowc_six as_len).f, if_pos (Int.le_refl 0), (now_six as72 as_len).z]
    simp [as_len]
  have g2 : gp (RR' k) 0 = some (72 : Int) := by
    unfold gp
    rw [(nowc_six (oth_len h)).f, if_pos (Int.le_refl 0), (now_six (oth k) (oth_len h)).z]
    simp [oth_len h]
  have c0 : cb LL 0 = 0 := by rw [(nowc_six as_len).c]; rfl
  have nn : ¬ none ∈ (mkd LL 0).take k := by
    rw [mk_now (now_six as72 as_len) 0 (Int.le_refl 0), if_pos rfl, row_as h]
    intro z
    rw [List.append_assoc, List.take_left' (by simp)] at z
    cases List.eq_of_mem_replicate z
  have ne : ¬ (72 : Int) = (k : Int) := by omega
  unfold tlD
  rw [g1, g2, c0, if_neg nn]
  simp [ne]
end
end K41
end
section
set_option maxRecDepth 100000
set_option maxHeartbeats 4000000
/-! Mm: the last row raced; _law_long_rows_right. -/
namespace K41
open PySem PySem.Spec L2 Z
def raceP : Prog := .race [.seq (logs (List.replicate 11 wa)), .log wa]
def lastP : Prog := .seq (((List.range 5).map fun k => .seq (logs (chunk as72 k))) ++ [raceP])
theorem now_race {p q : Prog} {L R L' R' : Row} (hp : Now p L R) (hq : Now q L' R') : Now (.race [p, q]) L (R ++ (L' ++ R')) := by
  have k : keyR [0, 0] = 0 := by decide
  have f : fins [p, q] = [0, 0] := by rw [fins, fins, fins, hp.f, hq.f]
  refine ⟨by rw [fin, f]; rfl, ?_, fun t ht => ?_⟩
  · rw [sd, f, k]
    simp [sdf, besG, shut, hp.z, hq.z]
  · rw [sd, f, k]
    simp only [sdf, List.map_cons, List.map_nil, besG, hp.p t ht, hq.p t ht]
    unfold shut
    split <;> rfl
theorem now_raceP : Now raceP (List.replicate 11 (some wa)) [some wa] := by
  have := now_race (now_logs (List.replicate 11 wa)) (now_log wa)
  rw [List.map_replicate] at this
  exact this
theorem now_last : Now lastP (List.replicate 71 (some wa)) [some wa] := by
  have := now_seq (((List.range 5).map fun k => (Prog.seq (logs (chunk as72 k)), (chunk as72 k).map some, [])) ++ [(raceP, List.replicate 11 (some wa), [some wa])]) fun x hx => by
    rcases List.mem_append.mp hx with hx | hx
    · obtain ⟨k, _, rfl⟩ := List.mem_map.mp hx
      exact now_logs (chunk as72 k)
    · rw [List.mem_singleton.mp hx]
      exact now_raceP
  exact this
theorem nowc_raceP : NowC raceP 12 := by
  have := nowc_race [(.seq (logs (List.replicate 11 wa)), 11), (.log wa, 1)] (by
    show minL [fin (.seq (logs (List.replicate 11 wa))), 0] = 0
    rw [(nowc_logs _).f]
    rfl) fun x hx => by
    rcases List.mem_cons.mp hx with rfl | hx
    · exact nowc_logs (List.replicate 11 wa)
    · rw [List.mem_singleton.mp hx]
      exact nowc_log wa
  exact this
theorem nowc_last : NowC lastP 72 := by
  have := nowc_seq (((List.range 5).map fun k => (Prog.seq (logs (chunk as72 k)), (chunk as72 k).length)) ++ [(raceP, 12)]) fun x hx => by
    rcases List.mem_append.mp hx with hx | hx
    · obtain ⟨k, _, rfl⟩ := List.mem_map.mp hx
      exact nowc_logs (chunk as72 k)
    · rw [List.mem_singleton.mp hx]
      exact nowc_raceP
  exact this
theorem ok_raceP : ok raceP := by
  refine ⟨⟨by decide, by simp⟩, oks_of fun p hp => ?_⟩
  rcases List.mem_cons.mp hp with rfl | hp
  · exact ok_logs (by decide) fun w hw => by
      rw [List.eq_of_mem_replicate hw]
      exact la
  · rw [List.mem_singleton.mp hp]
    exact la
theorem ok_last : ok lastP := by
  refine ⟨by simp, oks_of fun p hp => ?_⟩
  rcases List.mem_append.mp hp with hp | hp
  · obtain ⟨k, _, rfl⟩ := List.mem_map.mp hp
    refine ok_logs ?_ fun w hw => as_ok w (chunk_mem hw)
    unfold chunk
    rw [List.length_take]
    omega
  · rw [List.mem_singleton.mp hp]
    exact ok_raceP
theorem dep_last : dep lastP ≤ 6 := by
  have : deps (((List.range 5).map fun k => Prog.seq (logs (chunk as72 k))) ++ [raceP]) ≤ 4 := deps_le fun p hp => by
    rcases List.mem_append.mp hp with hp | hp
    · obtain ⟨k, _, rfl⟩ := List.mem_map.mp hp
      exact Nat.le_trans (dep_logs _) (by decide)
    · rw [List.mem_singleton.mp hp]
      have a := dep_logs (List.replicate 11 wa)
      simp only [raceP, dep, deps] at a ⊢
      omega
  rw [lastP, dep]
  omega
theorem pair_last : Pair LL lastP := pair_now (nowc_six as_len) nowc_last (ok_six as_len as_ok) ok_last (Nat.le_trans (dep_six _) (by decide)) (Nat.le_trans dep_last (by decide)) (by decide) (by decide)
theorem fd_last : fd LL lastP = some (0, 71) := by
  have e1 : (as72.map some : Row) ++ none :: [] = List.replicate 71 (some wa) ++ some wa :: [none] := rfl
  have ne : ¬ (some wa : Option Str) = none := fun e => by cases e
  have := fd_now pair_last (now_six as72 as_len) now_last (fun e => by
    rw [e1] at e
    have z2 := List.append_cancel_left e
    exact ne (List.cons.inj z2).1)
  rw [this, e1, fu_rep ne]
theorem te_last {n : Nat} (hn : 13 < n) : val (sem n 18) [.dat (enc lastP), .dat (testD (some 0) none), .dat (.int 71)] = some (.d (.int 0)) :=
  te_now nowc_last now_last ok_last (Nat.le_trans dep_last (by decide)) (by decide) hn (some 0) none (.inr rfl) (.inl rfl) 71 (by decide) (by
    rw [List.append_assoc, List.append_assoc, List.getElem?_append_right (by simp)]
    simp)
theorem enc_race : enc raceP = .tuple [.str "race", .tuple [.tuple [.str "seq", .tuple (LG (List.replicate 11 wa))], .tuple [.str "log", .str "a"]]] := by
  rw [raceP, enc, encs, encs, encs, enc_logs, enc]
theorem enc_last : enc lastP = .tuple [.str "seq", .tuple (((List.range 5).map fun k => .tuple [.str "seq", .tuple (LG (chunk as72 k))]) ++ [enc raceP])] := by
  rw [lastP, enc, encs_eq, List.map_append, List.map_map]
  have : (List.range 5).map (enc ∘ fun k => Prog.seq (logs (chunk as72 k))) = (List.range 5).map fun k => .tuple [.str "seq", .tuple (LG (chunk as72 k))] := List.map_congr_left fun k _ => enc_logs (chunk as72 k)
  rw [this]
  rfl
theorem rep_logs : gMul (.list [.tuple [.str "log", .str "a"]]) (.int 72) = some (.t (LG as72)) := by rfl
theorem sl_as {k : Nat} (h : k ≤ 71) : gSl none (some (k : Nat)) (.list (LG as72)) = some (.t (LG (List.replicate k wa))) := by
  rw [sl_to _ _ (by rw [LG_len, as_len]; omega)]
  unfold LG as72
  rw [List.map_replicate, List.take_replicate, List.map_replicate, Nat.min_eq_left (by omega)]
theorem sl_as2 {k : Nat} (h : k ≤ 71) : gSl (some ((k : Int) + 1)) none (.list (LG as72)) = some (.t (LG (List.replicate (71 - k) wa))) := by
  have e : (k : Int) + 1 = ((k + 1 : Nat) : Int) := by omega
  rw [e, sl_from _ _ (by rw [LG_len, as_len]; omega)]
  unfold LG as72
  rw [List.map_replicate, List.drop_replicate, List.map_replicate]
  congr 3
  omega
theorem LG_oth (k : Nat) : LG (oth k) = LG (List.replicate k wa) ++ .tuple [.str "log", .str "b"] :: LG (List.replicate (71 - k) wa) := by
  unfold LG oth
  rw [List.map_append, List.map_cons]
end K41
end
section
set_option maxRecDepth 100000
set_option maxHeartbeats 4000000
/-! Mn: _law_long_rows_right, run. -/
namespace K41
open PySem PySem.Spec L2 Z
def kxm (f : FM) : List A × DS → Option (R × DS) := fun p => (argS p.2 p.1).bind fun as => if (lent p.1).Nodup then (f as).bind fun q => some (q.1.r, back p.1 q.2 p.2) else none
theorem xcall_m (f : FM) (i : Nat) (b : DS → Option (List A × DS)) (s : DS) : xcall f (pmutC i b) s = (pmutC i b s).bind (kxm f) := rfl
theorem ap_kxm (f : FM) (as : List A) (s : DS) : kxm f (as, s) = (argS s as).bind fun bs => if (lent as).Nodup then (f bs).bind fun q => some (q.1.r, back as q.2 s) else none := rfl
theorem ap_pmutC (i : Nat) (b : DS → Option (List A × DS)) (s : DS) (xs : List D) (h : s[i]? = some (.own xs)) : pmutC i b s = (b s).bind fun w => some (.m i :: w.1, w.2) := by
  unfold pmutC
  rw [h]
  rfl
def kpc (b : DS → Option (List A × DS)) : D × DS → Option (List A × DS) := fun q => (b q.2).bind fun w => some (.d q.1 :: w.1, w.2)
theorem ap_pcons (np : Nat) (a : XM) (b : DS → Option (List A × DS)) (s : DS) : pcons np a b s = (a s).bind (kfz np (kpc b)) := rfl
theorem ap_kpc (b : DS → Option (List A × DS)) (d : D) (s : DS) : kpc b (d, s) = (b s).bind fun w => some (.d d :: w.1, w.2) := rfl
theorem ap_pnil (s : DS) : pnil s = some ([], s) := rfl
def prt (ws : List Str) : List D := (List.range 6).map fun k => .tuple [.str "seq", .tuple (LG (chunk ws k))]
def prt5 : List D := (List.range 5).map fun k => .tuple [.str "seq", .tuple (LG (chunk as72 k))]
def LG11 : List D := LG (List.replicate 11 wa)
def LGa (k : Nat) : List D := LG (List.replicate k wa)
theorem eq2 (n : Bool) (a b c d : Int) : gEq n (.tuple [.int a, .int b]) (.tuple [.int c, .int d]) = some (.d (.bool (if n then !decide (a = c ∧ b = d) else decide (a = c ∧ b = d)))) := by
  show (if true = true then some (R.d (.bool (if n then !((a == c) && ((b == d) && true)) else ((a == c) && ((b == d) && true))))) else none) = _
  rw [if_pos rfl, Bool.and_true]
  have e : ((a == c) && (b == d)) = decide (a = c ∧ b = d) := by
    by_cases x : a = c <;> by_cases y : b = d <;> simp [x, y]
  rw [e]
theorem prt_len (ws : List Str) : (prt ws).length = 6 := by simp [prt]
theorem prt5_len : prt5.length = 5 := by simp [prt5]
theorem take5 : gSl none (some 5) (.tuple (prt as72)) = some (.d (.tuple prt5)) := by
  have := slT_to (prt as72) 5 (by rw [prt_len]; omega)
  have e : (prt as72).take 5 = prt5 := by
    unfold prt prt5
    rw [← List.map_take]
    rfl
  rw [e] at this
  exact this
theorem add5 (x : D) : gAdd (.tuple prt5) (.tuple [x]) = some (.d (.tuple (prt5 ++ [x]))) := op_addt prt5 [x] (by rw [prt5_len, List.length_singleton]; decide)
theorem enc_LL : enc LL = .tuple [.str "seq", .tuple (prt as72)] := enc_six as72
theorem enc_RR (k : Nat) : enc (RR' k) = .tuple [.str "seq", .tuple (prt (oth k))] := enc_six (oth k)
theorem enc_la : enc lastP = .tuple [.str "seq", .tuple (prt5 ++ [.tuple [.str "race", .tuple [.tuple [.str "seq", .tuple LG11], .tuple [.str "log", .str "a"]]]])] := by
  rw [enc_last, enc_race]
  rfl
theorem sl11 : gSl none (some 11) (.list (LG as72)) = some (.t LG11) := sl_as (k := 11) (by decide)
theorem add_a (k : Nat) (h : k ≤ 71) : gAdd (.list (LGa k)) (.list [.tuple [.str "log", .str "b"]]) = some (.t (LGa k ++ [.tuple [.str "log", .str "b"]])) := op_addl _ _ (by rw [LGa, LG_len, List.length_replicate]; simp; omega)
theorem add_b (k : Nat) (h : k ≤ 71) : gAdd (.list (LGa k ++ [.tuple [.str "log", .str "b"]])) (.list (LGa (71 - k))) = some (.t (LG (oth k))) := by
  rw [LG_oth, op_addl _ _ (by rw [List.length_append, LGa, LGa, LG_len, LG_len, List.length_replicate, List.length_replicate]; simp; omega), List.append_assoc]
  rfl
theorem rng12 : Builtin.Range.small 0 72 12 = true ∧ Builtin.Range.rangeSize 0 72 12 = 6 := by decide
theorem rows_ok {n : Nat} (hn : 15 < n) {a b c : Int} (b0 : 0 ≤ b) (b1 : b < 2 ^ 61) (c0 : 0 ≤ c) (c1 : c ≤ 100) : val (sem (n + 1) 28) [.own [.int a, .int b, .int c]] = some (.d (.bool true)) := by
  obtain ⟨m, rfl⟩ : ∃ m, n = m + 2 := ⟨n - 2, by omega⟩
  obtain ⟨x, a1, d1, x0, x1, y0, y1, e1⟩ := take_ok (n := m + 1) (a := a) (k := 12) b0 b1 c0 (by omega) (by decide) (by decide)
  obtain ⟨r, a2, d2, r0, r1, z0, z1, e2⟩ := of_ok (n := m) (a := a1) (x := x) b0 b1 y0 (by omega) x0 (by omega)
  obtain ⟨k, hk⟩ : ∃ k : Nat, 71 - r = (k : Int) := ⟨(71 - r).toNat, by omega⟩
  have h : k ≤ 71 := by omega
  have f1 := (pair_LR h).run (n := m + 2) (by omega)
  rw [fd_LR h] at f1
  have f2 := pair_last.run (n := m + 2) (by omega)
  rw [fd_last] at f2
  have s1 := st_ok (n := m + 1) (b := none) (s := none) (k := (k : Int)) (r := true) (by omega) rfl rfl (by omega) (te_L h (by omega) none (.inl rfl)) (te_R h (by omega) none (.inl rfl)) (by rfl)
  have t1 := tl_LR h (n := m + 1) (by omega)
  have g1 := te_L h (n := m + 2) (by omega) (some 0) (.inr rfl)
  have g2 := te_R h (n := m + 2) (by omega) (some 0) (.inr rfl)
  have g3 := te_last (n := m + 2) (by omega)
  have l1 := sl_as h
  have l2 := sl_as2 h
  have l3 := add_a k h
  have l4 := add_b k h
  have q1 := fun x0 x2 x3 x4 x5 x6 x7 x8 => q_left (G := sem (m + 2)) as_len (x0 := x0) (x2 := x2) (x3 := x3) (x4 := x4) (x5 := x5) (x6 := x6) (x7 := x7) (x8 := x8)
  have q2 := fun x0 x1 x2 x4 x5 x6 x7 x8 => q_right (G := sem (m + 2)) (oth_len h) (x0 := x0) (x1 := x1) (x2 := x2) (x4 := x4) (x5 := x5) (x6 := x6) (x7 := x7) (x8 := x8)
  have p1 : (List.range 6).map (fun k => PyData.tuple [.str "seq", .tuple (LG (chunk as72 k))]) = prt as72 := rfl
  have p2 : (List.range 6).map (fun j => PyData.tuple [.str "seq", .tuple (LG (chunk (oth k) j))]) = prt (oth k) := rfl
  rw [p1] at q1
  rw [p2] at q2
  have rl := rep_logs
  have r12 := rng12
  have s11 := sl11
  have tk := take5
  simp only [enc_LL, enc_RR, enc_la, testD, oD, fdD] at f1 f2 s1 t1 g1 g2 g3
  simp only [show LG (List.replicate k wa) = LGa k from rfl, show LG (List.replicate (71 - k) wa) = LGa (71 - k) from rfl] at l1 l2
  simp only [wa, wb] at g1 g2
  have nab : (("a" : Str) = ("b" : Str)) = False := eq_false (by decide)
  have pm : ∀ (x y z : D) (r : DS) (b : DS → Option (List A × DS)), pmutC 0 b (.own [x, y, z] :: r) = (b (.own [x, y, z] :: r)).bind fun w => some (.m 0 :: w.1, w.2) := fun x y z r b => ap_pmutC 0 b _ [x, y, z] rfl
  simp [e__law_long_rows_right, b__law_long_rows_right, rl, xcall_m, ap_kxm, pm, ap_pcons, ap_kpc, ap_pnil, argS, lent, back, e1, e2, hk, l1, l2, l3, l4, r12, q1, q2, f1, eq2, s1, t1, g1, g2, tk, add5, s11, f2, g3, nab]
end K41
end
section
set_option maxRecDepth 100000
set_option maxHeartbeats 4000000
/-! Mo: the other programs of the law. -/
namespace K41
open PySem PySem.Spec L2 Z
abbrev la1 : Prog := .log wa
def zin (m : Int) : Prog := .seq [.await m, .log wz]
def gone (m : Int) : Prog := .fork (zin m)
def nul : Prog := .seq []
def bck (m : Int) : Prog := .race [nul, zin m]
theorem te_gen {p : Prog} (o : ok p) (w : wt p ≤ 900) (dp : dep p ≤ 10) {n : Nat} (hn : 13 < n) (b s : Option Int) (k l c c2 : Int) (l0 : 0 ≤ l) (l1 : l < 2 ^ 63) (hk : k < tc p b s none) (e1 : tc p b s (some l) = c) (e2 : tc p b s (some (l + 1)) = c2) (hl : c ≤ k) (hr : k < c2) {row : List D} (er : trow p b s l = row) {d : D} (hd : row[(k - c).toNat]? = some d) :
    val (sem n 18) [.dat (enc p), .dat (testD b s), .dat (.int k)] = some (.d d) :=
  te_at o (by omega) (by omega) hk l l0 l1 (by rw [e1]; exact hl) (by rw [e2]; exact hr) (by rw [er, e1]; exact hd)
theorem run_one {n : Nat} {body : SM} {x : Slot} {r : Rt} (h1 : 1 ≤ n) (h : val (Z.run 1 n body) [x] = some r) : ∃ o, Z.run 1 n body [x] = some (r, [o]) := by
  unfold val at h
  cases e : Z.run 1 n body [x] with
  | none => rw [e] at h; cases h
  | some p =>
    obtain ⟨r', os⟩ := p
    rw [e] at h
    cases h
    rw [run_as 1 n body [x] rfl h1] at e
    cases q : body ([x] ++ List.replicate (n - 1) .no) with
    | none => rw [q] at e; cases e
    | some p =>
      obtain ⟨o, s⟩ := p
      rw [q] at e
      have sh : ∃ o, outs [x] s = [o] := by
        have := outs_len [x] s
        match h : outs [x] s, this with
        | [o], _ => exact ⟨o, rfl⟩
      obtain ⟨o', ho⟩ := sh
      cases o with
      | nx =>
        cases e
        exact ⟨o', by rw [ho]⟩
      | rt r2 =>
        cases e
        exact ⟨o', by rw [ho]⟩
      | bk => cases e
      | ct => cases e
theorem nul_facts : ok nul ∧ fin nul = 0 ∧ (∀ t, sd nul t = ([], [])) ∧ (∀ t, cb nul t = 0) ∧ tot nul = 0 ∧ wt nul = 0 ∧ dep nul = 2 := by
  refine ⟨by simp [nul, ok, oks], rfl, fun t => ?_, fun t => ?_, rfl, rfl, rfl⟩
  · rw [nul, sd]
    unfold shut
    split <;> rfl
  · rw [nul, cb]
    split <;> rfl
theorem nul_1 {n : Nat} (hn : 13 < n) : val (sem n 18) [.dat (enc nul), .dat (testD (some 0) (some 0)), .dat (.int 1)] = some (.d (.int 1)) := by
  obtain ⟨f1, f2, f3, f4, f5, f6, f7⟩ := nul_facts
  refine te_gen f1 (by rw [f6]; omega) (by rw [f7]; omega) hn (some 0) (some 0) 1 0 0 2 (by omega) (by decide) ?_ ?_ ?_ (by decide) (by decide) (row := [.int 0, .int 1]) ?_ rfl
  · simp [tc, f5]
  · simp [tc, f4, f2]
  · simp [tc, f4, f2]
  · simp [trow, f2, f3]
theorem nul_2 {n : Nat} (hn : 13 < n) : val (sem n 18) [.dat (enc nul), .dat (testD none none), .dat (.int 0)] = some (.d .none) := by
  obtain ⟨f1, f2, f3, f4, f5, f6, f7⟩ := nul_facts
  exact te_none f1 (by rw [f7]; omega) (by simp [tc, f5])
section
variable {m : Int} (h1 : 1 ≤ m) (h2 : m ≤ 10 ^ 18)
include h1
theorem ok_zin : ok (zin m) := by
  have : 0 ≤ m := by omega
  simp [ok, oks, zin, lz, this]
theorem sd_zin (t : Int) : sd (zin m) t = if t = m then ([some wz], []) else ([], []) := by
  by_cases c2 : t < 0
  · have : ¬ 0 ≤ t := by omega
    have : ¬ t = m := by omega
    simp [zin, sd, sdf, seqG, shut, c2, *]
  · by_cases c3 : t < m
    · have e1 : t - m < 0 := by omega
      have e2 : ¬ t = m := by omega
      simp [zin, sd, sdf, seqG, fin, shut, c2, e1, e2]
    · have e1 : ¬ t - m < 0 := by omega
      by_cases c : t = m
      · subst c
        simp [zin, sd, sdf, seqG, fin, shut, c2]
      · have e2 : ¬ t - m = 0 := by omega
        simp [zin, sd, sdf, seqG, fin, shut, c2, e1, e2, c]
theorem cb_zin (t : Int) : cb (zin m) t = if t ≤ m then 0 else 1 := by
  by_cases c : t ≤ 0
  · have : t ≤ m := by omega
    simp [zin, cb, cbf, cG, c, this]
  · by_cases c2 : t ≤ m
    · have : t - m ≤ 0 := by omega
      simp [zin, cb, cbf, cG, fin, c, c2, this]
    · have : ¬ t - m ≤ 0 := by omega
      simp [zin, cb, cbf, cG, fin, c, c2, this]
theorem fin_zin : fin (zin m) = m := by simp [zin, fin, fins]
theorem ok_gone : ok (gone m) := ok_zin h1
theorem sd_gone (t : Int) : sd (gone m) t = if t = m then ([some wz], []) else ([], []) := by
  rw [gone, sd, sd_zin h1]
  split <;> rfl
theorem cb_gone (t : Int) : cb (gone m) t = if t ≤ m then 0 else 1 := by
  rw [gone, cb, cb_zin h1]
  by_cases c : t ≤ 0
  · have : t ≤ m := by omega
    simp [c, this]
  · simp [c]
theorem fin_gone : fin (gone m) = 0 := rfl
theorem tot_gone : tot (gone m) = 1 := by simp [gone, zin, tot, tots]
theorem wt_gone : wt (gone m) = 1 := by simp [gone, zin, wt, wts]
theorem dep_gone : dep (gone m) = 4 := by simp [gone, zin, dep, deps]
theorem mom_gone : mom (gone m) 0 = [m, m + 1] := by simp [gone, zin, mom, momf, mG, fin]
theorem ok_bck : ok (bck m) := by simp [bck, ok, oks, ok_zin h1, nul_facts.1]
theorem fins_bck : fins [nul, zin m] = [0, m] := by rw [fins, fins, fins, fin_zin h1]; rfl
theorem fin_bck : fin (bck m) = 0 := by
  rw [bck, fin, fins_bck h1]
  simp [minL]
  omega
theorem sd_bck (t : Int) (ht : 0 ≤ t) : sd (bck m) t = if t = m then ([], [some wz]) else ([], []) := by
  have k : keyR [0, m] = 0 := by
    have : min 0 m = 0 := by omega
    simp [keyR, minL, idxI, this]
  rw [bck, sd, fins_bck h1, k]
  simp only [sdf, List.map_cons, List.map_nil, sd_zin h1, nul_facts.2.2.1, besG]
  by_cases c : t = m
  · subst c
    simp [shut, ht]
  · simp [shut, ht, c]
theorem cb_bck (t : Int) : cb (bck m) t = if t ≤ m then 0 else 1 := by
  rw [bck, cb]
  by_cases c : t ≤ 0
  · have : t ≤ m := by omega
    simp [c, this]
  · simp [c, cbf, cG, nul_facts.2.2.2.1, cb_zin h1]
theorem tot_bck : tot (bck m) = 1 := by simp [bck, zin, nul, tot, tots]
theorem wt_bck : wt (bck m) = 1 := by simp [bck, zin, nul, wt, wts]
theorem dep_bck : dep (bck m) = 4 := by simp [bck, zin, nul, dep, deps]
theorem mom_bck : mom (bck m) 0 = [m, m + 1] := by simp [bck, zin, nul, mom, momf, mG, fin]
include h2
theorem pair_gb : Pair (gone m) (bck m) := by
  refine Pair.of (S := [0, m, m + 1]) (ok_gone h1) (ok_bck h1) (by rw [wt_gone h1]; omega) (by rw [wt_bck h1]; omega) (by rw [dep_gone h1, dep_bck h1]; omega) (by simp) (fun x hx => ?_) (fun x hx => ?_) (fun x hx => ?_)
  · simp at hx
    unfold Sm
    omega
  · rw [fin_gone h1, mom_gone h1] at hx
    simp at hx ⊢
    omega
  · rw [fin_bck h1, mom_bck h1] at hx
    simp at hx ⊢
    omega
theorem fd_gb : fd (gone m) (bck m) = some (m, 0) := by
  have p := pair_gb h1 h2
  have z : 0 ≤ m := by omega
  have k1 : mkd (gone m) m = [some wz, none] := by simp [mkd, fin_gone h1, sd_gone h1, z]
  have k2 : mkd (bck m) m = [none, some wz] := by simp [mkd, fin_bck h1, sd_bck h1 m z, z]
  have e := p.at (t0 := m) (.inl (by rw [mom_gone h1]; simp)) (fun t h0 ht => by
    have : ¬ t = m := by omega
    simp [mkd, fin_gone h1, fin_bck h1, sd_gone h1, sd_bck h1 t h0, this]) (by rw [k1, k2]; simp)
  rw [e, k1, k2]
  rfl
theorem gone_1 {n : Nat} (hn : 13 < n) : val (sem n 18) [.dat (enc (gone m)), .dat (testD (some m) none), .dat (.int 0)] = some (.d (.str wz)) := by
  have z : 0 ≤ m := by omega
  have a2 : ¬ m + 1 ≤ m := by omega
  refine te_gen (ok_gone h1) (by rw [wt_gone h1]; omega) (by rw [dep_gone h1]; omega) hn (some m) none 0 m 0 2 z (by omega) ?_ ?_ ?_ (by decide) (by decide) (row := [.str wz, .int 0]) ?_ rfl
  · simp [tc, tot_gone h1]
  · simp [tc, cb_gone h1, fin_gone h1]
  · simp [tc, cb_gone h1, fin_gone h1, a2]
    omega
  · simp [trow, fin_gone h1, sd_gone h1, z, wd]
theorem gone_2 {n : Nat} (hn : 13 < n) : val (sem n 18) [.dat (enc (gone m)), .dat (testD (some (m - 1)) none), .dat (.int 0)] = some (.d (.int 0)) := by
  have z : 0 ≤ m - 1 := by omega
  have a1 : m - 1 ≤ m := by omega
  have a2 : m - 1 < m := by omega
  have a3 : ¬ m - 1 = m := by omega
  have a4 : m - 1 + 1 = m := by omega
  refine te_gen (ok_gone h1) (by rw [wt_gone h1]; omega) (by rw [dep_gone h1]; omega) hn (some (m - 1)) none 0 (m - 1) 0 1 z (by omega) ?_ ?_ ?_ (by decide) (by decide) (row := [.int 0]) ?_ rfl
  · simp [tc, tot_gone h1]
  · simp [tc, cb_gone h1, fin_gone h1, a1]
  · rw [a4]
    simp [tc, cb_gone h1, fin_gone h1, a2]
  · simp [trow, fin_gone h1, sd_gone h1, z, a3, h1]
theorem gone_3 {n : Nat} (hn : 13 < n) : val (sem n 18) [.dat (enc (gone m)), .dat (testD (some (m + 1)) none), .dat (.int 0)] = some (.d (.str wz)) := by
  have z : 0 ≤ m := by omega
  have a2 : ¬ m + 1 ≤ m := by omega
  have a3 : ¬ m + 1 < m := by omega
  have a4 : ¬ m + 1 = m := by omega
  refine te_gen (ok_gone h1) (by rw [wt_gone h1]; omega) (by rw [dep_gone h1]; omega) hn (some (m + 1)) none 0 m 0 1 z (by omega) ?_ ?_ ?_ (by decide) (by decide) (row := [.str wz]) ?_ rfl
  · simp [tc, tot_gone h1]
  · simp [tc, cb_gone h1, fin_gone h1, a3]
  · simp [tc, cb_gone h1, fin_gone h1, a2]
  · simp [trow, fin_gone h1, sd_gone h1, z, wd, a4]
theorem gone_4 {n : Nat} (hn : 13 < n) : val (sem n 18) [.dat (enc (gone m)), .dat (testD none (some m)), .dat (.int 0)] = some (.d (.str wz)) := by
  have z : 0 ≤ m := by omega
  have a2 : ¬ m + 1 ≤ m := by omega
  refine te_gen (ok_gone h1) (by rw [wt_gone h1]; omega) (by rw [dep_gone h1]; omega) hn none (some m) 0 m 0 2 z (by omega) ?_ ?_ ?_ (by decide) (by decide) (row := [.str wz, .int 1]) ?_ rfl
  · simp [tc, tot_gone h1]
  · simp [tc, cb_gone h1, fin_gone h1]
  · simp [tc, cb_gone h1, fin_gone h1, a2]
    omega
  · simp [trow, fin_gone h1, sd_gone h1, z, wd]
theorem bck_1 {n : Nat} (hn : 13 < n) : val (sem n 18) [.dat (enc (bck m)), .dat (testD (some m) none), .dat (.int 0)] = some (.d (.int 0)) := by
  have z : 0 ≤ m := by omega
  have a2 : ¬ m + 1 ≤ m := by omega
  refine te_gen (ok_bck h1) (by rw [wt_bck h1]; omega) (by rw [dep_bck h1]; omega) hn (some m) none 0 m 0 2 z (by omega) ?_ ?_ ?_ (by decide) (by decide) (row := [.int 0, .str wz]) ?_ rfl
  · simp [tc, tot_bck h1]
  · simp [tc, cb_bck h1, fin_bck h1]
  · simp [tc, cb_bck h1, fin_bck h1, a2]
    omega
  · simp [trow, fin_bck h1, sd_bck h1 m z, z, wd]
end
end K41
end
section
set_option maxRecDepth 100000
set_option maxHeartbeats 4000000
/-! Mp: a word, and a word ahead of a wait; calls by name. -/
namespace K41
open PySem PySem.Spec L2 Z
section
variable {m : Int} (h1 : 1 ≤ m) (h2 : m ≤ 10 ^ 18)
include h1 h2
theorem dep_lft : dep (lft m) = 2 := by simp [lft, dep, deps]
theorem wt_lft : wt (lft m) = 1 := by simp [lft, wt, wts]
theorem tot_lft : tot (lft m) = 1 := by simp [lft, tot, tots]
theorem mom_lft : mom (lft m) 0 = [0, 1] := by simp [lft, mom, momf, mG, fin]
theorem pair_aw : Pair la1 (lft m) := by
  refine Pair.of (S := [0, 1, m]) la (ok_lft h1) (by decide) (by rw [wt_lft h1 h2]; omega) (by rw [dep_lft h1 h2]; decide) (by simp) (fun x hx => ?_) (fun x hx => ?_) (fun x hx => ?_)
  · simp at hx
    unfold Sm
    omega
  · simp [la1, fin, mom] at hx ⊢
    omega
  · rw [fin_lft h1, mom_lft h1 h2] at hx
    simp at hx ⊢
    omega
theorem mk_a : mkd la1 0 = [some wa, none] := by simp [mkd, la1, fin, sd]
theorem mk_w : mkd (lft m) 0 = [some wa] := by
  have : ¬ m ≤ 0 := by omega
  simp [mkd, fin_lft h1, sd_lft h1, this]
theorem fd_aw : fd la1 (lft m) = some (0, 1) := by
  have e := (pair_aw h1 h2).at (t0 := 0) (.inl (by simp)) (fun t h0 ht => absurd h0 (by omega)) (by rw [mk_a h1 h2, mk_w h1 h2]; simp)
  rw [e, mk_a h1 h2, mk_w h1 h2]
  rfl
theorem fd_wa : fd (lft m) la1 = some (0, 1) := by
  have e := (pair_aw h1 h2).swap.at (t0 := 0) (.inl (by simp)) (fun t h0 ht => absurd h0 (by omega)) (by rw [mk_a h1 h2, mk_w h1 h2]; simp)
  rw [e, mk_a h1 h2, mk_w h1 h2]
  rfl
theorem a_1 {n : Nat} (hn : 13 < n) : val (sem n 18) [.dat (enc la1), .dat (testD (some 0) none), .dat (.int 1)] = some (.d (.int 0)) :=
  te_gen (p := la1) la (by decide) (by decide) hn (some 0) none 1 0 0 2 (by omega) (by decide) (by decide) (by decide) (by decide) (by decide) (by decide) (row := [.str wa, .int 0]) (by simp [trow, la1, fin, sd, wd]) rfl
theorem a_2 {n : Nat} (hn : 13 < n) : val (sem n 18) [.dat (enc la1), .dat (testD (some 0) (some 0)), .dat (.int 1)] = some (.d (.int 0)) :=
  te_gen (p := la1) la (by decide) (by decide) hn (some 0) (some 0) 1 0 0 3 (by omega) (by decide) (by decide) (by decide) (by decide) (by decide) (by decide) (row := [.str wa, .int 0, .int 1]) (by simp [trow, la1, fin, sd, wd]) rfl
theorem w_gen {n : Nat} (hn : 13 < n) (b s : Option Int) (k l c c2 : Int) (l0 : 0 ≤ l) (l1 : l < 2 ^ 63) (hk : k < tc (lft m) b s none) (e1 : tc (lft m) b s (some l) = c) (e2 : tc (lft m) b s (some (l + 1)) = c2) (hl : c ≤ k) (hr : k < c2) {row : List D} (er : trow (lft m) b s l = row) {d : D} (hd : row[(k - c).toNat]? = some d) :
    val (sem n 18) [.dat (enc (lft m)), .dat (testD b s), .dat (.int k)] = some (.d d) :=
  te_gen (ok_lft h1) (by rw [wt_lft h1 h2]; omega) (by rw [dep_lft h1 h2]; omega) hn b s k l c c2 l0 l1 hk e1 e2 hl hr er hd
theorem w_1 {n : Nat} (hn : 13 < n) : val (sem n 18) [.dat (enc (lft m)), .dat (testD (some 0) none), .dat (.int 1)] = some (.d (.int 0)) := by
  have z : ¬ m ≤ 0 := by omega
  have z2 : ¬ m + 1 ≤ 0 := by omega
  have z3 : ¬ m = 0 := by omega
  refine w_gen h1 h2 hn (some 0) none 1 m 1 2 (by omega) (by omega) ?_ ?_ ?_ (by decide) (by decide) (row := [.int 0]) ?_ rfl
  · simp [tc, tot_lft h1 h2]
  · simp [tc, cb_lft h1, fin_lft h1, z]
  · simp [tc, cb_lft h1, fin_lft h1, z2]
    omega
  · simp [trow, fin_lft h1, sd_lft h1, z3]
theorem w_2 {n : Nat} (hn : 13 < n) : val (sem n 18) [.dat (enc (lft m)), .dat (testD (some 0) (some 0)), .dat (.int 1)] = some (.d (.int 1)) := by
  have z : ¬ m ≤ 0 := by omega
  have z2 : ¬ m < 1 := by omega
  have z3 : ¬ m < 0 := by omega
  refine w_gen h1 h2 hn (some 0) (some 0) 1 0 0 2 (by omega) (by decide) ?_ ?_ ?_ (by decide) (by decide) (row := [.str wa, .int 1]) ?_ rfl
  · simp [tc, tot_lft h1 h2]
  · simp [tc, cb_lft h1, fin_lft h1, z3]
  · simp [tc, cb_lft h1, fin_lft h1, z2]
  · simp [trow, fin_lft h1, sd_lft h1, z, wd]
theorem w_30 {n : Nat} (hn : 13 < n) : val (sem n 18) [.dat (enc (lft m)), .dat (testD (some m) (some (2 * m))), .dat (.int 0)] = some (.d (.str wa)) := by
  have z : ¬ m ≤ 0 := by omega
  have z2 : ¬ m + m < 1 := by omega
  have z3 : ¬ m + m < 0 := by omega
  have z4 : ¬ 2 * m < 1 := by omega
  have z5 : ¬ 2 * m < 0 := by omega
  have z6 : ¬ 2 * m = 0 := by omega
  refine w_gen h1 h2 hn (some m) (some (2 * m)) 0 0 0 1 (by omega) (by decide) ?_ ?_ ?_ (by decide) (by decide) (row := [.str wa]) ?_ rfl
  · simp [tc, tot_lft h1 h2]
  · simp [tc, cb_lft h1, fin_lft h1, z3, z5]
  · simp [tc, cb_lft h1, fin_lft h1, z2, z4]
  · simp [trow, fin_lft h1, sd_lft h1, z, z6, wd]
theorem w_3 {n : Nat} (hn : 13 < n) {k : Int} {d : D} (k1 : 1 ≤ k) (k2 : k < 3) (hd : ([.int 0, .int 1] : List D)[(k - 1).toNat]? = some d) : val (sem n 18) [.dat (enc (lft m)), .dat (testD (some m) (some (2 * m))), .dat (.int k)] = some (.d d) := by
  have z : ¬ 2 * m ≤ 0 := by omega
  have z2 : ¬ 2 * m + 1 ≤ 0 := by omega
  have z3 : ¬ m + m < 2 * m := by omega
  have z4 : m + m < 2 * m + 1 := by omega
  have z5 : ¬ 2 * m = 0 := by omega
  have z6 : m ≤ 2 * m := by omega
  have z7 : m = 2 * m - m := by omega
  refine w_gen h1 h2 hn (some m) (some (2 * m)) k (2 * m) 1 3 (by omega) (by omega) ?_ ?_ ?_ k1 k2 (row := [.int 0, .int 1]) ?_ hd
  · simp [tc, tot_lft h1 h2]
    omega
  · simp [tc, cb_lft h1, fin_lft h1, z, z3]
  · simp [tc, cb_lft h1, fin_lft h1, z2, z4]
    omega
  · simp [trow, fin_lft h1, sd_lft h1, z5, z6, ← z7]
theorem w_33 {n : Nat} (hn : 13 < n) : val (sem n 18) [.dat (enc (lft m)), .dat (testD (some m) (some (2 * m))), .dat (.int 3)] = some (.d .none) :=
  te_none (ok_lft h1) (by rw [dep_lft h1 h2]; omega) (by simp [tc, tot_lft h1 h2])
theorem tl_aw {n : Nat} (hn : 13 < n) : val (sem (n + 1) 19) [.dat (enc la1), .dat (enc (lft m))] = some (.d (.tuple [testD (some 0) (some 0), .int 1])) := by
  have p := pair_aw h1 h2
  have e := tl_ok p.op p.oq p.wp p.wq (by have := p.d; omega) (p.run hn) (fd_aw h1 h2)
  rw [e]
  have g1 : gp la1 0 = some (1 : Int) := by simp [gp, la1, fin, sd]
  have z : ¬ m < 0 := by omega
  unfold tlD
  rw [g1]
  simp [fin_lft h1, la1, fin, cb, z]
end
/-! _law_alike: equal data is alike -/
@[simp] theorem op_eqb (n : Bool) (a b : Bool) : gEq n (.bool a) (.bool b) = some (.d (.bool (if n then !decide (a = b) else decide (a = b)))) := rfl
theorem al_int (n : Nat) (i : Int) : val (sem (n + 1) 26) [.dat (.int i), .dat (.int i)] = some (.d (.bool true)) := by
  simp [e__law_alike, b__law_alike]
theorem al_bool (n : Nat) (i : Bool) : val (sem (n + 1) 26) [.dat (.bool i), .dat (.bool i)] = some (.d (.bool true)) := by
  simp [e__law_alike, b__law_alike]
theorem al_2 (n : Nat) (a b : Int) : val (sem (n + 2) 26) [.dat (.tuple [.int a, .int b]), .dat (.tuple [.int a, .int b])] = some (.d (.bool true)) := by
  have a1 := al_int n a
  have a2 := al_int n b
  have o := op_all [true, true]
  simp at o
  simp [e__law_alike, b__law_alike, q__law_alike_0, cmp_cons, cmp_nil, a1, a2, o]
theorem al_3 (n : Nat) (a b c : Int) : val (sem (n + 3) 26) [.dat (.tuple [.tuple [.int a, .int b], .int c]), .dat (.tuple [.tuple [.int a, .int b], .int c])] = some (.d (.bool true)) := by
  have a1 := al_2 n a b
  have a2 := al_int (n + 1) c
  have o := op_all [true, true]
  simp at o
  simp [e__law_alike, b__law_alike, q__law_alike_0, cmp_cons, cmp_nil, a1, a2, o]
theorem al_told (n : Nat) : val (sem (n + 4) 26) [.dat (.list [.bool false, .tuple [.int 0, .int 1], .tuple [.int 0, .int 1], .tuple [.tuple [.int 0, .int 0], .int 1], .bool true, .int 1]), .dat (.list [.bool false, .tuple [.int 0, .int 1], .tuple [.int 0, .int 1], .tuple [.tuple [.int 0, .int 0], .int 1], .bool true, .int 1])] = some (.d (.bool true)) := by
  have a1 := al_bool (n + 2) false
  have a2 := al_2 (n + 1) 0 1
  have a3 := al_3 n 0 0 1
  have a4 := al_bool (n + 2) true
  have a5 := al_int (n + 2) 1
  have o := op_all [true, true, true, true, true, true]
  simp at o
  simp [e__law_alike, b__law_alike, q__law_alike_0, cmp_cons, cmp_nil, a1, a2, a3, a4, a5, o]
end K41
end
section
set_option maxRecDepth 100000
set_option maxHeartbeats 4000000
set_option exponentiation.threshold 5000
/-! Mq: the law. -/
namespace K41
open PySem PySem.Spec L2 Z
def kck (f : FM) (pm : List Nat) : List D × DS → Option (R × DS) := fun p => if pm.all (fun i => decide (i < p.1.length)) = true then (val f (pick (Slot.no) pm (p.1.map Slot.dat))).bind fun q => some (q.r, p.2) else none
theorem xcallK_k (f : FM) (pm : List Nat) (a : DS → Option (List D × DS)) (s : DS) : xcallK f pm a s = (a s).bind (kck f pm) := by
  unfold xcallK kck val
  cases a s with
  | none => rfl
  | some p =>
    show (if _ then _ else _) = (if _ then _ else _)
    split
    · cases f (pick (Slot.no) pm (p.1.map Slot.dat)) <;> rfl
    · rfl
theorem ck1 (f : FM) (a : D) (s : DS) : kck f [0] ([a], s) = (val f [.dat a]).bind fun q => some (q.r, s) := rfl
theorem ck2 (f : FM) (a b : D) (s : DS) : kck f [1, 0] ([a, b], s) = (val f [.dat b, .dat a]).bind fun q => some (q.r, s) := rfl
theorem ck3 (f : FM) (a b c : D) (s : DS) : kck f [2, 1, 0] ([a, b, c], s) = (val f [.dat c, .dat b, .dat a]).bind fun q => some (q.r, s) := rfl
section
variable {m : Int} (h1 : 1 ≤ m) (h2 : m ≤ 10 ^ 18)
include h1 h2
theorem enc_w : enc (lft m) = .tuple [.str "seq", .tuple [.tuple [.str "log", .str "a"], .tuple [.str "await", .int m]]] := by simp [lft, enc, encs]
theorem enc_a : enc la1 = .tuple [.str "log", .str "a"] := by simp [la1, enc]
theorem enc_gone : enc (gone m) = .tuple [.str "fork", .tuple [.str "seq", .tuple [.tuple [.str "await", .int m], .tuple [.str "log", .str "z"]]]] := by simp [gone, zin, enc, encs]
theorem enc_bck : enc (bck m) = .tuple [.str "race", .tuple [.tuple [.str "seq", .tuple []], .tuple [.str "seq", .tuple [.tuple [.str "await", .int m], .tuple [.str "log", .str "z"]]]]] := by simp [bck, nul, zin, enc, encs]
theorem enc_nul : enc nul = .tuple [.str "seq", .tuple []] := by simp [nul, enc, encs]
theorem names_ok {n : Nat} (hn : 16 < n) : val (sem (n + 1) 27) [.dat (enc la1), .dat (enc (lft m))] = some (.d (.bool true)) := by
  obtain ⟨k, rfl⟩ : ∃ k, n = k + 4 := ⟨n - 4, by omega⟩
  have p := pair_aw h1 h2
  have f1 := p.run (n := k + 4) (by omega)
  have f0 := p.run (n := k + 3) (by omega)
  have s0 := same_ok f0
  have t0 := tl_aw h1 h2 (n := k + 3) (by omega)
  have st := st_ok (n := k + 3) (b := some 0) (s := some 0) (k := 1) (r := true) (by omega) rfl rfl (by decide) (a_2 h1 h2 (by omega)) (w_2 h1 h2 (by omega)) (by simp)
  have e1 := w_2 h1 h2 (n := k + 4) (by omega)
  have c1 := chg_ok p.op (by have := p.wp; omega) p.cp (n := k + 4) (by show 0 + 1 < k + 4; omega)
  have cc : chg la1 = [0, 1] := by decide
  rw [cc] at c1
  rw [fd_aw h1 h2] at f1 s0
  have al := al_told k
  simp only [enc_w h1 h2, enc_a h1 h2, testD, oD, fdD] at f1 s0 t0 st e1 c1
  simp at s0 c1
  simp [enc_w h1 h2, enc_a h1 h2, e__law_names_right, b__law_names_right, xcallK_k, ck1, ck2, ck3, f1, s0, t0, st, e1, c1, op_addl, al]
end
theorem law_val (k : Nat) (ns : List Int) : val (sem (k + 20) 29) [.dat (scr (ns.map .int))] = some (.d (.bool true)) := by
  obtain ⟨a, b, b0, b1, p1⟩ := pot_ok (n := k + 18) ns
  obtain ⟨r, a', c', r0, r1, c0, c1, tk⟩ := take_ok (n := k + 18) (a := a) (c := 0) (k := 10 ^ 18 - 1) b0 b1 (by decide) (by decide) (by decide) (by decide)
  obtain ⟨m, hm⟩ : ∃ m : Int, 1 + r = m := ⟨_, rfl⟩
  have h1 : 1 ≤ m := by omega
  have h2 : m ≤ 10 ^ 18 := by omega
  have g1 : val (sem (k + 19) 25) [.dat (.int m)] = some (.d (.bool true)) := gaps_ok (n := k + 18) h1 h2 (by omega)
  have g2 : val (sem (k + 19) 28) [.own [.int a', .int b, .int c']] = some (.d (.bool true)) := rows_ok (n := k + 18) (by omega) b0 b1 c0 (by omega)
  obtain ⟨o, g3⟩ : ∃ o, sem (k + 19) 28 [.own [.int a', .int b, .int c']] = some (.d (.bool true), [o]) := run_one (n := 10) (body := b__law_long_rows_right (sem (k + 18))) (by decide) g2
  have hn : 13 < k + 19 := by omega
  have hn2 : 13 < k + 18 := by omega
  have p := pair_aw h1 h2
  have f1 := p.run hn
  have s1 : val (sem (k + 19) 15) [.dat (enc la1), .dat (enc (lft m))] = _ := same_ok (p.run hn2)
  have s2 : val (sem (k + 19) 15) [.dat (enc (lft m)), .dat (enc la1)] = _ := same_ok (p.swap.run hn2)
  rw [fd_aw h1 h2] at f1 s1
  rw [fd_wa h1 h2] at s2
  have t1 : val (sem (k + 19) 21) [.dat (enc la1), .dat (enc (lft m)), .dat (.tuple [testD (some 0) none, .int 1])] = some (.d (.bool false)) := st_ok (n := k + 18) (by omega) rfl rfl (by decide) (a_1 h1 h2 hn2) (w_1 h1 h2 hn2) (by simp)
  have t2 : val (sem (k + 19) 21) [.dat (enc la1), .dat (enc (lft m)), .dat (.tuple [testD (some 0) (some 0), .int 1])] = some (.d (.bool true)) := st_ok (n := k + 18) (by omega) rfl rfl (by decide) (a_2 h1 h2 hn2) (w_2 h1 h2 hn2) (by simp)
  have w0 := w_30 h1 h2 hn
  have w1 := w_3 h1 h2 hn (k := 1) (d := .int 0) (by decide) (by decide) rfl
  have w2 := w_3 h1 h2 hn (k := 2) (d := .int 1) (by decide) (by decide) rfl
  have w3 := w_33 h1 h2 hn
  have nm : val (sem (k + 19) 27) [.dat (enc la1), .dat (enc (lft m))] = some (.d (.bool true)) := names_ok h1 h2 (n := k + 18) (by omega)
  have z1 := gone_1 h1 h2 hn
  have z2 := gone_2 h1 h2 hn
  have z3 := gone_3 h1 h2 hn
  have z4 := gone_4 h1 h2 hn
  have f2 := (pair_gb h1 h2).run hn
  rw [fd_gb h1 h2] at f2
  have y1 := bck_1 h1 h2 hn
  have u1 := nul_1 hn
  have u2 := nul_2 hn
  have p18 : gPow (.int 10) (.int 18) = some (.d (.int (10 ^ 18))) := by
    show (if 0 ≤ (18 : Int) ∧ (18 : Int) ≤ 1000000 ∧ (10 : Int).natAbs < 2 ^ 64 then some (R.d (.int (10 ^ (18 : Int).toNat))) else none) = _
    exact if_pos (by decide)
  have mm : gMul (.int 2) (.int m) = some (.d (.int (2 * m))) := mulOk (by decide) (small_nat (by omega) (by omega))
  have q1 : gEq true (.list [.str "a", .int 0, .int 1, .none]) (.list [.str "a", .int 0, .int 1, .none]) = some (.d (.bool false)) := eq_self true (by decide +kernel) rfl
  have q2 : gEq true (.list [.str "z", .int 0, .str "z", .str "z"]) (.list [.str "z", .int 0, .str "z", .str "z"]) = some (.d (.bool false)) := eq_self true (by decide +kernel) rfl
  have r4 : intsD 0 4 = [.int 0, .int 1, .int 2, .int 3] := by rfl
  have sm : smallI 4 = true := by decide
  have pm : ∀ (x : Slot) (u v w : D) (r : DS) (b : DS → Option (List A × DS)), pmutC 1 b (x :: .own [u, v, w] :: r) = (b (x :: .own [u, v, w] :: r)).bind fun w => some (.m 1 :: w.1, w.2) := fun x u v w r b => ap_pmutC 1 b _ [u, v, w] rfl
  have el : val (sem (k + 20) 29) [.dat (scr (ns.map .int))] = _ := e_law (k + 19) (.dat (scr (ns.map .int)))
  rw [el]
  simp only [enc_w h1 h2, enc_a h1 h2, enc_gone h1 h2, enc_bck h1 h2, enc_nul h1 h2, testD, oD, fdD, wa, wz] at f1 s1 s2 t1 t2 w0 w1 w2 w3 nm z1 z2 z3 z4 f2 y1 u1 u2
  simp at s1 s2 p18
  have tk' : sem (k + 19) 23 [.own [.int a, .int b, .int 0], .dat (.int (10 ^ 18 - 1))] = some (.d (.int r), [.own [.int a', .int b, .int c'], .dat (.int (10 ^ 18 - 1))]) := tk
  simp at tk'
  have p1' : val (sem (k + 19) 22) [.dat (scr (ns.map .int)), .dat (.int 0)] = some (.t [.int a, .int b, .int 0]) := p1
  generalize sem (k + 19) = G at g1 g3 f1 s1 s2 t1 t2 w0 w1 w2 w3 nm z1 z2 z3 z4 f2 y1 u1 u2 p1' tk' ⊢
  have j1 : (sasg 1 1 (xcall (G 22) (pcons 1 (xv 0) (pcons 1 (xc (.int 0)) pnil)))) [.dat (scr (ns.map .int)), .no, .no, .no, .no, .no, .no, .no, .no, .no] = some (.nx, [.dat (scr (ns.map .int)), .own [.int a, .int b, .int 0], .no, .no, .no, .no, .no, .no, .no, .no]) := by simp [p1', p18, xcall_m, ap_kxm, pm, ap_pcons, ap_kpc, ap_pnil, argS, lent, back, tk', hm, g1, g3, f1, eq2, s1, s2, t1, t2, r4, sm, cmp_cons, cmp_nil, q_law_0, q_law_1, w0, w1, w2, w3, mm, q1, nm, z1, z2, z3, z4, q2, f2, y1, u1, u2]
  have j2 : (sasg 1 2 (x2 gAdd (xc (.int 1)) (xcall (G 23) (pmutC 1 (pcons 1 (x2 gSub (x2 gPow (xc (.int 10)) (xc (.int 18))) (xc (.int 1))) pnil))))) [.dat (scr (ns.map .int)), .own [.int a, .int b, .int 0], .no, .no, .no, .no, .no, .no, .no, .no] = some (.nx, [.dat (scr (ns.map .int)), .own [.int a', .int b, .int c'], .dat (.int m), .no, .no, .no, .no, .no, .no, .no]) := by simp [p1', p18, xcall_m, ap_kxm, pm, ap_pcons, ap_kpc, ap_pnil, argS, lent, back, tk', hm, g1, g3, f1, eq2, s1, s2, t1, t2, r4, sm, cmp_cons, cmp_nil, q_law_0, q_law_1, w0, w1, w2, w3, mm, q1, nm, z1, z2, z3, z4, q2, f2, y1, u1, u2]
  have j3 : (sif (tor (tnot (tb (xcall (G 25) (pcons 1 (xv 2) pnil)))) (tnot (tb (xcall (G 28) (pmutC 1 pnil))))) (sret 1 (xc (.bool false))) snx) [.dat (scr (ns.map .int)), .own [.int a', .int b, .int c'], .dat (.int m), .no, .no, .no, .no, .no, .no, .no] = some (.nx, [.dat (scr (ns.map .int)), o, .dat (.int m), .no, .no, .no, .no, .no, .no, .no]) := by simp [p1', p18, xcall_m, ap_kxm, pm, ap_pcons, ap_kpc, ap_pnil, argS, lent, back, tk', hm, g1, g3, f1, eq2, s1, s2, t1, t2, r4, sm, cmp_cons, cmp_nil, q_law_0, q_law_1, w0, w1, w2, w3, mm, q1, nm, z1, z2, z3, z4, q2, f2, y1, u1, u2]
  have j4 : (sunp 1 (gtup (gcons (gn 1 3) (gcons (gn 1 4) gnil))) (xtup (dcons 1 (xtup (dcons 1 (xc (.str "log")) (dcons 1 (xc (.str "a")) dnil))) (dcons 1 (xtup (dcons 1 (xc (.str "seq")) (dcons 1 (xtup (dcons 1 (xtup (dcons 1 (xc (.str "log")) (dcons 1 (xc (.str "a")) dnil))) (dcons 1 (xtup (dcons 1 (xc (.str "await")) (dcons 1 (xv 2) dnil))) dnil))) dnil))) dnil)))) [.dat (scr (ns.map .int)), o, .dat (.int m), .no, .no, .no, .no, .no, .no, .no] = some (.nx, [.dat (scr (ns.map .int)), o, .dat (.int m), .dat (.tuple [.str "log", .str "a"]), .dat (.tuple [.str "seq", .tuple [.tuple [.str "log", .str "a"], .tuple [.str "await", .int m]]]), .no, .no, .no, .no, .no]) := by simp [p1', p18, xcall_m, ap_kxm, pm, ap_pcons, ap_kpc, ap_pnil, argS, lent, back, tk', hm, g1, g3, f1, eq2, s1, s2, t1, t2, r4, sm, cmp_cons, cmp_nil, q_law_0, q_law_1, w0, w1, w2, w3, mm, q1, nm, z1, z2, z3, z4, q2, f2, y1, u1, u2]
  have j5 : (sif (tor (tb (x2 (gEq true) (xcall (G 14) (pcons 1 (xv 3) (pcons 1 (xv 4) pnil))) (xtup (dcons 1 (xc (.int 0)) (dcons 1 (xc (.int 1)) dnil))))) (tor (tb (xcall (G 15) (pcons 1 (xv 3) (pcons 1 (xv 4) pnil)))) (tb (xcall (G 15) (pcons 1 (xv 4) (pcons 1 (xv 3) pnil)))))) (sret 1 (xc (.bool false))) snx) [.dat (scr (ns.map .int)), o, .dat (.int m), .dat (.tuple [.str "log", .str "a"]), .dat (.tuple [.str "seq", .tuple [.tuple [.str "log", .str "a"], .tuple [.str "await", .int m]]]), .no, .no, .no, .no, .no] = some (.nx, [.dat (scr (ns.map .int)), o, .dat (.int m), .dat (.tuple [.str "log", .str "a"]), .dat (.tuple [.str "seq", .tuple [.tuple [.str "log", .str "a"], .tuple [.str "await", .int m]]]), .no, .no, .no, .no, .no]) := by simp [p1', p18, xcall_m, ap_kxm, pm, ap_pcons, ap_kpc, ap_pnil, argS, lent, back, tk', hm, g1, g3, f1, eq2, s1, s2, t1, t2, r4, sm, cmp_cons, cmp_nil, q_law_0, q_law_1, w0, w1, w2, w3, mm, q1, nm, z1, z2, z3, z4, q2, f2, y1, u1, u2]
  have j6 : (sif (tor (tb (xcall (G 21) (pcons 1 (xv 3) (pcons 1 (xv 4) (pcons 1 (xtup (dcons 1 (xtup (dcons 1 (xc (.int 0)) (dcons 1 (xc .none) dnil))) (dcons 1 (xc (.int 1)) dnil))) pnil))))) (tnot (tb (xcall (G 21) (pcons 1 (xv 3) (pcons 1 (xv 4) (pcons 1 (xtup (dcons 1 (xtup (dcons 1 (xc (.int 0)) (dcons 1 (xc (.int 0)) dnil))) (dcons 1 (xc (.int 1)) dnil))) pnil))))))) (sret 1 (xc (.bool false))) snx) [.dat (scr (ns.map .int)), o, .dat (.int m), .dat (.tuple [.str "log", .str "a"]), .dat (.tuple [.str "seq", .tuple [.tuple [.str "log", .str "a"], .tuple [.str "await", .int m]]]), .no, .no, .no, .no, .no] = some (.nx, [.dat (scr (ns.map .int)), o, .dat (.int m), .dat (.tuple [.str "log", .str "a"]), .dat (.tuple [.str "seq", .tuple [.tuple [.str "log", .str "a"], .tuple [.str "await", .int m]]]), .no, .no, .no, .no, .no]) := by simp [p1', p18, xcall_m, ap_kxm, pm, ap_pcons, ap_kpc, ap_pnil, argS, lent, back, tk', hm, g1, g3, f1, eq2, s1, s2, t1, t2, r4, sm, cmp_cons, cmp_nil, q_law_0, q_law_1, w0, w1, w2, w3, mm, q1, nm, z1, z2, z3, z4, q2, f2, y1, u1, u2]
  have j7 : (sif (tb (x2 (gEq true) (xcmp 1 (irng1 (dcons 1 (xc (.int 4)) dnil)) (gn 1 8) tyes (q_law_1 G) [8]) (xlst (dcons 1 (xc (.str "a")) (dcons 1 (xc (.int 0)) (dcons 1 (xc (.int 1)) (dcons 1 (xc .none) dnil))))))) (sret 1 (xc (.bool false))) snx) [.dat (scr (ns.map .int)), o, .dat (.int m), .dat (.tuple [.str "log", .str "a"]), .dat (.tuple [.str "seq", .tuple [.tuple [.str "log", .str "a"], .tuple [.str "await", .int m]]]), .no, .no, .no, .no, .no] = some (.nx, [.dat (scr (ns.map .int)), o, .dat (.int m), .dat (.tuple [.str "log", .str "a"]), .dat (.tuple [.str "seq", .tuple [.tuple [.str "log", .str "a"], .tuple [.str "await", .int m]]]), .no, .no, .no, .no, .no]) := by simp [p1', p18, xcall_m, ap_kxm, pm, ap_pcons, ap_kpc, ap_pnil, argS, lent, back, tk', hm, g1, g3, f1, eq2, s1, s2, t1, t2, r4, sm, cmp_cons, cmp_nil, q_law_0, q_law_1, w0, w1, w2, w3, mm, q1, nm, z1, z2, z3, z4, q2, f2, y1, u1, u2]
  have j8 : (sif (tnot (tb (xcall (G 27) (pcons 1 (xv 3) (pcons 1 (xv 4) pnil))))) (sret 1 (xc (.bool false))) snx) [.dat (scr (ns.map .int)), o, .dat (.int m), .dat (.tuple [.str "log", .str "a"]), .dat (.tuple [.str "seq", .tuple [.tuple [.str "log", .str "a"], .tuple [.str "await", .int m]]]), .no, .no, .no, .no, .no] = some (.nx, [.dat (scr (ns.map .int)), o, .dat (.int m), .dat (.tuple [.str "log", .str "a"]), .dat (.tuple [.str "seq", .tuple [.tuple [.str "log", .str "a"], .tuple [.str "await", .int m]]]), .no, .no, .no, .no, .no]) := by simp [p1', p18, xcall_m, ap_kxm, pm, ap_pcons, ap_kpc, ap_pnil, argS, lent, back, tk', hm, g1, g3, f1, eq2, s1, s2, t1, t2, r4, sm, cmp_cons, cmp_nil, q_law_0, q_law_1, w0, w1, w2, w3, mm, q1, nm, z1, z2, z3, z4, q2, f2, y1, u1, u2]
  have j9 : (sasg 1 5 (xtup (dcons 1 (xc (.str "fork")) (dcons 1 (xtup (dcons 1 (xc (.str "seq")) (dcons 1 (xtup (dcons 1 (xtup (dcons 1 (xc (.str "await")) (dcons 1 (xv 2) dnil))) (dcons 1 (xtup (dcons 1 (xc (.str "log")) (dcons 1 (xc (.str "z")) dnil))) dnil))) dnil))) dnil)))) [.dat (scr (ns.map .int)), o, .dat (.int m), .dat (.tuple [.str "log", .str "a"]), .dat (.tuple [.str "seq", .tuple [.tuple [.str "log", .str "a"], .tuple [.str "await", .int m]]]), .no, .no, .no, .no, .no] = some (.nx, [.dat (scr (ns.map .int)), o, .dat (.int m), .dat (.tuple [.str "log", .str "a"]), .dat (.tuple [.str "seq", .tuple [.tuple [.str "log", .str "a"], .tuple [.str "await", .int m]]]), .dat (.tuple [.str "fork", .tuple [.str "seq", .tuple [.tuple [.str "await", .int m], .tuple [.str "log", .str "z"]]]]), .no, .no, .no, .no]) := by simp [p1', p18, xcall_m, ap_kxm, pm, ap_pcons, ap_kpc, ap_pnil, argS, lent, back, tk', hm, g1, g3, f1, eq2, s1, s2, t1, t2, r4, sm, cmp_cons, cmp_nil, q_law_0, q_law_1, w0, w1, w2, w3, mm, q1, nm, z1, z2, z3, z4, q2, f2, y1, u1, u2]
  have j10 : (sasg 1 6 (xcmp 1 (itup 1 (xtup (dcons 1 (xtup (dcons 1 (xv 2) (dcons 1 (xc .none) dnil))) (dcons 1 (xtup (dcons 1 (x2 gSub (xv 2) (xc (.int 1))) (dcons 1 (xc .none) dnil))) (dcons 1 (xtup (dcons 1 (x2 gAdd (xv 2) (xc (.int 1))) (dcons 1 (xc .none) dnil))) (dcons 1 (xtup (dcons 1 (xc .none) (dcons 1 (xv 2) dnil))) dnil)))))) (gn 1 9) tyes (q_law_0 G) [9])) [.dat (scr (ns.map .int)), o, .dat (.int m), .dat (.tuple [.str "log", .str "a"]), .dat (.tuple [.str "seq", .tuple [.tuple [.str "log", .str "a"], .tuple [.str "await", .int m]]]), .dat (.tuple [.str "fork", .tuple [.str "seq", .tuple [.tuple [.str "await", .int m], .tuple [.str "log", .str "z"]]]]), .no, .no, .no, .no] = some (.nx, [.dat (scr (ns.map .int)), o, .dat (.int m), .dat (.tuple [.str "log", .str "a"]), .dat (.tuple [.str "seq", .tuple [.tuple [.str "log", .str "a"], .tuple [.str "await", .int m]]]), .dat (.tuple [.str "fork", .tuple [.str "seq", .tuple [.tuple [.str "await", .int m], .tuple [.str "log", .str "z"]]]]), .own [.str "z", .int 0, .str "z", .str "z"], .no, .no, .no]) := by simp [p1', p18, xcall_m, ap_kxm, pm, ap_pcons, ap_kpc, ap_pnil, argS, lent, back, tk', hm, g1, g3, f1, eq2, s1, s2, t1, t2, r4, sm, cmp_cons, cmp_nil, q_law_0, q_law_1, w0, w1, w2, w3, mm, q1, nm, z1, z2, z3, z4, q2, f2, y1, u1, u2]
  have j11 : (sif (tb (x2 (gEq true) (xv 6) (xlst (dcons 1 (xc (.str "z")) (dcons 1 (xc (.int 0)) (dcons 1 (xc (.str "z")) (dcons 1 (xc (.str "z")) dnil))))))) (sret 1 (xc (.bool false))) snx) [.dat (scr (ns.map .int)), o, .dat (.int m), .dat (.tuple [.str "log", .str "a"]), .dat (.tuple [.str "seq", .tuple [.tuple [.str "log", .str "a"], .tuple [.str "await", .int m]]]), .dat (.tuple [.str "fork", .tuple [.str "seq", .tuple [.tuple [.str "await", .int m], .tuple [.str "log", .str "z"]]]]), .own [.str "z", .int 0, .str "z", .str "z"], .no, .no, .no] = some (.nx, [.dat (scr (ns.map .int)), o, .dat (.int m), .dat (.tuple [.str "log", .str "a"]), .dat (.tuple [.str "seq", .tuple [.tuple [.str "log", .str "a"], .tuple [.str "await", .int m]]]), .dat (.tuple [.str "fork", .tuple [.str "seq", .tuple [.tuple [.str "await", .int m], .tuple [.str "log", .str "z"]]]]), .own [.str "z", .int 0, .str "z", .str "z"], .no, .no, .no]) := by simp [p1', p18, xcall_m, ap_kxm, pm, ap_pcons, ap_kpc, ap_pnil, argS, lent, back, tk', hm, g1, g3, f1, eq2, s1, s2, t1, t2, r4, sm, cmp_cons, cmp_nil, q_law_0, q_law_1, w0, w1, w2, w3, mm, q1, nm, z1, z2, z3, z4, q2, f2, y1, u1, u2]
  have j12 : (sasg 1 7 (xtup (dcons 1 (xc (.str "race")) (dcons 1 (xtup (dcons 1 (xtup (dcons 1 (xc (.str "seq")) (dcons 1 (xtup dnil) dnil))) (dcons 1 (xtup (dcons 1 (xc (.str "seq")) (dcons 1 (xtup (dcons 1 (xtup (dcons 1 (xc (.str "await")) (dcons 1 (xv 2) dnil))) (dcons 1 (xtup (dcons 1 (xc (.str "log")) (dcons 1 (xc (.str "z")) dnil))) dnil))) dnil))) dnil))) dnil)))) [.dat (scr (ns.map .int)), o, .dat (.int m), .dat (.tuple [.str "log", .str "a"]), .dat (.tuple [.str "seq", .tuple [.tuple [.str "log", .str "a"], .tuple [.str "await", .int m]]]), .dat (.tuple [.str "fork", .tuple [.str "seq", .tuple [.tuple [.str "await", .int m], .tuple [.str "log", .str "z"]]]]), .own [.str "z", .int 0, .str "z", .str "z"], .no, .no, .no] = some (.nx, [.dat (scr (ns.map .int)), o, .dat (.int m), .dat (.tuple [.str "log", .str "a"]), .dat (.tuple [.str "seq", .tuple [.tuple [.str "log", .str "a"], .tuple [.str "await", .int m]]]), .dat (.tuple [.str "fork", .tuple [.str "seq", .tuple [.tuple [.str "await", .int m], .tuple [.str "log", .str "z"]]]]), .own [.str "z", .int 0, .str "z", .str "z"], .dat (.tuple [.str "race", .tuple [.tuple [.str "seq", .tuple []], .tuple [.str "seq", .tuple [.tuple [.str "await", .int m], .tuple [.str "log", .str "z"]]]]]), .no, .no]) := by simp [p1', p18, xcall_m, ap_kxm, pm, ap_pcons, ap_kpc, ap_pnil, argS, lent, back, tk', hm, g1, g3, f1, eq2, s1, s2, t1, t2, r4, sm, cmp_cons, cmp_nil, q_law_0, q_law_1, w0, w1, w2, w3, mm, q1, nm, z1, z2, z3, z4, q2, f2, y1, u1, u2]
  have j13 : (sif (tor (tb (x2 (gEq true) (xcall (G 14) (pcons 1 (xv 5) (pcons 1 (xv 7) pnil))) (xtup (dcons 1 (xv 2) (dcons 1 (xc (.int 0)) dnil))))) (tb (x2 (gEq true) (xcall (G 18) (pcons 1 (xv 7) (pcons 1 (xtup (dcons 1 (xv 2) (dcons 1 (xc .none) dnil))) (pcons 1 (xc (.int 0)) pnil)))) (xc (.int 0))))) (sret 1 (xc (.bool false))) snx) [.dat (scr (ns.map .int)), o, .dat (.int m), .dat (.tuple [.str "log", .str "a"]), .dat (.tuple [.str "seq", .tuple [.tuple [.str "log", .str "a"], .tuple [.str "await", .int m]]]), .dat (.tuple [.str "fork", .tuple [.str "seq", .tuple [.tuple [.str "await", .int m], .tuple [.str "log", .str "z"]]]]), .own [.str "z", .int 0, .str "z", .str "z"], .dat (.tuple [.str "race", .tuple [.tuple [.str "seq", .tuple []], .tuple [.str "seq", .tuple [.tuple [.str "await", .int m], .tuple [.str "log", .str "z"]]]]]), .no, .no] = some (.nx, [.dat (scr (ns.map .int)), o, .dat (.int m), .dat (.tuple [.str "log", .str "a"]), .dat (.tuple [.str "seq", .tuple [.tuple [.str "log", .str "a"], .tuple [.str "await", .int m]]]), .dat (.tuple [.str "fork", .tuple [.str "seq", .tuple [.tuple [.str "await", .int m], .tuple [.str "log", .str "z"]]]]), .own [.str "z", .int 0, .str "z", .str "z"], .dat (.tuple [.str "race", .tuple [.tuple [.str "seq", .tuple []], .tuple [.str "seq", .tuple [.tuple [.str "await", .int m], .tuple [.str "log", .str "z"]]]]]), .no, .no]) := by simp [p1', p18, xcall_m, ap_kxm, pm, ap_pcons, ap_kpc, ap_pnil, argS, lent, back, tk', hm, g1, g3, f1, eq2, s1, s2, t1, t2, r4, sm, cmp_cons, cmp_nil, q_law_0, q_law_1, w0, w1, w2, w3, mm, q1, nm, z1, z2, z3, z4, q2, f2, y1, u1, u2]
  have j14 : ((sret 1 (xand (x2 (gEq false) (xcall (G 18) (pcons 1 (xtup (dcons 1 (xc (.str "seq")) (dcons 1 (xtup dnil) dnil))) (pcons 1 (xtup (dcons 1 (xc (.int 0)) (dcons 1 (xc (.int 0)) dnil))) (pcons 1 (xc (.int 1)) pnil)))) (xc (.int 1))) (x2 (gIs false) (xcall (G 18) (pcons 1 (xtup (dcons 1 (xc (.str "seq")) (dcons 1 (xtup dnil) dnil))) (pcons 1 (xtup (dcons 1 (xc .none) (dcons 1 (xc .none) dnil))) (pcons 1 (xc (.int 0)) pnil)))) (xc .none)))) [.dat (scr (ns.map .int)), o, .dat (.int m), .dat (.tuple [.str "log", .str "a"]), .dat (.tuple [.str "seq", .tuple [.tuple [.str "log", .str "a"], .tuple [.str "await", .int m]]]), .dat (.tuple [.str "fork", .tuple [.str "seq", .tuple [.tuple [.str "await", .int m], .tuple [.str "log", .str "z"]]]]), .own [.str "z", .int 0, .str "z", .str "z"], .dat (.tuple [.str "race", .tuple [.tuple [.str "seq", .tuple []], .tuple [.str "seq", .tuple [.tuple [.str "await", .int m], .tuple [.str "log", .str "z"]]]]]), .no, .no]).bind fin1 = some (.d (.bool true)) := by simp [p1', p18, xcall_m, ap_kxm, pm, ap_pcons, ap_kpc, ap_pnil, argS, lent, back, tk', hm, g1, g3, f1, eq2, s1, s2, t1, t2, r4, sm, cmp_cons, cmp_nil, q_law_0, q_law_1, w0, w1, w2, w3, mm, q1, nm, z1, z2, z3, z4, q2, f2, y1, u1, u2]
  unfold b_law
  rw [ap_sseq, j1]
  rw [Option.bind_some, ksq_nx, ap_sseq, j2]
  rw [Option.bind_some, ksq_nx, ap_sseq, j3]
  rw [Option.bind_some, ksq_nx, ap_sseq, j4]
  rw [Option.bind_some, ksq_nx, ap_sseq, j5]
  rw [Option.bind_some, ksq_nx, ap_sseq, j6]
  rw [Option.bind_some, ksq_nx, ap_sseq, j7]
  rw [Option.bind_some, ksq_nx, ap_sseq, j8]
  rw [Option.bind_some, ksq_nx, ap_sseq, j9]
  rw [Option.bind_some, ksq_nx, ap_sseq, j10]
  rw [Option.bind_some, ksq_nx, ap_sseq, j11]
  rw [Option.bind_some, ksq_nx, ap_sseq, j12]
  rw [Option.bind_some, ksq_nx, ap_sseq, j13]
  rw [Option.bind_some, ksq_nx, j14]
end K41
end
section
set_option maxRecDepth 100000
namespace K41
open PySem PySem.Spec L2 Z
theorem law_holds (ns : List Int) (_ : ns.length ≤ 63) : ∃ os, sem (60 + 1) 29 [.dat (scr (ns.map .int))] = some (.d (.bool true), os) := by
  have h : val (sem (60 + 1) 29) [.dat (scr (ns.map .int))] = some (.d (.bool true)) := law_val 41 ns
  unfold val at h
  generalize sem (60 + 1) 29 [.dat (scr (ns.map .int))] = x at h ⊢
  cases x with
  | none => cases h
  | some p =>
    obtain ⟨r, os⟩ := p
    cases h
    exact ⟨os, rfl⟩
end K41
end
open PySem PySem.W PyProof.Rows
set_option maxRecDepth 100000 in
set_option maxHeartbeats 0 in
theorem PySem.Challenge.cw_awaitrounds_k41_tests_known_by_hand_holds : PySem.Challenge.rw_awaitrounds_k41_tests_known_by_hand.Holds := by
  w_on; o_law; k_head; (case hw => w_witness2)
  k_fill
  refine Z.walk_Z (l := PySem.Challenge.rw_awaitrounds_k41_tests_known_by_hand) (k := 60 + 1) (g := K41.sem (60 + 1) 29) rfl rfl ⟨rfl, by decide, by decide⟩ (fun w h Y => PySem.W.kIn_of Y) ?L ?F ?law
  case law => exact K41.law_holds
  case L => intro w; rfl
  case F =>
    intro w mg fa h KX G hmg
    refine K41.law_fn ?mods ?lawd 60
    case lawd =>
      refine' Z.LawAt.mk KX G hmg ?a ?l ?c ?k (fun _ _ _ _ _ _ _ => rfl)
      (case a => k_is); (case l => k_is); (case c => k_is); (case k => k_is)
    case mods =>
      have b_abs := PySem.W.mg_none_of (n := "abs") KX G (by first | k_is | exact rfl)
      have b_all := PySem.W.mg_none_of (n := "all") KX G (by first | k_is | exact rfl)
      have b_bool := PySem.W.mg_none_of (n := "bool") KX G (by first | k_is | exact rfl)
      have b_enumerate := PySem.W.mg_none_of (n := "enumerate") KX G (by first | k_is | exact rfl)
      have b_int := PySem.W.mg_none_of (n := "int") KX G (by first | k_is | exact rfl)
      have b_isinstance := PySem.W.mg_none_of (n := "isinstance") KX G (by first | k_is | exact rfl)
      have b_len := PySem.W.mg_none_of (n := "len") KX G (by first | k_is | exact rfl)
      have b_list := PySem.W.mg_none_of (n := "list") KX G (by first | k_is | exact rfl)
      have b_max := PySem.W.mg_none_of (n := "max") KX G (by first | k_is | exact rfl)
      have b_min := PySem.W.mg_none_of (n := "min") KX G (by first | k_is | exact rfl)
      have b_range := PySem.W.mg_none_of (n := "range") KX G (by first | k_is | exact rfl)
      have b_set := PySem.W.mg_none_of (n := "set") KX G (by first | k_is | exact rfl)
      have b_sorted := PySem.W.mg_none_of (n := "sorted") KX G (by first | k_is | exact rfl)
      have b_sum := PySem.W.mg_none_of (n := "sum") KX G (by first | k_is | exact rfl)
      have b_tuple := PySem.W.mg_none_of (n := "tuple") KX G (by first | k_is | exact rfl)
      have b_zip := PySem.W.mg_none_of (n := "zip") KX G (by first | k_is | exact rfl)
      have k_AWAIT : Z.CstS mg "AWAIT" "await" := by
        refine' ⟨_, PySem.W.mg_of KX G ?a⟩
        (case a => first | k_is | exact rfl)
      have k_BEHIND_MARK : Z.CstI mg "BEHIND_MARK" 0 := by
        refine' ⟨_, PySem.W.mg_of KX G ?a⟩
        (case a => first | k_is | exact rfl)
      have k_BESIDE_MARK : Z.CstI mg "BESIDE_MARK" 1 := by
        refine' ⟨_, PySem.W.mg_of KX G ?a⟩
        (case a => first | k_is | exact rfl)
      have k_BODY_ROUNDS : Z.CstI mg "BODY_ROUNDS" 30 := by
        refine' ⟨_, PySem.W.mg_of KX G ?a⟩
        (case a => first | k_is | exact rfl)
      have k_FORK : Z.CstS mg "FORK" "fork" := by
        refine' ⟨_, PySem.W.mg_of KX G ?a⟩
        (case a => first | k_is | exact rfl)
      have k_GAP : Z.CstN mg "GAP" := by
        refine' PySem.W.mg_of KX G ?a
        (case a => first | k_is | exact rfl)
      have k_JOIN : Z.CstS mg "JOIN" "join" := by
        refine' ⟨_, PySem.W.mg_of KX G ?a⟩
        (case a => first | k_is | exact rfl)
      have k_LAST_BODY_ROUND : Z.CstI mg "LAST_BODY_ROUND" 30 := by
        refine' ⟨_, PySem.W.mg_of KX G ?a⟩
        (case a => first | k_is | exact rfl)
      have k_LOG : Z.CstS mg "LOG" "log" := by
        refine' ⟨_, PySem.W.mg_of KX G ?a⟩
        (case a => first | k_is | exact rfl)
      have k_LOOP : Z.CstS mg "LOOP" "loop" := by
        refine' ⟨_, PySem.W.mg_of KX G ?a⟩
        (case a => first | k_is | exact rfl)
      have k_PERIOD : Z.CstI mg "PERIOD" 60 := by
        refine' ⟨_, PySem.W.mg_of KX G ?a⟩
        (case a => first | k_is | exact rfl)
      have k_RACE : Z.CstS mg "RACE" "race" := by
        refine' ⟨_, PySem.W.mg_of KX G ?a⟩
        (case a => first | k_is | exact rfl)
      have k_SEQ : Z.CstS mg "SEQ" "seq" := by
        refine' ⟨_, PySem.W.mg_of KX G ?a⟩
        (case a => first | k_is | exact rfl)
      have k_SETTLED : Z.CstI mg "SETTLED" 36 := by
        refine' ⟨_, PySem.W.mg_of KX G ?a⟩
        (case a => first | k_is | exact rfl)
      have k_TELLER_PARTS : Z.CstI mg "TELLER_PARTS" 2 := by
        refine' ⟨_, PySem.W.mg_of KX G ?a⟩
        (case a => first | k_is | exact rfl)
      have k_TEST_PARTS : Z.CstI mg "TEST_PARTS" 2 := by
        refine' ⟨_, PySem.W.mg_of KX G ?a⟩
        (case a => first | k_is | exact rfl)
      have T : K41.Top mg := ⟨b_abs, b_all, b_bool, b_enumerate, b_int, b_isinstance, b_len, b_list, b_max, b_min, b_range, b_set, b_sorted, b_sum, b_tuple, b_zip, k_AWAIT, k_BEHIND_MARK, k_BESIDE_MARK, k_BODY_ROUNDS, k_FORK, k_GAP, k_JOIN, k_LAST_BODY_ROUND, k_LOG, k_LOOP, k_PERIOD, k_RACE, k_SEQ, k_SETTLED, k_TELLER_PARTS, k_TEST_PARTS⟩
      refine' ⟨T, ?d_finish, ?d_sides_of_seq, ?d_sides_of_loop, ?d_sides_beside, ?d_key_part, ?d_sides_of, ?d_marked, ?d_is_number, ?d_total, ?d_count_in_loop, ?d_count_before, ?d_moments, ?d_changes, ?d_first_unequal, ?d_first_difference, ?d_same, ?d_test_count, ?d_test_row, ?d_test_entry, ?d_teller, ?d_is_test, ?d_shows_teller, ?d__law_pot, ?d__law_take, ?d__law_of, ?d__law_gaps_right, ?d__law_alike, ?d__law_names_right, ?d__law_long_rows_right, ?d_law⟩
      case d_finish =>
        refine' Z.DefAt.mk KX G ?a ?l ?c ?k ?b
        (case a => k_is); (case l => k_is); (case c => k_is); (case k => k_is)
        (case b => exact fun _ _ _ _ _ _ us hl => match us, hl with | [_], _ => rfl)
      case d_sides_of_seq =>
        refine' Z.DefAt.mk KX G ?a ?l ?c ?k ?b
        (case a => k_is); (case l => k_is); (case c => k_is); (case k => k_is)
        (case b => exact fun _ _ _ _ _ _ us hl => match us, hl with | [_, _], _ => rfl)
      case d_sides_of_loop =>
        refine' Z.DefAt.mk KX G ?a ?l ?c ?k ?b
        (case a => k_is); (case l => k_is); (case c => k_is); (case k => k_is)
        (case b => exact fun _ _ _ _ _ _ us hl => match us, hl with | [_, _, _], _ => rfl)
      case d_sides_beside =>
        refine' Z.DefAt.mk KX G ?a ?l ?c ?k ?b
        (case a => k_is); (case l => k_is); (case c => k_is); (case k => k_is)
        (case b => exact fun _ _ _ _ _ _ us hl => match us, hl with | [_, _, _], _ => rfl)
      case d_key_part =>
        refine' Z.DefAt.mk KX G ?a ?l ?c ?k ?b
        (case a => k_is); (case l => k_is); (case c => k_is); (case k => k_is)
        (case b => exact fun _ _ _ _ _ _ us hl => match us, hl with | [_], _ => rfl)
      case d_sides_of =>
        refine' Z.DefAt.mk KX G ?a ?l ?c ?k ?b
        (case a => k_is); (case l => k_is); (case c => k_is); (case k => k_is)
        (case b => exact fun _ _ _ _ _ _ us hl => match us, hl with | [_, _], _ => rfl)
      case d_marked =>
        refine' Z.DefAt.mk KX G ?a ?l ?c ?k ?b
        (case a => k_is); (case l => k_is); (case c => k_is); (case k => k_is)
        (case b => exact fun _ _ _ _ _ _ us hl => match us, hl with | [_, _], _ => rfl)
      case d_is_number =>
        refine' Z.DefAt.mk KX G ?a ?l ?c ?k ?b
        (case a => k_is); (case l => k_is); (case c => k_is); (case k => k_is)
        (case b => exact fun _ _ _ _ _ _ us hl => match us, hl with | [_], _ => rfl)
      case d_total =>
        refine' Z.DefAt.mk KX G ?a ?l ?c ?k ?b
        (case a => k_is); (case l => k_is); (case c => k_is); (case k => k_is)
        (case b => exact fun _ _ _ _ _ _ us hl => match us, hl with | [_], _ => rfl)
      case d_count_in_loop =>
        refine' Z.DefAt.mk KX G ?a ?l ?c ?k ?b
        (case a => k_is); (case l => k_is); (case c => k_is); (case k => k_is)
        (case b => exact fun _ _ _ _ _ _ us hl => match us, hl with | [_, _, _], _ => rfl)
      case d_count_before =>
        refine' Z.DefAt.mk KX G ?a ?l ?c ?k ?b
        (case a => k_is); (case l => k_is); (case c => k_is); (case k => k_is)
        (case b => exact fun _ _ _ _ _ _ us hl => match us, hl with | [_, _], _ => rfl)
      case d_moments =>
        refine' Z.DefAt.mk KX G ?a ?l ?c ?k ?b
        (case a => k_is); (case l => k_is); (case c => k_is); (case k => k_is)
        (case b => exact fun _ _ _ _ _ _ us hl => match us, hl with | [_, _], _ => rfl)
      case d_changes =>
        refine' Z.DefAt.mk KX G ?a ?l ?c ?k ?b
        (case a => k_is); (case l => k_is); (case c => k_is); (case k => k_is)
        (case b => exact fun _ _ _ _ _ _ us hl => match us, hl with | [_], _ => rfl)
      case d_first_unequal =>
        refine' Z.DefAt.mk KX G ?a ?l ?c ?k ?b
        (case a => k_is); (case l => k_is); (case c => k_is); (case k => k_is)
        (case b => exact fun _ _ _ _ _ _ us hl => match us, hl with | [_, _], _ => rfl)
      case d_first_difference =>
        refine' Z.DefAt.mk KX G ?a ?l ?c ?k ?b
        (case a => k_is); (case l => k_is); (case c => k_is); (case k => k_is)
        (case b => exact fun _ _ _ _ _ _ us hl => match us, hl with | [_, _], _ => rfl)
      case d_same =>
        refine' Z.DefAt.mk KX G ?a ?l ?c ?k ?b
        (case a => k_is); (case l => k_is); (case c => k_is); (case k => k_is)
        (case b => exact fun _ _ _ _ _ _ us hl => match us, hl with | [_, _], _ => rfl)
      case d_test_count =>
        refine' Z.DefAt.mk KX G ?a ?l ?c ?k ?b
        (case a => k_is); (case l => k_is); (case c => k_is); (case k => k_is)
        (case b => exact fun _ _ _ _ _ _ us hl => match us, hl with | [_, _, _], _ => rfl)
      case d_test_row =>
        refine' Z.DefAt.mk KX G ?a ?l ?c ?k ?b
        (case a => k_is); (case l => k_is); (case c => k_is); (case k => k_is)
        (case b => exact fun _ _ _ _ _ _ us hl => match us, hl with | [_, _, _], _ => rfl)
      case d_test_entry =>
        refine' Z.DefAt.mk KX G ?a ?l ?c ?k ?b
        (case a => k_is); (case l => k_is); (case c => k_is); (case k => k_is)
        (case b => exact fun _ _ _ _ _ _ us hl => match us, hl with | [_, _, _], _ => rfl)
      case d_teller =>
        refine' Z.DefAt.mk KX G ?a ?l ?c ?k ?b
        (case a => k_is); (case l => k_is); (case c => k_is); (case k => k_is)
        (case b => exact fun _ _ _ _ _ _ us hl => match us, hl with | [_, _], _ => rfl)
      case d_is_test =>
        refine' Z.DefAt.mk KX G ?a ?l ?c ?k ?b
        (case a => k_is); (case l => k_is); (case c => k_is); (case k => k_is)
        (case b => exact fun _ _ _ _ _ _ us hl => match us, hl with | [_], _ => rfl)
      case d_shows_teller =>
        refine' Z.DefAt.mk KX G ?a ?l ?c ?k ?b
        (case a => k_is); (case l => k_is); (case c => k_is); (case k => k_is)
        (case b => exact fun _ _ _ _ _ _ us hl => match us, hl with | [_, _, _], _ => rfl)
      case d__law_pot =>
        refine' Z.DefAt.mk KX G ?a ?l ?c ?k ?b
        (case a => k_is); (case l => k_is); (case c => k_is); (case k => k_is)
        (case b => exact fun _ _ _ _ _ _ us hl => match us, hl with | [_, _], _ => rfl)
      case d__law_take =>
        refine' Z.DefAt.mk KX G ?a ?l ?c ?k ?b
        (case a => k_is); (case l => k_is); (case c => k_is); (case k => k_is)
        (case b => exact fun _ _ _ _ _ _ us hl => match us, hl with | [_, _], _ => rfl)
      case d__law_of =>
        refine' Z.DefAt.mk KX G ?a ?l ?c ?k ?b
        (case a => k_is); (case l => k_is); (case c => k_is); (case k => k_is)
        (case b => exact fun _ _ _ _ _ _ us hl => match us, hl with | [_, _], _ => rfl)
      case d__law_gaps_right =>
        refine' Z.DefAt.mk KX G ?a ?l ?c ?k ?b
        (case a => k_is); (case l => k_is); (case c => k_is); (case k => k_is)
        (case b => exact fun _ _ _ _ _ _ us hl => match us, hl with | [_], _ => rfl)
      case d__law_alike =>
        refine' Z.DefAt.mk KX G ?a ?l ?c ?k ?b
        (case a => k_is); (case l => k_is); (case c => k_is); (case k => k_is)
        (case b => exact fun _ _ _ _ _ _ us hl => match us, hl with | [_, _], _ => rfl)
      case d__law_names_right =>
        refine' Z.DefAt.mk KX G ?a ?l ?c ?k ?b
        (case a => k_is); (case l => k_is); (case c => k_is); (case k => k_is)
        (case b => exact fun _ _ _ _ _ _ us hl => match us, hl with | [_, _], _ => rfl)
      case d__law_long_rows_right =>
        refine' Z.DefAt.mk KX G ?a ?l ?c ?k ?b
        (case a => k_is); (case l => k_is); (case c => k_is); (case k => k_is)
        (case b => exact fun _ _ _ _ _ _ us hl => match us, hl with | [_], _ => rfl)
      case d_law =>
        refine' Z.DefAt.mk KX G ?a ?l ?c ?k ?b
        (case a => k_is); (case l => k_is); (case c => k_is); (case k => k_is)
        (case b => exact fun _ _ _ _ _ _ us hl => match us, hl with | [_], _ => rfl)
