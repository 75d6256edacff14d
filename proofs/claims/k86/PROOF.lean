import PyProof.Rows.All
import Wide.All
import OpenK.AllK
import Wide.FinOn
import HandS.ForMost
import HandS.Evl
import HandS.Flow
import HandS.TupAny
import HandS.Wide
import HandS.Deep
import HandS.Style
import HandS.IsInst
import HandS.WordsDict
import HandS.Flt
import HandS.Zip
import HandS.WordsExc
import HandS.Small
import HandS.ExcInit
import HandS.Nested
import HandS.ExcField
import HandS.ExcIs
import HandS.TryOnly
import KE.KExcSuper
import PyProof.AtCode
import KE.KExcIs
import PySem.Challenge.RW_inkedtrue_k86_least_changes
import KE.RegKSuper
import KE.RegKIsAll
import HandS.Ends
set_option Elab.async false
set_option linter.all false
set_option maxRecDepth 100000
set_option maxHeartbeats 4000000
namespace Mi
open PySem L2 Evl

/-! ### data without a heap -/
inductive D where
  | non | bl (b : Bool) | int (i : Int) | str (x : Str) | lst (xs : List D) | tup (xs : List D) | dic (kvs : List (Key × D)) | ext (n : Nat) (a : D)

/-- what a value of an own kind (an instance, the script) stands for -/
structure G where
  R : Nat → Addr → Hp → D → Prop
  mono : ∀ n a (H H' : Hp) d, Ex H H' → R n a H d → R n a H' d

mutual
inductive Rep (K : PySem.W.Frag) (g : G) (S : Hp) : V → D → Prop
  | non : Rep K g S .non .non
  | bl (b : Bool) : Rep K g S (.bl b) (.bl b)
  | int (i : Int) : Rep K g S (.int i) (.int i)
  | str (x : Str) : Rep K g S (.str x) (.str x)
  | lst {a : Addr} {xs : List V} {ds : List D} : S a = some (.lst xs) → RepA K g S xs ds → Rep K g S (.ref a) (.lst ds)
  | tup {a : Addr} {xs : List V} {ds : List D} : SqT K S a xs → RepA K g S xs ds → Rep K g S (.ref a) (.tup ds)
  | dic {a : Addr} {kvs : List (Key × V)} {ds : List (Key × D)} : S a = some (.dK kvs) → RepK K g S kvs ds → Rep K g S (.ref a) (.dic ds)
  | ext {a : Addr} {n : Nat} {d : D} : g.R n a S d → Rep K g S (.ref a) (.ext n d)
inductive RepA (K : PySem.W.Frag) (g : G) (S : Hp) : List V → List D → Prop
  | nil : RepA K g S [] []
  | cons {v : V} {vs : List V} {d : D} {ds : List D} : Rep K g S v d → RepA K g S vs ds → RepA K g S (v :: vs) (d :: ds)
inductive RepK (K : PySem.W.Frag) (g : G) (S : Hp) : List (Key × V) → List (Key × D) → Prop
  | nil : RepK K g S [] []
  | cons {k : Key} {v : V} {vs : List (Key × V)} {d : D} {ds : List (Key × D)} : Rep K g S v d → RepK K g S vs ds → RepK K g S ((k, v) :: vs) ((k, d) :: ds)
end

section
variable {K : PySem.W.Frag} {g : G} {S S' H H' : Hp}
mutual
theorem Rep.mono (e : Ex S S') : ∀ {v : V} {d : D}, Rep K g S v d → Rep K g S' v d
  | _, _, .non => .non
  | _, _, .bl b => .bl b
  | _, _, .int i => .int i
  | _, _, .str x => .str x
  | _, _, .lst h r => .lst (e _ _ h) (RepA.mono e r)
  | _, _, .tup h r => .tup (ex_t e h) (RepA.mono e r)
  | _, _, .dic h r => .dic (e _ _ h) (RepK.mono e r)
  | _, _, .ext h => .ext (g.mono _ _ _ _ _ e h)
theorem RepA.mono (e : Ex S S') : ∀ {vs : List V} {ds : List D}, RepA K g S vs ds → RepA K g S' vs ds
  | _, _, .nil => .nil
  | _, _, .cons h r => .cons (Rep.mono e h) (RepA.mono e r)
theorem RepK.mono (e : Ex S S') : ∀ {vs : List (Key × V)} {ds : List (Key × D)}, RepK K g S vs ds → RepK K g S' vs ds
  | _, _, .nil => .nil
  | _, _, .cons h r => .cons (Rep.mono e h) (RepK.mono e r)
end
theorem RepA.len : ∀ {vs : List V} {ds : List D}, RepA K g S vs ds → vs.length = ds.length
  | _, _, .nil => rfl
  | _, _, .cons _ r => congrArg (· + 1) r.len
theorem RepK.len : ∀ {vs : List (Key × V)} {ds : List (Key × D)}, RepK K g S vs ds → vs.length = ds.length
  | _, _, .nil => rfl
  | _, _, .cons _ r => congrArg (· + 1) r.len
theorem RepA.append : ∀ {vs ws : List V} {ds es : List D}, RepA K g S vs ds → RepA K g S ws es → RepA K g S (vs ++ ws) (ds ++ es)
  | _, _, _, _, .nil, h => h
  | _, _, _, _, .cons h r, q => .cons h (r.append q)
theorem RepA.take : ∀ (n : Nat) {vs : List V} {ds : List D}, RepA K g S vs ds → RepA K g S (vs.take n) (ds.take n)
  | 0, _, _, _ => .nil
  | _ + 1, _, _, .nil => .nil
  | n + 1, _, _, .cons h r => .cons h (r.take n)
theorem RepA.drop : ∀ (n : Nat) {vs : List V} {ds : List D}, RepA K g S vs ds → RepA K g S (vs.drop n) (ds.drop n)
  | 0, _, _, h => h
  | _ + 1, _, _, .nil => .nil
  | n + 1, _, _, .cons _ r => r.drop n
theorem RepA.reverse {vs : List V} {ds : List D} (h : RepA K g S vs ds) : RepA K g S vs.reverse ds.reverse := by
  match h with
  | .nil => exact .nil
  | .cons h r =>
    rw [List.reverse_cons, List.reverse_cons]
    exact (RepA.reverse r).append (.cons h .nil)
theorem RepA.get : ∀ {vs : List V} {ds : List D} {i : Nat} {d : D}, RepA K g S vs ds → ds[i]? = some d → ∃ v, vs[i]? = some v ∧ Rep K g S v d
  | _, _, 0, _, .cons h _, e => by
    simp at e; subst e; exact ⟨_, rfl, h⟩
  | _, _, i + 1, _, .cons _ r, e => by
    obtain ⟨v, e1, h⟩ := RepA.get (i := i) r (by simpa using e)
    exact ⟨v, by simpa using e1, h⟩
  | _, _, _, _, .nil, e => by simp at e
theorem RepA.getV : ∀ {vs : List V} {ds : List D} {i : Nat} {v : V}, RepA K g S vs ds → vs[i]? = some v → ∃ d, ds[i]? = some d ∧ Rep K g S v d
  | _, _, 0, _, .cons h _, e => by
    simp at e; subst e; exact ⟨_, rfl, h⟩
  | _, _, i + 1, _, .cons _ r, e => by
    obtain ⟨v, e1, h⟩ := RepA.getV (i := i) r (by simpa using e)
    exact ⟨v, by simpa using e1, h⟩
  | _, _, _, _, .nil, e => by simp at e
theorem RepA.set {v : V} {d : D} (h : Rep K g S v d) : ∀ (i : Nat) {vs : List V} {ds : List D}, RepA K g S vs ds → RepA K g S (vs.set i v) (ds.set i d)
  | _, _, _, .nil => .nil
  | 0, _, _, .cons _ r => .cons h r
  | i + 1, _, _, .cons q r => .cons q (RepA.set h i r)
theorem RepA.rep {vs : List V} {ds : List D} (h : RepA K g S vs ds) : ∀ k : Nat, RepA K g S (List.replicate k vs).flatten (List.replicate k ds).flatten
  | 0 => .nil
  | k + 1 => by
    rw [List.replicate_succ, List.replicate_succ, List.flatten_cons, List.flatten_cons]
    exact h.append (h.rep k)
theorem RepA.dropLast {vs : List V} {ds : List D} (h : RepA K g S vs ds) : RepA K g S vs.dropLast ds.dropLast := by
  rw [List.dropLast_eq_take, List.dropLast_eq_take, h.len]; exact h.take _
theorem RepA.one {vs : List V} {d : D} (h : RepA K g S vs [d]) : ∃ v, vs = [v] ∧ Rep K g S v d := by
  cases h with
  | cons h r => cases r; exact ⟨_, rfl, h⟩
theorem RepA.two {vs : List V} {d e : D} (h : RepA K g S vs [d, e]) : ∃ v w, vs = [v, w] ∧ Rep K g S v d ∧ Rep K g S w e := by
  cases h with
  | cons h r => obtain ⟨w, rfl, q⟩ := r.one; exact ⟨_, _, rfl, h, q⟩
theorem RepA.three {vs : List V} {d e f : D} (h : RepA K g S vs [d, e, f]) : ∃ v w x, vs = [v, w, x] ∧ Rep K g S v d ∧ Rep K g S w e ∧ Rep K g S x f := by
  cases h with
  | cons h r => obtain ⟨w, x, rfl, q⟩ := r.two; exact ⟨_, _, _, rfl, h, q⟩
end

/-! ### the state of a body: names hold data; an owned list (dict) may be changed -/
structure Cell where
  d : D
  own : Bool := false
abbrev Env := List (Option Cell)
/-- a stable slot, an owned one -/
abbrev st (d : D) : Option Cell := some ⟨d, false⟩
abbrev ow (d : D) : Option Cell := some ⟨d, true⟩
structure Exc where
  cls : Addr
  fs : List (Str × D)
  bare : Bool := false
/-- a def's base: the heap at its entry, what was stable there -/
structure Bs where
  g : G
  S0 : Hp
  H0 : Hp
  EX : Exc → Prop
  fr : Bool

def OwnR (K : PySem.W.Frag) (g : G) (S H : Hp) (p : Addr) : D → Prop
  | .lst ds => ∃ xs, H p = some (.lst xs) ∧ RepA K g S xs ds
  | .dic ds => ∃ kvs, H p = some (.dK kvs) ∧ RepK K g S kvs ds
  | _ => False
def CellR (K : PySem.W.Frag) (b : Bs) (S H : Hp) (v : V) (c : Cell) : Prop :=
  if c.own = true then ∃ p, v = .ref p ∧ b.H0 p = none ∧ S p = none ∧ OwnR K b.g S H p c.d else Rep K b.g S v c.d

structure StR (K : PySem.W.Frag) (b : Bs) (δ : Env) (σ : L2.St) (S H : Hp) : Prop where
  sh : Ex S H
  h0 : Ex b.H0 H
  s0 : Ex b.S0 S
  old : ∀ p o, b.H0 p = some o → S p = b.S0 p
  len : δ.length = σ.length
  slot : ∀ (i : Nat) (c : Cell), δ[i]? = some (some c) → ∃ v, σ[i]? = some (some v) ∧ CellR K b S H v c
  sep : ∀ (i j : Nat) (ci cj : Cell) (p : Addr), i ≠ j → δ[i]? = some (some ci) → δ[j]? = some (some cj) → ci.own = true → cj.own = true → σ[i]? = some (some (.ref p)) → σ[j]? = some (some (.ref p)) → False

structure Grow (S H S' H' : Hp) : Prop where
  s : Ex S S'
  h : Ex H H'
  sh : Ex S' H'
  old : ∀ p o, H p = some o → S' p = S p
theorem Grow.refl {S H : Hp} (e : Ex S H) : Grow S H S H := ⟨Ex.refl _, Ex.refl _, e, fun _ _ _ => rfl⟩
theorem Grow.trans {S H S1 H1 S2 H2 : Hp} (a : Grow S H S1 H1) (b : Grow S1 H1 S2 H2) : Grow S H S2 H2 :=
  ⟨a.s.trans b.s, a.h.trans b.h, b.sh, fun p o e => (b.old p o (a.h p o e)).trans (a.old p o e)⟩
theorem none_of_ex {S H : Hp} {p : Addr} (e : Ex S H) (h : H p = none) : S p = none := fresh_back e h
/-- a new object, stable | owned -/
theorem Grow.new {S H : Hp} {p : Addr} {o : HO} (e : Ex S H) (h : H p = none) : Grow S H (upd S p o) (upd H p o) where
  s := Ex.new (none_of_ex e h)
  h := Ex.new h
  sh := fun a u q => by
    by_cases c : a = p
    · subst c; rw [upd_same] at q ⊢; exact q
    · rw [upd_ne c] at q ⊢; exact e a u q
  old := fun q u hq => by rw [upd_ne (ne_of_none hq h)]
theorem Grow.newO {S H : Hp} {p : Addr} {o : HO} (e : Ex S H) (h : H p = none) : Grow S H S (upd H p o) :=
  ⟨Ex.refl _, Ex.new h, e.trans (Ex.new h), fun _ _ _ => rfl⟩

section
variable {K : PySem.W.Frag} {g : G} {b : Bs} {S S' H H' : Hp} {δ : Env} {σ : L2.St}
theorem OwnR.mono {p : Addr} {d : D} (s : Ex S S') (h : Ex H H') (r : OwnR K g S H p d) : OwnR K g S' H' p d := by
  cases d with
  | lst ds => obtain ⟨xs, e, q⟩ := r; exact ⟨xs, h _ _ e, q.mono s⟩
  | dic ds => obtain ⟨xs, e, q⟩ := r; exact ⟨xs, h _ _ e, q.mono s⟩
  | _ => exact r.elim
theorem OwnR.there {p : Addr} {d : D} (r : OwnR K g S H p d) : ∃ o, H p = some o := by
  cases d with
  | lst ds => obtain ⟨xs, e, q⟩ := r; exact ⟨_, e⟩
  | dic ds => obtain ⟨xs, e, q⟩ := r; exact ⟨_, e⟩
  | _ => exact r.elim
theorem CellR.mono {v : V} {c : Cell} (gr : Grow S H S' H') (r : CellR K b S H v c) : CellR K b S' H' v c := by
  unfold CellR at r ⊢
  by_cases h : c.own = true
  · rw [if_pos h] at r ⊢
    obtain ⟨p, rfl, h0, s0, o⟩ := r
    obtain ⟨u, hu⟩ := o.there
    exact ⟨p, rfl, h0, (gr.old p u hu).trans s0, o.mono gr.s gr.h⟩
  · rw [if_neg h] at r ⊢
    exact r.mono gr.s
theorem StR.grow (I : StR K b δ σ S H) (gr : Grow S H S' H') : StR K b δ σ S' H' where
  sh := gr.sh
  h0 := I.h0.trans gr.h
  s0 := I.s0.trans gr.s
  old := fun p o e => (gr.old p o (I.h0 p o e)).trans (I.old p o e)
  len := I.len
  slot := fun i c e => let ⟨v, e1, r⟩ := I.slot i c e; ⟨v, e1, r.mono gr⟩
  sep := I.sep
/-- a stable value is stored -/
theorem StR.set (I : StR K b δ σ S H) {v : V} {d : D} (r : Rep K b.g S v d) (i : Nat) : StR K b (δ.set i (st d)) (σ.set i (some v)) S H where
  sh := I.sh
  h0 := I.h0
  s0 := I.s0
  old := I.old
  len := by rw [List.length_set, List.length_set, I.len]
  slot := fun j c e => by
    by_cases h : i = j
    · subst h
      by_cases hl : i < δ.length
      · rw [List.getElem?_set_self hl] at e
        cases e
        refine ⟨v, by rw [List.getElem?_set_self (by rw [← I.len]; exact hl)], ?_⟩
        unfold CellR
        rw [if_neg Bool.false_ne_true]
        exact r
      · rw [List.getElem?_eq_none (by rw [List.length_set]; omega)] at e
        cases e
    · rw [List.getElem?_set_ne h] at e ⊢
      exact I.slot j c e
  sep := fun j k cj ck p hjk ej ek oj ok sj sk => by
    have nj : j ≠ i := fun h => by
      subst h
      by_cases hl : j < δ.length
      · rw [List.getElem?_set_self hl] at ej; cases ej; cases oj
      · rw [List.getElem?_eq_none (by rw [List.length_set]; omega)] at ej; cases ej
    have nk : k ≠ i := fun h => by
      subst h
      by_cases hl : k < δ.length
      · rw [List.getElem?_set_self hl] at ek; cases ek; cases ok
      · rw [List.getElem?_eq_none (by rw [List.length_set]; omega)] at ek; cases ek
    rw [List.getElem?_set_ne (Ne.symm nj)] at ej sj
    rw [List.getElem?_set_ne (Ne.symm nk)] at ek sk
    exact I.sep j k cj ck p hjk ej ek oj ok sj sk
/-- a fresh object is stored and owned: S H told ahead of it -/
theorem StR.setO (I : StR K b δ σ S H) {p : Addr} {d : D} (gr : Grow S H S' H') (hp : H p = none) (sp : S' p = none) (r : OwnR K b.g S' H' p d) (i : Nat) : StR K b (δ.set i (ow d)) (σ.set i (some (.ref p))) S' H' where
  sh := gr.sh
  h0 := I.h0.trans gr.h
  s0 := I.s0.trans gr.s
  old := fun p o e => (gr.old p o (I.h0 p o e)).trans (I.old p o e)
  len := by rw [List.length_set, List.length_set, I.len]
  slot := fun j c e => by
    by_cases h : i = j
    · subst h
      by_cases hl : i < δ.length
      · rw [List.getElem?_set_self hl] at e
        cases e
        refine ⟨.ref p, by rw [List.getElem?_set_self (by rw [← I.len]; exact hl)], ?_⟩
        unfold CellR
        rw [if_pos rfl]
        exact ⟨p, rfl, fresh_back I.h0 hp, sp, r⟩
      · rw [List.getElem?_eq_none (by rw [List.length_set]; omega)] at e
        cases e
    · rw [List.getElem?_set_ne h] at e ⊢
      obtain ⟨v, e1, r⟩ := I.slot j c e
      exact ⟨v, e1, r.mono gr⟩
  sep := by
    have at' : ∀ j c, j ≠ i → δ[j]? = some (some c) → c.own = true → σ[j]? = some (some (.ref p)) → False := fun j c _ e o s => by
      obtain ⟨v, e1, r⟩ := I.slot j c e
      rw [s] at e1
      cases e1
      unfold CellR at r
      rw [if_pos o] at r
      obtain ⟨q, e2, _, _, ow⟩ := r
      cases e2
      obtain ⟨u, hu⟩ := ow.there
      rw [hp] at hu
      cases hu
    intro j k cj ck q hjk ej ek oj ok sj sk
    by_cases hj : j = i
    · subst hj
      have hk : k ≠ j := Ne.symm hjk
      rw [List.getElem?_set_ne (Ne.symm hk)] at ek sk
      by_cases hl : j < σ.length
      · rw [List.getElem?_set_self hl] at sj
        cases sj
        exact at' k ck hk ek ok sk
      · rw [List.getElem?_eq_none (by rw [List.length_set]; omega)] at sj; cases sj
    · rw [List.getElem?_set_ne (Ne.symm hj)] at ej sj
      by_cases hk : k = i
      · subst hk
        by_cases hl : k < σ.length
        · rw [List.getElem?_set_self hl] at sk
          cases sk
          exact at' j cj hj ej oj sj
        · rw [List.getElem?_eq_none (by rw [List.length_set]; omega)] at sk; cases sk
      · rw [List.getElem?_set_ne (Ne.symm hk)] at ek sk
        exact I.sep j k cj ck q hjk ej ek oj ok sj sk
/-- an owned object is changed -/
theorem StR.mut (I : StR K b δ σ S H) {i : Nat} {d d' : D} {p : Addr} {o : HO} (hd : δ[i]? = some (ow d)) (hs : σ[i]? = some (some (.ref p))) (hr : ∀ H', H' p = some o → OwnR K b.g S H' p d') : StR K b (δ.set i (ow d')) σ S (upd H p o) := by
  obtain ⟨v, e1, r⟩ := I.slot i ⟨d, true⟩ hd
  rw [hs] at e1
  cases e1
  unfold CellR at r
  rw [if_pos rfl] at r
  obtain ⟨q, e2, h0, s0, ow'⟩ := r
  cases e2
  have hil : i < δ.length := (List.getElem?_eq_some_iff.mp hd).1
  refine ⟨fun a u e => ?_, fun a u e => ?_, I.s0, I.old, by rw [List.length_set, I.len], fun j c e => ?_, fun j k cj ck q hjk ej ek oj ok sj sk => ?_⟩
  · rw [upd_ne (ne_of_none e s0)]; exact I.sh a u e
  · rw [upd_ne (ne_of_none e h0)]; exact I.h0 a u e
  · by_cases h : i = j
    · subst h
      rw [List.getElem?_set_self hil] at e
      cases e
      refine ⟨.ref p, hs, ?_⟩
      unfold CellR
      rw [if_pos rfl]
      exact ⟨p, rfl, h0, s0, hr _ upd_same⟩
    · rw [List.getElem?_set_ne h] at e
      obtain ⟨v, e1, r⟩ := I.slot j c e
      refine ⟨v, e1, ?_⟩
      unfold CellR at r ⊢
      by_cases ho : c.own = true
      · rw [if_pos ho] at r ⊢
        obtain ⟨q, rfl, h0', s0', ow2⟩ := r
        have nq : q ≠ p := fun z => by
          subst z
          exact I.sep j i c ⟨d, true⟩ q (Ne.symm h) e hd ho rfl e1 hs
        refine ⟨q, rfl, h0', s0', ?_⟩
        cases hc : c.d with
        | lst ds =>
          rw [hc] at ow2
          obtain ⟨xs, e3, q3⟩ := ow2
          exact ⟨xs, by rw [upd_ne nq]; exact e3, q3⟩
        | dic ds =>
          rw [hc] at ow2
          obtain ⟨xs, e3, q3⟩ := ow2
          exact ⟨xs, by rw [upd_ne nq]; exact e3, q3⟩
        | _ => rw [hc] at ow2; exact ow2.elim
      · rw [if_neg ho] at r ⊢
        exact r
  · have key : ∀ (l : Nat) (cl : Cell), (δ.set i (ow d'))[l]? = some (some cl) → cl.own = true → ∃ cl' : Cell, δ[l]? = some (some cl') ∧ cl'.own = true := fun l cl e o => by
      by_cases h : i = l
      · subst h; exact ⟨_, hd, rfl⟩
      · rw [List.getElem?_set_ne h] at e; exact ⟨cl, e, o⟩
    obtain ⟨cj', ej', oj'⟩ := key j cj ej oj
    obtain ⟨ck', ek', ok'⟩ := key k ck ek ok
    exact I.sep j k cj' ck' q hjk ej' ek' oj' ok' sj sk
/-- an owned object becomes stable -/
theorem StR.freeze (I : StR K b δ σ S H) {i : Nat} {d : D} (hd : δ[i]? = some (ow d)) : ∃ S', Ex S S' ∧ StR K b (δ.set i (st d)) σ S' H := by
  obtain ⟨v, e1, r⟩ := I.slot i ⟨d, true⟩ hd
  unfold CellR at r
  rw [if_pos rfl] at r
  obtain ⟨p, rfl, h0, s0, ow'⟩ := r
  have hil : i < δ.length := (List.getElem?_eq_some_iff.mp hd).1
  obtain ⟨o, ho⟩ := ow'.there
  have eS : Ex S (upd S p o) := Ex.new s0
  have rep : Rep K b.g (upd S p o) (.ref p) d := by
    cases d with
    | lst ds =>
      obtain ⟨xs, e, q⟩ := ow'
      rw [ho] at e
      cases e
      exact .lst upd_same (q.mono eS)
    | dic ds =>
      obtain ⟨xs, e, q⟩ := ow'
      rw [ho] at e
      cases e
      exact .dic upd_same (q.mono eS)
    | _ => exact ow'.elim
  refine ⟨upd S p o, eS, fun a u e => ?_, I.h0, I.s0.trans eS, fun q u e => ?_, by rw [List.length_set, I.len], fun j c e => ?_, fun j k cj ck q hjk ej ek oj ok sj sk => ?_⟩
  · by_cases c : a = p
    · subst c; rw [upd_same] at e; cases e; exact ho
    · rw [upd_ne c] at e; exact I.sh a u e
  · have nq : q ≠ p := fun z => by rw [z, h0] at e; cases e
    rw [upd_ne nq]; exact I.old q u e
  · by_cases h : i = j
    · subst h
      rw [List.getElem?_set_self hil] at e
      cases e
      refine ⟨.ref p, e1, ?_⟩
      unfold CellR
      rw [if_neg Bool.false_ne_true]
      exact rep
    · rw [List.getElem?_set_ne h] at e
      obtain ⟨v, e2, r⟩ := I.slot j c e
      refine ⟨v, e2, ?_⟩
      unfold CellR at r ⊢
      by_cases hc : c.own = true
      · rw [if_pos hc] at r ⊢
        obtain ⟨q, rfl, h0', s0', ow2⟩ := r
        have nq : q ≠ p := fun z => by
          subst z
          exact I.sep j i c ⟨d, true⟩ q (Ne.symm h) e hd hc rfl e2 e1
        exact ⟨q, rfl, h0', by rw [upd_ne nq]; exact s0', ow2.mono eS (Ex.refl H)⟩
      · rw [if_neg hc] at r ⊢
        exact r.mono eS
  · have key : ∀ (l : Nat) (cl : Cell), (δ.set i (st d))[l]? = some (some cl) → cl.own = true → δ[l]? = some (some cl) := fun l cl e o => by
      by_cases h : i = l
      · subst h; rw [List.getElem?_set_self hil] at e; cases e; cases o
      · rw [List.getElem?_set_ne h] at e; exact e
    exact I.sep j k cj ck q hjk (key j cj ej oj) (key k ck ek ok) oj ok sj sk
/-- a name is forgotten -/
theorem StR.forget (I : StR K b δ σ S H) (i : Nat) : StR K b (δ.set i none) σ S H where
  sh := I.sh
  h0 := I.h0
  s0 := I.s0
  old := I.old
  len := by rw [List.length_set, I.len]
  slot := fun j c e => by
    by_cases h : i = j
    · subst h
      by_cases hl : i < δ.length
      · rw [List.getElem?_set_self hl] at e; cases e
      · rw [List.getElem?_eq_none (by rw [List.length_set]; omega)] at e; cases e
    · rw [List.getElem?_set_ne h] at e; exact I.slot j c e
  sep := fun j k cj ck q hjk ej ek oj ok sj sk => by
    have key : ∀ l (cl : Cell), (δ.set i none)[l]? = some (some cl) → δ[l]? = some (some cl) := fun l cl e => by
      by_cases h : i = l
      · subst h
        by_cases hl : i < δ.length
        · rw [List.getElem?_set_self hl] at e; cases e
        · rw [List.getElem?_eq_none (by rw [List.length_set]; omega)] at e; cases e
      · rw [List.getElem?_set_ne h] at e; exact e
    exact I.sep j k cj ck q hjk (key j cj ej) (key k ck ek) oj ok sj sk
theorem StR.get (I : StR K b δ σ S H) {i : Nat} {d : D} (h : δ[i]? = some (st d)) : ∃ v, σ[i]? = some (some v) ∧ Rep K b.g S v d := by
  obtain ⟨v, e, r⟩ := I.slot i ⟨d, false⟩ h
  unfold CellR at r
  rw [if_neg Bool.false_ne_true] at r
  exact ⟨v, e, r⟩
theorem StR.getO (I : StR K b δ σ S H) {i : Nat} {d : D} (h : δ[i]? = some (ow d)) : ∃ p, σ[i]? = some (some (.ref p)) ∧ b.H0 p = none ∧ S p = none ∧ OwnR K b.g S H p d := by
  obtain ⟨v, e, r⟩ := I.slot i ⟨d, true⟩ h
  unfold CellR at r
  rw [if_pos rfl] at r
  obtain ⟨p, rfl, q⟩ := r
  exact ⟨p, e, q⟩
end
end Mi
namespace Mi
open PySem L2 Evl PySem.Spec PyProof.Rows

/-! ### readings of data -/
abbrev WE := Env → (Exc → Prop) → (D → Prop) → Prop
abbrev WT := Env → (Exc → Prop) → (Bool → Prop) → Prop
abbrev WA := Env → (Exc → Prop) → (List D → Prop) → Prop

/-- read where it stands: stable, or owned -/
def RepT (K : PySem.W.Frag) (g : G) (S H : Hp) (v : V) (d : D) : Prop := Rep K g S v d ∨ ∃ p, v = .ref p ∧ S p = none ∧ OwnR K g S H p d

def tE (K : PySem.W.Frag) (b : Bs) (w : WE) : TE := fun σ H Q => ∃ S δ P, StR K b δ σ S H ∧ w δ b.EX P ∧ ∀ d v S' H', Grow S H S' H' → Rep K b.g S' v d → P d → Q v H'
def tF (K : PySem.W.Frag) (b : Bs) (w : WE) : TE := fun σ H Q => ∃ S δ P, StR K b δ σ S H ∧ w δ b.EX P ∧ ∀ d p S' H', Grow S H S' H' → H p = none → S' p = none → OwnR K b.g S' H' p d → P d → Q (.ref p) H'
def tO (K : PySem.W.Frag) (b : Bs) (w : WE) : TE := fun σ H Q => ∃ S δ P, StR K b δ σ S H ∧ w δ b.EX P ∧ ∀ d v S' H', Grow S H S' H' → RepT K b.g S' H' v d → P d → Q v H'
def tM (K : PySem.W.Frag) (b : Bs) (w : WT) : TT := fun σ H Q => ∃ S δ P, StR K b δ σ S H ∧ w δ b.EX P ∧ ∀ c S' H', Grow S H S' H' → P c → Q c H'
def tL (K : PySem.W.Frag) (b : Bs) (w : WA) : TA := fun σ H Q => ∃ S δ P, StR K b δ σ S H ∧ w δ b.EX P ∧ ∀ ds vs S' H', Grow S H S' H' → RepA K b.g S' vs ds → P ds → Q vs H'

def ME (X : Cx) (b : Bs) (e : Expr) (w : WE) : Prop := PE X e (tE X.K b w)
def MF (X : Cx) (b : Bs) (e : Expr) (w : WE) : Prop := PE X e (tF X.K b w)
def MO (X : Cx) (b : Bs) (e : Expr) (w : WE) : Prop := PE X e (tO X.K b w)
def MT (X : Cx) (b : Bs) (e : Expr) (w : WT) : Prop := PT X e (tM X.K b w)
def MA (X : Cx) (b : Bs) (es : List Expr) (w : WA) : Prop := PA X es (tL X.K b w)

section
variable {X : Cx} {b : Bs} {K : PySem.W.Frag} {g : G} {S S' H H' : Hp} {δ : Env} {σ : L2.St} {e a c : Expr} {es : List Expr} {w wa wb wc : WE} {pos : Pos}

theorem PE.imp {t t' : TE} (h : PE X e t) (f : ∀ σ H Q, t' σ H Q → t σ H Q) : PE X e t' := ⟨fun pins s σ H Q I q => h.run pins s σ H Q I (f σ H Q q)⟩
theorem PT.imp {t t' : TT} (h : PT X e t) (f : ∀ σ H Q, t' σ H Q → t σ H Q) : PT X e t' := ⟨fun pins s σ H Q I q => h.run pins s σ H Q I (f σ H Q q)⟩
theorem PA.imp {t t' : TA} (h : PA X es t) (f : ∀ σ H Q, t' σ H Q → t σ H Q) : PA X es t' := ⟨fun pos pins s σ H Q I q => h.run pos pins s σ H Q I (f σ H Q q)⟩
theorem PE.or {t t' : TE} (h : PE X e t) (h' : PE X e t') : PE X e (fun σ H Q => t σ H Q ∨ t' σ H Q) := ⟨fun pins s σ H Q I q => q.elim (h.run pins s σ H Q I) (h'.run pins s σ H Q I)⟩

theorem RepT.mono {v : V} {d : D} (gr : Grow S H S' H') (r : RepT K g S H v d) : RepT K g S' H' v d := by
  rcases r with r | ⟨p, rfl, s0, o⟩
  · exact .inl (r.mono gr.s)
  · obtain ⟨u, hu⟩ := o.there
    exact .inr ⟨p, rfl, (gr.old p u hu).trans s0, o.mono gr.s gr.h⟩
theorem RepT.lst {v : V} {ds : List D} (e : Ex S H) (r : RepT K g S H v (.lst ds)) : ∃ p xs, v = .ref p ∧ H p = some (.lst xs) ∧ RepA K g S xs ds := by
  rcases r with r | ⟨p, rfl, s0, xs, hx, ra⟩
  · cases r with
    | lst h ra => exact ⟨_, _, rfl, e _ _ h, ra⟩
  · exact ⟨p, xs, rfl, hx, ra⟩
theorem RepT.tup {v : V} {ds : List D} (e : Ex S H) (r : RepT K g S H v (.tup ds)) : ∃ p xs, v = .ref p ∧ SqT K H p xs ∧ SqT K S p xs ∧ RepA K g S xs ds := by
  rcases r with r | ⟨p, rfl, s0, o⟩
  · cases r with
    | tup h ra => exact ⟨_, _, rfl, ex_t e h, h, ra⟩
  · exact o.elim
theorem RepT.dic {v : V} {ds : List (Key × D)} (e : Ex S H) (r : RepT K g S H v (.dic ds)) : ∃ p xs, v = .ref p ∧ H p = some (.dK xs) ∧ RepK K g S xs ds := by
  rcases r with r | ⟨p, rfl, s0, xs, hx, ra⟩
  · cases r with
    | dic h ra => exact ⟨_, _, rfl, e _ _ h, ra⟩
  · exact ⟨p, xs, rfl, hx, ra⟩
theorem RepT.int {v : V} {i : Int} (r : RepT K g S H v (.int i)) : v = .int i := by
  rcases r with r | ⟨p, rfl, s0, o⟩
  · cases r; rfl
  · exact o.elim
theorem RepT.str {v : V} {i : Str} (r : RepT K g S H v (.str i)) : v = .str i := by
  rcases r with r | ⟨p, rfl, s0, o⟩
  · cases r; rfl
  · exact o.elim
theorem RepT.bl {v : V} {i : Bool} (r : RepT K g S H v (.bl i)) : v = .bl i := by
  rcases r with r | ⟨p, rfl, s0, o⟩
  · cases r; rfl
  · exact o.elim
theorem RepT.non {v : V} (r : RepT K g S H v .non) : v = .non := by
  rcases r with r | ⟨p, rfl, s0, o⟩
  · cases r; rfl
  · exact o.elim
theorem RepT.ext {v : V} {n : Nat} {d : D} (r : RepT K g S H v (.ext n d)) : ∃ a, v = .ref a ∧ g.R n a S d := by
  rcases r with r | ⟨p, rfl, s0, o⟩
  · cases r with
    | ext h => exact ⟨_, rfl, h⟩
  · exact o.elim
/-- a fresh object becomes stable -/
theorem OwnR.stab {p : Addr} {d : D} (e : Ex S H) (s0 : S p = none) (o : OwnR K g S H p d) : ∃ S2, Ex S S2 ∧ Ex S2 H ∧ (∀ q, q ≠ p → S2 q = S q) ∧ Rep K g S2 (.ref p) d := by
  obtain ⟨u, hu⟩ := o.there
  refine ⟨upd S p u, Ex.new s0, fun a v q => ?_, fun q hq => upd_ne hq, ?_⟩
  · by_cases c : a = p
    · subst c; rw [upd_same] at q; cases q; exact hu
    · rw [upd_ne c] at q; exact e a v q
  · cases d with
    | lst ds =>
      obtain ⟨xs, h, r⟩ := o
      rw [hu] at h; cases h
      exact .lst upd_same (r.mono (Ex.new s0))
    | dic ds =>
      obtain ⟨xs, h, r⟩ := o
      rw [hu] at h; cases h
      exact .dic upd_same (r.mono (Ex.new s0))
    | _ => exact o.elim
theorem me_ofF (h : MF X b e w) : ME X b e w := PE.imp h fun σ H Q ⟨S, δ, P, I, hw, k⟩ => ⟨S, δ, P, I, hw, fun d p S' H' gr hp sp o hd => by
  obtain ⟨S2, e1, e2, e3, r⟩ := o.stab gr.sh sp
  exact k d (.ref p) S2 H' ⟨gr.s.trans e1, gr.h, e2, fun q u hq => (e3 q (ne_of_none hq hp)).trans (gr.old q u hq)⟩ r hd⟩
theorem mo_of (h : ME X b e w) : MO X b e w := PE.imp h fun σ H Q ⟨S, δ, P, I, hw, k⟩ => ⟨S, δ, P, I, hw, fun d v S' H' gr r hd => k d v S' H' gr (.inl r) hd⟩
theorem mo_ofF (h : MF X b e w) : MO X b e w := PE.imp h fun σ H Q ⟨S, δ, P, I, hw, k⟩ => ⟨S, δ, P, I, hw, fun d p S' H' gr hp sp o hd => k d (.ref p) S' H' gr (.inr ⟨p, rfl, sp, o⟩) hd⟩

/-! ### names, constants -/
def wC (d : D) : WE := fun _ _ P => P d
theorem tC_of {v : V} {d : D} (r : ∀ S, Rep K b.g S v d) {Q : VK} (h : tE K b (wC d) σ H Q) : tC v σ H Q := by
  obtain ⟨S, δ, P, I, hw, k⟩ := h
  exact k d v S H (Grow.refl I.sh) (r S) hw
theorem me_int {i j pos} : ME X b (.Constant (.int i) j pos) (wC (.int i)) := PE.imp pe_int fun _ _ _ h => tC_of (fun _ => .int i) h
theorem me_bl {i j pos} : ME X b (.Constant (.bool i) j pos) (wC (.bl i)) := PE.imp pe_bl fun _ _ _ h => tC_of (fun _ => .bl i) h
theorem me_non {j pos} : ME X b (.Constant .none j pos) (wC .non) := PE.imp pe_non fun _ _ _ h => tC_of (fun _ => .non) h
theorem me_str {i j pos} : ME X b (.Constant (.str i) j pos) (wC (.str i)) := PE.imp pe_str fun _ _ _ h => tC_of (fun _ => .str i) h
/-- a module's constant -/
theorem me_glob {x : Str} {v : V} {d : D} {u : Value} (hg : Gl X x) (hm : X.mg x = some u) (r : RelV v u) (hd : ∀ S, Rep X.K b.g S v d) (hdb : (x == ("__debug__" : Str)) = false := by decide) : ME X b (.Name x pos) (wC d) :=
  PE.imp (pe_glob hg hm r hdb) fun _ _ _ h => tC_of hd h
def wVar (i : Nat) : WE := fun δ _ P => match δ[i]? with
  | some (some ⟨d, false⟩) => P d
  | _ => False
def wVarO (i : Nat) : WE := fun δ _ P => match δ[i]? with
  | some (some c) => P c.d
  | _ => False
theorem me_var (i : Nat) {x : Str} (hN : X.N[i]? = some x := by rfl) (hv : Vis X.env.scope x := by first | exact Or.inl rfl | exact Or.inr (Or.inl rfl) | exact Or.inr (Or.inr rfl)) (hd : (x == ("__debug__" : Str)) = false := by decide)
    (hcd : (x == ("__classdict__" : Str)) = false := by decide) : ME X b (.Name x pos) (wVar i) := PE.imp (pe_var hN hv hd hcd) fun σ H Q ⟨S, δ, P, I, hw, k⟩ => by
  unfold wVar at hw
  split at hw
  · rename_i d he
    obtain ⟨v, e1, r⟩ := I.get he
    exact ⟨v, e1, k d v S H (Grow.refl I.sh) r hw⟩
  · exact hw.elim
theorem mo_var (i : Nat) {x : Str} (hN : X.N[i]? = some x := by rfl) (hv : Vis X.env.scope x := by first | exact Or.inl rfl | exact Or.inr (Or.inl rfl) | exact Or.inr (Or.inr rfl)) (hd : (x == ("__debug__" : Str)) = false := by decide)
    (hcd : (x == ("__classdict__" : Str)) = false := by decide) : MO X b (.Name x pos) (wVarO i) := PE.imp (pe_var hN hv hd hcd) fun σ H Q ⟨S, δ, P, I, hw, k⟩ => by
  unfold wVarO at hw
  split at hw
  · rename_i c he
    obtain ⟨d, o⟩ := c
    cases o with
    | false =>
      obtain ⟨v, e1, r⟩ := I.get he
      exact ⟨v, e1, k d v S H (Grow.refl I.sh) (.inl r) hw⟩
    | true =>
      obtain ⟨p, e1, h0, s0, r⟩ := I.getO he
      exact ⟨_, e1, k d _ S H (Grow.refl I.sh) (.inr ⟨p, rfl, s0, r⟩) hw⟩
  · exact hw.elim

/-! ### two operands, by values -/
/-- q tells what an operator gives; r is its reading -/
def OpD (K : PySem.W.Frag) (g : G) (r : R2) (q : D → D → (D → Prop) → Prop) : Prop :=
  ∀ S H x y v u (P : D → Prop) (Q : VK), Ex S H → RepT K g S H v x → RepT K g S H u y → q x y P → (∀ d w S' H', Grow S H S' H' → Rep K g S' w d → P d → Q w H') → r v u H Q
/-- .. a new list, fresh -/
def OpDF (K : PySem.W.Frag) (g : G) (r : R2) (q : D → D → (D → Prop) → Prop) : Prop :=
  ∀ S H x y v u (P : D → Prop) (Q : VK), Ex S H → RepT K g S H v x → RepT K g S H u y → q x y P → (∀ d p S' H', Grow S H S' H' → H p = none → S' p = none → OwnR K g S' H' p d → P d → Q (.ref p) H') → r v u H Q
def wOp (q : D → D → (D → Prop) → Prop) (wa wb : WE) : WE := fun δ EX P => wa δ EX fun x => wb δ EX fun y => q x y P
theorem tOp_of {r : R2} {q : D → D → (D → Prop) → Prop} (hr : OpD K b.g r q) {Q : VK} (h : tE K b (wOp q wa wb) σ H Q) : tOp r (tO K b wa) (tO K b wb) σ H Q := by
  obtain ⟨S, δ, P, I, hw, k⟩ := h
  refine ⟨S, δ, _, I, hw, fun x v S1 H1 g1 r1 h1 => ?_⟩
  refine ⟨S1, δ, _, I.grow g1, h1, fun y u S2 H2 g2 r2 h2 => ?_⟩
  exact hr S2 H2 x y v u P Q g2.sh (r1.mono g2) r2 h2 fun d z S3 H3 g3 r3 hd => k d z S3 H3 ((g1.trans g2).trans g3) r3 hd
theorem tOpF_of {r : R2} {q : D → D → (D → Prop) → Prop} (hr : OpDF K b.g r q) {Q : VK} (h : tF K b (wOp q wa wb) σ H Q) : tOp r (tO K b wa) (tO K b wb) σ H Q := by
  obtain ⟨S, δ, P, I, hw, k⟩ := h
  refine ⟨S, δ, _, I, hw, fun x v S1 H1 g1 r1 h1 => ?_⟩
  refine ⟨S1, δ, _, I.grow g1, h1, fun y u S2 H2 g2 r2 h2 => ?_⟩
  exact hr S2 H2 x y v u P Q g2.sh (r1.mono g2) r2 h2 fun d p S3 H3 g3 hp sp r3 hd => k d p S3 H3 ((g1.trans g2).trans g3) (none_of_ex (g1.trans g2).h hp) sp r3 hd
theorem me_op {op : Operator} {r : R2} {q : D → D → (D → Prop) → Prop} (ho : OpR X (binaryOp op) r) (hr : OpD X.K b.g r q) (ha : MO X b a wa) (hb : MO X b c wb) : ME X b (.BinOp a op c pos) (wOp q wa wb) := PE.imp (pe_op ho ha hb) fun _ _ _ h => tOp_of hr h
theorem mf_op {op : Operator} {r : R2} {q : D → D → (D → Prop) → Prop} (ho : OpR X (binaryOp op) r) (hr : OpDF X.K b.g r q) (ha : MO X b a wa) (hb : MO X b c wb) : MF X b (.BinOp a op c pos) (wOp q wa wb) := PE.imp (pe_op ho ha hb) fun _ _ _ h => tOpF_of hr h
theorem OpD.or {r r' : R2} {q q' : D → D → (D → Prop) → Prop} (h : OpD K g r q) (h' : OpD K g r' q') : OpD K g (fun x y H Q => r x y H Q ∨ r' x y H Q) (fun x y P => q x y P ∨ q' x y P) :=
  fun S H x y v u P Q e rv ru hq k => hq.elim (fun z => .inl (h S H x y v u P Q e rv ru z k)) fun z => .inr (h' S H x y v u P Q e rv ru z k)
theorem OpD.imp {r : R2} {q q' : D → D → (D → Prop) → Prop} (h : OpD K g r q) (f : ∀ x y P, q' x y P → q x y P) : OpD K g r q' := fun S H x y v u P Q e rv ru hq k => h S H x y v u P Q e rv ru (f x y P hq) k
theorem OpDF.op {r : R2} {q : D → D → (D → Prop) → Prop} (h : OpDF K g r q) : OpD K g r q := fun S H x y v u P Q e rv ru hq k => h S H x y v u P Q e rv ru hq fun d p S' H' gr hp sp o hd => by
  obtain ⟨S2, e1, e2, e3, r⟩ := o.stab gr.sh sp
  exact k d (.ref p) S2 H' ⟨gr.s.trans e1, gr.h, e2, fun q u hq => (e3 q (ne_of_none hq hp)).trans (gr.old q u hq)⟩ r hd

def Line : Nat := 16777216
theorem line_eq : (sizeLine : Nat) = Line := sizeLine_eq
theorem le_line {n : Nat} (h : n ≤ Line) : n ≤ sizeLine := by rw [line_eq]; exact h

/-! ### arithmetic -/
def qI (f : Int → Int → Int) : D → D → (D → Prop) → Prop := fun x y P => match x, y with
  | .int i, .int j => P (.int (f i j))
  | _, _ => False
def qIC (C : Int → Int → Prop) (f : Int → Int → Int) : D → D → (D → Prop) → Prop := fun x y P => match x, y with
  | .int i, .int j => C i j ∧ P (.int (f i j))
  | _, _ => False
theorem od_I {f : Int → Int → Int} : OpD K g (rI0 fun i j => .int (f i j)) (qI f) := by
  intro S H x y v u P Q e rv ru hq k
  unfold qI at hq
  split at hq
  · cases rv.int; cases ru.int
    exact ⟨_, _, rfl, rfl, k _ _ S H (Grow.refl e) (.int _) hq⟩
  · exact hq.elim
theorem od_IC {C : Int → Int → Prop} {f : Int → Int → Int} : OpD K g (rI C fun i j => .int (f i j)) (qIC C f) := by
  intro S H x y v u P Q e rv ru hq k
  unfold qIC at hq
  split at hq
  · cases rv.int; cases ru.int
    exact ⟨_, _, rfl, rfl, hq.1, k _ _ S H (Grow.refl e) (.int _) hq.2⟩
  · exact hq.elim
def qCatS : D → D → (D → Prop) → Prop := fun x y P => match x, y with
  | .str i, .str j => i.length + j.length ≤ Line ∧ P (.str (i ++ j))
  | _, _ => False
theorem od_catS : OpD K g (fun x y H Q => ∃ i j, x = .str i ∧ y = .str j ∧ i.length + j.length ≤ sizeLine ∧ Q (.str (i ++ j)) H) qCatS := by
  intro S H x y v u P Q e rv ru hq k
  unfold qCatS at hq
  split at hq
  · cases rv.str; cases ru.str
    exact ⟨_, _, rfl, rfl, le_line hq.1, k _ _ S H (Grow.refl e) (.str _) hq.2⟩
  · exact hq.elim
def qCatL : D → D → (D → Prop) → Prop := fun x y P => match x, y with
  | .lst xs, .lst ys => xs.length + ys.length ≤ Line ∧ P (.lst (xs ++ ys))
  | _, _ => False
theorem od_catL : OpDF K g rCat qCatL := by
  intro S H x y v u P Q e rv ru hq k
  unfold qCatL at hq
  split at hq
  · obtain ⟨p, xs, rfl, hx, ra⟩ := rv.lst e
    obtain ⟨q, ys, rfl, hy, rb⟩ := ru.lst e
    refine ⟨p, q, xs, ys, rfl, rfl, hx, hy, by rw [ra.len, rb.len]; exact le_line hq.1, fun z hz => ?_⟩
    exact k (.lst _) z S _ (Grow.newO e hz) hz (none_of_ex e hz) ⟨_, upd_same, ra.append rb⟩ hq.2
  · exact hq.elim
def qCatT : D → D → (D → Prop) → Prop := fun x y P => match x, y with
  | .tup xs, .tup ys => xs.length + ys.length ≤ Line ∧ P (.tup (xs ++ ys))
  | _, _ => False
theorem od_catT : OpD K g (rCatA K) qCatT := by
  intro S H x y v u P Q e rv ru hq k
  unfold qCatT at hq
  split at hq
  · obtain ⟨p, xs, rfl, hx, sx, ra⟩ := rv.tup e
    obtain ⟨q, ys, rfl, hy, sy, rb⟩ := ru.tup e
    refine ⟨p, q, xs, ys, rfl, rfl, hx, hy, by rw [ra.len, rb.len]; exact le_line hq.1, fun z => ?_, fun z z2 => ?_, fun z z2 r hr => ?_⟩
    · subst z; cases ra
      exact k _ _ S H (Grow.refl e) (.tup sy rb) hq.2
    · subst z2; cases rb
      refine k _ _ S H (Grow.refl e) (.tup sx ?_) hq.2
      rw [List.append_nil]; exact ra
    · exact k _ _ _ _ (Grow.new e hr) (.tup (st_of upd_same) ((ra.append rb).mono (Ex.new (none_of_ex e hr)))) hq.2
  · exact hq.elim
/-- + of any kind -/
def qAdd : D → D → (D → Prop) → Prop := fun x y P => match x, y with
  | .int i, .int j => P (.int (i + j))
  | .str i, .str j => i.length + j.length ≤ Line ∧ P (.str (i ++ j))
  | .lst xs, .lst ys => xs.length + ys.length ≤ Line ∧ P (.lst (xs ++ ys))
  | .tup xs, .tup ys => xs.length + ys.length ≤ Line ∧ P (.tup (xs ++ ys))
  | _, _ => False
theorem me_add (ha : MO X b a wa) (hb : MO X b c wb) : ME X b (.BinOp a .Add c pos) (wOp qAdd wa wb) :=
  me_op (OpR.or op_add (OpR.or op_add_str (OpR.or op_cat op_catA))) ((OpD.or (od_I (f := fun i j => i + j)) (OpD.or od_catS (OpD.or od_catL.op od_catT))).imp fun x y P h => by
    unfold qAdd at h
    split at h
    · exact .inl h
    · exact .inr (.inl h)
    · exact .inr (.inr (.inl h))
    · exact .inr (.inr (.inr h))
    · exact h.elim) ha hb
theorem mf_add (ha : MO X b a wa) (hb : MO X b c wb) : MF X b (.BinOp a .Add c pos) (wOp qCatL wa wb) := mf_op op_cat od_catL ha hb
theorem me_sub (ha : MO X b a wa) (hb : MO X b c wb) : ME X b (.BinOp a .Sub c pos) (wOp (qI fun i j => i - j) wa wb) := me_op op_sub od_I ha hb
/-- * of ints | a list times an int -/
def MulOk (i j : Int) : Prop := CMul i j ∨ CMulW i j
def qMul : D → D → (D → Prop) → Prop := fun x y P => match x, y with
  | .int i, .int j => MulOk i j ∧ P (.int (i * j))
  | .lst xs, .int k => -(2 ^ 63) ≤ k ∧ k < 2 ^ 63 ∧ xs.length * k.toNat ≤ Line ∧ P (.lst (List.replicate k.toNat xs).flatten)
  | _, _ => False
def qRep : D → D → (D → Prop) → Prop := fun x y P => match x, y with
  | .lst xs, .int k => -(2 ^ 63) ≤ k ∧ k < 2 ^ 63 ∧ xs.length * k.toNat ≤ Line ∧ P (.lst (List.replicate k.toNat xs).flatten)
  | _, _ => False
theorem od_rep : OpDF K g rRep qRep := by
  intro S H x y v u P Q e rv ru hq k
  unfold qRep at hq
  split at hq
  · obtain ⟨p, xs, rfl, hx, ra⟩ := rv.lst e
    cases ru.int
    obtain ⟨h1, h2, h3, h4⟩ := hq
    refine ⟨p, _, xs, rfl, rfl, hx, h1, h2, by rw [ra.len]; exact le_line h3, fun z hz => ?_⟩
    exact k (.lst _) z S _ (Grow.newO e hz) hz (none_of_ex e hz) ⟨_, upd_same, ra.rep _⟩ h4
  · exact hq.elim
theorem me_mul (ha : MO X b a wa) (hb : MO X b c wb) : ME X b (.BinOp a .Mult c pos) (wOp qMul wa wb) :=
  me_op (OpR.or (OpR.or op_mul op_mulW) op_rep) ((OpD.or (OpD.or (od_IC (f := fun i j => i * j)) (od_IC (f := fun i j => i * j))) od_rep.op).imp fun x y P h => by
    unfold qMul at h
    split at h
    · rcases h.1 with q | q
      · exact .inl (.inl ⟨q, h.2⟩)
      · exact .inl (.inr ⟨q, h.2⟩)
    · exact .inr h
    · exact h.elim) ha hb
theorem mf_mul (ha : MO X b a wa) (hb : MO X b c wb) : MF X b (.BinOp a .Mult c pos) (wOp qRep wa wb) := mf_op op_rep od_rep ha hb
/-- // by a positive divisor | any small one -/
def DivOk (j : Int) : Prop := CDivW 0 j
def qDiv : D → D → (D → Prop) → Prop := fun x y P => match x, y with
  | .int i, .int j => (CDivW i j ∧ P (.int (i / j))) ∨ (CDivN i j ∧ P (.int (i.fdiv j)))
  | _, _ => False
theorem me_div (ha : MO X b a wa) (hb : MO X b c wb) : ME X b (.BinOp a .FloorDiv c pos) (wOp qDiv wa wb) :=
  me_op (OpR.or op_fdivW op_fdivN) ((OpD.or (od_IC (f := fun i j => i / j)) (od_IC (f := fun i j => i.fdiv j))).imp fun x y P h => by
    unfold qDiv at h
    split at h
    · exact h
    · exact h.elim) ha hb
def qMod : D → D → (D → Prop) → Prop := fun x y P => match x, y with
  | .int i, .int j => (0 < j ∧ P (.int (i % j))) ∨ (j ≠ 0 ∧ P (.int (i.fmod j)))
  | _, _ => False
theorem me_mod (ha : MO X b a wa) (hb : MO X b c wb) : ME X b (.BinOp a .Mod c pos) (wOp qMod wa wb) :=
  me_op (OpR.or op_mod op_modN) ((OpD.or (od_IC (f := fun i j => i % j)) (od_IC (f := fun i j => i.fmod j))).imp fun x y P h => by
    unfold qMod at h
    split at h
    · exact h
    · exact h.elim) ha hb
theorem me_pow (ha : MO X b a wa) (hb : MO X b c wb) : ME X b (.BinOp a .Pow c pos) (wOp (qIC CPow fun i j => i ^ j.toNat) wa wb) := me_op op_pow od_IC ha hb
def qNeg : D → (D → Prop) → Prop := fun x P => match x with
  | .int i => P (.int (-i))
  | _ => False
def wUn (q : D → (D → Prop) → Prop) (wa : WE) : WE := fun δ EX P => wa δ EX fun x => q x P
theorem me_neg (ha : MO X b a wa) : ME X b (.UnaryOp .USub a pos) (wUn qNeg wa) := PE.imp (pe_un un_neg ha) fun σ H Q ⟨S, δ, P, I, hw, k⟩ => by
  refine ⟨S, δ, _, I, hw, fun x v S1 H1 g1 r1 h1 => ?_⟩
  unfold qNeg at h1
  split at h1
  · cases r1.int
    exact ⟨_, rfl, k _ _ S1 H1 g1 (.int _) h1⟩
  · exact h1.elim
end
end Mi
namespace Mi
open PySem L2 Evl PySem.Spec PyProof.Rows

/-! ### == -/
mutual
def D.py : D → PyData
  | .non => .none
  | .bl b => .bool b
  | .int i => .int i
  | .str x => .str x
  | .lst xs => .list (D.pys xs)
  | .tup xs => .tuple (D.pys xs)
  | .dic _ => .dict []
  | .ext _ _ => .dict []
def D.pys : List D → List PyData
  | [] => []
  | x :: xs => D.py x :: D.pys xs
end
theorem pys_map : ∀ xs : List D, D.pys xs = xs.map D.py
  | [] => rfl
  | x :: xs => by rw [D.pys, pys_map xs]; rfl
abbrev okD (d : D) : Prop := SeqAt.shaped d.py = true
def eqD (x y : D) : Bool := PyData.eqv x.py y.py

section
variable {K : PySem.W.Frag} {g : G} {S S' H H' : Hp}
mutual
theorem Rep.dp (e : Ex S H) : ∀ {v : V} {d : D}, Rep K g S v d → d.py.canLay0 = true → Dp K H v d.py
  | _, _, .non, _ => .non
  | _, _, .bl b, _ => .bl b
  | _, _, .int i, _ => .int i
  | _, _, .str x, _ => .str x
  | _, _, .lst h r, k => .lst (sq_of (e _ _ h)) (RepA.dp e r (by simpa [D.py, PyData.canLay0] using k))
  | _, _, .tup h r, k => .tup (ex_t e h) (RepA.dp e r (by simpa [D.py, PyData.canLay0] using k))
  | _, _, .dic h r, k => by simp [D.py, PyData.canLay0] at k
  | _, _, .ext h, k => by simp [D.py, PyData.canLay0] at k
theorem RepA.dp (e : Ex S H) : ∀ {vs : List V} {ds : List D}, RepA K g S vs ds → PyData.canLayAll0 (D.pys ds) = true → DpAll K H vs (D.pys ds)
  | _, _, .nil, _ => .nil
  | _, _, .cons h r, k => by
    rw [D.pys, PyData.canLayAll0, Bool.and_eq_true] at k
    exact .cons (Rep.dp e h k.1) (RepA.dp e r k.2)
end
theorem RepT.dp {v : V} {d : D} (e : Ex S H) (r : RepT K g S H v d) (k : okD d) : Dp K H v d.py := by
  have k' := SeqAt.canLay_of_shaped k
  rcases r with r | ⟨p, rfl, s0, o⟩
  · exact r.dp e k'
  · cases d with
    | lst ds =>
      obtain ⟨xs, h, ra⟩ := o
      exact .lst (sq_of h) (RepA.dp e ra (by simpa [D.py, PyData.canLay0] using k'))
    | dic ds => simp [D.py, PyData.canLay0] at k'
    | _ => exact o.elim
end

/-- == of plain things by themselves; anything else by its data -/
def scEq : D → D → Option Bool
  | .int i, .int j => some (decide (i = j))
  | .str s, .str t => some (decide (s = t))
  | .bl a, .bl c => some (decide (a = c))
  | .non, .non => some true
  | .non, .int _ => some false
  | .non, .str _ => some false
  | .non, .bl _ => some false
  | .int _, .non => some false
  | .str _, .non => some false
  | .bl _, .non => some false
  | .int _, .str _ => some false
  | .str _, .int _ => some false
  | .bl _, .str _ => some false
  | .str _, .bl _ => some false
  | _, _ => none
def qEq (x y : D) (P : Bool → Prop) : Prop := match scEq x y with
  | some c => P c
  | none => okD x ∧ okD y ∧ P (eqD x y)

/-- a comparison by values -/
def OpB (K : PySem.W.Frag) (g : G) (r : R2) (q : D → D → (Bool → Prop) → Prop) : Prop :=
  ∀ S H x y v u (P : Bool → Prop) (Q : VK), Ex S H → RepT K g S H v x → RepT K g S H u y → q x y P → (∀ c S' H', Grow S H S' H' → P c → Q (.bl c) H') → r v u H Q
section
variable {X : Cx} {b : Bs} {K : PySem.W.Frag} {g : G} {S S' H H' : Hp} {δ : Env} {σ : L2.St} {e a c e' : Expr} {es rest : List Expr} {w wa wb wc : WE} {pos : Pos}
theorem OpB.or {r r' : R2} {q q' : D → D → (Bool → Prop) → Prop} (h : OpB K g r q) (h' : OpB K g r' q') : OpB K g (fun x y H Q => r x y H Q ∨ r' x y H Q) (fun x y P => q x y P ∨ q' x y P) :=
  fun S H x y v u P Q e rv ru hq k => hq.elim (fun z => .inl (h S H x y v u P Q e rv ru z k)) fun z => .inr (h' S H x y v u P Q e rv ru z k)
theorem OpB.imp {r : R2} {q q' : D → D → (Bool → Prop) → Prop} (h : OpB K g r q) (f : ∀ x y P, q' x y P → q x y P) : OpB K g r q' := fun S H x y v u P Q e rv ru hq k => h S H x y v u P Q e rv ru (f x y P hq) k
def wCmp (q : D → D → (Bool → Prop) → Prop) (wa wb : WE) : WE := fun δ EX P => wa δ EX fun x => wb δ EX fun y => q x y fun c => P (.bl c)
def wCmpT (q : D → D → (Bool → Prop) → Prop) (wa wb : WE) : WT := fun δ EX P => wa δ EX fun x => wb δ EX fun y => q x y P
theorem tCmp_of {r : R2} {q : D → D → (Bool → Prop) → Prop} (hr : OpB K b.g r q) {Q : VK} (h : tE K b (wCmp q wa wb) σ H Q) : tOp r (tO K b wa) (tO K b wb) σ H Q := by
  obtain ⟨S, δ, P, I, hw, k⟩ := h
  refine ⟨S, δ, _, I, hw, fun x v S1 H1 g1 r1 h1 => ?_⟩
  refine ⟨S1, δ, _, I.grow g1, h1, fun y u S2 H2 g2 r2 h2 => ?_⟩
  exact hr S2 H2 x y v u _ Q g2.sh (r1.mono g2) r2 h2 fun d S3 H3 g3 hd => k _ _ S3 H3 ((g1.trans g2).trans g3) (.bl d) hd
theorem tCmpT_of {r : R2} {q : D → D → (Bool → Prop) → Prop} (hr : OpB K b.g r q) {Q : Bool → Hp → Prop} (h : tM K b (wCmpT q wa wb) σ H Q) : tTest (tOp r (tO K b wa) (tO K b wb)) σ H Q := by
  obtain ⟨S, δ, P, I, hw, k⟩ := h
  refine ⟨S, δ, _, I, hw, fun x v S1 H1 g1 r1 h1 => ?_⟩
  refine ⟨S1, δ, _, I.grow g1, h1, fun y u S2 H2 g2 r2 h2 => ?_⟩
  exact hr S2 H2 x y v u P _ g2.sh (r1.mono g2) r2 h2 fun d S3 H3 g3 hd => ⟨d, rfl, k _ S3 H3 ((g1.trans g2).trans g3) hd⟩
theorem me_cmp {op : CmpOp} {r : R2} {q : D → D → (Bool → Prop) → Prop} (ho : OpR X (compareOp op) r) (hr : OpB X.K b.g r q) (ha : MO X b a wa) (hb : MO X b c wb) (hm : behindInMarks op c = false) : ME X b (.Compare a [op] [c] pos) (wCmp q wa wb) :=
  PE.imp (pe_cmpR ho ha hb hm) fun _ _ _ h => tCmp_of hr h
theorem mt_cmp {op : CmpOp} {r : R2} {q : D → D → (Bool → Prop) → Prop} (ho : OpR X (compareOp op) r) (hr : OpB X.K b.g r q) (ha : MO X b a wa) (hb : MO X b c wb) (hm : behindInMarks op c = false) : MT X b (.Compare a [op] [c] pos) (wCmpT q wa wb) :=
  PT.imp (pt_cmpR ho ha hb hm) fun _ _ _ h => tCmpT_of hr h

theorem scEq_of {v u : V} {x y : D} {c : Bool} (h : scEq x y = some c) (rv : RepT K g S H v x) (ru : RepT K g S H u y) : scal v u = true ∧ decide (v = u) = c := by
  unfold scEq at h
  split at h
  · cases h; cases rv.int; cases ru.int; exact ⟨rfl, by simp⟩
  · cases h; cases rv.str; cases ru.str; exact ⟨rfl, by simp⟩
  · cases h; cases rv.bl; cases ru.bl; exact ⟨rfl, by simp⟩
  · cases h; cases rv.non; cases ru.non; exact ⟨rfl, rfl⟩
  · cases h; cases rv.non; cases ru.int; exact ⟨rfl, by simp⟩
  · cases h; cases rv.non; cases ru.str; exact ⟨rfl, by simp⟩
  · cases h; cases rv.non; cases ru.bl; exact ⟨rfl, by simp⟩
  · cases h; cases rv.int; cases ru.non; exact ⟨rfl, by simp⟩
  · cases h; cases rv.str; cases ru.non; exact ⟨rfl, by simp⟩
  · cases h; cases rv.bl; cases ru.non; exact ⟨rfl, by simp⟩
  · cases h; cases rv.int; cases ru.str; exact ⟨rfl, by simp⟩
  · cases h; cases rv.str; cases ru.int; exact ⟨rfl, by simp⟩
  · cases h; cases rv.bl; cases ru.str; exact ⟨rfl, by simp⟩
  · cases h; cases rv.str; cases ru.bl; exact ⟨rfl, by simp⟩
  · cases h
theorem ob_eq : OpB K g (fun x y H Q => rEq x y H Q ∨ rEqD K x y H Q) qEq := by
  intro S H x y v u P Q e rv ru hq k
  unfold qEq at hq
  split at hq
  · rename_i c hc
    obtain ⟨h1, h2⟩ := scEq_of hc rv ru
    exact .inl ⟨h1, by rw [h2]; exact k _ S H (Grow.refl e) hq⟩
  · obtain ⟨h1, h2, h3⟩ := hq
    exact .inr ⟨_, _, rv.dp e h1, ru.dp e h2, h1, h2, k _ S H (Grow.refl e) h3⟩
def qNe (x y : D) (P : Bool → Prop) : Prop := qEq x y fun c => P (!c)
theorem ob_ne : OpB K g (fun x y H Q => rNe x y H Q ∨ rNeD K x y H Q) qNe := by
  intro S H x y v u P Q e rv ru hq k
  unfold qNe qEq at hq
  split at hq
  · rename_i c hc
    obtain ⟨h1, h2⟩ := scEq_of hc rv ru
    exact .inl ⟨h1, by rw [h2]; exact k _ S H (Grow.refl e) hq⟩
  · obtain ⟨h1, h2, h3⟩ := hq
    exact .inr ⟨_, _, rv.dp e h1, ru.dp e h2, h1, h2, k _ S H (Grow.refl e) h3⟩
theorem me_eq (hu : X.A.units + 64 < cLine) (ha : MO X b a wa) (hb : MO X b c wb) : ME X b (.Compare a [.Eq] [c] pos) (wCmp qEq wa wb) := me_cmp (OpR.or op_eq (op_eqD hu)) ob_eq ha hb (nomark _)
theorem mt_eq (hu : X.A.units + 64 < cLine) (ha : MO X b a wa) (hb : MO X b c wb) : MT X b (.Compare a [.Eq] [c] pos) (wCmpT qEq wa wb) := mt_cmp (OpR.or op_eq (op_eqD hu)) ob_eq ha hb (nomark _)
theorem me_ne (hu : X.A.units + 64 < cLine) (ha : MO X b a wa) (hb : MO X b c wb) : ME X b (.Compare a [.NotEq] [c] pos) (wCmp qNe wa wb) := me_cmp (OpR.or op_ne (op_neD hu)) ob_ne ha hb (nomark _)
theorem mt_ne (hu : X.A.units + 64 < cLine) (ha : MO X b a wa) (hb : MO X b c wb) : MT X b (.Compare a [.NotEq] [c] pos) (wCmpT qNe wa wb) := mt_cmp (OpR.or op_ne (op_neD hu)) ob_ne ha hb (nomark _)

/-! ### order: ints, texts -/
def qOrd (f : Int → Int → Bool) (s : Str → Str → Bool) (x y : D) (P : Bool → Prop) : Prop := match x, y with
  | .int i, .int j => P (f i j)
  | .str i, .str j => P (s i j)
  | _, _ => False
def strLt (s t : Str) : Bool := decide (s.cps.toList < t.cps.toList)
theorem ob_ord {f : Int → Int → Bool} {s : Str → Str → Bool} : OpB K g (fun x y H Q => (rI0 fun i j => .bl (f i j)) x y H Q ∨ (∃ i j, x = .str i ∧ y = .str j ∧ Q (.bl (s i j)) H)) (qOrd f s) := by
  intro S H x y v u P Q e rv ru hq k
  unfold qOrd at hq
  split at hq
  · cases rv.int; cases ru.int
    exact .inl ⟨_, _, rfl, rfl, k _ S H (Grow.refl e) hq⟩
  · cases rv.str; cases ru.str
    exact .inr ⟨_, _, rfl, rfl, k _ S H (Grow.refl e) hq⟩
  · exact hq.elim
abbrev qLt := qOrd (fun i j => decide (i < j)) fun s t => strLt s t
abbrev qLe := qOrd (fun i j => decide (i ≤ j)) fun s t => !strLt t s
abbrev qGt := qOrd (fun i j => decide (j < i)) fun s t => strLt t s
abbrev qGe := qOrd (fun i j => decide (j ≤ i)) fun s t => !strLt s t
theorem me_lt (ha : MO X b a wa) (hb : MO X b c wb) : ME X b (.Compare a [.Lt] [c] pos) (wCmp qLt wa wb) := me_cmp (OpR.or op_lt op_lt_str) ob_ord ha hb (nomark _)
theorem mt_lt (ha : MO X b a wa) (hb : MO X b c wb) : MT X b (.Compare a [.Lt] [c] pos) (wCmpT qLt wa wb) := mt_cmp (OpR.or op_lt op_lt_str) ob_ord ha hb (nomark _)
theorem me_le (ha : MO X b a wa) (hb : MO X b c wb) : ME X b (.Compare a [.LtE] [c] pos) (wCmp qLe wa wb) := me_cmp (OpR.or op_le op_le_str) ob_ord ha hb (nomark _)
theorem mt_le (ha : MO X b a wa) (hb : MO X b c wb) : MT X b (.Compare a [.LtE] [c] pos) (wCmpT qLe wa wb) := mt_cmp (OpR.or op_le op_le_str) ob_ord ha hb (nomark _)
theorem me_gt (ha : MO X b a wa) (hb : MO X b c wb) : ME X b (.Compare a [.Gt] [c] pos) (wCmp qGt wa wb) := me_cmp (OpR.or op_gt op_gt_str) ob_ord ha hb (nomark _)
theorem mt_gt (ha : MO X b a wa) (hb : MO X b c wb) : MT X b (.Compare a [.Gt] [c] pos) (wCmpT qGt wa wb) := mt_cmp (OpR.or op_gt op_gt_str) ob_ord ha hb (nomark _)
theorem me_ge (ha : MO X b a wa) (hb : MO X b c wb) : ME X b (.Compare a [.GtE] [c] pos) (wCmp qGe wa wb) := me_cmp (OpR.or op_ge op_ge_str) ob_ord ha hb (nomark _)
theorem mt_ge (ha : MO X b a wa) (hb : MO X b c wb) : MT X b (.Compare a [.GtE] [c] pos) (wCmpT qGe wa wb) := mt_cmp (OpR.or op_ge op_ge_str) ob_ord ha hb (nomark _)
/-- a <= b <= c -/
def wChainT (q q' : D → D → (Bool → Prop) → Prop) (wa wb wc : WE) : WT := fun δ EX P => wa δ EX fun x => wb δ EX fun y => q x y fun k => if k = true then wc δ EX fun z => q' y z P else P false
def wChain (q q' : D → D → (Bool → Prop) → Prop) (wa wb wc : WE) : WE := fun δ EX P => wChainT q q' wa wb wc δ EX fun k => P (.bl k)
theorem me_chain {op op' : CmpOp} {r r' : R2} {q q' : D → D → (Bool → Prop) → Prop} (ho : OpR X (compareOp op) r) (hr : OpB X.K b.g r q) (ho' : OpR X (compareOp op') r') (hr' : OpB X.K b.g r' q') (ha : MO X b a wa) (hb : MO X b c wb) (hc : MO X b e wc)
    (h1 : lastMarks [op, op'] [c, e] = false := by rfl) : ME X b (.Compare a [op, op'] [c, e] pos) (wChain q q' wa wb wc) :=
  PE.imp (pe_chain ho ho' ha hb hc h1) fun σ H Q ⟨S, δ, P, I, hw, k⟩ => by
    refine ⟨S, δ, _, I, hw, fun x v S1 H1 g1 r1 hx => ?_⟩
    refine ⟨S1, δ, _, I.grow g1, hx, fun y u S2 H2 g2 r2 hy => ?_⟩
    refine hr S2 H2 x y v u _ _ g2.sh (r1.mono g2) r2 hy fun d S3 H3 g3 hd => ⟨d, rfl, ?_⟩
    cases d with
    | false =>
      rw [if_neg Bool.false_ne_true] at hd ⊢
      exact k _ _ S3 H3 ((g1.trans g2).trans g3) (.bl _) hd
    | true =>
      rw [if_pos rfl] at hd ⊢
      refine ⟨S3, δ, _, I.grow ((g1.trans g2).trans g3), hd, fun z t S4 H4 g4 r4 hz => ?_⟩
      exact hr' S4 H4 y z u t _ _ g4.sh ((r2.mono g3).mono g4) r4 hz fun d S5 H5 g5 hd => k _ _ S5 H5 ((((g1.trans g2).trans g3).trans g4).trans g5) (.bl _) hd
theorem mt_chain {op op' : CmpOp} {r r' : R2} {q q' : D → D → (Bool → Prop) → Prop} (ho : OpR X (compareOp op) r) (hr : OpB X.K b.g r q) (ho' : OpR X (compareOp op') r') (hr' : OpB X.K b.g r' q') (ha : MO X b a wa) (hb : MO X b c wb) (hc : MO X b e wc)
    (h1 : lastMarks [op, op'] [c, e] = false := by rfl) : MT X b (.Compare a [op, op'] [c, e] pos) (wChainT q q' wa wb wc) :=
  PT.imp (pt_chain ho ho' ha hb hc h1) fun σ H Q ⟨S, δ, P, I, hw, k⟩ => by
    refine ⟨S, δ, _, I, hw, fun x v S1 H1 g1 r1 hx => ?_⟩
    refine ⟨S1, δ, _, I.grow g1, hx, fun y u S2 H2 g2 r2 hy => ?_⟩
    refine hr S2 H2 x y v u _ _ g2.sh (r1.mono g2) r2 hy fun d S3 H3 g3 hd => ⟨d, rfl, ?_⟩
    cases d with
    | false =>
      rw [if_neg Bool.false_ne_true] at hd ⊢
      exact ⟨_, rfl, k _ S3 H3 ((g1.trans g2).trans g3) hd⟩
    | true =>
      rw [if_pos rfl] at hd ⊢
      refine ⟨S3, δ, _, I.grow ((g1.trans g2).trans g3), hd, fun z t S4 H4 g4 r4 hz => ?_⟩
      exact hr' S4 H4 y z u t _ _ g4.sh ((r2.mono g3).mono g4) r4 hz fun d S5 H5 g5 hd => ⟨_, rfl, k _ S5 H5 ((((g1.trans g2).trans g3).trans g4).trans g5) hd⟩

/-! ### is None -/
def isNonD : D → Bool
  | .non => true
  | _ => false
def qIsN (x y : D) (P : Bool → Prop) : Prop := match y with
  | .non => P (isNonD x)
  | _ => False
def qNotN (x y : D) (P : Bool → Prop) : Prop := match y with
  | .non => P (!isNonD x)
  | _ => False
theorem RepT.isN {v : V} {x : D} (r : RepT K g S H v x) : decide (v = .non) = isNonD x := by
  rcases r with r | ⟨p, rfl, s0, o⟩
  · cases r <;> first | rfl | simp [isNonD]
  · cases x <;> first | exact o.elim | simp [isNonD]
theorem ob_isN : OpB K g (fun x y H Q => y = .non ∧ Q (.bl (decide (x = .non))) H) qIsN := by
  intro S H x y v u P Q e rv ru hq k
  unfold qIsN at hq
  split at hq
  · refine ⟨ru.non, ?_⟩
    rw [rv.isN]
    exact k _ S H (Grow.refl e) hq
  · exact hq.elim
theorem ob_notN : OpB K g (fun x y H Q => y = .non ∧ Q (.bl (!decide (x = .non))) H) qNotN := by
  intro S H x y v u P Q e rv ru hq k
  unfold qNotN at hq
  split at hq
  · refine ⟨ru.non, ?_⟩
    rw [rv.isN]
    exact k _ S H (Grow.refl e) hq
  · exact hq.elim
theorem me_is (ha : MO X b a wa) (hb : MO X b c wb) : ME X b (.Compare a [.Is] [c] pos) (wCmp qIsN wa wb) := me_cmp op_isN ob_isN ha hb (nomark _)
theorem mt_is (ha : MO X b a wa) (hb : MO X b c wb) : MT X b (.Compare a [.Is] [c] pos) (wCmpT qIsN wa wb) := mt_cmp op_isN ob_isN ha hb (nomark _)
theorem me_isnot (ha : MO X b a wa) (hb : MO X b c wb) : ME X b (.Compare a [.IsNot] [c] pos) (wCmp qNotN wa wb) := me_cmp op_notN ob_notN ha hb (nomark _)
theorem mt_isnot (ha : MO X b a wa) (hb : MO X b c wb) : MT X b (.Compare a [.IsNot] [c] pos) (wCmpT qNotN wa wb) := mt_cmp op_notN ob_notN ha hb (nomark _)

/-! ### truth, and, or, not, if -/
def qTru (x : D) (P : Bool → Prop) : Prop := match x with
  | .non => P false
  | .bl c => P c
  | .int i => P (i != 0)
  | .str s => s.length ≤ Line ∧ P ((s.length : Int) != 0)
  | .lst ds => P (!ds.isEmpty)
  | .tup ds => P (!ds.isEmpty)
  | .dic ds => P (!ds.isEmpty)
  | .ext _ _ => False
theorem RepA.emp {vs : List V} {ds : List D} (r : RepA K g S vs ds) : (!vs.isEmpty) = !ds.isEmpty := by cases r <;> rfl
theorem RepK.emp {vs : List (Key × V)} {ds : List (Key × D)} (r : RepK K g S vs ds) : (!vs.isEmpty) = !ds.isEmpty := by cases r <;> rfl
theorem RepT.tru {v : V} {x : D} {P : Bool → Prop} (e : Ex S H) (r : RepT K g S H v x) (h : qTru x P) : ∃ k, TruV K v H k ∧ P k := by
  cases x with
  | non => cases r.non; exact ⟨_, rfl, h⟩
  | bl c => cases r.bl; exact ⟨_, rfl, h⟩
  | int c => cases r.int; exact ⟨_, rfl, h⟩
  | str c => cases r.str; exact ⟨_, ⟨le_line h.1, rfl⟩, h.2⟩
  | lst ds =>
    obtain ⟨p, xs, rfl, hx, ra⟩ := r.lst e
    exact ⟨_, .inl ⟨xs, sq_of hx, rfl⟩, by rw [ra.emp]; exact h⟩
  | tup ds =>
    obtain ⟨p, xs, rfl, hx, _, ra⟩ := r.tup e
    exact ⟨_, .inr (.inl ⟨xs, hx, rfl⟩), by rw [ra.emp]; exact h⟩
  | dic ds =>
    obtain ⟨p, xs, rfl, hx, ra⟩ := r.dic e
    exact ⟨_, .inr (.inr ⟨xs, hx, rfl⟩), by rw [ra.emp]; exact h⟩
  | ext n d => exact h.elim
def wTru (wa : WE) : WT := fun δ EX P => wa δ EX fun x => qTru x P
theorem mt_tru (ha : MO X b a wa) (he : ∀ whole, isTrue a X.env whole = (do let v ← whole; standAt a.pos; holding [v] (truthy v)) := by intro _; rfl) : MT X b a (wTru wa) :=
  PT.imp (pt_truth ha he) fun σ H Q ⟨S, δ, P, I, hw, k⟩ => by
    refine ⟨S, δ, _, I, hw, fun x v S1 H1 g1 r1 h1 => ?_⟩
    obtain ⟨c, t, p⟩ := r1.tru g1.sh h1
    exact ⟨c, t, k c S1 H1 g1 p⟩
def wAndT (t u : WT) : WT := fun δ EX P => t δ EX fun c => if c = true then u δ EX P else P false
def wOrT (t u : WT) : WT := fun δ EX P => t δ EX fun c => if c = true then P true else u δ EX P
def wNotT (t : WT) : WT := fun δ EX P => t δ EX fun c => P (!c)
def MW (X : Cx) (b : Bs) (e : Expr) (w : WT) : Prop := PW X e (tM X.K b w)
variable {ta tb : WT}
theorem PW.imp {t t' : TT} (h : PW X e t) (f : ∀ σ H Q, t' σ H Q → t σ H Q) : PW X e t' := ⟨fun wh pins s σ H Q I q => h.run wh pins s σ H Q I (f σ H Q q)⟩
theorem mt_w (h : MW X b e ta) : MT X b e ta := L2.PW.pt h
theorem mw_and1 (ha : MT X b a ta) : MW X b (.BoolOp .And [a] pos) ta := pw_and1 ha
theorem mw_or1 (ha : MT X b a ta) : MW X b (.BoolOp .Or [a] pos) ta := pw_or1 ha
theorem mw_and (ha : MT X b a ta) (hb : MW X b (.BoolOp .And (c :: rest) pos) tb) : MW X b (.BoolOp .And (a :: c :: rest) pos) (wAndT ta tb) :=
  PW.imp (pw_and ha hb) fun σ H Q ⟨S, δ, P, I, hw, k⟩ => by
    refine ⟨S, δ, _, I, hw, fun x S1 H1 g1 h1 => ?_⟩
    cases x with
    | true =>
      rw [if_pos rfl] at h1 ⊢
      exact ⟨S1, δ, _, I.grow g1, h1, fun y S2 H2 g2 h2 => k y S2 H2 (g1.trans g2) h2⟩
    | false =>
      rw [if_neg Bool.false_ne_true] at h1 ⊢
      exact k _ S1 H1 g1 h1
theorem mw_or (ha : MT X b a ta) (hb : MW X b (.BoolOp .Or (c :: rest) pos) tb) : MW X b (.BoolOp .Or (a :: c :: rest) pos) (wOrT ta tb) :=
  PW.imp (pw_or ha hb) fun σ H Q ⟨S, δ, P, I, hw, k⟩ => by
    refine ⟨S, δ, _, I, hw, fun x S1 H1 g1 h1 => ?_⟩
    cases x with
    | true =>
      rw [if_pos rfl] at h1 ⊢
      exact k _ S1 H1 g1 h1
    | false =>
      rw [if_neg Bool.false_ne_true] at h1 ⊢
      exact ⟨S1, δ, _, I.grow g1, h1, fun y S2 H2 g2 h2 => k y S2 H2 (g1.trans g2) h2⟩
theorem mt_not (ha : MT X b a ta) : MT X b (.UnaryOp .Not a pos) (wNotT ta) :=
  PT.imp (pt_not ha) fun σ H Q ⟨S, δ, P, I, hw, k⟩ => ⟨S, δ, _, I, hw, fun x S1 H1 g1 h1 => k _ S1 H1 g1 h1⟩
def wAnd (wa wb : WE) : WE := fun δ EX P => wa δ EX fun x => qTru x fun c => if c = true then wb δ EX P else P x
def wOr (wa wb : WE) : WE := fun δ EX P => wa δ EX fun x => qTru x fun c => if c = true then P x else wb δ EX P
theorem me_and (ha : ME X b a wa) (hb : ME X b (.BoolOp .And (c :: rest) pos) wb) : ME X b (.BoolOp .And (a :: c :: rest) pos) (wAnd wa wb) :=
  PE.imp (pe_andT ha hb) fun σ H Q ⟨S, δ, P, I, hw, k⟩ => by
    refine ⟨S, δ, _, I, hw, fun x v S1 H1 g1 r1 h1 => ?_⟩
    obtain ⟨c, t, p⟩ := RepT.tru g1.sh (.inl r1) h1
    refine ⟨c, t, ?_⟩
    cases c with
    | true =>
      rw [if_pos rfl] at p ⊢
      exact ⟨S1, δ, _, I.grow g1, p, fun d u S2 H2 g2 r2 h2 => k d u S2 H2 (g1.trans g2) r2 h2⟩
    | false =>
      rw [if_neg Bool.false_ne_true] at p ⊢
      exact k _ _ S1 H1 g1 r1 p
theorem me_or (ha : ME X b a wa) (hb : ME X b (.BoolOp .Or (c :: rest) pos) wb) : ME X b (.BoolOp .Or (a :: c :: rest) pos) (wOr wa wb) :=
  PE.imp (pe_orT ha hb) fun σ H Q ⟨S, δ, P, I, hw, k⟩ => by
    refine ⟨S, δ, _, I, hw, fun x v S1 H1 g1 r1 h1 => ?_⟩
    obtain ⟨c, t, p⟩ := RepT.tru g1.sh (.inl r1) h1
    refine ⟨c, t, ?_⟩
    cases c with
    | true =>
      rw [if_pos rfl] at p ⊢
      exact k _ _ S1 H1 g1 r1 p
    | false =>
      rw [if_neg Bool.false_ne_true] at p ⊢
      exact ⟨S1, δ, _, I.grow g1, p, fun d u S2 H2 g2 r2 h2 => k d u S2 H2 (g1.trans g2) r2 h2⟩
theorem me_bone {op : BoolOp} (ha : ME X b a wa) : ME X b (.BoolOp op [a] pos) wa := pe_one ha
def wNot (wa : WE) : WE := fun δ EX P => wa δ EX fun x => qTru x fun c => P (.bl (!c))
theorem me_not (ha : MO X b a wa) : ME X b (.UnaryOp .Not a pos) (wNot wa) :=
  PE.imp (pe_notT ha) fun σ H Q ⟨S, δ, P, I, hw, k⟩ => by
    refine ⟨S, δ, _, I, hw, fun x v S1 H1 g1 r1 h1 => ?_⟩
    obtain ⟨c, t, p⟩ := r1.tru g1.sh h1
    exact ⟨c, t, k _ _ S1 H1 g1 (.bl _) p⟩
def wIfE (t : WT) (wa wb : WE) : WE := fun δ EX P => t δ EX fun c => if c = true then wa δ EX P else wb δ EX P
theorem me_if (ht : MT X b e ta) (ha : ME X b a wa) (hb : ME X b c wb) : ME X b (.IfExp e a c pos) (wIfE ta wa wb) :=
  PE.imp (pe_ifExp ht ha hb) fun σ H Q ⟨S, δ, P, I, hw, k⟩ => by
    refine ⟨S, δ, _, I, hw, fun x S1 H1 g1 h1 => ?_⟩
    cases x with
    | true =>
      rw [if_pos rfl] at h1 ⊢
      exact ⟨S1, δ, _, I.grow g1, h1, fun d u S2 H2 g2 r2 h2 => k d u S2 H2 (g1.trans g2) r2 h2⟩
    | false =>
      rw [if_neg Bool.false_ne_true] at h1 ⊢
      exact ⟨S1, δ, _, I.grow g1, h1, fun d u S2 H2 g2 r2 h2 => k d u S2 H2 (g1.trans g2) r2 h2⟩
end
end Mi
namespace Mi
open PySem L2 Evl PySem.Spec PyProof.Rows

section
variable {X : Cx} {b : Bs} {K : PySem.W.Frag} {g : G} {S S' H H' : Hp} {δ : Env} {σ : L2.St} {e a c e' : Expr} {es rest : List Expr} {w wa wb wc : WE} {wr : WA} {pos p : Pos} {x : Str} {id T : String}

/-! ### keys -/
def keyD : D → Option Key
  | .int i => some (.inl i)
  | .str s => some (.inr s)
  | _ => none
def valD (kvs : List (Key × D)) (k : Key) : Option D := (kvs.find? fun kv => decide (kv.1 = k)).map (·.2)
def putD (kvs : List (Key × D)) (k : Key) (v : D) : List (Key × D) :=
  if (kvs.any fun kv => decide (kv.1 = k)) = true then kvs.map (fun kv => if kv.1 = k then (kv.1, v) else kv) else kvs ++ [(k, v)]
theorem RepT.key {v : V} {d : D} {k : Key} (r : RepT K g S H v d) (h : keyD d = some k) : v = kV k := by
  cases d with
  | int i => cases h; exact r.int
  | str s => cases h; exact r.str
  | _ => cases h
theorem RepK.val {k : Key} : ∀ {vs : List (Key × V)} {ds : List (Key × D)}, RepK K g S vs ds →
    (∀ d, valD ds k = some d → ∃ v, valV vs k = some v ∧ Rep K g S v d) ∧ (valD ds k = none → valV vs k = none)
  | _, _, .nil => ⟨fun d h => by simp [valD] at h, fun _ => rfl⟩
  | _, _, .cons (k := k') (d := d') (ds := ds) h r => by
    obtain ⟨i1, i2⟩ := RepK.val (k := k) r
    by_cases e : k' = k
    · subst e
      refine ⟨fun d hd => ?_, fun hd => ?_⟩
      · simp [valD] at hd; subst hd; exact ⟨_, valV_pos rfl, h⟩
      · simp [valD] at hd
    · refine ⟨fun d hd => ?_, fun hd => ?_⟩
      · have q : valD ds k = some d := by simpa [valD, e] using hd
        obtain ⟨v, e1, r1⟩ := i1 d q
        exact ⟨v, (valV_neg (p := (k', _)) e).trans e1, r1⟩
      · have q : valD ds k = none := by simpa [valD, e] using hd
        exact (valV_neg (p := (k', _)) e).trans (i2 q)
theorem RepK.isSome {k : Key} {vs : List (Key × V)} {ds : List (Key × D)} (r : RepK K g S vs ds) : (valV vs k).isSome = (valD ds k).isSome := by
  obtain ⟨h1, h2⟩ := RepK.val (k := k) r
  cases h : valD ds k with
  | none => rw [h2 h]; rfl
  | some d => obtain ⟨v, e, _⟩ := h1 d h; rw [e]; rfl
theorem RepK.any {k : Key} : ∀ {vs : List (Key × V)} {ds : List (Key × D)}, RepK K g S vs ds → (vs.any fun kv => decide (kv.1 = k)) = ds.any fun kv => decide (kv.1 = k)
  | _, _, .nil => rfl
  | _, _, .cons h r => by rw [List.any_cons, List.any_cons, RepK.any r]
theorem RepK.snoc {k : Key} {v : V} {d : D} (h : Rep K g S v d) : ∀ {vs : List (Key × V)} {ds : List (Key × D)}, RepK K g S vs ds → RepK K g S (vs ++ [(k, v)]) (ds ++ [(k, d)])
  | _, _, .nil => .cons h .nil
  | _, _, .cons q r => .cons q (RepK.snoc h r)
theorem RepK.mapSet {k : Key} {v : V} {d : D} (h : Rep K g S v d) : ∀ {vs : List (Key × V)} {ds : List (Key × D)}, RepK K g S vs ds →
    RepK K g S (vs.map fun kv => if kv.1 = k then (kv.1, v) else kv) (ds.map fun kv => if kv.1 = k then (kv.1, d) else kv)
  | _, _, .nil => .nil
  | _, _, .cons (k := k') q r => by
    rw [List.map_cons, List.map_cons]
    by_cases e : k' = k
    · rw [if_pos e, if_pos e]; exact .cons h (RepK.mapSet h r)
    · rw [if_neg e, if_neg e]; exact .cons q (RepK.mapSet h r)
theorem RepK.put {k : Key} {v : V} {d : D} (h : Rep K g S v d) {vs : List (Key × V)} {ds : List (Key × D)} (r : RepK K g S vs ds) : RepK K g S (putK vs k v) (putD ds k d) := by
  unfold putK putD
  rw [r.any]
  split
  · exact r.mapSet h
  · exact r.snoc h
theorem RepK.keys : ∀ {vs : List (Key × V)} {ds : List (Key × D)}, RepK K g S vs ds → vs.map (·.1) = ds.map (·.1)
  | _, _, .nil => rfl
  | _, _, .cons h r => by rw [List.map_cons, List.map_cons, RepK.keys r]

/-! ### subscripts -/
def qIx (x y : D) (P : D → Prop) : Prop := match x with
  | .lst ds => (match y with | .int i => (match atI ds i with | some d => P d | none => False) | _ => False)
  | .tup ds => (match y with | .int i => (match atI ds i with | some d => P d | none => False) | _ => False)
  | .str s => (match y with | .int i => s.length ≤ Line ∧ (match atI s.cps.toList i with | some c => P (.str ⟨#[c]⟩) | none => False) | _ => False)
  | .dic kvs => (match keyD y with | some k => (match valD kvs k with | some d => P d | none => False) | none => False)
  | _ => False
theorem RepA.atI {vs : List V} {ds : List D} {i : Int} {d : D} (r : RepA K g S vs ds) (h : L2.atI ds i = some d) : ∃ v, L2.atI vs i = some v ∧ Rep K g S v d := by
  unfold L2.atI at h ⊢
  rw [r.len]
  cases e : ixN ds.length i with
  | none => rw [e] at h; cases h
  | some j =>
    rw [e] at h
    exact r.get h
/-- d[k] -/
def rIxDct : R2 := fun x y H Q => ∃ a v, x = .ref a ∧ DGet H a y (some v) ∧ Q v H
theorem ix_dct (hu : X.A.units + 1 < cLine) : IxR X rIxDct := by
  intro value slice pins s σ H x y v u Q I rx ry h hs
  obtain ⟨a, z, rfl, gt, q⟩ := h
  cases rx
  have hT := dict_typeIs I gt
  unfold subscriptTail
  refine wpAny_bind ?_
  rw [getitemInPython_of_ne hT.not_modules]
  refine wpAny_bind (wpAny_specialOf hT PySem.F.slot_dict_getitem.lookup ?_)
  have fin : wpAny (model X.prog X.w) X.A (subscripted slice false (.ref a) u) (fun r s₃ => wpAny (model X.prog X.w) X.A (letTemporaryGo value (.ref a) r >>= fun _ => pure r) (EP X pins σ Q) X.xe s₃) X.xe s := by
    rw [hs]
    exact wpAny_operating (d_getItem hu I gt ry fun w' s3 I3 rw' => wpAny_bind (wpAny_letTemporaryGo (wpAny_pure ⟨z, H, I3, rw', q⟩)))
  first
    | exact wpAny_pure (wpAny_bind fin)
    | exact wpAny_bind (wpAny_pure (wpAny_bind fin))
    | exact wpAny_bind fin
theorem od_ix : OpD K g (fun x y H Q => rIx K x y H Q ∨ rIxDct x y H Q) qIx := by
  intro S H x y v u P Q e rv ru hq k
  unfold qIx at hq
  split at hq
  · split at hq
    · split at hq
      · rename_i d hd
        obtain ⟨p, xs, rfl, hx, ra⟩ := rv.lst e
        cases ru.int
        obtain ⟨z, hz, rz⟩ := ra.atI hd
        exact .inl (.inl ⟨p, xs, _, z, rfl, rfl, sq_of hx, hz, k d z S H (Grow.refl e) rz hq⟩)
      · exact hq.elim
    · exact hq.elim
  · split at hq
    · split at hq
      · rename_i d hd
        obtain ⟨p, xs, rfl, hx, _, ra⟩ := rv.tup e
        cases ru.int
        obtain ⟨z, hz, rz⟩ := ra.atI hd
        exact .inl (.inr (.inl ⟨p, xs, _, z, rfl, rfl, hx, hz, k d z S H (Grow.refl e) rz hq⟩))
      · exact hq.elim
    · exact hq.elim
  · split at hq
    · obtain ⟨hl, hq⟩ := hq
      split at hq
      · rename_i d hd
        cases rv.str; cases ru.int
        exact .inl (.inr (.inr ⟨_, _, d, rfl, rfl, le_line hl, hd, k _ _ S H (Grow.refl e) (.str _) hq⟩))
      · exact hq.elim
    · exact hq.elim
  · split at hq
    · rename_i kk hk
      split at hq
      · rename_i d hd
        obtain ⟨p, xs, rfl, hx, ra⟩ := rv.dic e
        obtain ⟨z, hz, rz⟩ := ra.val.1 d hd
        refine .inr ⟨p, z, rfl, ?_, k d z S H (Grow.refl e) rz hq⟩
        rw [ru.key hk, ← hz]
        exact DGet.k hx
      · exact hq.elim
    · exact hq.elim
  · exact hq.elim
theorem PE.ix {r : R2} {q : D → D → (D → Prop) → Prop} (hr : IxR X r) (hd : OpD X.K b.g r q) (ha : MO X b a wa) (hb : MO X b c wb) (hs : PlainIx c) : ME X b (.Subscript a c pos) (wOp q wa wb) := PE.imp (pe_ix hr ha hb hs) fun _ _ _ h => tOp_of hd h
theorem me_ix (hu : X.A.units + 64 < cLine) (ha : MO X b a wa) (hb : MO X b c wb) (hs : PlainIx c := by intro _ _; rfl) : ME X b (.Subscript a c pos) (wOp qIx wa wb) := PE.ix (IxR.or ix_seq (ix_dct (by omega))) od_ix ha hb hs

/-! ### slices -/
abbrev WO := Env → (Exc → Prop) → (Option Int → Prop) → Prop
def tP (K : PySem.W.Frag) (b : Bs) (w : WO) : L2.TO := fun σ H Q => ∃ S δ P, StR K b δ σ S H ∧ w δ b.EX P ∧ ∀ o S' H', Grow S H S' H' → P o → Q o H'
def MP (X : Cx) (b : Bs) (e : Option Expr) (w : WO) : Prop := PO X e (tP X.K b w)
def wNoPart : WO := fun _ _ P => P none
def wPart (wa : WE) : WO := fun δ EX P => wa δ EX fun x => match x with
  | .int i => P (some i)
  | _ => False
theorem PO.imp {o : Option Expr} {t t' : L2.TO} (h : PO X o t) (f : ∀ σ H Q, t' σ H Q → t σ H Q) : PO X o t' := ⟨fun pins s σ H Q I q => h.run pins s σ H Q I (f σ H Q q)⟩
theorem mp_none : MP X b none wNoPart := PO.imp po_none fun σ H Q ⟨S, δ, P, I, hw, k⟩ => k none S H (Grow.refl I.sh) hw
theorem mp_some (ha : MO X b a wa) : MP X b (some a) (wPart wa) := PO.imp (po_some ha) fun σ H Q ⟨S, δ, P, I, hw, k⟩ => by
  refine ⟨S, δ, _, I, hw, fun x v S1 H1 g1 r1 h1 => ?_⟩
  split at h1
  · cases r1.int
    exact ⟨_, rfl, k _ S1 H1 g1 h1⟩
  · exact h1.elim
def cutD {α : Type} (xs : List α) (lo hi : Option Int) : List α := (xs.drop (HT.sIx xs.length 0 lo)).take (HT.sIx xs.length xs.length hi - HT.sIx xs.length 0 lo)
theorem RepA.cut {vs : List V} {ds : List D} (r : RepA K g S vs ds) (lo hi : Option Int) : RepA K g S (cutV vs lo hi) (cutD ds lo hi) := by
  unfold cutV cutD
  rw [r.len]
  exact (r.drop _).take _
def qSl (x : D) (lo hi : Option Int) (P : D → Prop) : Prop := match x with
  | .lst ds => P (.lst (cutD ds lo hi))
  | .tup ds => P (.tup (cutD ds lo hi))
  | .str s => s.length ≤ Line ∧ P (.str (cutS s lo hi))
  | _ => False
def qSlL (x : D) (lo hi : Option Int) (P : D → Prop) : Prop := match x with
  | .lst ds => P (.lst (cutD ds lo hi))
  | _ => False
variable {lo hi : Option Expr} {wl wh : WO} {p2 : Pos}
def wSl (q : D → Option Int → Option Int → (D → Prop) → Prop) (wa : WE) (wl wh : WO) : WE := fun δ EX P => wa δ EX fun x => wl δ EX fun l => wh δ EX fun h => q x l h P
theorem cutV_all {vs : List V} {lo hi : Option Int} (h : HT.sIx vs.length 0 lo = 0 ∧ HT.sIx vs.length vs.length hi = vs.length) : cutV vs lo hi = vs := by
  unfold cutV
  rw [h.1, h.2]
  simp
theorem cutD_all {α : Type} {vs : List α} {lo hi : Option Int} (h : HT.sIx vs.length 0 lo = 0 ∧ HT.sIx vs.length vs.length hi = vs.length) : cutD vs lo hi = vs := by
  unfold cutD
  rw [h.1, h.2]
  simp
theorem me_sl (ha : MO X b a wa) (hl : MP X b lo wl) (hh : MP X b hi wh) : ME X b (.Subscript a (.Slice lo hi none p2) pos) (wSl qSl wa wl wh) :=
  PE.imp (pe_slice (SlR.or sl_list (SlR.or sl_str sl_tupA)) ha hl hh) fun σ H Q ⟨S, δ, P, I, hw, k⟩ => by
    refine ⟨S, δ, _, I, hw, fun x v S1 H1 g1 r1 h1 => ?_⟩
    refine ⟨S1, δ, _, I.grow g1, h1, fun l S2 H2 g2 h2 => ?_⟩
    refine ⟨S2, δ, _, (I.grow g1).grow g2, h2, fun u S3 H3 g3 h3 => ?_⟩
    have gr := (g1.trans g2).trans g3
    have r3 := (r1.mono g2).mono g3
    unfold qSl at h3
    split at h3
    · obtain ⟨q, xs, rfl, hx, ra⟩ := r3.lst g3.sh
      refine .inl ⟨q, xs, rfl, sq_of hx, fun z hz => ?_⟩
      exact k _ _ _ _ (gr.trans (Grow.new g3.sh hz)) (.lst upd_same ((ra.cut l u).mono (Ex.new (none_of_ex g3.sh hz)))) h3
    · obtain ⟨q, xs, rfl, hx, sx, ra⟩ := r3.tup g3.sh
      refine .inr (.inr ⟨q, xs, rfl, hx, fun z => ?_, fun z q hq => ?_⟩)
      · have e1 : cutD _ l u = _ := cutD_all (by rw [ra.len] at z; exact z)
        rw [e1] at h3
        exact k _ _ _ _ gr (.tup sx ra) h3
      · exact k _ _ _ _ (gr.trans (Grow.new g3.sh hq)) (.tup (st_of upd_same) ((ra.cut l u).mono (Ex.new (none_of_ex g3.sh hq)))) h3
    · cases r3.str
      exact .inr (.inl ⟨_, rfl, le_line h3.1, k _ _ _ _ gr (.str _) h3.2⟩)
    · exact h3.elim
theorem mf_sl (ha : MO X b a wa) (hl : MP X b lo wl) (hh : MP X b hi wh) : MF X b (.Subscript a (.Slice lo hi none p2) pos) (wSl qSlL wa wl wh) :=
  PE.imp (pe_slice sl_list ha hl hh) fun σ H Q ⟨S, δ, P, I, hw, k⟩ => by
    refine ⟨S, δ, _, I, hw, fun x v S1 H1 g1 r1 h1 => ?_⟩
    refine ⟨S1, δ, _, I.grow g1, h1, fun l S2 H2 g2 h2 => ?_⟩
    refine ⟨S2, δ, _, (I.grow g1).grow g2, h2, fun u S3 H3 g3 h3 => ?_⟩
    have gr := (g1.trans g2).trans g3
    have r3 := (r1.mono g2).mono g3
    unfold qSlL at h3
    split at h3
    · obtain ⟨q, xs, rfl, hx, ra⟩ := r3.lst g3.sh
      refine ⟨q, xs, rfl, sq_of hx, fun z hz => ?_⟩
      exact k (.lst _) _ _ _ (gr.trans (Grow.newO g3.sh hz)) (none_of_ex gr.h hz) (none_of_ex g3.sh hz) ⟨_, upd_same, ra.cut l u⟩ h3
    · exact h3.elim
/-- x[::-1] -/
def qRev (x : D) (P : D → Prop) : Prop := match x with
  | .lst ds => P (.lst ds.reverse)
  | _ => False
theorem mf_rev {k0 : Nat} {p1 p2 p3 : Pos} (ha : MO X b a wa) : MF X b (.Subscript a (.Slice none none (some (.UnaryOp .USub (.Constant (.int 1) k0 p1) p2)) p3) pos) (wUn qRev wa) :=
  PE.imp (pe_revL ha) fun σ H Q ⟨S, δ, P, I, hw, k⟩ => by
    refine ⟨S, δ, _, I, hw, fun x v S1 H1 g1 r1 h1 => ?_⟩
    unfold qRev at h1
    split at h1
    · obtain ⟨q, xs, rfl, hx, ra⟩ := r1.lst g1.sh
      refine ⟨q, xs, rfl, sq_of hx, fun z hz => ?_⟩
      exact k (.lst _) _ _ _ (g1.trans (Grow.newO g1.sh hz)) (none_of_ex g1.h hz) (none_of_ex g1.sh hz) ⟨_, upd_same, ra.reverse⟩ h1
    · exact h1.elim

/-! ### arguments, displays -/
def wNil : WA := fun _ _ P => P []
def wCons (wa : WE) (wr : WA) : WA := fun δ EX P => wa δ EX fun x => wr δ EX fun xs => P (x :: xs)
theorem ma_nil : MA X b [] wNil := PA.imp pa_nil fun σ H Q ⟨S, δ, P, I, hw, k⟩ => k [] [] S H (Grow.refl I.sh) .nil hw
theorem ma_cons (ha : ME X b a wa) (hr : MA X b es wr) (hs : starEach (a :: es) X.env = (false, eval a X.env) :: starEach es X.env := by rfl) : MA X b (a :: es) (wCons wa wr) :=
  PA.imp (pa_cons ha hr hs) fun σ H Q ⟨S, δ, P, I, hw, k⟩ => by
    refine ⟨S, δ, _, I, hw, fun x v S1 H1 g1 r1 h1 => ?_⟩
    refine ⟨S1, δ, _, I.grow g1, h1, fun xs vs S2 H2 g2 r2 h2 => ?_⟩
    exact k _ _ S2 H2 (g1.trans g2) (.cons (r1.mono g2.s) r2) h2
def wTup (wr : WA) : WE := fun δ EX P => wr δ EX fun xs => xs.length ≤ Line ∧ P (.tup xs)
def wLst (wr : WA) : WE := fun δ EX P => wr δ EX fun xs => xs.length ≤ Line ∧ P (.lst xs)
theorem me_tup {x1} (h : MA X b es wr) : ME X b (.Tuple es x1 pos) (wTup wr) := PE.imp (pe_tup h) fun σ H Q ⟨S, δ, P, I, hw, k⟩ => by
  refine ⟨S, δ, _, I, hw, fun xs vs S1 H1 g1 r1 h1 => ⟨by rw [r1.len]; exact le_line h1.1, fun q hq => ?_⟩⟩
  exact k _ _ _ _ (g1.trans (Grow.new g1.sh hq)) (.tup (st_of upd_same) (r1.mono (Ex.new (none_of_ex g1.sh hq)))) h1.2
theorem mf_lst (h : MA X b es wr) : MF X b (.List es pos) (wLst wr) := PE.imp (pe_lst h) fun σ H Q ⟨S, δ, P, I, hw, k⟩ => by
  refine ⟨S, δ, _, I, hw, fun xs vs S1 H1 g1 r1 h1 => ⟨by rw [r1.len]; exact le_line h1.1, fun q hq => ?_⟩⟩
  exact k (.lst _) _ _ _ (g1.trans (Grow.newO g1.sh hq)) (none_of_ex g1.h hq) (none_of_ex g1.sh hq) ⟨_, upd_same, r1⟩ h1.2
theorem me_lst (h : MA X b es wr) : ME X b (.List es pos) (wLst wr) := me_ofF (mf_lst h)
/-- {} -/
theorem mf_dic0 : MF X b (.Dict [] [] pos) (wC (.dic [])) := PE.imp pe_dnewK fun σ H Q ⟨S, δ, P, I, hw, k⟩ q hq =>
  k (.dic []) _ _ _ (Grow.newO I.sh hq) hq (none_of_ex I.sh hq) ⟨[], upd_same, .nil⟩ hw

/-! ### calls of built-ins -/
def B1 (K : PySem.W.Frag) (g : G) (r : List V → Hp → VK → Prop) (q : D → (D → Prop) → Prop) : Prop :=
  ∀ S H x v (P : D → Prop) (Q : VK), Ex S H → RepT K g S H v x → q x P → (∀ d w S' H', Grow S H S' H' → Rep K g S' w d → P d → Q w H') → r [v] H Q
def B1F (K : PySem.W.Frag) (g : G) (r : List V → Hp → VK → Prop) (q : D → (D → Prop) → Prop) : Prop :=
  ∀ S H x v (P : D → Prop) (Q : VK), Ex S H → RepT K g S H v x → q x P → (∀ d p S' H', Grow S H S' H' → H p = none → S' p = none → OwnR K g S' H' p d → P d → Q (.ref p) H') → r [v] H Q
theorem B1.or {r r' : List V → Hp → VK → Prop} {q q' : D → (D → Prop) → Prop} (h : B1 K g r q) (h' : B1 K g r' q') : B1 K g (fun xs H Q => r xs H Q ∨ r' xs H Q) (fun x P => q x P ∨ q' x P) :=
  fun S H x v P Q e rv hq k => hq.elim (fun z => .inl (h S H x v P Q e rv z k)) fun z => .inr (h' S H x v P Q e rv z k)
theorem B1.imp {r : List V → Hp → VK → Prop} {q q' : D → (D → Prop) → Prop} (h : B1 K g r q) (f : ∀ x P, q' x P → q x P) : B1 K g r q' := fun S H x v P Q e rv hq k => h S H x v P Q e rv (f x P hq) k
theorem B1F.b1 {r : List V → Hp → VK → Prop} {q : D → (D → Prop) → Prop} (h : B1F K g r q) : B1 K g r q := fun S H x v P Q e rv hq k => h S H x v P Q e rv hq fun d p S' H' gr hp sp o hd => by
  obtain ⟨S2, e1, e2, e3, r⟩ := o.stab gr.sh sp
  exact k d (.ref p) S2 H' ⟨gr.s.trans e1, gr.h, e2, fun q u hq => (e3 q (ne_of_none hq hp)).trans (gr.old q u hq)⟩ r hd
theorem tB1_of {r : List V → Hp → VK → Prop} {q : D → (D → Prop) → Prop} (hr : B1 K b.g r q) {Q : VK} (h : tE K b (wUn q wa) σ H Q) : tCB r (tCons (tO K b wa) tNil) σ H Q := by
  obtain ⟨S, δ, P, I, hw, k⟩ := h
  refine ⟨S, δ, _, I, hw, fun x v S1 H1 g1 r1 h1 => ?_⟩
  exact hr S1 H1 x v P Q g1.sh r1 h1 fun d z S2 H2 g2 r2 h2 => k d z S2 H2 (g1.trans g2) r2 h2
theorem tB1F_of {r : List V → Hp → VK → Prop} {q : D → (D → Prop) → Prop} (hr : B1F K b.g r q) {Q : VK} (h : tF K b (wUn q wa) σ H Q) : tCB r (tCons (tO K b wa) tNil) σ H Q := by
  obtain ⟨S, δ, P, I, hw, k⟩ := h
  refine ⟨S, δ, _, I, hw, fun x v S1 H1 g1 r1 h1 => ?_⟩
  exact hr S1 H1 x v P Q g1.sh r1 h1 fun d z S2 H2 g2 hp sp r2 h2 => k d z S2 H2 (g1.trans g2) (none_of_ex g1.h hp) sp r2 h2
section
variable {r : List V → Hp → VK → Prop} {q : D → (D → Prop) → Prop}
theorem paO (ha : MO X b a wa) (hs : starEach [a] X.env = (false, eval a X.env) :: starEach [] X.env := by rfl) : PA X [a] (tCons (tO X.K b wa) tNil) := pa_cons ha pa_nil hs
theorem paO2 (ha : MO X b a wa) (hc : MO X b c wc) (hs : starEach [a, c] X.env = (false, eval a X.env) :: starEach [c] X.env := by rfl) (hs2 : starEach [c] X.env = (false, eval c X.env) :: starEach [] X.env := by rfl) :
    PA X [a, c] (tCons (tO X.K b wa) (tCons (tO X.K b wc) tNil)) := pa_cons ha (pa_cons hc pa_nil hs2) hs
theorem me_b1 (hc : CallR X (.builtin id) r) (hr : B1 X.K b.g r q) (hg : Gl X x) (hm : X.mg x = none) (hv : bootBuiltins x = some (.builtin id)) (ha : MO X b a wa) (hn : x ≠ "__name__" := by decide) (hdb : (x == ("__debug__" : Str)) = false := by decide)
    (hs : starEach [a] X.env = (false, eval a X.env) :: starEach [] X.env := by rfl) (hpl : (backTo pos (starEach [] X.env)).any (·.1) = false := by rfl) : ME X b (.Call (.Name x p) [a] [] pos) (wUn q wa) :=
  PE.imp (pe_callB hc hg hm hv (paO ha hs) hn hdb hs hpl) fun _ _ _ h => tB1_of hr h
theorem mf_b1 (hc : CallR X (.builtin id) r) (hr : B1F X.K b.g r q) (hg : Gl X x) (hm : X.mg x = none) (hv : bootBuiltins x = some (.builtin id)) (ha : MO X b a wa) (hn : x ≠ "__name__" := by decide) (hdb : (x == ("__debug__" : Str)) = false := by decide)
    (hs : starEach [a] X.env = (false, eval a X.env) :: starEach [] X.env := by rfl) (hpl : (backTo pos (starEach [] X.env)).any (·.1) = false := by rfl) : MF X b (.Call (.Name x p) [a] [] pos) (wUn q wa) :=
  PE.imp (pe_callB hc hg hm hv (paO ha hs) hn hdb hs hpl) fun _ _ _ h => tB1F_of hr h
theorem me_t1 (hc : CallR X (.type T) r) (hr : B1 X.K b.g r q) (hg : Gl X x) (hm : X.mg x = none) (hv : bootBuiltins x = some (.type T)) (ha : MO X b a wa) (hn : x ≠ "__name__" := by decide) (hdb : (x == ("__debug__" : Str)) = false := by decide)
    (hs : starEach [a] X.env = (false, eval a X.env) :: starEach [] X.env := by rfl) (hpl : (backTo pos (starEach [] X.env)).any (·.1) = false := by rfl) : ME X b (.Call (.Name x p) [a] [] pos) (wUn q wa) :=
  PE.imp (pe_callTy hc hg hm hv (paO ha hs) hn hdb hs hpl) fun _ _ _ h => tB1_of hr h
theorem mf_t1 (hc : CallR X (.type T) r) (hr : B1F X.K b.g r q) (hg : Gl X x) (hm : X.mg x = none) (hv : bootBuiltins x = some (.type T)) (ha : MO X b a wa) (hn : x ≠ "__name__" := by decide) (hdb : (x == ("__debug__" : Str)) = false := by decide)
    (hs : starEach [a] X.env = (false, eval a X.env) :: starEach [] X.env := by rfl) (hpl : (backTo pos (starEach [] X.env)).any (·.1) = false := by rfl) : MF X b (.Call (.Name x p) [a] [] pos) (wUn q wa) :=
  PE.imp (pe_callTy hc hg hm hv (paO ha hs) hn hdb hs hpl) fun _ _ _ h => tB1F_of hr h
end
end
end Mi
namespace Mi
open PySem L2 Evl PySem.Spec PyProof.Rows

/-! ### statements -/
structure Co where
  nx : Env → Prop
  rt : D → Prop
  bk : Env → Prop := fun _ => False
  ct : Env → Prop := fun _ => False
abbrev WS := Env → (Exc → Prop) → Co → Prop
/-- a value handed back -/
structure RetR (K : PySem.W.Frag) (b : Bs) (S' H' : Hp) (v : V) (d : D) : Prop where
  s : Ex b.S0 S'
  h : Ex b.H0 H'
  sh : Ex S' H'
  old : ∀ p o, b.H0 p = some o → S' p = b.S0 p
  r : if b.fr = true then ∃ p, v = .ref p ∧ b.H0 p = none ∧ S' p = none ∧ OwnR K b.g S' H' p d else Rep K b.g S' v d
def Nx (K : PySem.W.Frag) (b : Bs) (S : Hp) (P : Env → Prop) (Q : L2.St → Hp → Prop) : Prop := ∀ δ' σ' S' H', Ex S S' → StR K b δ' σ' S' H' → P δ' → Q σ' H'
theorem Nx.mono {K : PySem.W.Frag} {b : Bs} {S S1 : Hp} {P : Env → Prop} {Q : L2.St → Hp → Prop} (h : Nx K b S P Q) (e : Ex S S1) : Nx K b S1 P Q := fun δ' σ' S' H' e' => h δ' σ' S' H' (e.trans e')
/-- the four ways out -/
structure Way (K : PySem.W.Frag) (b : Bs) (S : Hp) (C : Co) (Dn : Ends) : Prop where
  nx : Nx K b S C.nx Dn.nx
  rt : ∀ d v S' H', RetR K b S' H' v d → C.rt d → Dn.rt v H'
  bk : Nx K b S C.bk Dn.bk
  ct : Nx K b S C.ct Dn.ct
theorem Way.mono {K : PySem.W.Frag} {b : Bs} {S S1 : Hp} {C : Co} {Dn : Ends} (h : Way K b S C Dn) (e : Ex S S1) : Way K b S1 C Dn := ⟨h.nx.mono e, h.rt, h.bk.mono e, h.ct.mono e⟩
def tS (K : PySem.W.Frag) (b : Bs) (w : WS) : TS := fun Dn σ H => ∃ S δ C, StR K b δ σ S H ∧ w δ b.EX C ∧ Way K b S C Dn
def MS (X : Cx) (b : Bs) (s : Stmt) (w : WS) : Prop := PS X s (tS X.K b w)
def MSs (X : Cx) (b : Bs) (s : List Stmt) (w : WS) : Prop := PSs X s (tS X.K b w)

section
variable {X : Cx} {b : Bs} {K : PySem.W.Frag} {g : G} {S S' H H' : Hp} {δ : Env} {σ : L2.St} {e a c e' : Expr} {es rest : List Expr} {w wa wb wc : WE} {wr : WA} {pos p : Pos} {x : Str} {id T : String} {s s1 : Stmt} {ss body orelse : List Stmt} {u u1 u2 : WS} {ta : WT}
theorem PS.imp {t t' : TS} (h : PS X s t) (f : ∀ Dn σ H, t' Dn σ H → t Dn σ H) : PS X s t' := ⟨fun pins st σ H Dn I q => h.run pins st σ H Dn I (f Dn σ H q)⟩
theorem PSs.imp {t t' : TS} (h : PSs X ss t) (f : ∀ Dn σ H, t' Dn σ H → t Dn σ H) : PSs X ss t' := ⟨fun pins st σ H Dn I q => h.run pins st σ H Dn I (f Dn σ H q)⟩
theorem StR.ret (I : StR K b δ σ S H) (hf : b.fr = false) {v : V} {d : D} (r : Rep K b.g S v d) : RetR K b S H v d := ⟨I.s0, I.h0, I.sh, I.old, by rw [hf, if_neg Bool.false_ne_true]; exact r⟩

def wNext : WS := fun δ _ C => C.nx δ
def wSeq (u1 u2 : WS) : WS := fun δ EX C => u1 δ EX { C with nx := fun δ' => u2 δ' EX C }
/-- a word M between two statements -/
def wCut (u1 u2 : WS) : WS := fun δ EX C => ∃ M : Env → Prop, u1 δ EX { C with nx := M } ∧ ∀ δ', M δ' → u2 δ' EX C
theorem ms_nil : MSs X b [] wNext := PSs.imp pss_nil fun Dn σ H ⟨S, δ, C, I, hw, k⟩ => k.nx δ σ S H (Ex.refl _) I hw
theorem ms_cons (h1 : MS X b s u1) (h2 : MSs X b ss u2) : MSs X b (s :: ss) (wSeq u1 u2) := PSs.imp (pss_cons h1 h2) fun Dn σ H ⟨S, δ, C, I, hw, k⟩ =>
  ⟨S, δ, _, I, hw, fun δ' σ' S' H' e I' h' => ⟨S', δ', C, I', h', k.mono e⟩, k.rt, k.bk, k.ct⟩
theorem ms_cut (h1 : MS X b s u1) (h2 : MSs X b ss u2) : MSs X b (s :: ss) (wCut u1 u2) := PSs.imp (pss_cons h1 h2) fun Dn σ H ⟨S, δ, C, I, ⟨M, hw, hM⟩, k⟩ =>
  ⟨S, δ, _, I, hw, fun δ' σ' S' H' e I' h' => ⟨S', δ', C, I', hM δ' h', k.mono e⟩, k.rt, k.bk, k.ct⟩
theorem ms_one (h1 : MS X b s u1) : MSs X b [s] u1 := pss_one h1
/-- an owned name becomes stable: a ghost step ahead of a block -/
def wFreeze (i : Nat) (u : WS) : WS := fun δ EX C => match δ[i]? with
  | some (some ⟨d, true⟩) => u (δ.set i (st d)) EX C
  | some (some ⟨_, false⟩) => u δ EX C
  | _ => False
theorem ms_freeze (i : Nat) (h : MSs X b ss u) : MSs X b ss (wFreeze i u) := PSs.imp h fun Dn σ H ⟨S, δ, C, I, hw, k⟩ => by
  unfold wFreeze at hw
  split at hw
  · rename_i d hd
    obtain ⟨S2, e, I2⟩ := I.freeze hd
    exact ⟨S2, _, C, I2, hw, k.mono e⟩
  · exact ⟨S, δ, C, I, hw, k⟩
  · exact hw.elim
/-- a name is forgotten -/
def wForget (i : Nat) (u : WS) : WS := fun δ EX C => u (δ.set i none) EX C
theorem ms_forget (i : Nat) (h : MSs X b ss u) : MSs X b ss (wForget i u) := PSs.imp h fun Dn σ H ⟨S, δ, C, I, hw, k⟩ => ⟨S, _, C, I.forget i, hw, k⟩
theorem ms_pass : MS X b (.Pass pos) wNext := PS.imp ps_pass fun Dn σ H ⟨S, δ, C, I, hw, k⟩ => k.nx δ σ S H (Ex.refl _) I hw
def wBreak : WS := fun δ _ C => C.bk δ
def wCont : WS := fun δ _ C => C.ct δ
theorem ms_break : MS X b (.Break pos) wBreak := PS.imp ps_break fun Dn σ H ⟨S, δ, C, I, hw, k⟩ => k.bk δ σ S H (Ex.refl _) I hw
theorem ms_continue : MS X b (.Continue pos) wCont := PS.imp ps_continue fun Dn σ H ⟨S, δ, C, I, hw, k⟩ => k.ct δ σ S H (Ex.refl _) I hw
def wRet (wa : WE) : WS := fun δ EX C => wa δ EX C.rt
theorem ms_ret (hf : b.fr = false) (ha : ME X b a wa) : MS X b (.Return (some a) pos) (wRet wa) := PS.imp (ps_ret ha) fun Dn σ H ⟨S, δ, C, I, hw, k⟩ =>
  ⟨S, δ, _, I, hw, fun d v S' H' gr r hd => k.rt d v S' H' ((I.grow gr).ret hf r) hd⟩
theorem ms_retF (hf : b.fr = true) (ha : MF X b a wa) : MS X b (.Return (some a) pos) (wRet wa) := PS.imp (ps_ret ha) fun Dn σ H ⟨S, δ, C, I, hw, k⟩ =>
  ⟨S, δ, _, I, hw, fun d q S' H' gr hp sp r hd => by
    have J := I.grow gr
    exact k.rt d (.ref q) S' H' ⟨J.s0, J.h0, J.sh, J.old, by rw [hf, if_pos rfl]; exact ⟨q, rfl, fresh_back I.h0 hp, sp, r⟩⟩ hd⟩
/-- an owned name is handed back, fresh -/
def wRetO (i : Nat) : WS := fun δ _ C => match δ[i]? with
  | some (some ⟨d, true⟩) => C.rt d
  | _ => False
theorem ms_retO (hf : b.fr = true) (i : Nat) {p' : Pos} (hN : X.N[i]? = some x := by rfl) (hv : Vis X.env.scope x := by first | exact Or.inl rfl | exact Or.inr (Or.inl rfl) | exact Or.inr (Or.inr rfl)) (hd : (x == ("__debug__" : Str)) = false := by decide)
    (hcd : (x == ("__classdict__" : Str)) = false := by decide) : MS X b (.Return (some (.Name x p')) pos) (wRetO i) := PS.imp (ps_ret (pe_var hN hv hd hcd)) fun Dn σ H ⟨S, δ, C, I, hw, k⟩ => by
  unfold wRetO at hw
  split at hw
  · rename_i d he
    obtain ⟨q, e1, h0, s0, r⟩ := I.getO he
    exact ⟨_, e1, k.rt d _ S H ⟨I.s0, I.h0, I.sh, I.old, by rw [hf, if_pos rfl]; exact ⟨q, rfl, h0, s0, r⟩⟩ hw⟩
  · exact hw.elim
def wRetN : WS := fun _ _ C => C.rt .non
theorem ms_retN (hf : b.fr = false) : MS X b (.Return none pos) wRetN := PS.imp ps_retN fun Dn σ H ⟨S, δ, C, I, hw, k⟩ => k.rt .non .non S H (I.ret hf .non) hw
def wDrop (wa : WE) : WS := fun δ EX C => wa δ EX fun _ => C.nx δ
theorem ms_expr (ha : ME X b a wa) (hs : swapsWith a none pos.line X.env = pure false := by rfl) : MS X b (.Expr a pos) (wDrop wa) := PS.imp (ps_expr ha hs) fun Dn σ H ⟨S, δ, C, I, hw, k⟩ =>
  ⟨S, δ, _, I, hw, fun d v S' H' gr r hd => k.nx δ σ S' H' gr.s (I.grow gr) hd⟩
def wIf (t : WT) (u1 u2 : WS) : WS := fun δ EX C => t δ EX fun c => if c = true then u1 δ EX C else u2 δ EX C
theorem ms_if (ht : MT X b e ta) (h1 : MSs X b body u1) (h2 : MSs X b orelse u2) : MS X b (.If e body orelse pos) (wIf ta u1 u2) := PS.imp (ps_if ht h1 h2) fun Dn σ H ⟨S, δ, C, I, hw, k⟩ => by
  refine ⟨S, δ, _, I, hw, fun x S1 H1 g1 hx => ?_⟩
  cases x with
  | true =>
    rw [if_pos rfl] at hx ⊢
    exact ⟨S1, δ, C, I.grow g1, hx, k.mono g1.s⟩
  | false =>
    rw [if_neg Bool.false_ne_true] at hx ⊢
    exact ⟨S1, δ, C, I.grow g1, hx, k.mono g1.s⟩
def wNever : WS := fun _ _ _ => False
theorem ms_never : MS X b s wNever := PS.imp ps_never fun Dn σ H ⟨S, δ, C, I, hw, k⟩ => hw.elim

/-! ### targets -/
abbrev WG := D → Env → (Env → Prop) → Prop
abbrev WGs := List D → Env → (Env → Prop) → Prop
theorem wipe_get : ∀ (vs : List Nat) (σ : L2.St) (j : Nat), (L2.wipe σ vs)[j]? = if j ∈ vs then (if j < σ.length then some none else none) else σ[j]?
  | [], σ, j => by simp [L2.wipe]
  | v :: vs, σ, j => by
    show ((L2.wipe σ vs).set v none)[j]? = _
    rw [List.getElem?_set, wipe_get vs σ j, wipe_length]
    by_cases h : v = j
    · subst h; simp
    · rw [if_neg h]
      have q : ¬ j = v := fun e => h e.symm
      simp [q]
theorem wipe_set {vs : List Nat} {σ : L2.St} {i : Nat} {o : Option V} (h : i ∈ vs) : L2.wipe (σ.set i o) vs = L2.wipe σ vs := by
  apply List.ext_getElem?
  intro j
  rw [wipe_get, wipe_get, List.length_set]
  by_cases hj : j ∈ vs
  · rw [if_pos hj, if_pos hj]
  · rw [if_neg hj, if_neg hj, List.getElem?_set_ne (fun e : i = j => hj (by rw [← e]; exact h))]
def tGt (K : PySem.W.Frag) (b : Bs) (vs : List Nat) (wg : WG) : TG := fun v σ H Q => ∃ S δ d P, StR K b δ σ S H ∧ Rep K b.g S v d ∧ wg d δ P ∧ ∀ δ' σ', StR K b δ' σ' S H → L2.wipe σ' vs = L2.wipe σ vs → P δ' → Q σ' H
def tGts (K : PySem.W.Frag) (b : Bs) (vs : List Nat) (wg : WGs) : TGs := fun us σ H Q => ∃ S δ ds P, StR K b δ σ S H ∧ RepA K b.g S us ds ∧ wg ds δ P ∧ ∀ δ' σ', StR K b δ' σ' S H → L2.wipe σ' vs = L2.wipe σ vs → P δ' → Q σ' H
def MG (X : Cx) (b : Bs) (vs : List Nat) (e : Expr) (wg : WG) : Prop := PG X e (tGt X.K b vs wg)
def MGs (X : Cx) (b : Bs) (vs : List Nat) (es : List Expr) (wg : WGs) : Prop := PGs X es (tGts X.K b vs wg)
variable {wg : WG} {wgs : WGs} {vs : List Nat}
theorem PG.imp {t t' : TG} (h : PG X e t) (f : ∀ v σ H Q, t' v σ H Q → t v σ H Q) : PG X e t' := ⟨fun pins s σ H v u Q I r q => h.run pins s σ H v u Q I r (f v σ H Q q)⟩
theorem PGs.imp {t t' : TGs} (h : PGs X es t) (f : ∀ v σ H Q, t' v σ H Q → t v σ H Q) : PGs X es t' := ⟨fun pins s σ H v u Q I r q => h.run pins s σ H v u Q I r (f v σ H Q q)⟩
def wgName (i : Nat) : WG := fun d δ P => P (δ.set i (st d))
theorem mg_name (i : Nat) (hN : X.N.Nodup) (hm : i ∈ vs := by decide) (hi : X.N[i]? = some x := by rfl) (hx : Loc X.env.scope x := by first | exact Or.inl rfl | exact Or.inr rfl) (hf : X.fn x = true ∨ X.env.scope.names.lookup x = some .local := by first | exact .inl rfl | exact .inr rfl | assumption) :
    MG X b vs (.Name x pos) (wgName i) := PG.imp (pg_name hN hi hx hf) fun v σ H Q ⟨S, δ, d, P, I, r, hw, k⟩ => k _ _ (I.set r i) (wipe_set hm) hw
def wgNil : WGs := fun ds δ P => match ds with
  | [] => P δ
  | _ => False
def wgCons (wg : WG) (wr : WGs) : WGs := fun ds δ P => match ds with
  | d :: r => wg d δ fun δ' => wr r δ' P
  | [] => False
theorem mgs_nil : MGs X b vs [] wgNil := PGs.imp pgs_nil fun v σ H Q ⟨S, δ, ds, P, I, r, hw, k⟩ => by
  unfold wgNil at hw
  split at hw
  · cases r
    exact ⟨rfl, k _ _ I rfl hw⟩
  · exact hw.elim
theorem mgs_cons (h1 : MG X b vs e wg) (h2 : MGs X b vs es wgs) (hs : (assignEach (e :: es) X.env).map (·.2) = assign e X.env :: (assignEach es X.env).map (·.2) := by rfl) : MGs X b vs (e :: es) (wgCons wg wgs) :=
  PGs.imp (pgs_cons h1 h2 hs) fun v σ H Q ⟨S, δ, ds, P, I, r, hw, k⟩ => by
    unfold wgCons at hw
    split at hw
    · cases r with
      | cons h r => exact ⟨_, _, rfl, S, δ, _, _, I, h, hw, fun δ' σ' I' e' h' => ⟨S, δ', _, P, I', r, h', fun δ2 σ2 I2 e2 => k δ2 σ2 I2 (e2.trans e')⟩⟩
    · exact hw.elim
def wgTup (wr : WGs) : WG := fun d δ P => match d with
  | .tup ds => wr ds δ P
  | _ => False
theorem mg_tup {k0 : Nat} (n : Nat) (hc : X.calm = true) (h : MGs X b vs es wgs) (hn : (assignEach es X.env).length = n := by rfl) (hst : (assignEach es X.env).findIdx? (·.1) = none := by rfl) (hl : ∀ ds δ P, wgs ds δ P → ds.length = n) : MG X b vs (.Tuple es k0 pos) (wgTup wgs) :=
  PG.imp (pg_tup hc h hn hst) fun v σ H Q ⟨S, δ, d, P, I, r, hw, k⟩ => by
    unfold wgTup at hw
    split at hw
    · cases r with
      | tup h r => exact ⟨_, _, rfl, ex_t I.sh h, by rw [r.len]; exact hl _ _ _ hw, S, δ, _, P, I, r, hw, k⟩
    · exact hw.elim
theorem wgNil_len {ds : List D} {P : Env → Prop} (h : wgNil ds δ P) : ds.length = 0 := by
  unfold wgNil at h
  split at h
  · rfl
  · exact h.elim
theorem wgCons_len {n : Nat} {ds : List D} {P : Env → Prop} (hr : ∀ ds δ P, wgs ds δ P → ds.length = n) (hg : ∀ d δ P, wg d δ P → ∃ δ', P δ') (h : wgCons wg wgs ds δ P) : ds.length = n + 1 := by
  unfold wgCons at h
  split at h
  · obtain ⟨δ', h'⟩ := hg _ _ _ h
    rw [List.length_cons, hr _ _ _ h']
  · exact h.elim
theorem wgName_ex {i : Nat} : ∀ d δ (P : Env → Prop), wgName i d δ P → ∃ δ', P δ' := fun _ _ _ h => ⟨_, h⟩
theorem wgTup_ex {wr : WGs} (h : ∀ ds δ (P : Env → Prop), wr ds δ P → ∃ δ', P δ') : ∀ d δ (P : Env → Prop), wgTup wr d δ P → ∃ δ', P δ' := fun d δ P q => by
  unfold wgTup at q
  split at q
  · exact h _ _ _ q
  · exact q.elim
theorem wgNil_ex : ∀ ds δ (P : Env → Prop), wgNil ds δ P → ∃ δ', P δ' := fun ds δ P q => by
  unfold wgNil at q
  split at q
  · exact ⟨_, q⟩
  · exact q.elim
theorem wgCons_ex (hg : ∀ d δ (P : Env → Prop), wg d δ P → ∃ δ', P δ') (hr : ∀ ds δ (P : Env → Prop), wgs ds δ P → ∃ δ', P δ') : ∀ ds δ (P : Env → Prop), wgCons wg wgs ds δ P → ∃ δ', P δ' := fun ds δ P q => by
  unfold wgCons at q
  split at q
  · obtain ⟨δ', h⟩ := hg _ _ _ q
    exact hr _ _ _ h
  · exact q.elim
/-- target = value, the value stable -/
def wAsg (wa : WE) (wg : WG) : WS := fun δ EX C => wa δ EX fun d => wg d δ C.nx
theorem ms_asg {tg : Expr} (ha : ME X b a wa) (hg : MG X b vs tg wg) (hs : swapsWithSole [tg] a pos.line X.env = pure false := by rfl) (hw : swappedStores [tg] a X.env = pure none := by rfl)
    (h1 : (assignEach [tg] X.env).map (·.2) = [assign tg X.env] := by rfl) : MS X b (.Assign [tg] a pos) (wAsg wa wg) := PS.imp (ps_asg ha hg hs hw h1) fun Dn σ H ⟨S, δ, C, I, hw, k⟩ => by
  refine ⟨S, δ, _, I, hw, fun d v S' H' gr r hd => ?_⟩
  exact ⟨S', δ, d, _, I.grow gr, r, hd, fun δ' σ' I' _ h' => k.nx δ' σ' S' H' gr.s I' h'⟩
theorem ms_set (i : Nat) {p' : Pos} (hN : X.N.Nodup) (ha : ME X b a wa) (hi : X.N[i]? = some x := by rfl) (hx : Loc X.env.scope x := by first | exact Or.inl rfl | exact Or.inr rfl) (hs : swapsWith a (some (.Name x p')) pos.line X.env = pure false := by rfl)
    (hf : X.fn x = true ∨ X.env.scope.names.lookup x = some .local := by first | exact .inl rfl | exact .inr rfl | assumption) : MS X b (.Assign [.Name x p'] a pos) (wAsg wa (wgName i)) := PS.imp (L2.ps_set hN hi hx ha hs hf) fun Dn σ H ⟨S, δ, C, I, hw, k⟩ => by
  refine ⟨S, δ, _, I, hw, fun d v S' H' gr r hd => ?_⟩
  exact k.nx _ _ S' H' gr.s ((I.grow gr).set r i) hd
/-- name = a fresh list (dict), owned from there on -/
def wSetO (i : Nat) (wa : WE) : WS := fun δ EX C => wa δ EX fun d => C.nx (δ.set i (ow d))
theorem ms_setO (i : Nat) {p' : Pos} (hN : X.N.Nodup) (ha : MF X b a wa) (hi : X.N[i]? = some x := by rfl) (hx : Loc X.env.scope x := by first | exact Or.inl rfl | exact Or.inr rfl) (hs : swapsWith a (some (.Name x p')) pos.line X.env = pure false := by rfl)
    (hf : X.fn x = true ∨ X.env.scope.names.lookup x = some .local := by first | exact .inl rfl | exact .inr rfl | assumption) : MS X b (.Assign [.Name x p'] a pos) (wSetO i wa) := PS.imp (L2.ps_set hN hi hx ha hs hf) fun Dn σ H ⟨S, δ, C, I, hw, k⟩ => by
  refine ⟨S, δ, _, I, hw, fun d q S' H' gr hp sp r hd => ?_⟩
  exact k.nx _ _ S' H' gr.s (I.setO gr hp sp r i) hd
/-- a, b = e1, e2 -/
def wPar (i j : Nat) (wa wb : WE) : WS := fun δ EX C => wa δ EX fun x => wb δ EX fun y => C.nx ((δ.set i (st x)).set j (st y))
theorem ms_par (i j : Nat) {y : Str} {px py pt : Pos} {kt k2 pt2} (hc : X.calm = true) (hN : X.N.Nodup) (ha : ME X b a wa) (hb : ME X b c wb) (hi : X.N[i]? = some x := by rfl) (hj : X.N[j]? = some y := by rfl) (hij : i ≠ j := by decide)
    (hx : X.env.scope.names.lookup x = some .local := by rfl) (hy : X.env.scope.names.lookup y = some .local := by rfl)
    (hw : swappedStores [.Tuple [.Name x px, .Name y py] kt pt] (.Tuple [a, c] k2 pt2) X.env = pure (some [x, y]) := by rfl)
    (hs : swapsWithSole [.Tuple [.Name x px, .Name y py] kt pt] (.Tuple [a, c] k2 pt2) pos.line X.env = pure false := by rfl)
    (hs1 : starEach [a, c] X.env = (false, eval a X.env) :: starEach [c] X.env := by rfl) (hs2 : starEach [c] X.env = (false, eval c X.env) :: starEach [] X.env := by rfl) :
    MS X b (.Assign [.Tuple [.Name x px, .Name y py] kt pt] (.Tuple [a, c] k2 pt2) pos) (wPar i j wa wb) := PS.imp (ps_par hc hN hi hj hij hx hy (pa_cons ha (pa_cons hb pa_nil hs2) hs1) hw hs) fun Dn σ H ⟨S, δ, C, I, hw, k⟩ => by
  refine ⟨S, δ, _, I, hw, fun d v S1 H1 g1 r1 h1 => ?_⟩
  refine ⟨S1, δ, _, I.grow g1, h1, fun d2 v2 S2 H2 g2 r2 h2 => ?_⟩
  exact ⟨_, _, rfl, k.nx _ _ S2 H2 (g1.s.trans g2.s) ((((I.grow g1).grow g2).set (r1.mono g2.s) i).set r2 j) h2⟩
/-- name op= e, of ints, texts -/
def wAug (i : Nat) (q : D → D → (D → Prop) → Prop) (wa : WE) : WS := fun δ EX C => match δ[i]? with
  | some (some ⟨d, false⟩) => wa δ EX fun y => q d y fun z => C.nx (δ.set i (st z))
  | _ => False
theorem ms_aug (i : Nat) {op : Operator} {ti : R2} {q : D → D → (D → Prop) → Prop} {p' : Pos} (hN : X.N.Nodup) (ha : MO X b a wa) (ho : OpR X (inplaceOp op) ti) (hr : OpD X.K b.g ti q) (hi : X.N[i]? = some x := by rfl) (hx : Loc X.env.scope x := by first | exact Or.inl rfl | exact Or.inr rfl)
    (hf : X.fn x = true ∨ X.env.scope.names.lookup x = some .local := by first | exact .inl rfl | exact .inr rfl | assumption) : MS X b (.AugAssign (.Name x p') op a pos) (wAug i q wa) :=
  PS.imp (ps_aug hN hi hx ha (show PIp X op ti from ho) hf) fun Dn σ H ⟨S, δ, C, I, hw, k⟩ => by
    unfold wAug at hw
    split at hw
    · rename_i d he
      obtain ⟨v, e1, r⟩ := I.get he
      refine ⟨v, e1, S, δ, _, I, hw, fun y u S1 H1 g1 r1 h1 => ?_⟩
      exact hr S1 H1 d y v u _ _ g1.sh (.inl (r.mono g1.s)) r1 h1 fun z t S2 H2 g2 r2 h2 => k.nx _ _ S2 H2 (g1.s.trans g2.s) (((I.grow g1).grow g2).set r2 i) h2
    · exact hw.elim
def qAug : D → D → (D → Prop) → Prop := fun x y P => match x, y with
  | .int i, .int j => P (.int (i + j))
  | .str i, .str j => i.length + j.length ≤ Line ∧ P (.str (i ++ j))
  | _, _ => False
theorem qAug_of (x y : D) (P : D → Prop) (h : qAug x y P) : qI (fun i j => i + j) x y P ∨ qCatS x y P := by
  unfold qAug at h
  split at h
  · exact .inl h
  · exact .inr h
  · exact h.elim
theorem ms_augAdd (i : Nat) {p' : Pos} (hN : X.N.Nodup) (ha : MO X b a wa) (hi : X.N[i]? = some x := by rfl) (hx : Loc X.env.scope x := by first | exact Or.inl rfl | exact Or.inr rfl)
    (hf : X.fn x = true ∨ X.env.scope.names.lookup x = some .local := by first | exact .inl rfl | exact .inr rfl | assumption) : MS X b (.AugAssign (.Name x p') .Add a pos) (wAug i qAug wa) :=
  ms_aug i hN ha (OpR.or iop_add iop_add_str) ((OpD.or od_I od_catS).imp qAug_of) hi hx hf
/-- found.append(e) -/
def wApp (i : Nat) (wa : WE) : WS := fun δ EX C => match δ[i]? with
  | some (some ⟨.lst ds, true⟩) => wa δ EX fun d => ds.length < Line ∧ C.nx (δ.set i (ow (.lst (ds ++ [d]))))
  | _ => False
theorem lt_line {n : Nat} (h : n < Line) : n < sizeLine := by rw [line_eq]; exact h
theorem ms_app (i : Nat) {p' apos cpos : Pos} (ha : ME X b a wa) (hN : X.N[i]? = some x := by rfl) (hv : Vis X.env.scope x := by first | exact Or.inl rfl | exact Or.inr (Or.inl rfl) | exact Or.inr (Or.inr rfl)) (hd : (x == ("__debug__" : Str)) = false := by decide)
    (hcd : (x == ("__classdict__" : Str)) = false := by decide)
    (hbase : attributeBase (.Name x p') "append" X.env (eval (.Name x p') X.env) = eval (.Name x p') X.env := by rfl)
    (hfew : ((backTo cpos (starEach [a] X.env)).all (fun x => !x.1) && (backToKw cpos (keywordEach [] X.env)).all (fun x => x.1.isSome)
      && decide (([a] : List Expr).length + ([] : List Keyword).length + (if ([] : List Keyword).isEmpty then 0 else 1) < 30)) = true := by rfl)
    (hline : (apos.endLine == cpos.line) = true := by rfl) (hs : starEach [a] X.env = (false, eval a X.env) :: starEach [] X.env := by rfl) (hplain : (backTo cpos (starEach [] X.env)).any (·.1) = false := by rfl)
    (hsw : swapsWith (.Call (.Attribute (.Name x p') "append" apos) [a] [] cpos) none pos.line X.env = pure false := by rfl) :
    MS X b (.Expr (.Call (.Attribute (.Name x p') "append" apos) [a] [] cpos) pos) (wApp i wa) :=
  PS.imp (ps_expr (pe_bm PySem.F.plainAttrs_list PySem.F.slot_list_append PySem.F.type_list_append mt_append (pe_var hN hv hd hcd) (pa_cons ha pa_nil hs) hbase hfew hline hs hplain) hsw) fun Dn σ H ⟨S, δ, C, I, hw, k⟩ => by
    unfold wApp at hw
    split at hw
    · rename_i ds he
      obtain ⟨q, e1, h0, s0, xs, hx, ra⟩ := I.getO he
      refine ⟨_, e1, .inl ⟨rfl, _, SqL.of hx⟩, S, δ, _, I, hw, fun d v S1 H1 g1 r1 h1 => ?_⟩
      have hx1 := g1.h _ _ hx
      refine ⟨q, xs, v, rfl, rfl, hx1, by rw [ra.len]; exact lt_line h1.1, ?_⟩
      refine k.nx _ σ S1 _ g1.s ((I.grow g1).mut he e1 (d' := .lst (ds ++ [d])) fun H2 h2 => ⟨_, h2, (ra.mono g1.s).append (.cons r1 .nil)⟩) h1.2
    · exact hw.elim
/-- found[e1] = e2 -/
def wSetIx (i : Nat) (wi wv : WE) : WS := fun δ EX C => match δ[i]? with
  | some (some ⟨.lst ds, true⟩) => wv δ EX fun d => wi δ EX fun y => match y with
    | .int k => (match ixN ds.length k with | some j => C.nx (δ.set i (ow (.lst (ds.set j d)))) | none => False)
    | _ => False
  | some (some ⟨.dic ds, true⟩) => wv δ EX fun d => wi δ EX fun y => match keyD y with
    | some k => ds.length < Line ∧ C.nx (δ.set i (ow (.dic (putD ds k d))))
    | none => False
  | _ => False
theorem set_any (hu : X.A.units + 1 < cLine) : PSet X (fun o i v H Q => rSetL o i v H Q ∨ rSetD o i v H Q) := fun pins s σ H o i v ov iv u Q I ro ri rv h => h.elim (set_list pins s σ H o i v ov iv u Q I ro ri rv) (set_dict hu pins s σ H o i v ov iv u Q I ro ri rv)
theorem ms_setIx (i : Nat) {p' : Pos} {wi wv : WE} (hu : X.A.units + 64 < cLine) (hv : ME X b a wv) (hi : MO X b c wi) (hN : X.N[i]? = some x := by rfl) (hvi : Vis X.env.scope x := by first | exact Or.inl rfl | exact Or.inr (Or.inl rfl) | exact Or.inr (Or.inr rfl)) (hd : (x == ("__debug__" : Str)) = false := by decide)
    (hcd : (x == ("__classdict__" : Str)) = false := by decide)
    (hsub : ∀ v, assign (.Subscript (.Name x p') c p) X.env v = (do
      let ov ← holding [v] (eval (.Name x p') X.env)
      let iv ← holding [v, ov] (eval c X.env)
      standAt p
      holding [v, ov, iv] (setItem ov iv v)
      release [v, ov, iv] []) := by intro _; rfl)
    (hs : swapsWithSole [.Subscript (.Name x p') c p] a pos.line X.env = pure false := by rfl) (hw : swappedStores [.Subscript (.Name x p') c p] a X.env = pure none := by rfl)
    (h1 : (assignEach [.Subscript (.Name x p') c p] X.env).map (·.2) = [assign (.Subscript (.Name x p') c p) X.env] := by rfl) : MS X b (.Assign [.Subscript (.Name x p') c p] a pos) (wSetIx i wi wv) :=
  PS.imp (ps_asg hv (pg_sub (pe_var hN hvi hd hcd) hi (set_any (by omega)) hsub) hs hw h1) fun Dn σ H ⟨S, δ, C, I, hw, k⟩ => by
    unfold wSetIx at hw
    split at hw
    · rename_i ds he
      obtain ⟨q, e1, h0, s0, xs, hx, ra⟩ := I.getO he
      refine ⟨S, δ, _, I, hw, fun d v S1 H1 g1 r1 h1 => ?_⟩
      refine ⟨_, e1, S1, δ, _, I.grow g1, h1, fun y u S2 H2 g2 r2 h2 => ?_⟩
      split at h2
      · cases r2.int
        split at h2
        · rename_i j hj
          have hx2 := g2.h _ _ (g1.h _ _ hx)
          refine .inl ⟨q, xs, _, j, rfl, rfl, hx2, by rw [ra.len]; exact hj, ?_⟩
          exact k.nx _ σ S2 _ (g1.s.trans g2.s) (((I.grow g1).grow g2).mut he e1 (d' := .lst (ds.set j d)) fun H3 h3 => ⟨_, h3, ((ra.mono g1.s).mono g2.s).set (r1.mono g2.s) j⟩) h2
        · exact h2.elim
      · exact h2.elim
    · rename_i ds he
      obtain ⟨q, e1, h0, s0, xs, hx, ra⟩ := I.getO he
      refine ⟨S, δ, _, I, hw, fun d v S1 H1 g1 r1 h1 => ?_⟩
      refine ⟨_, e1, S1, δ, _, I.grow g1, h1, fun y u S2 H2 g2 r2 h2 => ?_⟩
      split at h2
      · rename_i kk hk
        have hx2 := g2.h _ _ (g1.h _ _ hx)
        refine .inr ⟨q, _, rfl, ?_, k.nx _ σ S2 _ (g1.s.trans g2.s) (((I.grow g1).grow g2).mut he e1 (d' := .dic (putD ds kk d)) fun H3 h3 => ⟨_, h3, RepK.put (r1.mono g2.s) ((ra.mono g1.s).mono g2.s)⟩) h2.2⟩
        rw [r2.key hk]
        exact DPut.k hx2 (by rw [ra.len]; exact lt_line h2.1)
      · exact h2.elim
    · exact hw.elim
/-- found.extend(e) -/
def wExt (i : Nat) (wa : WE) : WS := fun δ EX C => match δ[i]? with
  | some (some ⟨.lst ds, true⟩) => wa δ EX fun d => match d with
    | .lst es => ds.length + es.length ≤ Line ∧ C.nx (δ.set i (ow (.lst (ds ++ es))))
    | _ => False
  | _ => False
theorem ms_ext (i : Nat) {p' apos cpos : Pos} (ha : ME X b a wa) (hN : X.N[i]? = some x := by rfl) (hv : Vis X.env.scope x := by first | exact Or.inl rfl | exact Or.inr (Or.inl rfl) | exact Or.inr (Or.inr rfl)) (hd : (x == ("__debug__" : Str)) = false := by decide)
    (hcd : (x == ("__classdict__" : Str)) = false := by decide)
    (hbase : attributeBase (.Name x p') "extend" X.env (eval (.Name x p') X.env) = eval (.Name x p') X.env := by rfl)
    (hfew : ((backTo cpos (starEach [a] X.env)).all (fun x => !x.1) && (backToKw cpos (keywordEach [] X.env)).all (fun x => x.1.isSome)
      && decide (([a] : List Expr).length + ([] : List Keyword).length + (if ([] : List Keyword).isEmpty then 0 else 1) < 30)) = true := by rfl)
    (hline : (apos.endLine == cpos.line) = true := by rfl) (hs : starEach [a] X.env = (false, eval a X.env) :: starEach [] X.env := by rfl) (hplain : (backTo cpos (starEach [] X.env)).any (·.1) = false := by rfl)
    (hsw : swapsWith (.Call (.Attribute (.Name x p') "extend" apos) [a] [] cpos) none pos.line X.env = pure false := by rfl) :
    MS X b (.Expr (.Call (.Attribute (.Name x p') "extend" apos) [a] [] cpos) pos) (wExt i wa) :=
  PS.imp (ps_expr (pe_bm PySem.F.plainAttrs_list PySem.F.slot_list_extend PySem.F.type_list_extend mt_extend (pe_var hN hv hd hcd) (pa_cons ha pa_nil hs) hbase hfew hline hs hplain) hsw) fun Dn σ H ⟨S, δ, C, I, hw, k⟩ => by
    unfold wExt at hw
    split at hw
    · rename_i ds he
      obtain ⟨q, e1, h0, s0, xs, hx, ra⟩ := I.getO he
      refine ⟨_, e1, .inl ⟨rfl, _, SqL.of hx⟩, S, δ, _, I, hw, fun d v S1 H1 g1 r1 h1 => ?_⟩
      have hx1 := g1.h _ _ hx
      split at h1
      · cases r1 with
        | lst hy rb =>
          refine ⟨q, _, xs, _, rfl, rfl, hx1, g1.sh _ _ hy, by rw [ra.len, rb.len]; exact le_line h1.1, ?_⟩
          exact k.nx _ σ S1 _ g1.s ((I.grow g1).mut he e1 (d' := .lst (ds ++ _)) fun H2 h2 => ⟨_, h2, (ra.mono g1.s).append rb⟩) h1.2
      · exact h1.elim
    · exact hw.elim

/-! ### what a for walks -/
abbrev WI := Env → (Exc → Prop) → (List D → Prop) → Prop
/-- the iterator J yields the items, from S on -/
structure Yi (K : PySem.W.Frag) (g : G) (J : It) (items : List D) (S : Hp) : Prop where
  go : ∀ i S' H', Ex S S' → Ex S' H' → i < items.length → J.go i H'
  yld : ∀ i S' H' v H2, i < items.length → Ex S S' → Ex S' H' → J.yld i H' v H2 → ∃ d S2, items[i]? = some d ∧ Grow S' H' S2 H2 ∧ Rep K g S2 v d
  stop : ∀ i S' H', Ex S S' → Ex S' H' → items.length ≤ i → J.stop i H'
def tI (K : PySem.W.Frag) (b : Bs) (w : WI) : TI := fun σ H R => ∃ S δ P, StR K b δ σ S H ∧ w δ b.EX P ∧ ∀ items J S' H', Grow S H S' H' → Yi K b.g J items S' → P items → R J H'
def MI (X : Cx) (b : Bs) (tg e : Expr) (w : WI) : Prop := PI X tg e (tI X.K b w)
variable {tg : Expr} {wi : WI}
theorem PI.imp {t t' : TI} (h : PI X tg e t) (f : ∀ σ H R, t' σ H R → t σ H R) : PI X tg e t' := ⟨fun pins s σ H R I q => h.run pins s σ H R I (f σ H R q)⟩
def wFor (wi : WI) (wg : WG) (u : WS) : WS := fun δ EX C => wi δ EX fun items => ∃ M : Nat → Env → Prop, M 0 δ ∧
  (∀ (i : Nat) d δ', items[i]? = some d → M i δ' → wg d δ' fun δ2 => u δ2 EX { C with nx := M (i + 1), ct := M (i + 1), bk := C.nx }) ∧ ∀ δ', M items.length δ' → C.nx δ'
theorem ms_for (hp : PassesOwn (model X.prog X.w) X.A X.env X.xe) (hc : X.calm = true) (hi : MI X b tg e wi) (hg : MG X b vs tg wg) (hb : MSs X b body u) (hs : ∀ x, foldedSetIterable e X.env x = pure x := by intro _; rfl) :
    MS X b (.For tg e body [] pos) (wFor wi wg u) := PS.imp (ps_for hp hc hi hg hb hs) fun Dn σ H ⟨S, δ, C, I, hw, k⟩ => by
  refine ⟨S, δ, _, I, hw, fun items J S1 H1 g1 yi ⟨M, m0, ms, md⟩ => ?_⟩
  refine ⟨fun i m σ' H' => m = items.length - i ∧ i ≤ items.length ∧ ∃ S' δ', Ex S1 S' ∧ StR X.K b δ' σ' S' H' ∧ M i δ', ⟨items.length, by simp, Nat.zero_le _, S1, δ, Ex.refl _, I.grow g1, m0⟩, ?_⟩
  rintro i m σ' H' ⟨rfl, hi, S', δ', e1, I', hm⟩
  by_cases hlt : i < items.length
  · refine .inr ⟨yi.go i S' H' e1 I'.sh hlt, fun σ2 H2 => ∃ S2 δ2, Ex S1 S2 ∧ StR X.K b δ2 σ2 S2 H2 ∧ M (i + 1) δ2, fun σ2 H2 ⟨S2, δ2, e2, I2, h2⟩ => ⟨items.length - (i + 1), by omega, rfl, hlt, S2, δ2, e2, I2, h2⟩, fun v H2 y => ?_⟩
    obtain ⟨d, S2, hd, g2, r⟩ := yi.yld i S' H' v H2 hlt e1 I'.sh y
    refine ⟨S2, δ', d, _, I'.grow g2, r, ms i d δ' hd hm, fun δ2 σ2 I2 _ h2 => ?_⟩
    have nxt : Nx X.K b S2 (M (i + 1)) fun σ2 H2 => ∃ S2 δ2, Ex S1 S2 ∧ StR X.K b δ2 σ2 S2 H2 ∧ M (i + 1) δ2 := fun δ3 σ3 S3 H3 e3 I3 h3 => ⟨S3, δ3, (e1.trans g2.s).trans e3, I3, h3⟩
    exact ⟨S2, δ2, _, I2, h2, nxt, k.rt, k.nx.mono ((g1.s.trans e1).trans g2.s), nxt⟩
  · have e2 : i = items.length := by omega
    subst e2
    exact .inl ⟨yi.stop _ S' H' e1 I'.sh (Nat.le_refl _), k.nx δ' σ' S' H' (g1.s.trans e1) I' (md δ' hm)⟩
/-- while -/
def wWhile (t : WT) (u : WS) : WS := fun δ EX C => ∃ M : Nat → Env → Prop, (∃ m, M m δ) ∧ ∀ m δ', M m δ' → t δ' EX fun c => if c = true then u δ' EX { C with nx := fun δ2 => ∃ m', m' < m ∧ M m' δ2, ct := fun δ2 => ∃ m', m' < m ∧ M m' δ2, bk := C.nx } else C.nx δ'
theorem ms_while (hp : PassesOwn (model X.prog X.w) X.A X.env X.xe) (ht : MT X b e ta) (hb : MSs X b body u) : MS X b (.While e body [] pos) (wWhile ta u) := PS.imp (ps_while hp ht hb) fun Dn σ H ⟨S, δ, C, I, ⟨M, ⟨m0, hm0⟩, hM⟩, k⟩ => by
  refine ⟨fun m σ' H' => ∃ S' δ', Ex S S' ∧ StR X.K b δ' σ' S' H' ∧ M m δ', ⟨m0, S, δ, Ex.refl _, I, hm0⟩, fun m σ' H' ⟨S', δ', e1, I', hm⟩ => ?_⟩
  refine ⟨S', δ', _, I', hM m δ' hm, fun c S1 H1 g1 hc => ?_⟩
  cases c with
  | true =>
    rw [if_pos rfl] at hc ⊢
    refine ⟨fun σ2 H2 => ∃ m', m' < m ∧ ∃ S2 δ2, Ex S S2 ∧ StR X.K b δ2 σ2 S2 H2 ∧ M m' δ2, fun σ2 H2 h => h, ?_⟩
    have nxt : Nx X.K b S1 (fun δ2 => ∃ m', m' < m ∧ M m' δ2) fun σ2 H2 => ∃ m', m' < m ∧ ∃ S2 δ2, Ex S S2 ∧ StR X.K b δ2 σ2 S2 H2 ∧ M m' δ2 :=
      fun δ3 σ3 S3 H3 e3 I3 ⟨m', hl, h3⟩ => ⟨m', hl, S3, δ3, (e1.trans g1.s).trans e3, I3, h3⟩
    exact ⟨S1, δ', _, I'.grow g1, hc, nxt, k.rt, k.nx.mono (e1.trans g1.s), nxt⟩
  | false =>
    rw [if_neg Bool.false_ne_true] at hc ⊢
    exact k.nx δ' σ' S1 H1 (e1.trans g1.s) (I'.grow g1) hc

/-! ### the walked things -/
theorem RepA.some {vs : List V} {ds : List D} (r : RepA K g S vs ds) {i : Nat} (h : i < ds.length) : ∃ v, vs[i]? = some v := ⟨vs[i]'(by rw [r.len]; exact h), by simp⟩
theorem yi_list {a : Addr} {xs : List V} {ds : List D} (h : S a = some (.lst xs)) (r : RepA K g S xs ds) : Yi K g (Itl K a) ds S where
  go := fun i S' H' e1 e2 hi => by
    obtain ⟨v, hv⟩ := r.some hi
    exact ⟨xs, v, sq_of (e2 _ _ (e1 _ _ h)), hv⟩
  yld := fun i S' H' v H2 hi e1 e2 ⟨eH, y⟩ => by
    subst eH
    obtain ⟨d, hd, rd⟩ := r.getV (y xs (sq_of (e2 _ _ (e1 _ _ h))))
    exact ⟨d, S', hd, Grow.refl e2, rd.mono e1⟩
  stop := fun i S' H' e1 e2 hi => ⟨xs, sq_of (e2 _ _ (e1 _ _ h)), by rw [r.len]; exact hi⟩
theorem yi_tup {a : Addr} {xs : List V} {ds : List D} (h : SqT K S a xs) (r : RepA K g S xs ds) : Yi K g (Itt K a) ds S where
  go := fun i S' H' e1 e2 hi => by
    obtain ⟨v, hv⟩ := r.some hi
    exact ⟨xs, v, ex_t (e1.trans e2) h, hv⟩
  yld := fun i S' H' v H2 hi e1 e2 ⟨eH, y⟩ => by
    subst eH
    obtain ⟨d, hd, rd⟩ := r.getV (y xs (ex_t (e1.trans e2) h))
    exact ⟨d, S', hd, Grow.refl e2, rd.mono e1⟩
  stop := fun i S' H' e1 e2 hi => ⟨xs, ex_t (e1.trans e2) h, by rw [r.len]; exact hi⟩
def signs (s : Str) : List D := s.cps.toList.map fun c => .str ⟨#[c]⟩
theorem yi_str {s : Str} : Yi K g (Its s) (signs s) S where
  go := fun i S' H' e1 e2 hi => by
    have q : (signs s).length = s.cps.size := by simp [signs]
    show i < s.cps.size
    omega
  yld := fun i S' H' v H2 hi e1 e2 ⟨eH, c, hc, ev⟩ => by
    subst eH ev
    refine ⟨_, S', ?_, Grow.refl e2, .str _⟩
    simp [signs, hc]
  stop := fun i S' H' e1 e2 hi => by
    have q : (signs s).length = s.cps.size := by simp [signs]
    show s.cps.size ≤ i
    omega
def rangeD (lo : Int) (n : Nat) : List D := (List.range n).map fun (k : Nat) => .int (lo + (k : Int))
theorem rangeD_get {lo : Int} {n i : Nat} (h : i < n) : (rangeD lo n)[i]? = some (.int (lo + (i : Int))) := by simp [rangeD, h]
theorem rangeD_len {lo : Int} {n : Nat} : (rangeD lo n).length = n := by simp [rangeD]
theorem yi_range {lo : Int} {n : Nat} : Yi K g (Itr lo n) (rangeD lo n) S where
  go := fun i S' H' e1 e2 hi => by rw [rangeD_len] at hi; exact hi
  yld := fun i S' H' v H2 hi e1 e2 ⟨eH, ev⟩ => by
    subst eH ev
    rw [rangeD_len] at hi
    exact ⟨_, S', rangeD_get hi, Grow.refl e2, .int _⟩
  stop := fun i S' H' e1 e2 hi => by rw [rangeD_len] at hi; exact hi
end
end Mi
namespace Mi
open PySem L2 Evl PySem.Spec PyProof.Rows
section
variable {X : Cx} {b : Bs} {K : PySem.W.Frag} {g : G} {S S' H H' : Hp} {δ : Env} {σ : L2.St} {e a c d2 e' : Expr} {es rest : List Expr} {w wa wb wc : WE} {wr : WA} {pos p tpos : Pos} {x : Str} {tg : Expr} {wg : WG} {wi : WI}
/-! ### sources of loops -/
/-- what is walked by its value -/
def qItems (x : D) (P : List D → Prop) : Prop := match x with
  | .lst ds => P ds
  | .tup ds => P ds
  | .str s => P (signs s)
  | _ => False
def wItems (wa : WE) : WI := fun δ EX P => wa δ EX fun x => qItems x P
def iAny (K : PySem.W.Frag) (te : TE) : TI := fun σ H R => te σ H fun x H1 => (∃ a, x = .ref a ∧ (∃ xs, SqL K H1 a xs) ∧ R (Itl K a) H1) ∨ (∃ a, x = .ref a ∧ (∃ xs, SqT K H1 a xs) ∧ R (Itt K a) H1) ∨ ∃ z, x = .str z ∧ R (Its z) H1
theorem pi_any {l : Expr} {tl : TE} (hl : PE X l tl) : PI X tg l (iAny X.K tl) := by
  refine ⟨fun pins s σ H R I h => ?_⟩
  refine thn (hl.run pins s σ H _ I h) fun v s1 ⟨x, H1, I1, r1, q1⟩ => ?_
  rcases q1 with ⟨a, e, ⟨xs, hq⟩, q⟩ | ⟨a, e, ⟨xs, hq⟩, q⟩ | ⟨z, e, q⟩
  · subst e
    cases r1
    obtain ⟨its, rv, p, hz⟩ := I1.list hq
    refine wpAny_pyIter_list p.isList ?_
    refine ⟨s1.heap.objs.size, [s1.heap.objs.size], _, _, H1, rfl, I1.kept (t' := s1.toks) fun b o e => Heap.get?_push_of_some _ e, turn_list a _, ⟨_, Heap.get?_push_size _ rfl, rfl, rfl⟩, fun b hb => ?_, q⟩
    have e : b = s1.heap.objs.size := by simpa using hb
    subst e
    exact I1.fpOk (Nat.le_refl _) (I1.hok.fresh (Nat.le_refl _))
  · subst e
    cases r1
    obtain ⟨its, rv, p, hz⟩ := I1.tuple hq
    refine wpAny_pyIter_tuple (show s1.heap.IsTuple a its.toArray from p) ?_
    refine ⟨s1.heap.objs.size, [s1.heap.objs.size], _, _, H1, rfl, I1.kept (t' := s1.toks) fun b o e => Heap.get?_push_of_some _ e, turn_tuple a _, ⟨_, Heap.get?_push_size _ rfl, rfl, rfl⟩, fun b hb => ?_, q⟩
    have e : b = s1.heap.objs.size := by simpa using hb
    subst e
    exact I1.fpOk (Nat.le_refl _) (I1.hok.fresh (Nat.le_refl _))
  · subst e
    obtain ⟨t, rfl⟩ := r1
    cases ha : z.cps.all (· < 128)
    · exact wpAny_pyIter_wide ha (pi_one (tk := s1.toks) I1 _ (turn_str _ z t "str_iterator" (.inr rfl)) ⟨_, Heap.get?_push_size _ rfl, rfl, rfl⟩ q)
    · exact wpAny_pyIter_ascii ha (pi_one (tk := s1.toks) I1 _ (turn_str _ z t "str_ascii_iterator" (.inl rfl)) ⟨_, Heap.get?_push_size _ rfl, rfl, rfl⟩ q)
theorem mi_any (ha : ME X b a wa) : MI X b tg a (wItems wa) := PI.imp (pi_any ha) fun σ H R ⟨S, δ, P, I, hw, k⟩ => by
  refine ⟨S, δ, _, I, hw, fun d v S1 H1 g1 r1 h1 => ?_⟩
  unfold qItems at h1
  split at h1
  · cases r1 with
    | lst h r => exact .inl ⟨_, rfl, ⟨_, sq_of (g1.sh _ _ h)⟩, k _ _ S1 H1 g1 (yi_list h r) h1⟩
  · cases r1 with
    | tup h r => exact .inr (.inl ⟨_, rfl, ⟨_, ex_t g1.sh h⟩, k _ _ S1 H1 g1 (yi_tup h r) h1⟩)
  · cases r1
    exact .inr (.inr ⟨_, rfl, k _ _ S1 H1 g1 yi_str h1⟩)
  · exact h1.elim
def wRng1 (wa : WE) : WI := fun δ EX P => wa δ EX fun x => match x with
  | .int j => -(2 ^ 62) ≤ j ∧ j < 2 ^ 62 ∧ P (rangeD 0 j.toNat)
  | _ => False
theorem mi_range1 (hg : Gl X "range") (hm : X.mg "range" = none) (ha : MO X b a wa) (hs : starEach [a] X.env = [(false, eval a X.env)] := by rfl) : MI X b tg (.Call (.Name "range" p) [a] [] pos) (wRng1 wa) :=
  PI.imp (pi_range1 hg hm (paO ha hs) hs) fun σ H R ⟨S, δ, P, I, hw, k⟩ => by
    refine ⟨S, δ, _, I, hw, fun d v S1 H1 g1 r1 h1 => ?_⟩
    split at h1
    · cases r1.int
      exact ⟨_, rfl, h1.1, h1.2.1, k _ _ S1 H1 g1 yi_range h1.2.2⟩
    · exact h1.elim
def wRng2 (wa wb : WE) : WI := fun δ EX P => wa δ EX fun x => wb δ EX fun y => match x, y with
  | .int i, .int j => (-(2 ^ 62) ≤ i ∧ i < 2 ^ 62 ∧ -(2 ^ 62) ≤ j ∧ j < 2 ^ 62) ∧ P (rangeD i (j - i).toNat)
  | _, _ => False
theorem mi_range2 (hg : Gl X "range") (hm : X.mg "range" = none) (ha : MO X b a wa) (hb : MO X b c wb) (hs : starEach [a, c] X.env = [(false, eval a X.env), (false, eval c X.env)] := by rfl) (hs2 : starEach [c] X.env = [(false, eval c X.env)] := by rfl) :
    MI X b tg (.Call (.Name "range" p) [a, c] [] pos) (wRng2 wa wb) :=
  PI.imp (pi_range2 hg hm (paO2 ha hb (by rw [hs, hs2]) (by rw [hs2]; rfl)) hs hs2) fun σ H R ⟨S, δ, P, I, hw, k⟩ => by
    refine ⟨S, δ, _, I, hw, fun d v S1 H1 g1 r1 h1 => ?_⟩
    refine ⟨S1, δ, _, I.grow g1, h1, fun d2 v2 S2 H2 g2 r2 h2 => ?_⟩
    split at h2
    · cases r1.int; cases r2.int
      exact ⟨_, _, rfl, h2.1, k _ _ S2 H2 (g1.trans g2) yi_range h2.2⟩
    · exact h2.elim
def rangeC (lo s : Int) (n : Nat) : List D := (List.range n).map fun (k : Nat) => .int (lo + (k : Int) * s)
theorem rangeC_get {lo s : Int} {n i : Nat} (h : i < n) : (rangeC lo s n)[i]? = some (.int (lo + (i : Int) * s)) := by simp [rangeC, h]
theorem rangeC_len {lo s : Int} {n : Nat} : (rangeC lo s n).length = n := by simp [rangeC]
theorem yi_rangeC {lo s : Int} {n : Nat} : Yi K g (Itc lo s n) (rangeC lo s n) S where
  go := fun i S' H' e1 e2 hi => by rw [rangeC_len] at hi; exact hi
  yld := fun i S' H' v H2 hi e1 e2 ⟨eH, ev⟩ => by
    subst eH ev
    rw [rangeC_len] at hi
    exact ⟨_, S', rangeC_get hi, Grow.refl e2, .int _⟩
  stop := fun i S' H' e1 e2 hi => by rw [rangeC_len] at hi; exact hi
def wRng3 (wa wb wc : WE) : WI := fun δ EX P => wa δ EX fun x => wb δ EX fun y => wc δ EX fun z => match x, y, z with
  | .int i, .int j, .int s => ∃ n, RgC i j s n ∧ P (rangeC i s n)
  | _, _, _ => False
theorem mi_range3 (hg : Gl X "range") (hm : X.mg "range" = none) (ha : MO X b a wa) (hb : MO X b c wb) (hc : MO X b e wc) (hs : starEach [a, c, e] X.env = (false, eval a X.env) :: starEach [c, e] X.env := by rfl) (hs2 : starEach [c, e] X.env = (false, eval c X.env) :: starEach [e] X.env := by rfl)
    (hs3 : starEach [e] X.env = (false, eval e X.env) :: starEach [] X.env := by rfl) (hpl : (backTo pos (starEach [c, e] X.env)).any (·.1) = false := by rfl) :
    MI X b tg (.Call (.Name "range" p) [a, c, e] [] pos) (wRng3 wa wb wc) :=
  PI.imp (pi_range3 hg hm (pa_cons ha (pa_cons hb (pa_cons hc pa_nil hs3) hs2) hs) hs hpl) fun σ H R ⟨S, δ, P, I, hw, k⟩ => by
    refine ⟨S, δ, _, I, hw, fun d v S1 H1 g1 r1 h1 => ?_⟩
    refine ⟨S1, δ, _, I.grow g1, h1, fun d2 v2 S2 H2 g2 r2 h2 => ?_⟩
    refine ⟨S2, δ, _, (I.grow g1).grow g2, h2, fun d3 v3 S3 H3 g3 r3 h3 => ?_⟩
    split at h3
    · cases r1.int; cases r2.int; cases r3.int
      obtain ⟨n, hn, h3⟩ := h3
      exact ⟨_, _, _, n, rfl, hn, k _ _ S3 H3 ((g1.trans g2).trans g3) yi_rangeC h3⟩
    · exact h3.elim
/-- enumerate(list) -/
def enumD (ds : List D) : List D := ds.zipIdx.map fun (d, i) => .tup [.int (i : Nat), d]
theorem enumD_get {ds : List D} {i : Nat} {d : D} (h : ds[i]? = some d) : (enumD ds)[i]? = some (.tup [.int (i : Nat), d]) := by simp [enumD, List.getElem?_zipIdx, h]
theorem enumD_len {ds : List D} : (enumD ds).length = ds.length := by simp [enumD]
theorem yi_enum {a : Addr} {xs : List V} {ds : List D} (h : S a = some (.lst xs)) (r : RepA K g S xs ds) : Yi K g (Ite K a) (enumD ds) S where
  go := fun i S' H' e1 e2 hi => by
    rw [enumD_len] at hi
    obtain ⟨v, hv⟩ := r.some hi
    exact ⟨xs, v, sq_of (e2 _ _ (e1 _ _ h)), hv⟩
  yld := fun i S' H' v H2 hi e1 e2 ⟨T, y, ev, hT, eH, q⟩ => by
    subst ev eH
    obtain ⟨d, hd, rd⟩ := r.getV (q xs (sq_of (e2 _ _ (e1 _ _ h))))
    exact ⟨_, _, enumD_get hd, Grow.new e2 hT, .tup (st_of upd_same) (.cons (.int _) (.cons ((rd.mono e1).mono (Ex.new (none_of_ex e2 hT))) .nil))⟩
  stop := fun i S' H' e1 e2 hi => by
    rw [enumD_len] at hi
    exact ⟨xs, sq_of (e2 _ _ (e1 _ _ h)), by rw [r.len]; exact hi⟩
def wEnum (wa : WE) : WI := fun δ EX P => wa δ EX fun x => match x with
  | .lst ds => P (enumD ds)
  | _ => False
theorem mi_enum {elts : List Expr} {kk : Nat} (hg : Gl X "enumerate") (hm : X.mg "enumerate" = none) (ha : ME X b a wa) (hs : starEach [a] X.env = [(false, eval a X.env)] := by rfl) : MI X b (.Tuple elts kk tpos) (.Call (.Name "enumerate" p) [a] [] pos) (wEnum wa) :=
  PI.imp (pi_enum hg hm (pa_cons ha pa_nil hs) hs) fun σ H R ⟨S, δ, P, I, hw, k⟩ => by
    refine ⟨S, δ, _, I, hw, fun d v S1 H1 g1 r1 h1 => ?_⟩
    split at h1
    · cases r1 with
      | lst h r => exact ⟨_, _, rfl, sq_of (g1.sh _ _ h), k _ _ S1 H1 g1 (yi_enum h r) h1⟩
    · exact h1.elim
/-- zip of two lists -/
def zipD (xs ys : List D) : List D := (xs.zip ys).map fun (x, y) => .tup [x, y]
theorem zipD_get {xs ys : List D} {i : Nat} {x y : D} (h : xs[i]? = some x) (h' : ys[i]? = some y) : (zipD xs ys)[i]? = some (.tup [x, y]) := by
  have q : (xs.zip ys)[i]? = some (x, y) := List.getElem?_zip_eq_some.mpr ⟨h, h'⟩
  simp [zipD, q]
theorem zipD_len {xs ys : List D} : (zipD xs ys).length = min xs.length ys.length := by simp [zipD]
theorem yi_zip {a c : Addr} {xs ys : List V} {ds es : List D} (h : S a = some (.lst xs)) (r : RepA K g S xs ds) (h' : S c = some (.lst ys)) (r' : RepA K g S ys es) : Yi K g (Itz K a c) (zipD ds es) S where
  go := fun i S' H' e1 e2 hi => by
    rw [zipD_len] at hi
    obtain ⟨v, hv⟩ := r.some (i := i) (by omega)
    obtain ⟨u, hu⟩ := r'.some (i := i) (by omega)
    exact ⟨xs, ys, v, u, sq_of (e2 _ _ (e1 _ _ h)), sq_of (e2 _ _ (e1 _ _ h')), hv, hu⟩
  yld := fun i S' H' v H2 hi e1 e2 ⟨T, y, z, ev, hT, eH, q, q'⟩ => by
    subst ev eH
    obtain ⟨d, hd, rd⟩ := r.getV (q xs (sq_of (e2 _ _ (e1 _ _ h))))
    obtain ⟨d', hd', rd'⟩ := r'.getV (q' ys (sq_of (e2 _ _ (e1 _ _ h'))))
    exact ⟨_, _, zipD_get hd hd', Grow.new e2 hT, .tup (st_of upd_same) (.cons ((rd.mono e1).mono (Ex.new (none_of_ex e2 hT))) (.cons ((rd'.mono e1).mono (Ex.new (none_of_ex e2 hT))) .nil))⟩
  stop := fun i S' H' e1 e2 hi => by
    rw [zipD_len] at hi
    exact ⟨xs, ys, sq_of (e2 _ _ (e1 _ _ h)), sq_of (e2 _ _ (e1 _ _ h')), by rw [r.len, r'.len]; omega⟩
def wZip (wa wb : WE) : WI := fun δ EX P => wa δ EX fun x => wb δ EX fun y => match x, y with
  | .lst ds, .lst es => P (zipD ds es)
  | _, _ => False
theorem mi_zip {elts : List Expr} {kk : Nat} (hg : Gl X "zip") (hm : X.mg "zip" = none) (ha : ME X b a wa) (hb : ME X b c wb) (hs : starEach [a, c] X.env = (false, eval a X.env) :: starEach [c] X.env := by rfl) (hs2 : starEach [c] X.env = (false, eval c X.env) :: starEach [] X.env := by rfl)
    (hpl : (backTo pos (starEach [c] X.env)).any (·.1) = false := by rfl) : MI X b (.Tuple elts kk tpos) (.Call (.Name "zip" p) [a, c] [] pos) (wZip wa wb) :=
  PI.imp (pi_zip hg hm (pa_cons ha (pa_cons hb pa_nil hs2) hs) hs hpl) fun σ H R ⟨S, δ, P, I, hw, k⟩ => by
    refine ⟨S, δ, _, I, hw, fun d v S1 H1 g1 r1 h1 => ?_⟩
    refine ⟨S1, δ, _, I.grow g1, h1, fun d2 v2 S2 H2 g2 r2 h2 => ?_⟩
    split at h2
    · cases r1 with
      | lst h r =>
        cases r2 with
        | lst h' r' => exact ⟨_, _, _, _, rfl, sq_of (g2.sh _ _ (g2.s _ _ h)), sq_of (g2.sh _ _ h'), k _ _ S2 H2 (g1.trans g2) (yi_zip (g2.s _ _ h) (r.mono g2.s) h' r') h2⟩
    · exact h2.elim

/-! ### comprehensions -/
variable {ifs : List Expr} {wt : WT}
def MTs (X : Cx) (b : Bs) (es : List Expr) (w : WT) : Prop := PTs X es (tM X.K b w)
theorem PTs.imp {t t' : TT} (h : PTs X es t) (f : ∀ σ H Q, t' σ H Q → t σ H Q) : PTs X es t' := ⟨fun pins s σ H Q I q => h.run pins s σ H Q I (f σ H Q q)⟩
def wYes : WT := fun _ _ P => P true
theorem mts_nil : MTs X b [] wYes := PTs.imp pts_nil fun σ H Q ⟨S, δ, P, I, hw, k⟩ => k true S H (Grow.refl I.sh) hw
theorem mts_one (h : MT X b e wt) : MTs X b [e] wt := pts_one h
/-- within a comprehension nothing is raised -/
abbrev Bs.calm (b : Bs) : Bs := { b with EX := fun _ => False }
def wipeE (δ : Env) : List Nat → Env
  | [] => δ
  | v :: vs => (wipeE δ vs).set v none
theorem StR.wipe (I : StR K b δ σ S H) : ∀ vs : List Nat, StR K b (wipeE δ vs) (L2.wipe σ vs) S H
  | [] => I
  | v :: vs => by
    have J := I.wipe vs
    have hl : (wipeE δ vs).length = (L2.wipe σ vs).length := J.len
    refine ⟨J.sh, J.h0, J.s0, J.old, ?_, fun i c h => ?_, fun i j ci cj p hij hi hj oi oj si sj => ?_⟩
    · show ((wipeE δ vs).set v none).length = ((L2.wipe σ vs).set v none).length
      rw [List.length_set, List.length_set, hl]
    · have h : ((wipeE δ vs).set v none)[i]? = some (some c) := h
      show ∃ w, ((L2.wipe σ vs).set v none)[i]? = some (some w) ∧ _
      by_cases e : v = i
      · subst e
        by_cases hv : v < (wipeE δ vs).length
        · rw [List.getElem?_set_self hv] at h; cases h
        · rw [List.getElem?_eq_none (by rw [List.length_set]; omega)] at h; cases h
      · rw [List.getElem?_set_ne e] at h ⊢
        exact J.slot i c h
    · have key : ∀ (l : Nat) (cl : Cell) (u : V), ((wipeE δ vs).set v none)[l]? = some (some cl) → ((L2.wipe σ vs).set v none)[l]? = some (some u) → (wipeE δ vs)[l]? = some (some cl) ∧ (L2.wipe σ vs)[l]? = some (some u) := fun l cl u h1 h2 => by
        by_cases e : v = l
        · subst e
          by_cases hv : v < (wipeE δ vs).length
          · rw [List.getElem?_set_self hv] at h1; cases h1
          · rw [List.getElem?_eq_none (by rw [List.length_set]; omega)] at h1; cases h1
        · rw [List.getElem?_set_ne e] at h1 h2; exact ⟨h1, h2⟩
      obtain ⟨a1, a2⟩ := key i ci _ hi si
      obtain ⟨b1, b2⟩ := key j cj _ hj sj
      exact J.sep i j ci cj p hij a1 b1 oi oj a2 b2
theorem wipe_wipe (σ : L2.St) (vs : List Nat) : L2.wipe (L2.wipe σ vs) vs = L2.wipe σ vs := by
  apply List.ext_getElem?
  intro j
  rw [wipe_get, wipe_length, wipe_get]
  by_cases hj : j ∈ vs
  · rw [if_pos hj, if_pos hj]
  · rw [if_neg hj]
theorem StR.calm (I : StR K b δ σ S H) : StR K b.calm δ σ S H := ⟨I.sh, I.h0, I.s0, I.old, I.len, I.slot, I.sep⟩
theorem StR.uncalm (I : StR K b.calm δ σ S H) : StR K b δ σ S H := ⟨I.sh, I.h0, I.s0, I.old, I.len, I.slot, I.sep⟩
/-- M: what is made so far, by the turn -/
def wLc (wi : WI) (wg : WG) (wt : WT) (we : WE) (vs : List Nat) : WE := fun δ EX P => wi δ EX fun items => items.length ≤ Line ∧ ∃ M : Nat → List D → Prop, M 0 [] ∧
  (∀ (i : Nat) d acc, items[i]? = some d → M i acc → acc.length ≤ i → wg d (wipeE δ vs) fun δ2 => wt δ2 (fun _ => False) fun c => if c = true then we δ2 (fun _ => False) fun y => M (i + 1) (acc ++ [y]) else M (i + 1) acc) ∧ ∀ acc, M items.length acc → P (.lst acc)
theorem tLc_of {vs : List Nat} {we : WE} {Q : VK} (h : tF K b (wLc wi wg wt we vs) σ H Q) : tLc (tI K b wi) (tGt K b.calm vs wg) (tM K b.calm wt) (tE K b.calm we) vs σ H Q := by
  obtain ⟨S, δ, P, I, hw, k⟩ := h
  refine ⟨S, δ, _, I, hw, fun items J S1 H1 g1 yi ⟨hl, M, m0, ms, md⟩ => ?_⟩
  intro Dl hD
  have J1 := I.grow g1
  refine ⟨fun i m H' => m = items.length - i ∧ i ≤ items.length ∧ ∃ S' acc accV, Ex S1 S' ∧ S' Dl = none ∧ Grow S1 H1 S' H' ∧ H' Dl = some (.lst accV) ∧ RepA K b.g S' accV acc ∧ acc.length ≤ i ∧ M i acc,
    ⟨items.length, by simp, Nat.zero_le _, S1, [], [], Ex.refl _, none_of_ex g1.sh hD, Grow.newO g1.sh hD, upd_same, .nil, Nat.le_refl _, m0⟩, ?_⟩
  rintro i m H' ⟨rfl, hi, S', acc, accV, e1, sD, gr, hacc, ra, hal, hm⟩
  by_cases hlt : i < items.length
  · refine .inr ⟨yi.go i S' H' e1 gr.sh hlt, fun H2 => ∃ S' acc accV, Ex S1 S' ∧ S' Dl = none ∧ Grow S1 H1 S' H2 ∧ H2 Dl = some (.lst accV) ∧ RepA K b.g S' accV acc ∧ acc.length ≤ i + 1 ∧ M (i + 1) acc,
      fun H2 ⟨S2, acc2, accV2, z1, z2, z3, z4, z5, z6, z7⟩ => ⟨items.length - (i + 1), by omega, rfl, hlt, S2, acc2, accV2, z1, z2, z3, z4, z5, z6, z7⟩, fun v H2 y => ?_⟩
    obtain ⟨d, S2, hd, g2, r⟩ := yi.yld i S' H' v H2 hlt e1 gr.sh y
    have J2 : StR K b.calm (wipeE δ vs) (L2.wipe σ vs) S2 H2 := ((J1.grow (gr.trans g2)).wipe vs).calm
    refine ⟨S2, _, d, _, J2, r, ms i d acc hd hm hal, fun δ2 σ2 I2 e2 h2 => ?_⟩
    refine ⟨by rw [e2]; exact wipe_wipe σ vs, S2, δ2, _, I2, h2, fun c S3 H3 g3 h3 => ?_⟩
    have sD3 : S3 Dl = none := (g3.old Dl _ (g2.h _ _ hacc)).trans ((g2.old Dl _ hacc).trans sD)
    have ha3 : H3 Dl = some (.lst accV) := g3.h _ _ (g2.h _ _ hacc)
    cases c with
    | true =>
      rw [if_pos rfl] at h3
      show (if true = true then _ else _)
      rw [if_pos rfl]
      refine ⟨S3, δ2, _, I2.grow g3, h3, fun yd yv S4 H4 g4 r4 h4 => ?_⟩
      have sD4 : S4 Dl = none := (g4.old Dl _ ha3).trans sD3
      have ra4 : RepA K b.g S4 accV acc := ((ra.mono g2.s).mono g3.s).mono g4.s
      have gt := ((gr.trans g2).trans g3).trans g4
      refine ⟨accV, g4.h _ _ ha3, by rw [ra.len]; exact lt_line (by omega), S4, acc ++ [yd], accV ++ [yv], gt.s, sD4, ⟨gt.s, fun q u hq => ?_, fun q u hq => ?_, gt.old⟩, upd_same, ra4.append (.cons r4 .nil), by rw [List.length_append, List.length_singleton]; omega, h4⟩
      · rw [upd_ne (ne_of_none hq hD)]; exact gt.h q u hq
      · rw [upd_ne (ne_of_none hq sD4)]; exact gt.sh q u hq
    | false =>
      rw [if_neg Bool.false_ne_true] at h3
      show (if false = true then _ else _)
      rw [if_neg Bool.false_ne_true]
      exact ⟨S3, acc, accV, ((e1.trans g2.s).trans g3.s), sD3, (gr.trans g2).trans g3, ha3, (ra.mono g2.s).mono g3.s, by omega, h3⟩
  · have e2 : i = items.length := by omega
    subst e2
    refine .inl ⟨yi.stop _ S' H' e1 gr.sh (Nat.le_refl _), ?_⟩
    exact k (.lst acc) Dl S' H' (g1.trans gr) (none_of_ex g1.h hD) sD ⟨accV, hacc, ra⟩ (md acc hm)
theorem mf_lc {scope : Scope} {own : List (Str × Nat)} {we : WE} (hc : X.calm = true) (hN : X.N.Nodup) (hi : MI X b tg e wi) (ok : BlkOk X.N X.env.scope scope own)
    (hg : ∀ (s : Shared) (H : Hp) (C : Addr) (cl : List (Str × Addr)) (fp : List Addr), MG (X.blk s H scope (compEnvC scope cl C X.env) fp) b.calm (own.map (·.2)) tg wg)
    (ht : ∀ (s : Shared) (H : Hp) (C : Addr) (cl : List (Str × Addr)) (fp : List Addr), MTs (X.blk s H scope (compEnvC scope cl C X.env) fp) b.calm ifs wt)
    (he : ∀ (s : Shared) (H : Hp) (C : Addr) (cl : List (Str × Addr)) (fp : List Addr), ME (X.blk s H scope (compEnvC scope cl C X.env) fp) b.calm a we) (hs : ∀ x, foldedSetIterable e X.env x = pure x := by intro _; rfl) :
    MF X b (.ListComp a [⟨tg, e, ifs, 0⟩] scope pos) (wLc wi wg wt we (own.map (·.2))) := PE.imp (pe_lc (g := tGt X.K b.calm (own.map fun (q : Str × Nat) => q.2) wg) (tt := tM X.K b.calm wt) (te := tE X.K b.calm we) hc hN hi ok hg ht he hs) fun _ _ _ h => tLc_of h
theorem me_lc {scope : Scope} {own : List (Str × Nat)} {we : WE} (hc : X.calm = true) (hN : X.N.Nodup) (hi : MI X b tg e wi) (ok : BlkOk X.N X.env.scope scope own)
    (hg : ∀ (s : Shared) (H : Hp) (C : Addr) (cl : List (Str × Addr)) (fp : List Addr), MG (X.blk s H scope (compEnvC scope cl C X.env) fp) b.calm (own.map (·.2)) tg wg)
    (ht : ∀ (s : Shared) (H : Hp) (C : Addr) (cl : List (Str × Addr)) (fp : List Addr), MTs (X.blk s H scope (compEnvC scope cl C X.env) fp) b.calm ifs wt)
    (he : ∀ (s : Shared) (H : Hp) (C : Addr) (cl : List (Str × Addr)) (fp : List Addr), ME (X.blk s H scope (compEnvC scope cl C X.env) fp) b.calm a we) (hs : ∀ x, foldedSetIterable e X.env x = pure x := by intro _; rfl) :
    ME X b (.ListComp a [⟨tg, e, ifs, 0⟩] scope pos) (wLc wi wg wt we (own.map (·.2))) := me_ofF (mf_lc hc hN hi ok hg ht he hs)
/-- name = [..], the name a local | the list owned -/
theorem ms_setLcO (i : Nat) {y : Str} {py spos : Pos} {scope : Scope} {own : List (Str × Nat)} {we : WE} (hc : X.calm = true) (hN : X.N.Nodup) (hi : MI X b tg e wi) (ok : BlkOk X.N X.env.scope scope own)
    (hg : ∀ (s : Shared) (H : Hp) (C : Addr) (cl : List (Str × Addr)) (fp : List Addr), MG (X.blk s H scope (compEnvC scope cl C X.env) fp) b.calm (own.map (·.2)) tg wg)
    (ht : ∀ (s : Shared) (H : Hp) (C : Addr) (cl : List (Str × Addr)) (fp : List Addr), MTs (X.blk s H scope (compEnvC scope cl C X.env) fp) b.calm ifs wt)
    (he : ∀ (s : Shared) (H : Hp) (C : Addr) (cl : List (Str × Addr)) (fp : List Addr), ME (X.blk s H scope (compEnvC scope cl C X.env) fp) b.calm a we)
    (hy : X.N[i]? = some y := by rfl) (hyl : X.env.scope.names.lookup y = some .local := by rfl)
    (hsw : swapsWith (.ListComp a [⟨tg, e, ifs, 0⟩] scope pos) (some (.Name y py)) spos.line X.env = pure true := by exact sw_true rfl rfl rfl (by decide +kernel)) (hs : ∀ x, foldedSetIterable e X.env x = pure x := by intro _; rfl) :
    MS X b (.Assign [.Name y py] (.ListComp a [⟨tg, e, ifs, 0⟩] scope pos) spos) (wSetO i (wLc wi wg wt we (own.map (·.2)))) :=
  PS.imp (ps_setLc (g := tGt X.K b.calm (own.map fun (q : Str × Nat) => q.2) wg) (tt := tM X.K b.calm wt) (te := tE X.K b.calm we) hc hN hy hyl hsw hi ok hg ht he hs) fun Dn σ H ⟨S, δ, C, I, hw, k⟩ => by
    refine tLc_of (Q := fun x H1 => gName i x σ H1 Dn.nx) ⟨S, δ, _, I, hw, fun d q S' H' gr hp sp r hd => ?_⟩
    exact k.nx _ _ S' H' gr.s (I.setO gr hp sp r i) hd
theorem ms_setLc (i : Nat) {y : Str} {py spos : Pos} {scope : Scope} {own : List (Str × Nat)} {we : WE} (hc : X.calm = true) (hN : X.N.Nodup) (hi : MI X b tg e wi) (ok : BlkOk X.N X.env.scope scope own)
    (hg : ∀ (s : Shared) (H : Hp) (C : Addr) (cl : List (Str × Addr)) (fp : List Addr), MG (X.blk s H scope (compEnvC scope cl C X.env) fp) b.calm (own.map (·.2)) tg wg)
    (ht : ∀ (s : Shared) (H : Hp) (C : Addr) (cl : List (Str × Addr)) (fp : List Addr), MTs (X.blk s H scope (compEnvC scope cl C X.env) fp) b.calm ifs wt)
    (he : ∀ (s : Shared) (H : Hp) (C : Addr) (cl : List (Str × Addr)) (fp : List Addr), ME (X.blk s H scope (compEnvC scope cl C X.env) fp) b.calm a we)
    (hy : X.N[i]? = some y := by rfl) (hyl : X.env.scope.names.lookup y = some .local := by rfl)
    (hsw : swapsWith (.ListComp a [⟨tg, e, ifs, 0⟩] scope pos) (some (.Name y py)) spos.line X.env = pure true := by exact sw_true rfl rfl rfl (by decide +kernel)) (hs : ∀ x, foldedSetIterable e X.env x = pure x := by intro _; rfl) :
    MS X b (.Assign [.Name y py] (.ListComp a [⟨tg, e, ifs, 0⟩] scope pos) spos) (wAsg (wLc wi wg wt we (own.map (·.2))) (wgName i)) :=
  PS.imp (ps_setLc (g := tGt X.K b.calm (own.map fun (q : Str × Nat) => q.2) wg) (tt := tM X.K b.calm wt) (te := tE X.K b.calm we) hc hN hy hyl hsw hi ok hg ht he hs) fun Dn σ H ⟨S, δ, C, I, hw, k⟩ => by
    refine tLc_of (Q := fun x H1 => gName i x σ H1 Dn.nx) ⟨S, δ, _, I, hw, fun d q S' H' gr hp sp r hd => ?_⟩
    obtain ⟨S2, e1, e2, e3, r2⟩ := r.stab gr.sh sp
    have g2 : Grow S H S2 H' := ⟨gr.s.trans e1, gr.h, e2, fun z u hz => (e3 z (ne_of_none hz hp)).trans (gr.old z u hz)⟩
    exact k.nx _ _ S2 H' g2.s ((I.grow g2).set r2 i) hd
end
end Mi
namespace Mi
open PySem L2 Evl PySem.Spec PyProof.Rows

/-! ### a def's contract -/
abbrev CT := List D → (Exc → Prop) → (D → Prop) → Prop
/-- fields by name -/
inductive RepF (K : PySem.W.Frag) (g : G) (S : Hp) : List (Str × V) → List (Str × D) → Prop
  | nil : RepF K g S [] []
  | cons {f : Str} {v : V} {vs : List (Str × V)} {d : D} {ds : List (Str × D)} : Rep K g S v d → RepF K g S vs ds → RepF K g S ((f, v) :: vs) ((f, d) :: ds)
/-- how an exception lies -/
def ExcAt (K : PySem.W.Frag) (g : G) (x : Exc) (cls : Value) (d : Option Addr) (S H : Hp) : Prop :=
  cls = .ref x.cls ∧ if x.bare = true then d = none else ∃ dA fs, d = some dA ∧ H dA = some (.xd fs) ∧ RepF K g S fs x.fs
structure EWish (K : PySem.W.Frag) (b : Bs) (cls : Value) (d : Option Addr) (H' : Hp) : Prop where
  out : ∃ x S', b.EX x ∧ ExcAt K b.g x cls d S' H' ∧ Ex b.S0 S' ∧ Ex S' H' ∧ Ex b.H0 H' ∧ ∀ p o, b.H0 p = some o → S' p = b.S0 p
def spD (K : PySem.W.Frag) (g : G) (fr : Bool) (c : CT) : Sp := fun vs H Q E => ∃ S ds EX P, Ex S H ∧ RepA K g S vs ds ∧ c ds EX P ∧ (∀ d v S' H', RetR K ⟨g, S, H, EX, fr⟩ S' H' v d → P d → Q v H') ∧
  ∀ cls d H', EWish K ⟨g, S, H, EX, fr⟩ cls d H' → E cls d H'
/-- a def that raises nothing, called by its name -/
structure Cal (P : Program) (w : World) (K : PySem.W.Frag) (mg : Str → Option Value) (base : Heap) (g : G) (fr : Bool) (x : Str) (k : Nat) (c : CT) : Prop where
  out : ∃ f fd ps, FnOk P w K mg base CX0 k f fd ps (spD K g fr c) ∧ mg x = some (.ref f) ∧ PySem.W.keepIn K (.ref f) = true ∧ Binds K fd ps []
/-- a def that may raise -/
structure CalX (P : Program) (w : World) (K : PySem.W.Frag) (mg : Str → Option Value) (base : Heap) (g : G) (fr : Bool) (x : Str) (k : Nat) (c : CT) : Prop where
  out : ∃ f fd ps, FnOk P w K mg base (L2.CX P w) k f fd ps (spD K g fr c) ∧ mg x = some (.ref f) ∧ PySem.W.keepIn K (.ref f) = true ∧ Binds K fd ps []
def startE (N : List Str) (ds : List D) : Env := ds.map st ++ List.replicate (N.length - ds.length) none

section
variable {X : Cx} {b : Bs} {K : PySem.W.Frag} {g : G} {S S' H H' : Hp} {δ : Env} {σ : L2.St} {e a c d2 e' : Expr} {es rest : List Expr} {w wa wb wc : WE} {wr : WA} {pos p tpos : Pos} {x : Str} {ct : CT} {k : Nat}
def wCall (c : CT) (wr : WA) : WE := fun δ _ P => wr δ (fun _ => False) fun ds => c ds (fun _ => False) P
def wCallX (c : CT) (wr : WA) : WE := fun δ EX P => wr δ EX fun ds => c ds EX P
theorem RetR.grow {fr : Bool} {EX : Exc → Prop} {v : V} {d : D} (e : Ex S H) (r : RetR K ⟨g, S, H, EX, fr⟩ S' H' v d) : Grow S H S' H' := ⟨r.s, r.h, r.sh, r.old⟩
theorem pe_calN {fr : Bool} (Z : Cal X.prog X.w X.K X.mg X.base b.g fr x k ct) (hr : Room k X.A) (hg : Gl X x) {ta : TA} (ha : PA X (a :: es) ta) (hdb : (x == ("__debug__" : Str)) = false := by decide)
    (he : starEach (a :: es) X.env = (false, eval a X.env) :: starEach es X.env := by rfl) (hpl : (backTo pos (starEach es X.env)).any (·.1) = false := by rfl) : PE X (.Call (.Name x p) (a :: es) [] pos) (tCall (spD X.K b.g fr ct) [] E0 ta) := by
  obtain ⟨f, fd, ps, F, hm, hk, hb⟩ := Z.out
  exact pe_call F hr hg hm hk hb .nil pass0 ha hdb he hpl
theorem me_call (Z : Cal X.prog X.w X.K X.mg X.base b.g false x k ct) (hr : Room k X.A) (hg : Gl X x) (ha : MA X b.calm (a :: es) wr) (hdb : (x == ("__debug__" : Str)) = false := by decide)
    (he : starEach (a :: es) X.env = (false, eval a X.env) :: starEach es X.env := by rfl) (hpl : (backTo pos (starEach es X.env)).any (·.1) = false := by rfl) : ME X b (.Call (.Name x p) (a :: es) [] pos) (wCall ct wr) :=
  PE.imp (pe_calN (b := b) Z hr hg ha hdb he hpl) fun σ H Q ⟨S, δ, P, I, hw, k⟩ => by
    refine ⟨S, δ, _, I.calm, hw, fun ds vs S1 H1 g1 r1 h1 => ?_⟩
    refine ⟨S1, ds, _, P, g1.sh, by rw [List.append_nil]; exact r1, h1, fun d v S2 H2 rt hd => ?_, fun cls d H' z => ?_⟩
    · have r := rt.r
      rw [if_neg Bool.false_ne_true] at r
      exact k d v S2 H2 (g1.trans (rt.grow g1.sh)) r hd
    · obtain ⟨x, S', hx, _⟩ := z.out
      exact hx.elim
theorem mf_call (Z : Cal X.prog X.w X.K X.mg X.base b.g true x k ct) (hr : Room k X.A) (hg : Gl X x) (ha : MA X b.calm (a :: es) wr) (hdb : (x == ("__debug__" : Str)) = false := by decide)
    (he : starEach (a :: es) X.env = (false, eval a X.env) :: starEach es X.env := by rfl) (hpl : (backTo pos (starEach es X.env)).any (·.1) = false := by rfl) : MF X b (.Call (.Name x p) (a :: es) [] pos) (wCall ct wr) :=
  PE.imp (pe_calN (b := b) Z hr hg ha hdb he hpl) fun σ H Q ⟨S, δ, P, I, hw, k⟩ => by
    refine ⟨S, δ, _, I.calm, hw, fun ds vs S1 H1 g1 r1 h1 => ?_⟩
    refine ⟨S1, ds, _, P, g1.sh, by rw [List.append_nil]; exact r1, h1, fun d v S2 H2 rt hd => ?_, fun cls d H' z => ?_⟩
    · have r := rt.r
      rw [if_pos rfl] at r
      obtain ⟨q, rfl, h0, s0, o⟩ := r
      exact k d q S2 H2 (g1.trans (rt.grow g1.sh)) (none_of_ex g1.h h0) s0 o hd
    · obtain ⟨x, S', hx, _⟩ := z.out
      exact hx.elim
end

section
variable {P : Program} {w : World} {K : PySem.W.Frag} {mg : Str → Option Value} {base : Heap} {g : G}
theorem rep_start {S H : Hp} {EX : Exc → Prop} {fr : Bool} {N : List Str} {vs : List V} {ds : List D} (e : Ex S H) (r : RepA K g S vs ds) : StR K ⟨g, S, H, EX, fr⟩ (startE N ds) (L2.start N vs) S H where
  sh := e
  h0 := Ex.refl _
  s0 := Ex.refl _
  old := fun _ _ _ => rfl
  len := by unfold startE L2.start; simp [r.len]
  slot := fun i c h => by
    unfold startE at h
    unfold L2.start
    by_cases hi : i < ds.length
    · rw [List.getElem?_append_left (by simpa using hi)] at h
      rw [List.getElem?_append_left (by simpa [r.len] using hi)]
      rw [List.getElem?_map] at h ⊢
      cases hd : ds[i]? with
      | none => rw [hd] at h; cases h
      | some d =>
        rw [hd] at h
        cases h
        obtain ⟨v, hv, rv⟩ := r.get hd
        refine ⟨v, by rw [hv]; rfl, ?_⟩
        unfold CellR
        rw [if_neg Bool.false_ne_true]
        exact rv
    · rw [List.getElem?_append_right (by simpa using Nat.le_of_not_lt hi)] at h
      rw [List.getElem?_replicate] at h
      split at h <;> cases h
  sep := fun i j ci cj p _ hi _ oi _ _ _ => by
    unfold startE at hi
    by_cases hl : i < ds.length
    · rw [List.getElem?_append_left (by simpa using hl), List.getElem?_map] at hi
      cases hd : ds[i]? with
      | none => rw [hd] at hi; cases hi
      | some d => rw [hd] at hi; cases hi; cases oi
    · rw [List.getElem?_append_right (by simpa using Nat.le_of_not_lt hl), List.getElem?_replicate] at hi
      split at hi <;> cases hi
/-- THE RULE for a def -/
theorem Fun.data {x qual : Str} {st : Stmt} {f : Addr} {fd : FuncData} {N ps : List Str} {k : Nat} {c : CT} {fr : Bool} {wd : WS} (F : Fun K x qual st f fd) (Sc : FnScope N ps (defScope st)) (hlen : ∀ ds EX P, c ds EX P → ds.length = ps.length)
    (hbody : ∀ (cdv : Value) (A : Around) (outer : List PySem.Env) (s : Shared) (H : Hp) (E : XK) (S0 H0 : Hp), Room k (A.deeper (envOfC qual (defScope st) s.heap.objs.size f cdv)) →
      MSs (cxOf CX0 P w K mg base N qual (defScope st) f cdv A outer s H E).nox ⟨g, S0, H0, fun _ => False, fr⟩ (defBody st) wd)
    (hw : ∀ ds Q, c ds (fun _ => False) Q → wd (startE N ds) (fun _ => False) { nx := fun _ => fr = false ∧ Q .non, rt := Q })
    (hc : ∀ ds EX Q, c ds EX Q → c ds (fun _ => False) Q) : FnOk P w K mg base CX0 (k + 1) f fd ps (spD K g fr c) := by
  refine F.ok Sc (fun vs H Q E h => ?_) (fun cdv A outer s H vs Q E hr h => ?_)
  · obtain ⟨S, ds, EX, P, e, r, h, _⟩ := h
    rw [r.len]
    exact hlen _ _ _ h
  · obtain ⟨S, ds, EX, P, e, r, h, hret, _⟩ := h
    refine ⟨_, hbody cdv A outer s H E S H hr, S, startE N ds, _, rep_start e r, hw ds P (hc _ _ _ h), ?_, ?_, ?_, ?_⟩
    · intro δ' σ' S' H' e' I' ⟨hf, h'⟩
      refine hret .non .non S' H' ⟨I'.s0, I'.h0, I'.sh, I'.old, ?_⟩ h'
      subst hf
      rw [if_neg Bool.false_ne_true]
      exact .non
    · intro d v S' H' rt hd
      exact hret d v S' H' ⟨rt.s, rt.h, rt.sh, rt.old, rt.r⟩ hd
    · exact fun _ _ _ _ _ _ z => z.elim
    · exact fun _ _ _ _ _ _ z => z.elim
end
end Mi
namespace Mi
open PySem L2 Evl PySem.Spec PyProof.Rows
section
variable {X : Cx} {b : Bs} {K : PySem.W.Frag} {g : G} {S S' H H' : Hp} {δ : Env} {σ : L2.St} {e a c d2 e' : Expr} {es rest : List Expr} {w wa wb wc : WE} {wr : WA} {pos p tpos : Pos} {x : Str}
/-! ### len -/
def qLen (x : D) (P : D → Prop) : Prop := match x with
  | .lst ds => P (.int ds.length)
  | .tup ds => P (.int ds.length)
  | .dic ds => P (.int ds.length)
  | .str s => s.length ≤ Line ∧ P (.int s.length)
  | _ => False
theorem b1_len : B1 K g (fun xs H Q => (∃ x n, xs = [x] ∧ LenV K x H n ∧ Q (.int n) H) ∨ (∃ a kvs, xs = [V.ref a] ∧ H a = some (.dK kvs) ∧ Q (.int kvs.length) H)) qLen := by
  intro S H x v P Q e rv hq k
  unfold qLen at hq
  split at hq
  · obtain ⟨p, xs, rfl, hx, ra⟩ := rv.lst e
    exact .inl ⟨_, _, rfl, .inl ⟨xs, sq_of hx, rfl⟩, k _ _ S H (Grow.refl e) (by rw [ra.len]; exact .int _) hq⟩
  · obtain ⟨p, xs, rfl, hx, _, ra⟩ := rv.tup e
    exact .inl ⟨_, _, rfl, .inr ⟨xs, hx, rfl⟩, k _ _ S H (Grow.refl e) (by rw [ra.len]; exact .int _) hq⟩
  · obtain ⟨p, xs, rfl, hx, ra⟩ := rv.dic e
    exact .inr ⟨p, xs, rfl, hx, k _ _ S H (Grow.refl e) (by rw [ra.len]; exact .int _) hq⟩
  · cases rv.str
    exact .inl ⟨_, _, rfl, ⟨le_line hq.1, rfl⟩, k _ _ S H (Grow.refl e) (.int _) hq.2⟩
  · exact hq.elim
theorem me_len (hm : X.mg "len" = none) (hg : Gl X "len") (ha : MO X b a wa) (hs : starEach [a] X.env = (false, eval a X.env) :: starEach [] X.env := by rfl) (hpl : (backTo pos (starEach [] X.env)).any (·.1) = false := by rfl) : ME X b (.Call (.Name "len" p) [a] [] pos) (wUn qLen wa) :=
  me_b1 (CallR.or call_len call_lenD) b1_len hg hm PySem.boot_len ha (by decide) (by decide) hs hpl

/-! ### int, min, max, sum, all, any -/
def qInt (x : D) (P : D → Prop) : Prop := match x with
  | .int i => P (.int i)
  | .bl k => P (.int (if k then 1 else 0))
  | .str s => ∃ n, PySem.intText? s = some n ∧ s.length ≤ 640 ∧ P (.int n)
  | _ => False
theorem b1_int : B1 K g (fun xs H Q => ((∃ i, xs = [.int i] ∧ Q (.int i) H) ∨ ∃ k, xs = [.bl k] ∧ Q (.int (if k then 1 else 0)) H) ∨ (∃ a n, xs = [.str a] ∧ PySem.intText? a = some n ∧ a.length ≤ 640 ∧ Q (.int n) H)) qInt := by
  intro S H x v P Q e rv hq k
  unfold qInt at hq
  split at hq
  · cases rv.int; exact .inl (.inl ⟨_, rfl, k _ _ S H (Grow.refl e) (.int _) hq⟩)
  · cases rv.bl; exact .inl (.inr ⟨_, rfl, k _ _ S H (Grow.refl e) (.int _) hq⟩)
  · cases rv.str
    obtain ⟨n, h1, h2, h3⟩ := hq
    exact .inr ⟨_, n, rfl, h1, h2, k _ _ S H (Grow.refl e) (.int _) h3⟩
  · exact hq.elim
theorem me_int1 (hm : X.mg "int" = none) (hg : Gl X "int") (ha : MO X b a wa) (hs : starEach [a] X.env = (false, eval a X.env) :: starEach [] X.env := by rfl) (hpl : (backTo pos (starEach [] X.env)).any (·.1) = false := by rfl) : ME X b (.Call (.Name "int" p) [a] [] pos) (wUn qInt wa) :=
  me_t1 (CallR.or call_int1 call_int_str) b1_int hg hm (by decide +kernel) ha (by decide) (by decide) hs hpl
theorem boot_min' : bootBuiltins "min" = some (.builtin "min") := by decide +kernel
theorem boot_max' : bootBuiltins "max" = some (.builtin "max") := by decide +kernel
theorem boot_sum' : bootBuiltins "sum" = some (.builtin "sum") := by decide +kernel
theorem boot_all' : bootBuiltins "all" = some (.builtin "all") := by decide +kernel
theorem boot_any' : bootBuiltins "any" = some (.builtin "any") := by decide +kernel
theorem boot_abs' : bootBuiltins "abs" = some (.builtin "abs") := by decide +kernel
theorem boot_list' : bootBuiltins "list" = some (.type "list") := by decide +kernel
theorem boot_tuple' : bootBuiltins "tuple" = some (.type "tuple") := by decide +kernel
theorem boot_str' : bootBuiltins "str" = some (.type "str") := by decide +kernel
theorem boot_isi' : bootBuiltins "isinstance" = some (.builtin "isinstance") := by decide +kernel
theorem boot_sorted' : bootBuiltins "sorted" = some (.builtin "sorted") := by decide +kernel
theorem boot_int'' : bootBuiltins "int" = some (.type "int") := by decide +kernel
theorem boot_bool'' : bootBuiltins "bool" = some (.type "bool") := by decide +kernel
theorem boot_str'' : bootBuiltins "str" = some (.type "str") := by decide +kernel
theorem boot_list'' : bootBuiltins "list" = some (.type "list") := by decide +kernel
theorem boot_tuple'' : bootBuiltins "tuple" = some (.type "tuple") := by decide +kernel
theorem boot_dict'' : bootBuiltins "dict" = some (.type "dict") := by decide +kernel
theorem units65 {k : Nat} {A : Around} (r : Room k A) : A.units + 65 < cLine := by have := r.un; omega
/-- two, three arguments, by values -/
def B2 (K : PySem.W.Frag) (g : G) (r : List V → Hp → VK → Prop) (q : D → D → (D → Prop) → Prop) : Prop := OpD K g (fun x y => r [x, y]) q
def wB2 (q : D → D → (D → Prop) → Prop) (wa wb : WE) : WE := wOp q wa wb
theorem me_b2 {id : String} {r : List V → Hp → VK → Prop} {q : D → D → (D → Prop) → Prop} (hc : CallR X (.builtin id) r) (hr : B2 X.K b.g r q) (hg : Gl X x) (hm : X.mg x = none) (hv : bootBuiltins x = some (.builtin id)) (ha : MO X b a wa) (hb : MO X b c wb) (hn : x ≠ "__name__" := by decide) (hdb : (x == ("__debug__" : Str)) = false := by decide)
    (hs : starEach [a, c] X.env = (false, eval a X.env) :: starEach [c] X.env := by rfl) (hs2 : starEach [c] X.env = (false, eval c X.env) :: starEach [] X.env := by rfl) (hpl : (backTo pos (starEach [c] X.env)).any (·.1) = false := by rfl) : ME X b (.Call (.Name x p) [a, c] [] pos) (wOp q wa wb) :=
  PE.imp (pe_callB hc hg hm hv (paO2 ha hb hs hs2) hn hdb hs hpl) fun σ H Q h => tOp_of (r := fun x y => r [x, y]) hr h
def qMin (x y : D) (P : D → Prop) : Prop := match x, y with
  | .int i, .int j => P (.int (min i j))
  | _, _ => False
def qMax (x y : D) (P : D → Prop) : Prop := match x, y with
  | .int i, .int j => P (.int (max i j))
  | _, _ => False
theorem min_if (i j : Int) : (if j < i then j else i) = min i j := by
  rw [Int.min_def]; split <;> split <;> omega
theorem max_if (i j : Int) : (if j > i then j else i) = max i j := by
  rw [Int.max_def]; split <;> split <;> omega
theorem b2_min : B2 K g (fun xs H Q => ∃ i j, xs = [.int i, .int j] ∧ Q (.int (if j < i then j else i)) H) qMin := by
  intro S H x y v u P Q e rv ru hq k
  unfold qMin at hq
  split at hq
  · cases rv.int; cases ru.int
    exact ⟨_, _, rfl, by rw [min_if]; exact k _ _ S H (Grow.refl e) (.int _) hq⟩
  · exact hq.elim
theorem b2_max : B2 K g (fun xs H Q => ∃ i j, xs = [.int i, .int j] ∧ Q (.int (if j > i then j else i)) H) qMax := by
  intro S H x y v u P Q e rv ru hq k
  unfold qMax at hq
  split at hq
  · cases rv.int; cases ru.int
    exact ⟨_, _, rfl, by rw [max_if]; exact k _ _ S H (Grow.refl e) (.int _) hq⟩
  · exact hq.elim
theorem me_min2 (hcm : X.calm = true) (hm : X.mg "min" = none) (hg : Gl X "min") (ha : MO X b a wa) (hb : MO X b c wb) (hs : starEach [a, c] X.env = (false, eval a X.env) :: starEach [c] X.env := by rfl) (hs2 : starEach [c] X.env = (false, eval c X.env) :: starEach [] X.env := by rfl) (hpl : (backTo pos (starEach [c] X.env)).any (·.1) = false := by rfl) :
    ME X b (.Call (.Name "min" p) [a, c] [] pos) (wOp qMin wa wb) := me_b2 (call_min2 hcm) b2_min hg hm boot_min' ha hb (by decide) (by decide) hs hs2 hpl
theorem me_max2 (hcm : X.calm = true) (hm : X.mg "max" = none) (hg : Gl X "max") (ha : MO X b a wa) (hb : MO X b c wb) (hs : starEach [a, c] X.env = (false, eval a X.env) :: starEach [c] X.env := by rfl) (hs2 : starEach [c] X.env = (false, eval c X.env) :: starEach [] X.env := by rfl) (hpl : (backTo pos (starEach [c] X.env)).any (·.1) = false := by rfl) :
    ME X b (.Call (.Name "max" p) [a, c] [] pos) (wOp qMax wa wb) := me_b2 (call_max2 hcm) b2_max hg hm boot_max' ha hb (by decide) (by decide) hs hs2 hpl
def qMin3 (x y z : D) (P : D → Prop) : Prop := match x, y, z with
  | .int i, .int j, .int k => P (.int (min (min i j) k))
  | _, _, _ => False
def wMin3 (wa wb wc : WE) : WE := fun δ EX P => wa δ EX fun x => wb δ EX fun y => wc δ EX fun z => qMin3 x y z P
theorem nuMin2_int (i j : Int) : nuMin2 (.int i) (.int j) = some (.int (min i j)) := by
  have h : nuLt (.int j) (.int i) = some (decide (j < i)) := rfl
  unfold nuMin2
  rw [h]
  show some (if decide (j < i) = true then V.int j else V.int i) = _
  rw [Int.min_def]
  by_cases c : j < i
  · rw [if_pos (decide_eq_true c), if_neg (by omega)]
  · rw [if_neg (by simpa using c), if_pos (by omega)]
theorem me_min3 (hcm : X.calm = true) (hm : X.mg "min" = none) (hg : Gl X "min") (ha : MO X b a wa) (hb : MO X b c wb) (hc : MO X b e wc) (hs : starEach [a, c, e] X.env = (false, eval a X.env) :: starEach [c, e] X.env := by rfl) (hs2 : starEach [c, e] X.env = (false, eval c X.env) :: starEach [e] X.env := by rfl)
    (hs3 : starEach [e] X.env = (false, eval e X.env) :: starEach [] X.env := by rfl) (hpl : (backTo pos (starEach [c, e] X.env)).any (·.1) = false := by rfl) : ME X b (.Call (.Name "min" p) [a, c, e] [] pos) (wMin3 wa wb wc) :=
  PE.imp (pe_callB (call_min3Nu hcm) hg hm boot_min' (pa_cons ha (pa_cons hb (pa_cons hc pa_nil hs3) hs2) hs) (by decide) (by decide) hs hpl) fun σ H Q ⟨S, δ, P, I, hw, k⟩ => by
    refine ⟨S, δ, _, I, hw, fun x v S1 H1 g1 r1 h1 => ?_⟩
    refine ⟨S1, δ, _, I.grow g1, h1, fun y u S2 H2 g2 r2 h2 => ?_⟩
    refine ⟨S2, δ, _, (I.grow g1).grow g2, h2, fun z t S3 H3 g3 r3 h3 => ?_⟩
    unfold qMin3 at h3
    split at h3
    · cases r1.int; cases r2.int; cases r3.int
      refine ⟨_, _, _, _, rfl, ?_, k _ _ S3 H3 ((g1.trans g2).trans g3) (.int _) h3⟩
      unfold nuMin3
      rw [nuMin2_int]
      exact nuMin2_int _ _
    · exact h3.elim
/-- of one list -/
theorem ints_of : ∀ {xs : List V} {ns : List Int}, RepA K g S xs (ns.map D.int) → xs = ns.map V.int
  | [], [], .nil => rfl
  | _ :: _, n :: ns, .cons h r => by
    cases h
    rw [ints_of r]; rfl
theorem bools_of : ∀ {xs : List V} {ns : List Bool}, RepA K g S xs (ns.map D.bl) → xs = ns.map V.bl
  | [], [], .nil => rfl
  | _ :: _, n :: ns, .cons h r => by
    cases h
    rw [bools_of r]; rfl
theorem strs_of : ∀ {xs : List V} {ns : List Str}, RepA K g S xs (ns.map D.str) → xs = ns.map V.str
  | [], [], .nil => rfl
  | _ :: _, n :: ns, .cons h r => by
    cases h
    rw [strs_of r]; rfl
def qMinL (x : D) (P : D → Prop) : Prop := match x with
  | .lst ds => ∃ ns : List Int, ds = ns.map D.int ∧ 0 < ns.length ∧ ∀ m, m ∈ ns → (∀ y, y ∈ ns → m ≤ y) → P (.int m)
  | _ => False
def qMaxL (x : D) (P : D → Prop) : Prop := match x with
  | .lst ds => ∃ ns : List Int, ds = ns.map D.int ∧ 0 < ns.length ∧ ∀ m, m ∈ ns → (∀ y, y ∈ ns → y ≤ m) → P (.int m)
  | _ => False
theorem b1_minL : B1 K g (rMin K) qMinL := by
  intro S H x v P Q e rv hq k
  unfold qMinL at hq
  split at hq
  · obtain ⟨p, xs, rfl, hx, ra⟩ := rv.lst e
    obtain ⟨ns, rfl, h0, h⟩ := hq
    have ex := ints_of ra
    subst ex
    exact ⟨p, ns, rfl, sq_of hx, h0, fun m hm hl => k _ _ S H (Grow.refl e) (.int _) (h m hm hl)⟩
  · exact hq.elim
theorem b1_maxL : B1 K g (rMax K) qMaxL := by
  intro S H x v P Q e rv hq k
  unfold qMaxL at hq
  split at hq
  · obtain ⟨p, xs, rfl, hx, ra⟩ := rv.lst e
    obtain ⟨ns, rfl, h0, h⟩ := hq
    have ex := ints_of ra
    subst ex
    exact ⟨p, ns, rfl, sq_of hx, h0, fun m hm hl => k _ _ S H (Grow.refl e) (.int _) (h m hm hl)⟩
  · exact hq.elim
def qSum (x : D) (P : D → Prop) : Prop := match x with
  | .lst ds => ∃ ns : List Int, ds = ns.map D.int ∧ P (.int ns.sum)
  | _ => False
theorem b1_sum : B1 K g (rSum K) qSum := by
  intro S H x v P Q e rv hq k
  unfold qSum at hq
  split at hq
  · obtain ⟨p, xs, rfl, hx, ra⟩ := rv.lst e
    obtain ⟨ns, rfl, h⟩ := hq
    have ex := ints_of ra
    subst ex
    exact ⟨p, ns, rfl, sq_of hx, k _ _ S H (Grow.refl e) (.int _) h⟩
  · exact hq.elim
def qAll (x : D) (P : D → Prop) : Prop := match x with
  | .lst ds => ∃ ns : List Bool, ds = ns.map D.bl ∧ P (.bl (ns.all id))
  | _ => False
def qAny (x : D) (P : D → Prop) : Prop := match x with
  | .lst ds => ∃ ns : List Bool, ds = ns.map D.bl ∧ P (.bl (ns.any id))
  | _ => False
theorem b1_all : B1 K g (rAll K) qAll := by
  intro S H x v P Q e rv hq k
  unfold qAll at hq
  split at hq
  · obtain ⟨p, xs, rfl, hx, ra⟩ := rv.lst e
    obtain ⟨ns, rfl, h⟩ := hq
    have ex := bools_of ra
    subst ex
    exact ⟨p, ns, rfl, sq_of hx, k _ _ S H (Grow.refl e) (.bl _) h⟩
  · exact hq.elim
theorem b1_any : B1 K g (rAny K) qAny := by
  intro S H x v P Q e rv hq k
  unfold qAny at hq
  split at hq
  · obtain ⟨p, xs, rfl, hx, ra⟩ := rv.lst e
    obtain ⟨ns, rfl, h⟩ := hq
    have ex := bools_of ra
    subst ex
    exact ⟨p, ns, rfl, sq_of hx, k _ _ S H (Grow.refl e) (.bl _) h⟩
  · exact hq.elim
section
variable (hcm : X.calm = true) (ha : MO X b a wa) (hs : starEach [a] X.env = (false, eval a X.env) :: starEach [] X.env) (hpl : (backTo pos (starEach [] X.env)).any (·.1) = false)
theorem me_minL (hcm : X.calm = true) (hm : X.mg "min" = none) (hg : Gl X "min") (ha : MO X b a wa) (hs : starEach [a] X.env = (false, eval a X.env) :: starEach [] X.env := by rfl) (hpl : (backTo pos (starEach [] X.env)).any (·.1) = false := by rfl) : ME X b (.Call (.Name "min" p) [a] [] pos) (wUn qMinL wa) := me_b1 (cr_min hcm) b1_minL hg hm boot_min' ha (by decide) (by decide) hs hpl
theorem me_maxL (hcm : X.calm = true) (hm : X.mg "max" = none) (hg : Gl X "max") (ha : MO X b a wa) (hs : starEach [a] X.env = (false, eval a X.env) :: starEach [] X.env := by rfl) (hpl : (backTo pos (starEach [] X.env)).any (·.1) = false := by rfl) : ME X b (.Call (.Name "max" p) [a] [] pos) (wUn qMaxL wa) := me_b1 (cr_max hcm) b1_maxL hg hm boot_max' ha (by decide) (by decide) hs hpl
theorem me_sum (hcm : X.calm = true) (hm : X.mg "sum" = none) (hg : Gl X "sum") (ha : MO X b a wa) (hs : starEach [a] X.env = (false, eval a X.env) :: starEach [] X.env := by rfl) (hpl : (backTo pos (starEach [] X.env)).any (·.1) = false := by rfl) : ME X b (.Call (.Name "sum" p) [a] [] pos) (wUn qSum wa) := me_b1 (cr_sum hcm) b1_sum hg hm boot_sum' ha (by decide) (by decide) hs hpl
theorem me_all (hcm : X.calm = true) (hm : X.mg "all" = none) (hg : Gl X "all") (ha : MO X b a wa) (hs : starEach [a] X.env = (false, eval a X.env) :: starEach [] X.env := by rfl) (hpl : (backTo pos (starEach [] X.env)).any (·.1) = false := by rfl) : ME X b (.Call (.Name "all" p) [a] [] pos) (wUn qAll wa) := me_b1 (cr_all hcm) b1_all hg hm boot_all' ha (by decide) (by decide) hs hpl
theorem me_any (hcm : X.calm = true) (hm : X.mg "any" = none) (hg : Gl X "any") (ha : MO X b a wa) (hs : starEach [a] X.env = (false, eval a X.env) :: starEach [] X.env := by rfl) (hpl : (backTo pos (starEach [] X.env)).any (·.1) = false := by rfl) : ME X b (.Call (.Name "any" p) [a] [] pos) (wUn qAny wa) := me_b1 (cr_any hcm) b1_any hg hm boot_any' ha (by decide) (by decide) hs hpl
end
/-! ### list, tuple, str, abs -/
def qList (x : D) (P : D → Prop) : Prop := match x with
  | .lst ds => P (.lst ds)
  | .tup ds => P (.lst ds)
  | _ => False
theorem b1_list : B1F K g (fun xs H Q => ∃ p ys, xs = [.ref p] ∧ (SqL K H p ys ∨ SqT K H p ys) ∧ ∀ l, H l = none → Q (.ref l) (upd H l (.lst ys))) qList := by
  intro S H x v P Q e rv hq k
  unfold qList at hq
  split at hq
  · obtain ⟨p, xs, rfl, hx, ra⟩ := rv.lst e
    exact ⟨p, xs, rfl, .inl (sq_of hx), fun l hl => k (.lst _) l S _ (Grow.newO e hl) hl (none_of_ex e hl) ⟨_, upd_same, ra⟩ hq⟩
  · obtain ⟨p, xs, rfl, hx, _, ra⟩ := rv.tup e
    exact ⟨p, xs, rfl, .inr hx, fun l hl => k (.lst _) l S _ (Grow.newO e hl) hl (none_of_ex e hl) ⟨_, upd_same, ra⟩ hq⟩
  · exact hq.elim
theorem mf_list (hm : X.mg "list" = none) (hg : Gl X "list") (ha : MO X b a wa) (hs : starEach [a] X.env = (false, eval a X.env) :: starEach [] X.env := by rfl) (hpl : (backTo pos (starEach [] X.env)).any (·.1) = false := by rfl) : MF X b (.Call (.Name "list" p) [a] [] pos) (wUn qList wa) :=
  mf_t1 call_list_of b1_list hg hm boot_list' ha (by decide) (by decide) hs hpl
def qTuple (x : D) (P : D → Prop) : Prop := match x with
  | .lst ds => P (.tup ds)
  | .tup ds => P (.tup ds)
  | _ => False
theorem b1_tuple : B1 K g (fun xs H Q => ∃ p ys, xs = [.ref p] ∧ ((SqL K H p ys ∧ ∀ l, H l = none → Q (.ref l) (upd H l (.tup ys))) ∨ (SqT K H p ys ∧ Q (.ref p) H))) qTuple := by
  intro S H x v P Q e rv hq k
  unfold qTuple at hq
  split at hq
  · obtain ⟨p, xs, rfl, hx, ra⟩ := rv.lst e
    exact ⟨p, xs, rfl, .inl ⟨sq_of hx, fun l hl => k _ _ _ _ (Grow.new e hl) (.tup (st_of upd_same) (ra.mono (Ex.new (none_of_ex e hl)))) hq⟩⟩
  · obtain ⟨p, xs, rfl, hx, sx, ra⟩ := rv.tup e
    exact ⟨p, xs, rfl, .inr ⟨hx, k _ _ S H (Grow.refl e) (.tup sx ra) hq⟩⟩
  · exact hq.elim
theorem me_tuple (hm : X.mg "tuple" = none) (hg : Gl X "tuple") (ha : MO X b a wa) (hs : starEach [a] X.env = (false, eval a X.env) :: starEach [] X.env := by rfl) (hpl : (backTo pos (starEach [] X.env)).any (·.1) = false := by rfl) : ME X b (.Call (.Name "tuple" p) [a] [] pos) (wUn qTuple wa) :=
  me_t1 call_tuple_of b1_tuple hg hm boot_tuple' ha (by decide) (by decide) hs hpl
def qStr (x : D) (P : D → Prop) : Prop := match x with
  | .int i => i.natAbs.log2 < 1920 ∧ P (.str (toString i))
  | _ => False
theorem b1_str : B1 K g (fun xs H Q => ∃ i, xs = [.int i] ∧ i.natAbs.log2 < 1920 ∧ Q (.str (toString i)) H) qStr := by
  intro S H x v P Q e rv hq k
  unfold qStr at hq
  split at hq
  · cases rv.int; exact ⟨_, rfl, hq.1, k _ _ S H (Grow.refl e) (.str _) hq.2⟩
  · exact hq.elim
theorem me_str1 (hm : X.mg "str" = none) (hg : Gl X "str") (ha : MO X b a wa) (hs : starEach [a] X.env = (false, eval a X.env) :: starEach [] X.env := by rfl) (hpl : (backTo pos (starEach [] X.env)).any (·.1) = false := by rfl) : ME X b (.Call (.Name "str" p) [a] [] pos) (wUn qStr wa) :=
  me_t1 call_str_int b1_str hg hm boot_str' ha (by decide) (by decide) hs hpl
def qAbs (x : D) (P : D → Prop) : Prop := match x with
  | .int i => P (.int (if i < 0 then -i else i))
  | _ => False
theorem b1_abs : B1 K g (fun xs H Q => ∃ i, xs = [.int i] ∧ Q (.int (if i < 0 then -i else i)) H) qAbs := by
  intro S H x v P Q e rv hq k
  unfold qAbs at hq
  split at hq
  · cases rv.int; exact ⟨_, rfl, k _ _ S H (Grow.refl e) (.int _) hq⟩
  · exact hq.elim
theorem me_abs (hm : X.mg "abs" = none) (hg : Gl X "abs") (ha : MO X b a wa) (hs : starEach [a] X.env = (false, eval a X.env) :: starEach [] X.env := by rfl) (hpl : (backTo pos (starEach [] X.env)).any (·.1) = false := by rfl) : ME X b (.Call (.Name "abs" p) [a] [] pos) (wUn qAbs wa) :=
  me_b1 call_abs b1_abs hg hm boot_abs' ha (by decide) (by decide) hs hpl

/-! ### isinstance of a built-in class -/
def tyD : D → Option String
  | .non => some "NoneType"
  | .bl _ => some "bool"
  | .int _ => some "int"
  | .str _ => some "str"
  | .lst _ => some "list"
  | .tup _ => some "tuple"
  | .dic _ => some "dict"
  | .ext _ _ => none
theorem tyX_tup {p : Addr} {xs : List V} (h : SqT K H p xs) : TyX K H (.ref p) (.type "tuple") := by
  rcases h with (h | ⟨o, h⟩) | ⟨o, its, n, h, c, _⟩
  · exact .base (.tup h)
  · exact .fTuple h
  · exact .kTuple h c
theorem RepT.ty {v : V} {x : D} {t : String} (e : Ex S H) (r : RepT K g S H v x) (h : tyD x = some t) : TyX K H v (.type t) := by
  cases x with
  | non => cases h; cases r.non; exact .base .non
  | bl _ => cases h; cases r.bl; exact .base (.bl _)
  | int _ => cases h; cases r.int; exact .base (.int _)
  | str _ => cases h; cases r.str; exact .base (.str _)
  | lst ds => cases h; obtain ⟨p, xs, rfl, hx, ra⟩ := r.lst e; exact .base (.lst hx)
  | tup ds => cases h; obtain ⟨p, xs, rfl, hx, _, ra⟩ := r.tup e; exact tyX_tup hx
  | dic ds => cases h; obtain ⟨p, xs, rfl, hx, ra⟩ := r.dic e; exact .base (.dK hx)
  | ext n d => cases h
def qIsi (T : String) (x : D) (P : D → Prop) : Prop := match tyD x with
  | some t => (match kitB t T with | some r => P (.bl r) | none => False)
  | none => False
def wIsi (T : String) (wa : WE) : WE := wUn (qIsi T) wa
theorem me_isi {T : String} {x2 : Str} {p2 : Pos} (hm : X.mg "isinstance" = none) (hg : Gl X "isinstance") (hgT : Gl X x2) (hmT : X.mg x2 = none) (hvT : bootBuiltins x2 = some (.type T)) (ha : MO X b a wa) (hn : x2 ≠ "__name__" := by decide) (hdb : (x2 == ("__debug__" : Str)) = false := by decide)
    (hs : starEach [a, .Name x2 p2] X.env = (false, eval a X.env) :: starEach [.Name x2 p2] X.env := by rfl) (hs2 : starEach [.Name x2 p2] X.env = (false, eval (.Name x2 p2) X.env) :: starEach [] X.env := by rfl) (hpl : (backTo pos (starEach [.Name x2 p2] X.env)).any (·.1) = false := by rfl) :
    ME X b (.Call (.Name "isinstance" p) [a, .Name x2 p2] [] pos) (wUn (qIsi T) wa) :=
  PE.imp (pe_callB call_isi hg hm boot_isi' (pa_cons ha (pa_cons (pe_bltn (v := .ty T) hgT hmT hvT rfl hn hdb) pa_nil hs2) hs) (by decide) (by decide) hs hpl) fun σ H Q ⟨S, δ, P, I, hw, k⟩ => by
    refine ⟨S, δ, _, I, hw, fun x v S1 H1 g1 r1 h1 => ?_⟩
    unfold qIsi at h1
    split at h1
    · rename_i t ht
      split at h1
      · rename_i r hr
        exact ⟨v, .ty T, .type t, .type T, r, rfl, .ty T, r1.ty g1.sh ht, kit_ty hr, k _ _ S1 H1 g1 (.bl _) h1⟩
      · exact h1.elim
    · exact h1.elim

/-! ### in -/
def flatD : D → Bool
  | .non | .bl _ | .int _ | .str _ => true
  | _ => false
theorem RepT.flat {v : V} {x : D} (r : RepT K g S H v x) (h : flatD x = true) : flatV v = true ∧ Rep K g S v x := by
  cases x with
  | non => cases r.non; exact ⟨rfl, .non⟩
  | bl _ => cases r.bl; exact ⟨rfl, .bl _⟩
  | int _ => cases r.int; exact ⟨rfl, .int _⟩
  | str _ => cases r.str; exact ⟨rfl, .str _⟩
  | _ => cases h
theorem eqV_of {v u : V} {x y : D} (rv : Rep K g S v x) (ru : Rep K g S u y) (hx : flatD x = true) (hy : flatD y = true) : eqV v u = eqD x y := by
  cases rv <;> cases ru <;> first
    | rfl
    | exact absurd (show false = true from hx) Bool.false_ne_true
    | exact absurd (show false = true from hy) Bool.false_ne_true
theorem RepA.flat : ∀ {vs : List V} {ds : List D}, RepA K g S vs ds → ds.all flatD = true → vs.all flatV = true
  | _, _, .nil, _ => rfl
  | _, _, .cons h r, f => by
    rw [List.all_cons, Bool.and_eq_true] at f ⊢
    exact ⟨(RepT.flat (H := S) (.inl h) f.1).1, r.flat f.2⟩
theorem RepA.inV {v : V} {x : D} (rv : Rep K g S v x) (hx : flatD x = true) : ∀ {vs : List V} {ds : List D}, RepA K g S vs ds → ds.all flatD = true → L2.inV v vs = ds.any fun z => eqD z x
  | _, _, .nil, _ => rfl
  | _, _, .cons h r, f => by
    rw [List.all_cons, Bool.and_eq_true] at f
    have ih := RepA.inV rv hx r f.2
    unfold L2.inV at ih ⊢
    rw [List.any_cons, List.any_cons, ih, eqV_of h rv f.1 hx]
/-- x in y -/
def qIn (x y : D) (P : Bool → Prop) : Prop := match y with
  | .str t => (match x with
    | .str s => (match s.cps.toList with | [c] => P (decide (c ∈ t.cps.toList)) | _ => P (!(Builtin.Str.occurrences t s 0 t.length 1).isEmpty))
    | _ => False)
  | .lst ds => ((flatD x = true ∧ ds.all flatD = true) ∨ (okD x ∧ okD (.lst ds))) ∧ P (ds.any fun z => eqD z x)
  | .tup ds => (flatD x = true ∧ ds.all flatD = true) ∧ P (ds.any fun z => eqD z x)
  | .dic kvs => (match keyD x with | some k => P (valD kvs k).isSome | none => False)
  | _ => False
def qNotIn (x y : D) (P : Bool → Prop) : Prop := qIn x y fun c => P (!c)
/-- the readings of in, not in, of a dict -/
def rInDct (neg : Bool) : R2 := fun y x H Q => ∃ a o, x = .ref a ∧ DGet H a y o ∧ Q (.bl (if neg then !o.isSome else o.isSome)) H
theorem op_inDct (hu : X.A.units + 1 < cLine) : OpR X (compareOp .In) (rInDct false) := by
  intro pins s σ H y x v u Q I ry rx h
  obtain ⟨a, o, rfl, gt, q⟩ := h
  cases rx
  exact d_in hu I gt ry fun s3 I3 => ⟨.bl o.isSome, H, I3, rfl, q⟩
theorem op_notInDct (hu : X.A.units + 1 < cLine) : OpR X (compareOp .NotIn) (rInDct true) := by
  intro pins s σ H y x v u Q I ry rx h
  obtain ⟨a, o, rfl, gt, q⟩ := h
  cases rx
  exact d_notIn hu I gt ry fun s3 I3 => ⟨.bl (!o.isSome), H, I3, rfl, q⟩
def rInAll (K : PySem.W.Frag) : R2 := fun x y H Q => (∃ (c : Nat) (z : Str), x = .str ⟨#[c]⟩ ∧ y = .str z ∧ Q (.bl (decide (c ∈ z.cps.toList))) H) ∨ (∃ i j, x = .str i ∧ y = .str j ∧ Q (.bl (!(Builtin.Str.occurrences j i 0 j.length 1).isEmpty)) H) ∨
  rIn K false x y H Q ∨ rInD K x y H Q ∨ rInDct false x y H Q
def rNotInAll (K : PySem.W.Frag) : R2 := fun x y H Q => (∃ (c : Nat) (z : Str), x = .str ⟨#[c]⟩ ∧ y = .str z ∧ Q (.bl (!decide (c ∈ z.cps.toList))) H) ∨ (∃ i j, x = .str i ∧ y = .str j ∧ Q (.bl (!(!(Builtin.Str.occurrences j i 0 j.length 1).isEmpty))) H) ∨
  rIn K true x y H Q ∨ rNotInD K x y H Q ∨ rInDct true x y H Q
theorem op_inAll (hu : X.A.units + 65 < cLine) : OpR X (compareOp .In) (rInAll X.K) := OpR.or op_in_sign (OpR.or op_in_str (OpR.or op_in_seq (OpR.or (op_inD hu) (op_inDct (by omega)))))
theorem op_notInAll (hu : X.A.units + 65 < cLine) : OpR X (compareOp .NotIn) (rNotInAll X.K) := OpR.or op_notIn_sign (OpR.or op_notin_str (OpR.or op_notIn_seq (OpR.or (op_notInD hu) (op_notInDct (by omega)))))
theorem str_one {s : Str} {c : Nat} (h : s.cps.toList = [c]) : s = ⟨#[c]⟩ := by
  cases s with
  | mk cps =>
    have e : cps = #[c] := by
      apply Array.ext'
      simpa using h
    rw [e]
theorem ob_in : OpB K g (rInAll K) qIn := by
  intro S H x y v u P Q e rv ru hq k
  unfold qIn at hq
  split at hq
  · cases ru.str
    split at hq
    · cases rv.str
      split at hq
      · rename_i c hc
        exact .inl ⟨c, _, by rw [str_one hc], rfl, k _ S H (Grow.refl e) hq⟩
      · exact .inr (.inl ⟨_, _, rfl, rfl, k _ S H (Grow.refl e) hq⟩)
    · exact hq.elim
  · obtain ⟨h, hq⟩ := hq
    obtain ⟨p, xs, rfl, hx, ra⟩ := ru.lst e
    rcases h with ⟨h1, h2⟩ | ⟨h1, h2⟩
    · obtain ⟨f1, f2⟩ := rv.flat h1
      refine .inr (.inr (.inl ⟨p, xs, rfl, .inl (sq_of hx), f1, ra.flat h2, ?_⟩))
      rw [ra.inV f2 h1 h2]
      exact k _ S H (Grow.refl e) hq
    · refine .inr (.inr (.inr (.inl ⟨_, _, rv.dp e h1, RepT.dp (d := .lst _) e ru h2, h1, h2, ?_⟩)))
      rw [pys_map, List.any_map]
      exact k _ S H (Grow.refl e) hq
  · obtain ⟨⟨h1, h2⟩, hq⟩ := hq
    obtain ⟨p, xs, rfl, hx, _, ra⟩ := ru.tup e
    obtain ⟨f1, f2⟩ := rv.flat h1
    refine .inr (.inr (.inl ⟨p, xs, rfl, .inr hx, f1, ra.flat h2, ?_⟩))
    rw [ra.inV f2 h1 h2]
    exact k _ S H (Grow.refl e) hq
  · split at hq
    · rename_i kk hk
      obtain ⟨p, xs, rfl, hx, ra⟩ := ru.dic e
      refine .inr (.inr (.inr (.inr ⟨p, _, rfl, by rw [rv.key hk]; exact DGet.k hx, ?_⟩)))
      rw [ra.isSome]
      exact k _ S H (Grow.refl e) hq
    · exact hq.elim
  · exact hq.elim
theorem ob_notIn : OpB K g (rNotInAll K) qNotIn := by
  intro S H x y v u P Q e rv ru hq k
  unfold qNotIn qIn at hq
  split at hq
  · cases ru.str
    split at hq
    · cases rv.str
      split at hq
      · rename_i c hc
        exact .inl ⟨c, _, by rw [str_one hc], rfl, k _ S H (Grow.refl e) hq⟩
      · exact .inr (.inl ⟨_, _, rfl, rfl, k _ S H (Grow.refl e) hq⟩)
    · exact hq.elim
  · obtain ⟨h, hq⟩ := hq
    obtain ⟨p, xs, rfl, hx, ra⟩ := ru.lst e
    rcases h with ⟨h1, h2⟩ | ⟨h1, h2⟩
    · obtain ⟨f1, f2⟩ := rv.flat h1
      refine .inr (.inr (.inl ⟨p, xs, rfl, .inl (sq_of hx), f1, ra.flat h2, ?_⟩))
      rw [ra.inV f2 h1 h2]
      exact k _ S H (Grow.refl e) hq
    · refine .inr (.inr (.inr (.inl ⟨_, _, rv.dp e h1, RepT.dp (d := .lst _) e ru h2, h1, h2, ?_⟩)))
      rw [pys_map, List.any_map]
      exact k _ S H (Grow.refl e) hq
  · obtain ⟨⟨h1, h2⟩, hq⟩ := hq
    obtain ⟨p, xs, rfl, hx, _, ra⟩ := ru.tup e
    obtain ⟨f1, f2⟩ := rv.flat h1
    refine .inr (.inr (.inl ⟨p, xs, rfl, .inr hx, f1, ra.flat h2, ?_⟩))
    rw [ra.inV f2 h1 h2]
    exact k _ S H (Grow.refl e) hq
  · split at hq
    · rename_i kk hk
      obtain ⟨p, xs, rfl, hx, ra⟩ := ru.dic e
      refine .inr (.inr (.inr (.inr ⟨p, _, rfl, by rw [rv.key hk]; exact DGet.k hx, ?_⟩)))
      rw [ra.isSome]
      exact k _ S H (Grow.refl e) hq
    · exact hq.elim
  · exact hq.elim
theorem me_in (hu : X.A.units + 65 < cLine) (ha : MO X b a wa) (hb : MO X b c wb) (hm : behindInMarks .In c = false := by rfl) : ME X b (.Compare a [.In] [c] pos) (wCmp qIn wa wb) := me_cmp (op_inAll hu) ob_in ha hb hm
theorem mt_in (hu : X.A.units + 65 < cLine) (ha : MO X b a wa) (hb : MO X b c wb) (hm : behindInMarks .In c = false := by rfl) : MT X b (.Compare a [.In] [c] pos) (wCmpT qIn wa wb) := mt_cmp (op_inAll hu) ob_in ha hb hm
theorem me_notin (hu : X.A.units + 65 < cLine) (ha : MO X b a wa) (hb : MO X b c wb) (hm : behindInMarks .NotIn c = false := by rfl) : ME X b (.Compare a [.NotIn] [c] pos) (wCmp qNotIn wa wb) := me_cmp (op_notInAll hu) ob_notIn ha hb hm
theorem mt_notin (hu : X.A.units + 65 < cLine) (ha : MO X b a wa) (hb : MO X b c wb) (hm : behindInMarks .NotIn c = false := by rfl) : MT X b (.Compare a [.NotIn] [c] pos) (wCmpT qNotIn wa wb) := mt_cmp (op_notInAll hu) ob_notIn ha hb hm
end
end Mi
namespace Mi
open PySem L2 Evl PySem.Spec PyProof.Rows

/-- what the written part says of an exception class C whose own __init__ (at fI, its class cell at cc, its code at cda) says super().__init__(..) first -/
structure SupC (K : PySem.W.Frag) (P : Program) (C cc cda : Addr) : Prop where
  oex : OexC K C
  along : PySem.W.ks_superIn K C C "__init__" = some (some (.builtin "ValueError.__init__"))
  subB : PySem.W.subIn K (.ref C) (.type "ValueError") = some true
  subD : PySem.W.mroIn K C (.ref C) = some true
  opq : PySem.W.nsIn K cStatics "thirdparty.any" = some none
  cell : ∃ cl cld csl, K.lookup cc = some ⟨cl, cld, .cell (some (.ref C)), csl⟩
  code : ∃ ccl cdd ccs vs file tf, K.lookup cda = some ⟨ccl, cdd, .fields vs, ccs⟩ ∧ vs[2]? = some (.str file tf) ∧ ((P.main.file : Str) == file) = true
  top : (P.main.scope.names.lookup ("super" : Str)).isSome = false
  sup : PySem.W.nsIn K mainGlobals "super" = some none

section
variable {X : Cx} {pins : List (Addr × Obj)} {σ : L2.St} {H : Hp} {s : Shared} {a C cc cda f : Addr} {e : Expr} {es rest : List Expr} {body : List Stmt} {ta : TA} {A : Around}
/-- super().__init__(..), evaluated -/
theorem ev_super {q : Str} {scope : Scope} {L : Addr} {oc : Value} {od : Option Addr} {osl : Array (Option Value)} {fd : FuncData} {ar : Arg} {p0 p1 p2 pos : Pos} {Q : Value → Shared → Prop}
    (T : SupC X.K X.prog C cc cda) (I : Inv X pins σ H s) (henv : X.env = PySem.W.ksEnv q scope L f (.ref cda) cc) (hmg : X.mg "super" = none)
    (hf : X.K.lookup f = some ⟨oc, od, .func fd, osl⟩) (hp : (fd.params.posonlyargs ++ fd.params.args).head? = some ar) (hN : X.N[0]? = some ar.arg) (hv : σ[0]? = some (some (.ref a)))
    (hks : scope.names.lookup ("super" : Str) = some .globalImplicit) (hkc : scope.names.lookup ("__class__" : Str) = some .free) (hka : scope.names.lookup ar.arg = some .local) (hk : scope.kind = .function)
    (ha : PA X (e :: es) ta) (hea : H a = some (exo a C none))
    (h : ta σ H fun ws H1 => ws.length ≤ 1000 ∧ H1 a = some (exo a C none) ∧ ∀ s', Inv X pins σ H1 s' → Q .none s')
    (he : starEach (e :: es) X.env = (false, eval e X.env) :: starEach es X.env) (hpl : (backTo pos (starEach es X.env)).any (·.1) = false)
    (pl : Sem Bool) (hev : eval (.Call (.Attribute (.Call (.Name "super" p0) [] [] p1) "__init__" p2) (e :: es) [] pos) X.env = (do
      let ov ← attributeBase (.Call (.Name "super" p0) [] [] p1) "__init__" X.env (eval (.Call (.Name "super" p0) [] [] p1) X.env)
      standAt p2.atName
      let (f, first) ← holding [ov] (getMethod ov "__init__" pl)
      callWith pos f first (backTo pos (starEach (e :: es) X.env)) [])) :
    _root_.PySem.wpAt (model X.prog X.w) X.A (.func body X.env) (eval (.Call (.Attribute (.Call (.Name "super" p0) [] [] p1) "__init__" p2) (e :: es) [] pos) X.env) Q X.xe s := by
  obtain ⟨ccl, cdd, ccs, vs, file, tf, hcode, hvs, hfile⟩ := T.code
  obtain ⟨cl, cld, csl, hcell⟩ := T.cell
  have XK := I.kIn
  refine ks_wpAt_MethodCall ?_ hev
  have kq : ∀ x, X.env.kindOf x = scope.names.lookup x := fun x => by rw [henv] <;> rfl
  have hkX : X.env.scope.kind = .function := I.ok.kind
  obtain ⟨nm, qq, NN, bs, bm, sn, sub, ab, col, dd, k0, k1, k2, k3, k5, hC, hbm⟩ := T.oex.cls
  obtain ⟨t1, hoa⟩ := exo_at I.hok hea
  have hcl : PySem.W.clsIn X.K C = some { name := nm, bases := bs, mro := .ref C :: bm, ns := NN, qualname := qq, hasDict := true, slotNames := sn, subclasses := sub, abstract := ab, collection := col, hasDel := false } := by unfold PySem.W.clsIn; rw [hC] <;> rfl
  refine ks_wpAt_super_base (env := X.env) (f := f) (cc := cda) ((kq _).trans hks) ((kq _).trans hkc) (by decide) (by rw [henv] <;> rfl) (XK _ _ hf) rfl hp (by rw [henv] <;> rfl) (XK _ _ hcode) rfl hvs hfile T.top ?_
  obtain ⟨mb, hb1, hb2⟩ := I.mod.blt
  refine PySem.W.ks_loadName_global hkX ((kq _).trans hks) (Calls.loadGlobal_builtin (by rw [I.ok.glob]; exact I.mod.glob.keeps I.bk) hmg (by rw [I.ok.blt]; exact hb1.keeps I.bk) ((hb2 "super" (by decide)).trans (by decide +kernel : bootBuiltins "super" = some (.type "super"))) ⟨rfl, ?_⟩)
  refine wpAny_loadName_free hkX ((kq _).trans hkc) (c := cc) (by rw [henv] <;> rfl) (v := .ref C) ⟨_, XK _ _ hcell, rfl⟩ ?_
  obtain ⟨m, hns, hlk⟩ := I.loc
  obtain ⟨u, hu, lk⟩ := hlk 0 ar.arg (.ref a) hN hv (.inl (by rw [henv]; exact hka))
  obtain rfl : u = Value.ref a := hu
  have hma : m ar.arg = some (.ref a) := by
    rcases lk with ⟨_, e⟩ | ⟨k, _⟩
    · exact e
    · rcases k with k | k <;> rw [kq, hka] at k <;> cases k
  refine wpAny_loadName_local hkX ((kq _).trans hka) hns hma ?_
  have hCg : s.heap.get? C = some _ := XK _ _ hC
  refine ks_wpAny_isType_cls hCg rfl ⟨rfl, ?_⟩
  obtain ⟨hp0, g, d, t, os⟩ := s
  refine ks_wpAny_call_super hCg rfl hoa rfl (fun c e => by cases e) (PySem.W.looks_mroIn XK T.subD) (fun h1 e1 kp => ?_)
  -- getMethod
  have J1 : Inv X pins σ H ⟨h1, g, d, t, os⟩ := I.kept (t' := t) kp
  have hxC : a ≠ C := fun z => by
    subst z
    have hoa' : hp0.get? a = _ := hoa
    rw [hoa'] at hCg
    have := congrArg (Option.map (·.data)) hCg
    cases this
  have hI : PySem.W.Looks (model X.prog X.w) h1 (isInstance (.ref a) (.type "ValueError")) true :=
    (show PySem.W.InstAt h1 a _ C none from ⟨kp _ _ hoa, rfl, rfl, trivial⟩).type.andThen (PySem.W.looks_subIn J1.kIn T.subB)
  have hal := T.along
  unfold PySem.W.ks_superIn at hal
  rw [hcl] at hal
  refine PySem.W.kxs_getMethod PySem.W.kxs_ValueError e1 (PySem.W.looks_opaque J1.kIn T.opq) (l₀ := .ref C :: bm) (fun A Q E s k q => wpAny_bind ((PySem.W.looks_clsIn J1.kIn hcl) A _ E s k (wpAny_pure q))) rfl J1.kIn hal hI hxC (by decide) ?_
  have hz : h1.objs.size ≤ h1.objs.size := Nat.le_refl _
  have kp2 : ∀ b o, h1.get? b = some o → (h1.push (PySem.W.kxs_mw "ValueError.__init__" a)).get? b = some o := fun b o e => Heap.get?_push_of_some _ e
  have J2 : Inv X pins σ H ⟨h1.push (PySem.W.kxs_mw "ValueError.__init__" a), g, d, t + 1, os⟩ := J1.kept (t' := t + 1) kp2
  have hg2 : (h1.push (PySem.W.kxs_mw "ValueError.__init__" a)).get? h1.objs.size = some (PySem.W.kxs_mw "ValueError.__init__" a) := Heap.get?_push_at rfl rfl
  have hL : h1.objs.size ≠ X.env.locals := fun z => by
    obtain ⟨mm, hn2, _⟩ := J1.loc
    obtain ⟨o, _, _, ho, _⟩ := hn2
    have := Heap.lt_size (show h1.get? X.env.locals = some o from ho)
    rw [← z] at this
    exact Nat.lt_irrefl _ this
  have J3 : Inv X ((h1.objs.size, PySem.W.kxs_mw "ValueError.__init__" a) :: pins) σ H ⟨h1.push (PySem.W.kxs_mw "ValueError.__init__" a), g, d, t + 1, os⟩ := J2.pins_of fun p hp => by
    rcases List.mem_cons.mp hp with rfl | hp
    · exact ⟨hg2, J1.hok.fresh hz, hL, J1.nofs hz, fun v z => by cases z⟩
    · exact J2.pin p (List.mem_append_right _ hp)
  rw [he]
  refine PySem.W.kxs_callWith (i := "ValueError.__init__") (x := a) (by show (false || (backTo pos (starEach es X.env)).any (·.1)) = false; rw [hpl]; rfl) (PySem.Calls.evalArgs_plain ?_)
  have hrun := ha.run pos _ _ σ H _ J3 h
  rw [he] at hrun
  refine thn hrun fun us s1 hh => ?_
  obtain ⟨ws, H1, I1, r1, hlen, hea1, hQ⟩ := hh
  have hmw : s1.heap.get? h1.objs.size = some (PySem.W.kxs_mw "ValueError.__init__" a) := (I1.pin (h1.objs.size, PySem.W.kxs_mw "ValueError.__init__" a) (List.mem_append_right _ List.mem_cons_self)).1
  refine ⟨hmw, ?_⟩
  have I2 : Inv X pins σ H1 s1 := I1.pins_of fun p hp => I1.pin p (List.mem_append_right _ (List.mem_cons_of_mem _ hp))
  have XK2 := I2.kIn
  obtain ⟨t2, hoa2⟩ := exo_at I2.hok hea1
  have hus : us.length ≤ sizeLine := by
    rw [← Paired.length r1, sizeLine_eq]; omega
  obtain ⟨hh, g1, d1, tk1, os1⟩ := s1
  show wpAny _ _ (call (.ref h1.objs.size) ([] ++ us)) _ _ _
  rw [List.nil_append]
  refine wpAny_call (codeAny_of_tree ?_)
  show wpAny _ X.A.in1 (callAny (.ref h1.objs.size) ⟨us, []⟩) _ _ _
  simp only [callAny]
  refine wpAny_bind (wpAny_load hmw ?_)
  simp only [PySem.W.kxs_mw, show (Value.type "method-wrapper" == Value.type "method" || Value.type "method-wrapper" == Value.type "builtin_function_or_method" || Value.type "method-wrapper" == Value.type "method-wrapper") = true by decide, if_true]
  refine PySem.W.KFB.if_so (by decide) ?_
  refine wpAny_bind (PySem.W.check_bound_init PySem.F.excBase_ValueError.toExcCallFacts (XK2 _ _ hC) hoa2 rfl ?_)
  refine wpAny_bind (wpAny_pure (wpAny_pure ?_))
  refine ⟨plainId_quiet PySem.F.excBase_ValueError.init.plain _, codeAny_builtin PySem.F.excBase_ValueError.initEntry ?_⟩
  refine PySem.W.exc_init_tree (cls := .ref C) (t0 := t2) (dv := none) (c2 := .none) (c3 := .none) (b4 := .bool false) hoa2 hus fun h' k' hx' ht' => ?_
  have J := I2.write (t' := tk1) (x := a) (e := a) (o := exo a C none) (by rw [hea1]; exact True.intro) (.inl rfl) k' ⟨_, hx'⟩ (exo_ok hx')
  have eu : upd H1 a (exo a C none) = H1 := by
    funext b
    by_cases hb : b = a
    · rw [hb, upd_same, hea1]
    · rw [upd_ne hb]
  rw [eu] at J
  exact hQ _ J
end

/-- THE RULE: an __init__ that says super().__init__(..) first -/
theorem fn_super {CX : CXT} {P : Program} {w : World} {K : PySem.W.Frag} {mg : Str → Option Value} {base : Heap} {k : Nat} {f C cc cda : Addr} {name qual : Str} {params : Arguments} {scope : Scope} {dV kV doc pm ct oc : Value} {an od : Option Addr}
    {osl : Array (Option Value)} {N ps : List Str} {sp : Sp} {e : Expr} {es : List Expr} {rest : List Stmt} {p0 p1 p2 pos spos : Pos} {ar : Arg} {pl : PySem.Env → Sem Bool}
    (T : SupC K P C cc cda) (hmg : mg "super" = none)
    (lk : K.lookup f = some ⟨oc, od, .func (PySem.W.ksFn name qual params (.Expr (.Call (.Attribute (.Call (.Name "super" p0) [] [] p1) "__init__" p2) (e :: es) [] pos) spos :: rest) scope dV kV doc pm an (.ref cda) ct cc), osl⟩)
    (hcd : PySem.W.codeIn K (.ref cda) qual = true) (S : NdefX.NScope N ps ["__class__"] scope)
    (hp : (params.posonlyargs ++ params.args).head? = some ar) (hN : N[0]? = some ar.arg) (hka : scope.names.lookup ar.arg = some .local) (hks : scope.names.lookup ("super" : Str) = some .globalImplicit)
    (len : ∀ vs H Q E, sp vs H Q E → vs.length = ps.length)
    (hbody : ∀ (A : Around) (outer : List PySem.Env) (s : Shared) (H : Hp) (vs : List V) (Q : VK) (E : XK), sp vs H Q E →
      ∃ a ta t, vs[0]? = some (.ref a) ∧ H a = some (exo a C none) ∧
        PA (NdefX.ncx CX P w K mg base N ⟨name, qual, params, [], scope, [("__class__", cc)], cda⟩ f A outer s H E) (e :: es) ta ∧
        PSs (NdefX.ncx CX P w K mg base N ⟨name, qual, params, [], scope, [("__class__", cc)], cda⟩ f A outer s H E) rest t ∧
        ∀ R : List V → Hp → Prop, (∀ ws H1, ws.length ≤ 1000 → H1 a = some (exo a C none) → t { nx := fun _ H' => Q .non H', rt := Q } (NdefX.startF N vs [none]) H1 → R ws H1) → ta (NdefX.startF N vs [none]) H R)
    (he : ∀ env, starEach (e :: es) env = (false, eval e env) :: starEach es env) (hpl : ∀ env, (backTo pos (starEach es env)).any (·.1) = false)
    (hev : ∀ env, eval (.Call (.Attribute (.Call (.Name "super" p0) [] [] p1) "__init__" p2) (e :: es) [] pos) env = (do
      let ov ← attributeBase (.Call (.Name "super" p0) [] [] p1) "__init__" env (eval (.Call (.Name "super" p0) [] [] p1) env)
      standAt p2.atName
      let (f, first) ← holding [ov] (getMethod ov "__init__" (pl env))
      callWith pos f first (backTo pos (starEach (e :: es) env)) []))
    (hsw : ∀ env, swapsWith (.Call (.Attribute (.Call (.Name "super" p0) [] [] p1) "__init__" p2) (e :: es) [] pos) none spos.line env = pure false)
    (hint : ∀ L, interactive (PySem.W.ksEnv qual scope L f (.ref cda) cc) = false) :
    FnOk P w K mg base CX (k + 1) f (PySem.W.ksFn name qual params (.Expr (.Call (.Attribute (.Call (.Name "super" p0) [] [] p1) "__init__" p2) (e :: es) [] pos) spos :: rest) scope dV kV doc pm an (.ref cda) ct cc) ps sp := by
  refine ⟨len, fun A outer s H args us vs Q E hr e0 hb r hsp => ?_⟩
  have hl := len _ _ _ _ hsp
  have KX : K.In s.heap := e0.mod.kin.keeps fun b o e => (e0.bs b o e).1
  have lim : s.heap.NoLimit := e0.mod.nolimit.keeps fun b o e => (e0.bs b o e).1
  have hloc : ∀ y ∈ ps.zip us, scope.names.lookup y.1 = some .local := fun ⟨n, v⟩ hy => S.par n (List.of_mem_zip hy).1
  obtain ⟨cl, cld, csl, hcell⟩ := T.cell
  have hcc : ∀ y c, List.lookup y [(("__class__" : Str), cc)] = some c → c = cc := fun y c z => by
    simp only [List.lookup] at z
    split at z
    · exact (Option.some.inj z).symm
    · cases z
  have CA : NdefX.CellsAt [(("__class__" : Str), cc)] ["__class__"] [none] s.heap H := {
    len := rfl
    all := fun y c z => by
      obtain rfl := hcc y c z
      exact ⟨(e0.bs _ _ (e0.mod.kin _ _ hcell)).2, _, ⟨_, KX _ _ hcell, rfl⟩⟩
    inj := fun x y c zx zy => by
      have hx : x = "__class__" := by
        simp only [List.lookup] at zx
        split at zx
        · rename_i q; exact eq_of_beq q
        · cases zx
      have hy : y = "__class__" := by
        simp only [List.lookup] at zy
        split at zy
        · rename_i q; exact eq_of_beq q
        · cases zy
      rw [hx, hy]
    has := fun i y hi => by
      cases i with
      | zero =>
        cases hi
        exact ⟨cc, rfl, fun v z => by cases z⟩
      | succ i => simp at hi }
  refine ks_codeAny_call_defAt (binds := ps.zip us) hr.depth (KX _ _ lk) rfl lim (PySem.W.codeRec_of KX hcd) rfl hb S.nocell hloc (fun h₁ hns kp => ?_) S.co S.gen S.kind
  have I : Inv (NdefX.ncx CX P w K mg base N ⟨name, qual, params, [], scope, [("__class__", cc)], cda⟩ f A outer s H E) [] (NdefX.startF N vs [none]) H { s with heap := h₁, toks := s.toks + (ps.zip us).length } :=
    NdefX.inv_startN (F := ⟨name, qual, params, [], scope, [("__class__", cc)], cda⟩) S hr.hd e0 hl r CA hns kp
  obtain ⟨a, ta, t, ha0, hea, hta, ht, hq⟩ := hbody A outer s H vs Q E hsp
  have hv : (NdefX.startF N vs [none])[0]? = some (some (V.ref a)) := by
    unfold NdefX.startF
    have h0 : 0 < vs.length := by
      cases vs with
      | nil => cases ha0
      | cons _ _ => exact Nat.succ_pos _
    rw [List.getElem?_append_left (by rw [List.length_map]; exact h0), List.getElem?_map, ha0]
    rfl
  have fin : ∀ {σ' : L2.St} {H' : Hp} {v : V} {u : Value} {s'}, Inv (NdefX.ncx CX P w K mg base N ⟨name, qual, params, [], scope, [("__class__", cc)], cda⟩ f A outer s H E) [] σ' H' s' → RelV v u → Q v H' → CE outer P w H s Q u s' :=
    fun {σ' H' v u s'} J rv q => ⟨v, H', J.os, J.bare, J.base, J.hok, rv, q⟩
  refine ks_wpAt_execs_cons (ks_wpAt_Expr_any (ev_super (X := NdefX.ncx CX P w K mg base N ⟨name, qual, params, [], scope, [("__class__", cc)], cda⟩ f A outer s H E) T I rfl hmg lk hp hN hv hks (S.frk _ List.mem_cons_self) hka S.kind hta hea ?_ (he _) (hpl _) _ (hev _)) (hint _) (hsw _))
  refine hq _ fun ws H1 h1 h2 h3 => ⟨h1, h2, fun s' J => ?_⟩
  refine _root_.PySem.wpAt_of_wpAny (wpAny_mono (ht.run [] s' _ H1 _ J h3) (fun fl s' hs => ?_) fun e s' hs => hs)
  cases fl with
  | ret u =>
    obtain ⟨v, σ', H', J, rv, q⟩ := hs
    exact fin J rv q
  | next =>
    obtain ⟨σ', H', J, q⟩ := hs
    exact fin (v := V.non) (u := Value.none) J rfl q
  | brk =>
    obtain ⟨_, _, _, q⟩ := hs
    exact False.elim q
  | cont =>
    obtain ⟨_, _, _, q⟩ := hs
    exact False.elim q
end Mi
namespace Mi
open PySem L2 Evl PySem.Spec PyProof.Rows
/-- isinstance(e, c) of a caught exception that has its dict -/
theorem call_isX {X : Cx} {a D dd : Addr} {oe : Obj} {pn : List (Addr × Obj)} (C : ExcC X.K D) (hz : Zc (.ref D) (some dd) oe) (hf : ∃ vs, oe.data = .fields vs) :
    CallR (X.suite a ((a, oe) :: pn)) (.builtin "isinstance") (fun xs H Q => (∃ fs, H dd = some (.xd fs)) ∧ rIsE X.K D a xs H Q) := by
  intro pins s σ H xs us Q I r ⟨⟨fs, hdd⟩, hh⟩
  obtain ⟨c, cv, ans, rfl, hcv, hk, hq⟩ := hh
  obtain ⟨u1, u2, rfl, r1, r2⟩ : ∃ u1 u2, us = [u1, u2] ∧ RelV (.ref a) u1 ∧ RelV c u2 := by
    cases r with
    | cons r1 rr => cases rr with
      | cons r2 rr => cases rr; exact ⟨_, _, rfl, r1, r2⟩
  obtain rfl : u1 = Value.ref a := r1
  obtain rfl := hcv _ r2
  have hpin := (I.pin (a, oe) (List.mem_append.mpr (.inl List.mem_cons_self))).1
  obtain ⟨vs, hv⟩ := hf
  obtain ⟨mA, hns, _⟩ : ObjOk X.prog X.w H s.heap dd (.xd fs) := I.hok dd _ hdd
  obtain ⟨od, ho, _⟩ := lookIn_ns hns
  have J : PySem.W.InstAt s.heap a oe D (some od) := ⟨hpin, hz.1, by unfold PySem.W.notCls; rw [hv] <;> rfl, by rw [hz.2]; exact ho⟩
  have hcl : (PySem.W.clsIn X.K D).isSome = true := by
    obtain ⟨cd, hc, _⟩ := PySem.W.any_some C.hd
    rw [hc]; rfl
  exact PySem.W.kia_one (PySem.W.kitx_exc hcl C.hg C.hk C.hs C.ha C.hn C.ht C.hm) I.kIn J hk (fun z => nomatch z) fun tk => ⟨.bl ans, H, I.kept (t' := tk) (fun _ _ z => z), rfl, hq⟩
end Mi
namespace Mi
open PySem L2 Evl PySem.Spec PyProof.Rows

/-! ### own exceptions, made -/
/-- what an __init__ that notes its arguments in the fields fs promises -/
def spInit (C : Addr) (fs : List Str) : Sp := fun vs H Q _ => ∃ a ws, vs = .ref a :: ws ∧ ws.length = fs.length ∧ H a = some (exo a C none) ∧
  ∀ (d : Addr) (H2 : Hp), H2 a = some (exo a C (some d)) → H2 d = some (exd d (fs.zip ws).reverse) → H d = none → (∀ b, b ≠ a → b ≠ d → H2 b = H b) → Q .non H2
/-- an own exception's class, with its __init__ -/
structure OwnX (P : Program) (w : World) (K : PySem.W.Frag) (mg : Str → Option Value) (base : Heap) (x : Str) (C : Addr) (fs : List Str) (k : Nat) : Prop where
  oex : OexC K C
  out : ∃ fI fd ps, PySem.W.findIn K (.ref C) "__init__" = some (some (.ref fI)) ∧ PySem.W.typeIn K (.ref fI) = some (.type "function") ∧ FnOk P w K mg base CX0 k fI fd ps (spInit C fs) ∧ Binds K fd ps []
  mgC : mg x = some (.ref C)

section
variable {X : Cx} {b : Bs} {K : PySem.W.Frag} {g : G} {S S' H H' : Hp} {δ : Env} {σ : L2.St} {e a c d2 e' : Expr} {es rest : List Expr} {w wa wb wc : WE} {wr : WA} {pos p tpos p2 : Pos} {x : Str} {ct : CT} {k : Nat} {C : Addr} {fs : List Str}
theorem RepF.zip : ∀ {fs : List Str} {vs : List V} {ds : List D}, RepA K g S vs ds → RepF K g S (fs.zip vs) (fs.zip ds)
  | [], _, _, _ => by simp; exact .nil
  | _ :: _, _, _, .nil => by simp; exact .nil
  | f :: fs, _, _, .cons h r => by simp only [List.zip_cons_cons]; exact .cons h (RepF.zip r)
theorem RepF.snoc {f : Str} {v : V} {d : D} (h : Rep K g S v d) : ∀ {vs : List (Str × V)} {ds : List (Str × D)}, RepF K g S vs ds → RepF K g S (vs ++ [(f, v)]) (ds ++ [(f, d)])
  | _, _, .nil => .cons h .nil
  | _, _, .cons q r => .cons q (RepF.snoc h r)
theorem RepF.rev : ∀ {vs : List (Str × V)} {ds : List (Str × D)}, RepF K g S vs ds → RepF K g S vs.reverse ds.reverse
  | _, _, .nil => .nil
  | _, _, .cons q r => by rw [List.reverse_cons, List.reverse_cons]; exact RepF.snoc q (RepF.rev r)
theorem RepF.mono (e : Ex S S') : ∀ {vs : List (Str × V)} {ds : List (Str × D)}, RepF K g S vs ds → RepF K g S' vs ds
  | _, _, .nil => .nil
  | _, _, .cons q r => .cons (q.mono e) (RepF.mono e r)
theorem lookup_cons {α : Type} (f g : Str) (y : α) (fs : List (Str × α)) : ((f, y) :: fs).lookup g = if g = f then some y else fs.lookup g := by
  by_cases h : g = f
  · subst h
    simp [List.lookup]
  · have e : (g == f) = false := by simpa using h
    rw [if_neg h]
    simp [List.lookup, e]
theorem RepF.get {f : Str} {d : D} : ∀ {vs : List (Str × V)} {ds : List (Str × D)}, RepF K g S vs ds → ds.lookup f = some d → ∃ v, vs.lookup f = some v ∧ Rep K g S v d
  | _, _, .nil, h => by cases h
  | _, _, .cons (f := f') q r, h => by
    rw [lookup_cons] at h ⊢
    by_cases hf : f = f'
    · rw [if_pos hf] at h ⊢
      cases h
      exact ⟨_, rfl, q⟩
    · rw [if_neg hf] at h ⊢
      exact RepF.get r h

def wRaise (C : Addr) (fs : List Str) (wr : WA) : WS := fun δ EX _ => wr δ EX fun ds => ds.length = fs.length ∧ ds.length ≤ 1000 ∧ EX ⟨C, (fs.zip ds).reverse, false⟩
theorem ms_raise (hc : X.calm = true) (tk : Takes X fun cls d _ H => EWish X.K b cls d H) (Z : OwnX X.prog X.w X.K X.mg X.base x C fs k) (hr : Room (k + 1) X.A) (hg : Gl X x) (ha : MA X b (a :: es) wr) (hdb : (x == ("__debug__" : Str)) = false := by decide)
    (he : starEach (a :: es) X.env = (false, eval a X.env) :: starEach es X.env := by rfl) (hpl : (backTo pos (starEach es X.env)).any (·.1) = false := by rfl) : MS X b (.Raise (some (.Call (.Name x p) (a :: es) [] pos)) none p2) (wRaise C fs wr) := by
  obtain ⟨fI, fd, ps, iC, tI, F1, hb⟩ := Z.out
  refine PS.imp (ps_raise hc tk (pmk_oex Z.oex iC tI F1 hr hb .nil pass0 hg Z.mgC ha hdb he hpl)) fun Dn σ H ⟨S, δ, Co, I, hw, k⟩ => ?_
  refine ⟨S, δ, _, I, hw, fun ds vs S1 H1 g1 r1 ⟨hl, hl2, hE⟩ => ⟨by rw [r1.len]; exact hl2, fun q hq => ?_⟩⟩
  refine ⟨q, vs, by rw [List.append_nil], by rw [r1.len]; exact hl, upd_same, fun d H2 h1 h2 h3 h4 => ⟨rfl, d, _, h1, h2, ?_, ?_⟩⟩
  · by_cases hdq : d = q
    · rw [hdq]; exact hq
    · rw [upd_ne hdq] at h3; exact h3
  · have hdq : d ≠ q := fun z => by rw [z, upd_same] at h3; cases h3
    have hd1 : H1 d = none := by rw [upd_ne hdq] at h3; exact h3
    have ex : Ex H1 (upd (L2.del H2 q) d (.xd (fs.zip vs).reverse)) := fun p o e => by
      have n1 : p ≠ d := fun z => by rw [z, hd1] at e; cases e
      have n2 : p ≠ q := fun z => by rw [z, hq] at e; cases e
      rw [upd_ne n1, del_ne n2, h4 p n2 n1, upd_ne n2]
      exact e
    have J := I.grow g1
    exact ⟨⟨C, _, false⟩, S1, hE, ⟨rfl, by rw [if_neg Bool.false_ne_true]; exact ⟨d, _, rfl, upd_same, (RepF.zip r1).rev⟩⟩, J.s0, g1.sh.trans ex, J.h0.trans ex, J.old⟩

/-! ### calls that may raise -/
theorem me_callX (Z : CalX X.prog X.w X.K X.mg X.base b.g false x k ct) (tk : Takes X fun cls d _ H => EWish X.K b cls d H) (hr : Room k X.A) (hg : Gl X x) (ha : MA X b (a :: es) wr) (hdb : (x == ("__debug__" : Str)) = false := by decide)
    (he : starEach (a :: es) X.env = (false, eval a X.env) :: starEach es X.env := by rfl) (hpl : (backTo pos (starEach es X.env)).any (·.1) = false := by rfl) : ME X b (.Call (.Name x p) (a :: es) [] pos) (wCallX ct wr) := by
  obtain ⟨f, fd, ps, F, hm, hk, hb⟩ := Z.out
  refine PE.imp (pe_call F hr hg hm hk hb .nil (passes_call tk (E := EWish X.K b) fun _ _ _ _ h => h) ha hdb he hpl) fun σ H Q ⟨S, δ, P, I, hw, k⟩ => ?_
  refine ⟨S, δ, _, I, hw, fun ds vs S1 H1 g1 r1 h1 => ?_⟩
  refine ⟨S1, ds, _, P, g1.sh, by rw [List.append_nil]; exact r1, h1, fun d v S2 H2 rt hd => ?_, fun cls d H' z => ?_⟩
  · have r := rt.r
    rw [if_neg Bool.false_ne_true] at r
    exact k d v S2 H2 (g1.trans (rt.grow g1.sh)) r hd
  · obtain ⟨y, S', hx, hl, s0, sh, h0, old⟩ := z.out
    have J := I.grow g1
    exact ⟨y, S', hx, hl, J.s0.trans s0, sh, J.h0.trans h0, fun p o e => (old p o (J.h0 p o e)).trans (J.old p o e)⟩
theorem mf_callX (Z : CalX X.prog X.w X.K X.mg X.base b.g true x k ct) (tk : Takes X fun cls d _ H => EWish X.K b cls d H) (hr : Room k X.A) (hg : Gl X x) (ha : MA X b (a :: es) wr) (hdb : (x == ("__debug__" : Str)) = false := by decide)
    (he : starEach (a :: es) X.env = (false, eval a X.env) :: starEach es X.env := by rfl) (hpl : (backTo pos (starEach es X.env)).any (·.1) = false := by rfl) : MF X b (.Call (.Name x p) (a :: es) [] pos) (wCallX ct wr) := by
  obtain ⟨f, fd, ps, F, hm, hk, hb⟩ := Z.out
  refine PE.imp (pe_call F hr hg hm hk hb .nil (passes_call tk (E := EWish X.K b) fun _ _ _ _ h => h) ha hdb he hpl) fun σ H Q ⟨S, δ, P, I, hw, k⟩ => ?_
  refine ⟨S, δ, _, I, hw, fun ds vs S1 H1 g1 r1 h1 => ?_⟩
  refine ⟨S1, ds, _, P, g1.sh, by rw [List.append_nil]; exact r1, h1, fun d v S2 H2 rt hd => ?_, fun cls d H' z => ?_⟩
  · have r := rt.r
    rw [if_pos rfl] at r
    obtain ⟨q, rfl, h0, s0, o⟩ := r
    exact k d q S2 H2 (g1.trans (rt.grow g1.sh)) (none_of_ex g1.h h0) s0 o hd
  · obtain ⟨y, S', hx, hl, s0, sh, h0, old⟩ := z.out
    have J := I.grow g1
    exact ⟨y, S', hx, hl, J.s0.trans s0, sh, J.h0.trans h0, fun p o e => (old p o (J.h0 p o e)).trans (J.old p o e)⟩
/-- a callee that may raise, in a def that raises nothing -/
theorem takes_never {EX : Exc → Prop} (h : ∀ x, ¬ EX x) (hb : b.EX = EX) : Takes X fun cls d _ H => EWish X.K b cls d H := (takes0 (X := X)).imp fun c d σ H z => by
  obtain ⟨y, S', hx, _⟩ := z.out
  rw [hb] at hx
  exact h y hx
end

/-! ### a def that may raise -/
section
variable {P : Program} {w : World} {K : PySem.W.Frag} {mg : Str → Option Value} {base : Heap} {g : G}
theorem Fun.dataX {x qual : Str} {st : Stmt} {f : Addr} {fd : FuncData} {N ps : List Str} {k : Nat} {c : CT} {fr : Bool} {wd : WS} (F : Fun K x qual st f fd) (Sc : FnScope N ps (defScope st)) (hlen : ∀ ds EX P, c ds EX P → ds.length = ps.length)
    (hbody : ∀ (cdv : Value) (A : Around) (outer : List PySem.Env) (s : Shared) (H : Hp) (E : XK) (S0 H0 : Hp) (EX : Exc → Prop), Room k (A.deeper (envOfC qual (defScope st) s.heap.objs.size f cdv)) →
      Takes (cxOf (L2.CX P w) P w K mg base N qual (defScope st) f cdv A outer s H E) (fun cls d _ H => EWish K ⟨g, S0, H0, EX, fr⟩ cls d H) →
      PassesOwn (model P w) (cxOf (L2.CX P w) P w K mg base N qual (defScope st) f cdv A outer s H E).A (cxOf (L2.CX P w) P w K mg base N qual (defScope st) f cdv A outer s H E).env (cxOf (L2.CX P w) P w K mg base N qual (defScope st) f cdv A outer s H E).xe →
      MSs (cxOf (L2.CX P w) P w K mg base N qual (defScope st) f cdv A outer s H E) ⟨g, S0, H0, EX, fr⟩ (defBody st) wd)
    (hw : ∀ ds EX Q, c ds EX Q → wd (startE N ds) EX { nx := fun _ => fr = false ∧ Q .non, rt := Q }) : FnOk P w K mg base (L2.CX P w) (k + 1) f fd ps (spD K g fr c) := by
  refine F.okX Sc (fun vs H Q E h => ?_) (fun cdv A outer s H vs Q E hr h => ?_)
  · obtain ⟨S, ds, EX, P, e, r, h, _⟩ := h
    rw [r.len]
    exact hlen _ _ _ h
  · obtain ⟨S, ds, EX, P', e, r, h, hret, hexc⟩ := h
    refine ⟨_, hbody cdv A outer s H E S H EX hr ((takes_of rfl rfl rfl rfl).imp fun cls d _ H' z => hexc cls d H' z) (passes_of rfl), S, startE N ds, _, rep_start e r, hw ds EX P' h, ?_, ?_, ?_, ?_⟩
    · intro δ' σ' S' H' e' I' ⟨hf, h'⟩
      refine hret .non .non S' H' ⟨I'.s0, I'.h0, I'.sh, I'.old, ?_⟩ h'
      subst hf
      rw [if_neg Bool.false_ne_true]
      exact .non
    · intro d v S' H' rt hd
      exact hret d v S' H' ⟨rt.s, rt.h, rt.sh, rt.old, rt.r⟩ hd
    · exact fun _ _ _ _ _ _ z => z.elim
    · exact fun _ _ _ _ _ _ z => z.elim
end

/-! ### try: body, except X as n: if isinstance(n, Y): return ..; return n.f -/
section
variable {X : Cx} {b : Bs} {δ : Env} {σ : L2.St} {H : Hp} {x y n f : Str} {i : Nat} {C CY : Addr} {wb : WS} {body b0 : List Stmt} {np nq p1 p2 p3 p4 p5 p6 p7 p8 pos pos' pY : Pos}
/-- facts of the classes in the clause -/
structure ExcTwo (K : PySem.W.Frag) (C CY : Addr) : Prop where
  excC : ExcC K C
  xf : XfC K C
  tyC : PySem.W.typeIn K (.ref C) = some (.type "type")
  subC : PySem.W.subIn K (.ref C) (.ref C) = some true
  kit : PySem.W.kitOne K (.ref C) (.ref CY) = some false
def tMixed (i : Nat) (C : Addr) (f : Str) (a : Addr) (cls : Value) (d : Option Addr) : TS := fun Dn σ H => σ[i]? = some (some (.ref a)) ∧ cls = .ref C ∧ ∃ dd fs v, d = some dd ∧ H dd = some (.xd fs) ∧ fs.lookup f = some v ∧ Dn.rt v H
theorem suite_mixed {a : Addr} {oe : Obj} {cls : Value} {d : Option Addr} {pn : List (Addr × Obj)} (T : ExcTwo X.K C CY) (hno : PySem.W.findIn X.K (.ref C) f = some none) (hz : Zc cls d oe) (hf : ∃ vs, oe.data = .fields vs)
    (hgi : Gl X "isinstance") (hmi : X.mg "isinstance" = none) (hgy : Gl X y) (hmy : X.mg y = some (.ref CY)) (hN : X.N[i]? = some n) (hv : Vis X.env.scope n) (hdn : (n == ("__debug__" : Str)) = false) (hcn : (n == ("__classdict__" : Str)) = false) (hdy : (y == ("__debug__" : Str)) = false)
    (hs1 : starEach [.Name n p2, .Name y pY] X.env = (false, eval (.Name n p2) X.env) :: starEach [.Name y pY] X.env) (hs2 : starEach [.Name y pY] X.env = (false, eval (.Name y pY) X.env) :: starEach [] X.env) (hpl : (backTo p3 (starEach [.Name y pY] X.env)).any (·.1) = false)
    (hpl2 : ∀ q, (backTo q (starEach ([] : List Expr) X.env)) = [])
    (ht : ∀ whole, isTrue (.Call (.Name "isinstance" p1) [.Name n p2, .Name y pY] [] p3) X.env whole = (do let v ← whole; standAt (Expr.pos (.Call (.Name "isinstance" p1) [.Name n p2, .Name y pY] [] p3)); holding [v] (truthy v)))
    (hb : attributeBase (.Name n p5) f X.env (eval (.Name n p5) X.env) = eval (.Name n p5) X.env) :
    PSs (X.suite a ((a, oe) :: pn)) [.If (.Call (.Name "isinstance" p1) [.Name n p2, .Name y pY] [] p3) b0 [] p4, .Return (some (.Attribute (.Name n p5) f p6)) p7] (tMixed i C f a cls d) := by
  refine ⟨fun pins s σ H D I h => ?_⟩
  obtain ⟨hσ, rfl, dd, fs, v, rfl, hdd, hl, hD⟩ := h
  have hvar : ∀ p, PE (X.suite a ((a, oe) :: pn)) (.Name n p) (tVar i) := fun p => pe_var hN hv hdn hcn
  have pa : PA (X.suite a ((a, oe) :: pn)) [.Name n p2, .Name y pY] _ := pa_cons (hvar p2) (pa_cons (pe_glob (X := X.suite a ((a, oe) :: pn)) (v := .ref CY) hgy hmy rfl hdy) pa_nil hs2) hs1
  have pI := pe_callB (X := X.suite a ((a, oe) :: pn)) (p := p1) (call_isX T.excC hz hf) hgi hmi boot_isi' pa (he := hs1) (hpl := hpl)
  have q := pss_cons (ps_if (pt_truth pI ht) (pss_never (sts := b0)) (pss_nil) (pos := p4)) (pss_one (ps_ret (pe_xf T.xf hno hz hf (hvar p5) hb (pos := p6)) (pos := p7)))
  refine q.run pins s σ H D I ?_
  refine ⟨_, hσ, ⟨_, hdd⟩, .ref CY, .ref CY, false, rfl, fun u h => h, T.kit, ?_⟩
  refine ⟨false, rfl, ?_⟩
  show (if false = true then _ else _)
  rw [if_neg Bool.false_ne_true]
  exact ⟨_, hσ, rfl, rfl, dd, fs, v, rfl, hdd, hl, hD⟩

theorem Takes.impN {W W' : WX} (t : Takes X W) (h : ∀ c d σ H, σ.length = X.N.length → W' c d σ H → W c d σ H) : Takes X W' := fun u s' ⟨a, B, sI, pins, σ, H, cls, d, e, I, nb, up, sky, na, os, ag, w⟩ =>
  t u s' ⟨a, B, sI, pins, σ, H, cls, d, e, I, nb, up, sky, na, os, ag, h _ _ _ _ I.len w⟩
def EXW (K : PySem.W.Frag) (b : Bs) (n : Nat) (W : WX) (z : Exc) : Prop := ∀ cls d σ S' H', σ.length = n → ExcAt K b.g z cls d S' H' → Ex b.S0 S' → Ex S' H' → Ex b.H0 H' → (∀ p o, b.H0 p = some o → S' p = b.S0 p) → W cls d σ H'
theorem StR.ex {K : PySem.W.Frag} {S : Hp} {EX : Exc → Prop} (I : StR K b δ σ S H) : StR K { b with EX := EX } δ σ S H := ⟨I.sh, I.h0, I.s0, I.old, I.len, I.slot, I.sep⟩
theorem StR.unex {K : PySem.W.Frag} {S : Hp} {EX : Exc → Prop} (I : StR K { b with EX := EX } δ σ S H) : StR K b δ σ S H := ⟨I.sh, I.h0, I.s0, I.old, I.len, I.slot, I.sep⟩
def wTryM (C : Addr) (f : Str) (wb : WS) : WS := fun δ EX Co => ∀ EX' : Exc → Prop, (∀ z : Exc, z.cls = C → z.bare = false → ∀ d, z.fs.lookup f = some d → Co.rt d → EX' z) → wb δ EX' Co
theorem ms_tryMixed (hfr : b.fr = false) (i : Nat) (T : ExcTwo X.K C CY) (hno : PySem.W.findIn X.K (.ref C) f = some none) (hmi : X.mg "isinstance" = none) (hmy : X.mg y = some (.ref CY)) (hmx : X.mg x = some (.ref C)) (hNd : X.N.Nodup)
    (hbody : ∀ (pn : List (Addr × Obj)) (xe : Value → Shared → Prop) (EX' : Exc → Prop), Takes (X.tr pn xe) (fun cls d _ H => EWish X.K { b with EX := EX' } cls d H) → PassesOwn (model X.prog X.w) X.A X.env xe → MSs (X.tr pn xe) { b with EX := EX' } body wb)
    (hs : X.stack = X.env :: X.outer := by rfl) (hf : X.env.frame = some X.env.locals := by rfl) (hi : X.N[i]? = some n := by rfl) (hln : X.env.kindOf n = some .local := by rfl) (hgx : Gl X x := by rfl)
    (hgi : Gl X "isinstance" := by rfl) (hgy : Gl X y := by rfl) (hdx : (x == ("__debug__" : Str)) = false := by decide) (hdn : (n == ("__debug__" : Str)) = false := by decide) (hcn : (n == ("__classdict__" : Str)) = false := by decide) (hdy : (y == ("__debug__" : Str)) = false := by decide)
    (hs1 : starEach [.Name n p2, .Name y pY] X.env = (false, eval (.Name n p2) X.env) :: starEach [.Name y pY] X.env := by rfl) (hs2 : starEach [.Name y pY] X.env = (false, eval (.Name y pY) X.env) :: starEach [] X.env := by rfl) (hpl : (backTo p3 (starEach [.Name y pY] X.env)).any (·.1) = false := by rfl)
    (ht : ∀ whole, isTrue (.Call (.Name "isinstance" p1) [.Name n p2, .Name y pY] [] p3) X.env whole = (do let v ← whole; standAt (Expr.pos (.Call (.Name "isinstance" p1) [.Name n p2, .Name y pY] [] p3)); holding [v] (truthy v)) := by intro _; rfl)
    (hb : attributeBase (.Name n p5) f X.env (eval (.Name n p5) X.env) = eval (.Name n p5) X.env := by rfl) :
    MS X b (.Try body [.ExceptHandler (some (.Name x np)) (some n) [.If (.Call (.Name "isinstance" p1) [.Name n p2, .Name y pY] [] p3) b0 [] p4, .Return (some (.Attribute (.Name n p5) f p6)) p7] pos'] [] [] pos) (wTryM C f wb) := by
  refine PS.imp (ps_try_as hs hf hNd hi hln ⟨hgx, hdx, .inl hmx⟩ takes0 (tb := fun W => tS X.K { b with EX := EXW X.K b X.N.length W } wb)
    (fun W pn xe tk po => hbody pn xe _ (Takes.impN tk fun c d σ H hn z => ?_) po)
    (fun a oe cls d pn hz hfl => suite_mixed (b0 := b0) T hno hz hfl hgi hmi hgy hmy hi (.inl hln) hdn hcn hdy hs1 hs2 hpl (fun _ => rfl) ht hb)) fun Dn σ H ⟨S, δ, Co, I, hw, k⟩ => ?_
  · obtain ⟨y, S', hx, hl, s0, sh, h0, old⟩ := z.out
    exact hx c d σ S' H hn hl s0 sh h0 old
  · refine ⟨S, δ, Co, I.ex, hw _ fun z hz1 hz2 d hl hd => ?_, ⟨fun δ' σ' S' H' e I' => k.nx δ' σ' S' H' e I'.unex, fun d v S' H' r => k.rt d v S' H' ⟨r.s, r.h, r.sh, r.old, r.r⟩, fun δ' σ' S' H' e I' => k.bk δ' σ' S' H' e I'.unex, fun δ' σ' S' H' e I' => k.ct δ' σ' S' H' e I'.unex⟩⟩
    intro cls dO σ' S' H' hn hl2 s0 sh h0 old
    obtain ⟨rfl, q⟩ := hl2
    rw [hz2, if_neg Bool.false_ne_true] at q
    obtain ⟨dA, fs, rfl, hdA, rf⟩ := q
    obtain ⟨v, hv, rv⟩ := rf.get hl
    refine ⟨true, PySem.W.exm_ref T.excC.hs T.excC.hd T.tyC (by rw [hz1]; exact T.subC), fun _ a ha => ?_, fun q => by cases q⟩
    have hil : i < σ'.length := by
      rw [hn]
      exact (List.getElem?_eq_some_iff.mp hi).1
    exact ⟨List.getElem?_set_self hil, by rw [hz1], dA, fs, v, rfl, hdA, hv, k.rt d v S' H' ⟨s0, h0, sh, old, by rw [hfr, if_neg Bool.false_ne_true]; exact rv⟩ hd⟩
end
end Mi
namespace Mi
open PySem L2 Evl PySem.Spec PyProof.Rows
theorem exo_ne_exd {a C dx : Addr} {d : Option Addr} {H : Hp} (h : H a = some (exo a C d)) (hd : H dx = none) : dx ≠ a := fun z => by rw [z, h] at hd; cases hd
/-- def __init__(self, x): super().__init__(x); self.f = x -/
theorem fn_init1 {CX : CXT} {P : Program} {w : World} {K : PySem.W.Frag} {mg : Str → Option Value} {base : Heap} {k : Nat} {f C cc cda : Addr} {name qual : Str} {params : Arguments} {scope : Scope} {dV kV doc pm ct oc : Value} {an od : Option Addr}
    {osl : Array (Option Value)} {sf pa fl : Str} {p0 p1 p2 p3 pos spos q1 q2 q3 q4 : Pos} {ar : Arg} {pl : PySem.Env → Sem Bool}
    (T : SupC K P C cc cda) (hmg : mg "super" = none)
    (lk : K.lookup f = some ⟨oc, od, .func (PySem.W.ksFn name qual params [.Expr (.Call (.Attribute (.Call (.Name "super" p0) [] [] p1) "__init__" p2) [.Name pa p3] [] pos) spos, .Assign [.Attribute (.Name sf q1) fl q2] (.Name pa q3) q4] scope dV kV doc pm an (.ref cda) ct cc), osl⟩)
    (hcd : PySem.W.codeIn K (.ref cda) qual = true) (S : NdefX.NScope [sf, pa, "__class__"] [sf, pa] ["__class__"] scope)
    (hp : (params.posonlyargs ++ params.args).head? = some ar) (har : ar.arg = sf) (hks : scope.names.lookup ("super" : Str) = some .globalImplicit)
    (hno : PySem.W.findIn K (.ref C) fl = some none) (d1 : (sf == ("__debug__" : Str)) = false := by decide) (d2 : (pa == ("__debug__" : Str)) = false := by decide) (d3 : (sf == ("__classdict__" : Str)) = false := by decide) (d4 : (pa == ("__classdict__" : Str)) = false := by decide)
    (hev : ∀ env, eval (.Call (.Attribute (.Call (.Name "super" p0) [] [] p1) "__init__" p2) [.Name pa p3] [] pos) env = (do
      let ov ← attributeBase (.Call (.Name "super" p0) [] [] p1) "__init__" env (eval (.Call (.Name "super" p0) [] [] p1) env)
      standAt p2.atName
      let (f, first) ← holding [ov] (getMethod ov "__init__" (pl env))
      callWith pos f first (backTo pos (starEach [.Name pa p3] env)) []) := by intro _; rfl) :
    FnOk P w K mg base CX (k + 1) f (PySem.W.ksFn name qual params [.Expr (.Call (.Attribute (.Call (.Name "super" p0) [] [] p1) "__init__" p2) [.Name pa p3] [] pos) spos, .Assign [.Attribute (.Name sf q1) fl q2] (.Name pa q3) q4] scope dV kV doc pm an (.ref cda) ct cc) [sf, pa] (spInit C [fl]) := by
  refine fn_super (pl := pl) T hmg lk hcd S hp (by rw [har] <;> rfl) (by rw [har]; exact S.par _ List.mem_cons_self) hks (fun vs H Q E h => ?_) (fun A outer s H vs Q E h => ?_) (fun _ => rfl) (fun _ => rfl) hev (fun _ => rfl) (fun L => by unfold interactive; simp [S.kind])
  · obtain ⟨a, ws, rfl, hl, _⟩ := h
    simpa using hl
  · obtain ⟨a, ws, rfl, hl, ha, hk⟩ := h
    obtain ⟨y, rfl⟩ : ∃ y, ws = [y] := by
      match ws, hl with
      | [y], _ => exact ⟨y, rfl⟩
    have l0 : scope.names.lookup sf = some .local := S.par _ List.mem_cons_self
    have l1 : scope.names.lookup pa = some .local := S.par _ (List.mem_cons_of_mem _ List.mem_cons_self)
    refine ⟨a, _, _, rfl, ha, pa_cons (pe_var (i := 1) rfl (.inl l1) d2 d4) pa_nil, pss_one (ps_ost (pe_var (i := 0) rfl (.inl l0) d1 d3) (pe_var (i := 1) rfl (.inl l1) d2 d4)), fun R hR => ?_⟩
    refine ⟨y, rfl, hR _ _ (by simp) ha ?_⟩
    refine ⟨y, rfl, .ref a, rfl, a, C, rfl, T.oex, hno, .inl ⟨ha, fun dx hdx hne => ?_⟩⟩
    exact hk dx _ upd_same (by rw [upd_ne hne, upd_same] <;> rfl) hdx fun b hb1 hb2 => by rw [upd_ne hb1, upd_ne hb2]
end Mi
namespace Mi
open PySem L2 Evl PySem.Spec PyProof.Rows
section
variable {X : Cx} {b : Bs} {K : PySem.W.Frag} {g : G} {S S' H H' : Hp} {δ : Env} {σ : L2.St} {e a c d2 e' : Expr} {es rest : List Expr} {w wa wb wc : WE} {wr : WA} {pos p tpos : Pos} {x : Str} {ss body : List Stmt} {u u1 u2 : WS} {ta : WT}
/-! ### a guard reads an owned name: the name is lent, and is owned again behind it -/
theorem Grow.keepS {S H H' : Hp} (e : Ex S H) (g : Ex H H') : Grow S H S H' := ⟨Ex.refl _, g, e.trans g, fun _ _ _ => rfl⟩
def wGuard (i : Nat) (t : WT) (u1 : WS) : WS := fun δ EX C => match δ[i]? with
  | some (some ⟨d, true⟩) => t (δ.set i (st d)) EX fun c => if c = true then u1 (δ.set i (st d)) EX { C with nx := fun _ => False, bk := fun _ => False, ct := fun _ => False } else C.nx δ
  | _ => False
theorem ms_guard (i : Nat) (ht : MT X b e ta) (h1 : MSs X b body u1) : MS X b (.If e body [] pos) (wGuard i ta u1) := PS.imp (ps_if ht h1 pss_nil) fun Dn σ H ⟨S, δ, C, I, hw, k⟩ => by
  unfold wGuard at hw
  split at hw
  · rename_i d hd
    obtain ⟨S2, e2, I2⟩ := I.freeze hd
    refine ⟨S2, _, _, I2, hw, fun x S1 H1 g1 hx => ?_⟩
    cases x with
    | true =>
      rw [if_pos rfl] at hx ⊢
      exact ⟨S1, _, _, I2.grow g1, hx, ⟨fun _ _ _ _ _ _ z => z.elim, k.rt, fun _ _ _ _ _ _ z => z.elim, fun _ _ _ _ _ _ z => z.elim⟩⟩
    | false =>
      rw [if_neg Bool.false_ne_true] at hx ⊢
      exact k.nx δ σ S H1 (Ex.refl _) (I.grow (Grow.keepS I.sh g1.h)) hx
  · exact hw.elim
/-! ### the script: kind 0 -/
def HScr (K : PySem.W.Frag) (g : G) : Prop := ∀ a S d, g.R 0 a S d → ∃ ns : List Int, d = D.lst (List.map D.int ns) ∧ SqL K S a (List.map V.int ns)
def gScr (K : PySem.W.Frag) : G := ⟨fun n a S d => n = 0 ∧ ∃ ns : List Int, d = D.lst (List.map D.int ns) ∧ SqL K S a (List.map V.int ns), fun _ _ _ _ _ e h => ⟨h.1, h.2.elim fun ns q => ⟨ns, q.1, ex_l e q.2⟩⟩⟩
theorem hscr (K : PySem.W.Frag) : HScr K (gScr K) := fun a S d h => h.2
theorem RepT.scr {v : V} {d : D} (hg : HScr K g) (r : RepT K g S H v (.ext 0 d)) : ∃ (p : Addr) (ns : List Int), v = .ref p ∧ d = .lst (ns.map D.int) ∧ SqL K S p (ns.map V.int) := by
  rcases r with r | ⟨p, _, _, o⟩
  · cases r with
    | ext h =>
      obtain ⟨ns, hd, hs⟩ := hg _ _ _ h
      exact ⟨_, ns, rfl, hd, hs⟩
  · exact o.elim
def qLenS (x : D) (P : D → Prop) : Prop := match x with
  | .ext 0 (.lst ds) => P (.int ds.length)
  | _ => False
theorem b1_lenS (hg : HScr K g) : B1 K g (fun xs H Q => ∃ x n, xs = [x] ∧ LenV K x H n ∧ Q (.int n) H) qLenS := by
  intro S H x v P Q e rv hq k
  unfold qLenS at hq
  split at hq
  · rename_i ds
    obtain ⟨p, ns, rfl, hd, hs⟩ := rv.scr hg
    have hl : (ns.map V.int).length = ds.length := by cases hd; simp
    exact ⟨_, _, rfl, .inl ⟨_, ex_l e hs, rfl⟩, k _ _ S H (Grow.refl e) (by rw [hl]; exact .int _) hq⟩
  · exact hq.elim
theorem me_lenS (hs0 : HScr X.K b.g) (hm : X.mg "len" = none) (hg : Gl X "len") (ha : MO X b a wa) (hs : starEach [a] X.env = (false, eval a X.env) :: starEach [] X.env := by rfl) (hpl : (backTo pos (starEach [] X.env)).any (·.1) = false := by rfl) : ME X b (.Call (.Name "len" p) [a] [] pos) (wUn qLenS wa) :=
  me_b1 call_len (b1_lenS hs0) hg hm PySem.boot_len ha (by decide) (by decide) hs hpl
def qIxS (x y : D) (P : D → Prop) : Prop := match x, y with
  | .ext 0 (.lst ds), .int i => ∃ d, atI ds i = some d ∧ ∀ n, d = .int n → P (.int n)
  | _, _ => False
theorem od_ixS (hg : HScr K g) : OpD K g (rIx K) qIxS := by
  intro S H x y v u P Q e rv ru hq k
  unfold qIxS at hq
  split at hq
  · rename_i ds i
    obtain ⟨d, hd, hq⟩ := hq
    obtain ⟨p, ns, rfl, hds, hs⟩ := rv.scr hg
    cases ru.int
    cases hds
    have h2 : ∃ n, d = .int n ∧ atI (ns.map V.int) i = some (.int n) := by
      unfold L2.atI at hd ⊢
      rw [List.length_map] at hd ⊢
      cases e1 : ixN ns.length i with
      | none => rw [e1] at hd; cases hd
      | some j =>
        rw [e1] at hd
        simp only [Option.bind_some, List.getElem?_map] at hd ⊢
        cases e2 : ns[j]? with
        | none => rw [e2] at hd; cases hd
        | some n => rw [e2] at hd; cases hd; exact ⟨n, rfl, rfl⟩
    obtain ⟨n, rfl, ha⟩ := h2
    exact .inl ⟨p, _, _, _, rfl, rfl, ex_l e hs, ha, k _ _ S H (Grow.refl e) (.int n) (hq n rfl)⟩
  · exact hq.elim
theorem me_ixS (hs0 : HScr X.K b.g) (ha : MO X b a wa) (hb : MO X b c wb) (hs : PlainIx c := by intro _ _; rfl) : ME X b (.Subscript a c pos) (wOp qIxS wa wb) := PE.ix ix_seq (od_ixS hs0) ha hb hs
/-! ### list(range(n)) -/
end
end Mi
namespace Mi
open PySem L2 Evl PySem.Spec PyProof.Rows
/-! ### shapes: what == may be asked of -/
def Sh (n : Nat) (d : D) : Prop := d.py.canLay0 = true ∧ d.py.depth ≤ n
theorem sh_non {n : Nat} : Sh n .non := ⟨rfl, Nat.zero_le _⟩
theorem sh_bl {n : Nat} {c : Bool} : Sh n (.bl c) := ⟨rfl, Nat.zero_le _⟩
theorem sh_int {n : Nat} {i : Int} : Sh n (.int i) := ⟨rfl, Nat.zero_le _⟩
theorem sh_str {n : Nat} {s : Str} (h : PySem.PyData.strOk s = true) : Sh n (.str s) := ⟨h, Nat.zero_le _⟩
theorem Sh.mono {m n : Nat} {d : D} (h : Sh m d) (e : m ≤ n) : Sh n d := ⟨h.1, Nat.le_trans h.2 e⟩
theorem sh_pys {n : Nat} : ∀ {xs : List D}, (∀ x ∈ xs, Sh n x) → PySem.PyData.canLayAll0 (D.pys xs) = true ∧ PySem.PyData.depthAll (D.pys xs) ≤ n
  | [], _ => ⟨rfl, Nat.zero_le _⟩
  | x :: xs, h => by
    obtain ⟨h1, h2⟩ := h x List.mem_cons_self
    obtain ⟨h3, h4⟩ := sh_pys fun y hy => h y (List.mem_cons_of_mem _ hy)
    constructor
    · simp only [D.pys, PySem.PyData.canLayAll0, h1, h3, Bool.and_self]
    · simp only [D.pys, PySem.PyData.depthAll]
      omega
theorem sh_lst {n : Nat} {xs : List D} (h : ∀ x ∈ xs, Sh n x) : Sh (n + 1) (.lst xs) := by
  obtain ⟨h1, h2⟩ := sh_pys h
  constructor
  · simpa only [D.py, PySem.PyData.canLay0] using h1
  · simp only [D.py, PySem.PyData.depth]; omega
theorem sh_tup {n : Nat} {xs : List D} (h : ∀ x ∈ xs, Sh n x) : Sh (n + 1) (.tup xs) := by
  obtain ⟨h1, h2⟩ := sh_pys h
  constructor
  · simpa only [D.py, PySem.PyData.canLay0] using h1
  · simp only [D.py, PySem.PyData.depth]; omega
theorem Sh.ok {n : Nat} {d : D} (h : Sh n d) (hn : n ≤ 64 := by decide) : okD d := by
  unfold okD SeqAt.shaped
  rw [h.1, Bool.true_and, decide_eq_true_eq]
  exact Nat.le_trans h.2 hn
theorem eqD_self {n : Nat} {d : D} (h : Sh n d) : eqD d d = true := PySem.SeqAt.eqv_refl _ h.1
theorem qEq_self {n : Nat} {d : D} {P : Bool → Prop} (h : Sh n d) (hn : n ≤ 64) (p : P true) : qEq d d P := by
  unfold qEq
  cases e : scEq d d with
  | none => exact ⟨h.ok hn, h.ok hn, by rw [eqD_self h]; exact p⟩
  | some c =>
    have : c = true := by
      cases d <;> simp [scEq] at e <;> exact e
    subst this
    exact p
theorem qNe_self {n : Nat} {d : D} {P : Bool → Prop} (h : Sh n d) (hn : n ≤ 64) (p : P false) : qNe d d P := qEq_self h hn p
end Mi
namespace Mi
open PySem L2 Evl PySem.Spec PyProof.Rows
/-! ### how the words are opened -/
def forD (items : List D) (wg : WG) (u : WS) : WS := fun δ EX C => ∃ M : Nat → Env → Prop, M 0 δ ∧
  (∀ (i : Nat) d δ', items[i]? = some d → M i δ' → wg d δ' fun δ2 => u δ2 EX { C with nx := M (i + 1), ct := M (i + 1), bk := C.nx }) ∧ ∀ δ', M items.length δ' → C.nx δ'
theorem wFor_e (wi : WI) (wg : WG) (u : WS) (δ : Env) (EX : Exc → Prop) (C : Co) : wFor wi wg u δ EX C = wi δ EX fun items => forD items wg u δ EX C := rfl
theorem for_i {items : List D} {wg : WG} {u : WS} {δ : Env} {EX : Exc → Prop} {C : Co} (M : Nat → Env → Prop) (h0 : M 0 δ)
    (hs : ∀ (i : Nat) d δ', items[i]? = some d → M i δ' → wg d δ' fun δ2 => u δ2 EX { nx := M (i + 1), rt := C.rt, ct := M (i + 1), bk := C.nx }) (he : ∀ δ', M items.length δ' → C.nx δ') : forD items wg u δ EX C := ⟨M, h0, hs, he⟩
def lcD (items : List D) (wg : WG) (wt : WT) (we : WE) (δ : Env) (P : D → Prop) : Prop := items.length ≤ Line ∧ ∃ M : Nat → List D → Prop, M 0 [] ∧
  (∀ (i : Nat) d acc, items[i]? = some d → M i acc → acc.length ≤ i → wg d δ fun δ2 => wt δ2 (fun _ => False) fun c => if c = true then we δ2 (fun _ => False) fun y => M (i + 1) (acc ++ [y]) else M (i + 1) acc) ∧ ∀ acc, M items.length acc → P (.lst acc)
theorem wLc_e (wi : WI) (wg : WG) (wt : WT) (we : WE) (vs : List Nat) (δ : Env) (EX : Exc → Prop) (P : D → Prop) : wLc wi wg wt we vs δ EX P = wi δ EX fun items => lcD items wg wt we (wipeE δ vs) P := rfl
theorem lc_i {items : List D} {wg : WG} {wt : WT} {we : WE} {δ : Env} {P : D → Prop} (M : Nat → List D → Prop) (hl : items.length ≤ Line) (h0 : M 0 [])
    (hs : ∀ (i : Nat) d acc, items[i]? = some d → M i acc → acc.length ≤ i → wg d δ fun δ2 => wt δ2 (fun _ => False) fun c => if c = true then we δ2 (fun _ => False) fun y => M (i + 1) (acc ++ [y]) else M (i + 1) acc)
    (he : ∀ acc, M items.length acc → P (.lst acc)) : lcD items wg wt we δ P := ⟨hl, M, h0, hs, he⟩
/-- each item gives one element -/
theorem lc_map {items : List D} {wg : WG} {we : WE} {δ : Env} {P : D → Prop} (F : Nat → D) (hl : items.length ≤ Line)
    (hs : ∀ (i : Nat) (d : D) (R : D → Prop), items[i]? = some d → R (F i) → wg d δ fun δ2 => we δ2 (fun _ => False) R) (he : P (.lst ((List.range items.length).map F))) : lcD items wg wYes we δ P :=
  lc_i (fun i acc => acc = (List.range i).map F) hl rfl (fun i d acc hi e _ => hs i d _ hi (by
    subst e
    rw [List.range_succ, List.map_append]; rfl)) fun acc e => by subst e; exact he
/-- each item that passes gives one element -/
theorem lc_filter {items : List D} {wg : WG} {wt : WT} {we : WE} {δ : Env} {P : D → Prop} (T : Nat → Bool) (F : Nat → D) (hl : items.length ≤ Line)
    (hs : ∀ (i : Nat) (d : D) (R : D → Prop) (N : Prop), items[i]? = some d → (T i = true → R (F i)) → (T i = false → N) → wg d δ fun δ2 => wt δ2 (fun _ => False) fun c => if c = true then we δ2 (fun _ => False) R else N)
    (he : P (.lst (((List.range items.length).filter T).map F))) : lcD items wg wt we δ P :=
  lc_i (fun i acc => acc = ((List.range i).filter T).map F) hl rfl (fun i d acc hi e _ => hs i d _ _ hi (fun h => by
    subst e
    rw [List.range_succ, List.filter_append, List.map_append, List.filter_cons_of_pos h]; rfl) fun h => by
    subst e
    rw [List.range_succ, List.filter_append, List.map_append, List.filter_cons_of_neg (by rw [h]; exact Bool.false_ne_true)]
    simp) fun acc e => by subst e; exact he
theorem cut_i {u1 u2 : WS} {δ : Env} {EX : Exc → Prop} {C : Co} (M : Env → Prop) (h1 : u1 δ EX { nx := M, rt := C.rt, ct := C.ct, bk := C.bk }) (h2 : ∀ δ', M δ' → u2 δ' EX C) : wCut u1 u2 δ EX C := ⟨M, h1, h2⟩
theorem while_i {t : WT} {u : WS} {δ : Env} {EX : Exc → Prop} {C : Co} (M : Nat → Env → Prop) (m : Nat) (h0 : M m δ)
    (hs : ∀ m δ', M m δ' → t δ' EX fun c => if c = true then u δ' EX { nx := fun δ2 => ∃ m', m' < m ∧ M m' δ2, rt := C.rt, ct := fun δ2 => ∃ m', m' < m ∧ M m' δ2, bk := C.nx } else C.nx δ') : wWhile t u δ EX C := ⟨M, ⟨m, h0⟩, hs⟩
theorem ite_i {c : Bool} {A B : Prop} (h1 : c = true → A) (h2 : c = false → B) : if c = true then A else B := by
  cases c
  · rw [if_neg Bool.false_ne_true]; exact h2 rfl
  · rw [if_pos rfl]; exact h1 rfl
theorem startE_c (n : Str) (N : List Str) (d : D) (ds : List D) : startE (n :: N) (d :: ds) = st d :: startE N ds := by
  simp [startE]
theorem startE_n (n : Str) (N : List Str) : startE (n :: N) [] = none :: startE N [] := by
  simp [startE, List.replicate_succ]
theorem startE_e : startE [] [] = [] := rfl
/-- division, the divisor above 0 -/
def qDivP : D → D → (D → Prop) → Prop := fun x y P => match x, y with
  | .int i, .int j => 0 < j ∧ j < 1073741824 ∧ P (.int (i / j))
  | _, _ => False
def qModP : D → D → (D → Prop) → Prop := fun x y P => match x, y with
  | .int i, .int j => 0 < j ∧ P (.int (i % j))
  | _, _ => False
section
variable {X : Cx} {b : Bs} {K : PySem.W.Frag} {a c : Expr} {wa wb : WE} {pos : Pos}
theorem me_divP (ha : MO X b a wa) (hb : MO X b c wb) : ME X b (.BinOp a .FloorDiv c pos) (wOp qDivP wa wb) :=
  me_op op_fdivN ((od_IC (f := fun i j => i.fdiv j)).imp fun x y P h => by
    unfold qDivP at h
    split at h
    · rename_i i j
      exact ⟨⟨by omega, by omega⟩, by show P (D.int (i.fdiv j)); rw [Int.fdiv_eq_ediv_of_nonneg _ (by omega)]; exact h.2.2⟩
    · exact h.elim) ha hb
theorem me_modP (ha : MO X b a wa) (hb : MO X b c wb) : ME X b (.BinOp a .Mod c pos) (wOp qModP wa wb) :=
  me_op op_mod ((od_IC (f := fun i j => i % j)).imp fun x y P h => by
    unfold qModP at h
    split at h
    · exact h
    · exact h.elim) ha hb
end
theorem qEq_int (i j : Int) (P : Bool → Prop) : qEq (.int i) (.int j) P = P (decide (i = j)) := rfl
theorem qEq_str (i j : Str) (P : Bool → Prop) : qEq (.str i) (.str j) P = P (decide (i = j)) := rfl
theorem qEq_bl (i j : Bool) (P : Bool → Prop) : qEq (.bl i) (.bl j) P = P (decide (i = j)) := rfl
theorem qNe_int (i j : Int) (P : Bool → Prop) : qNe (.int i) (.int j) P = P (!decide (i = j)) := rfl
theorem qNe_str (i j : Str) (P : Bool → Prop) : qNe (.str i) (.str j) P = P (!decide (i = j)) := rfl
theorem qNe_bl (i j : Bool) (P : Bool → Prop) : qNe (.bl i) (.bl j) P = P (!decide (i = j)) := rfl
theorem line0 : (0 ≤ Line) = True := eq_true (by decide)
theorem line1 : (0 + 1 ≤ Line) = True := eq_true (by decide)
theorem line2 : (0 + 1 + 1 ≤ Line) = True := eq_true (by decide)
theorem line3 : (0 + 1 + 1 + 1 ≤ Line) = True := eq_true (by decide)
theorem line4 : (0 + 1 + 1 + 1 + 1 ≤ Line) = True := eq_true (by decide)
theorem line6 : (0 + 1 + 1 + 1 + 1 + 1 + 1 ≤ Line) = True := eq_true (by decide)
theorem line7 : (0 + 1 + 1 + 1 + 1 + 1 + 1 + 1 ≤ Line) = True := eq_true (by decide)
theorem line10 : (0 + 1 + 1 + 1 + 1 + 1 + 1 + 1 + 1 + 1 + 1 ≤ Line) = True := eq_true (by decide)
end Mi
namespace Mi
open PySem L2 Evl PySem.Spec PyProof.Rows
section
variable {X : Cx} {b : Bs} {K : PySem.W.Frag} {e : Expr} {body orelse : List Stmt} {ta : WT} {u1 u2 : WS} {pos : Pos}
/-- an if whose test's answer is told ahead -/
def wIfD (t : WT) (u1 u2 : WS) : WS := fun δ EX C => ∃ c0 : Bool, (t δ EX fun c => c = c0) ∧ if c0 = true then u1 δ EX C else u2 δ EX C
theorem ms_ifD (ht : MT X b e ta) (h1 : MSs X b body u1) (h2 : MSs X b orelse u2) : MS X b (.If e body orelse pos) (wIfD ta u1 u2) := PS.imp (ps_if ht h1 h2) fun Dn σ H ⟨S, δ, C, I, ⟨c0, hw, hb⟩, k⟩ => by
  refine ⟨S, δ, _, I, hw, fun x S1 H1 g1 hx => ?_⟩
  subst hx
  cases x with
  | true =>
    rw [if_pos rfl] at hb ⊢
    exact ⟨S1, δ, C, I.grow g1, hb, k.mono g1.s⟩
  | false =>
    rw [if_neg Bool.false_ne_true] at hb ⊢
    exact ⟨S1, δ, C, I.grow g1, hb, k.mono g1.s⟩
theorem ifD_i {t : WT} {u1 u2 : WS} {δ : Env} {EX : Exc → Prop} {C : Co} (c0 : Bool) (h : t δ EX fun c => c = c0) (h1 : c0 = true → u1 δ EX C) (h2 : c0 = false → u2 δ EX C) : wIfD t u1 u2 δ EX C := ⟨c0, h, ite_i h1 h2⟩
def wGuardD (i : Nat) (t : WT) (u1 : WS) : WS := fun δ EX C => match δ[i]? with
  | some (some ⟨d, true⟩) => ∃ c0 : Bool, (t (δ.set i (st d)) EX fun c => c = c0) ∧ if c0 = true then u1 (δ.set i (st d)) EX { C with nx := fun _ => False, bk := fun _ => False, ct := fun _ => False } else C.nx δ
  | _ => False
theorem ms_guardD (i : Nat) (ht : MT X b e ta) (h1 : MSs X b body u1) : MS X b (.If e body [] pos) (wGuardD i ta u1) := PS.imp (ps_if ht h1 pss_nil) fun Dn σ H ⟨S, δ, C, I, hw, k⟩ => by
  unfold wGuardD at hw
  split at hw
  · rename_i d hd
    obtain ⟨S2, e2, I2⟩ := I.freeze hd
    obtain ⟨c0, hw, hb⟩ := hw
    refine ⟨S2, _, _, I2, hw, fun x S1 H1 g1 hx => ?_⟩
    subst hx
    cases x with
    | true =>
      rw [if_pos rfl] at hb ⊢
      exact ⟨S1, _, _, I2.grow g1, hb, ⟨fun _ _ _ _ _ _ z => z.elim, k.rt, fun _ _ _ _ _ _ z => z.elim, fun _ _ _ _ _ _ z => z.elim⟩⟩
    | false =>
      rw [if_neg Bool.false_ne_true] at hb ⊢
      exact k.nx δ σ S H1 (Ex.refl _) (I.grow (Grow.keepS I.sh g1.h)) hb
  · exact hw.elim
end
/-! ### isinstance, of what is known -/
theorem isi_list_lst {xs : List D} {P : D → Prop} : qIsi "list" (.lst xs) P = P (.bl true) := rfl
theorem isi_list_tup {xs : List D} {P : D → Prop} : qIsi "list" (.tup xs) P = P (.bl false) := rfl
theorem isi_list_non {P : D → Prop} : qIsi "list" .non P = P (.bl false) := rfl
theorem isi_list_str {s : Str} {P : D → Prop} : qIsi "list" (.str s) P = P (.bl false) := rfl
theorem isi_list_int {i : Int} {P : D → Prop} : qIsi "list" (.int i) P = P (.bl false) := rfl
theorem isi_tup_tup {xs : List D} {P : D → Prop} : qIsi "tuple" (.tup xs) P = P (.bl true) := rfl
theorem isi_bool_bl {c : Bool} {P : D → Prop} : qIsi "bool" (.bl c) P = P (.bl true) := rfl
theorem isi_bool_int {c : Int} {P : D → Prop} : qIsi "bool" (.int c) P = P (.bl false) := rfl
theorem isi_int_int {c : Int} {P : D → Prop} : qIsi "int" (.int c) P = P (.bl true) := rfl
theorem isi_int_bl {c : Bool} {P : D → Prop} : qIsi "int" (.bl c) P = P (.bl true) := rfl
theorem isi_int_non {P : D → Prop} : qIsi "int" .non P = P (.bl false) := rfl
theorem isi_int_str {s : Str} {P : D → Prop} : qIsi "int" (.str s) P = P (.bl false) := rfl
theorem isi_str_str {s : Str} {P : D → Prop} : qIsi "str" (.str s) P = P (.bl true) := rfl
theorem isi_str_non {P : D → Prop} : qIsi "str" .non P = P (.bl false) := rfl
theorem isi_str_int {i : Int} {P : D → Prop} : qIsi "str" (.int i) P = P (.bl false) := rfl
/-! ### places -/
theorem atI_nat {α : Type} {xs : List α} {i : Nat} {d : α} (h : xs[i]? = some d) : atI xs (i : Int) = some d := by
  have hl := (List.getElem?_eq_some_iff.mp h).1
  unfold L2.atI L2.ixN
  rw [if_pos (Int.natCast_nonneg _), if_pos (by exact_mod_cast hl)]
  simpa using h
theorem atI_last {α : Type} {xs : List α} {d : α} (h : xs.getLast? = some d) : atI xs (-1) = some d := by
  have hl : xs ≠ [] := fun e => by subst e; cases h
  have h1 : 0 < xs.length := List.length_pos_iff.mpr hl
  unfold L2.atI L2.ixN
  rw [if_neg (by decide), if_pos (by omega)]
  have : (-1 + (xs.length : Int)).toNat = xs.length - 1 := by omega
  rw [Option.bind_some, this]
  rw [List.getLast?_eq_getElem?] at h
  exact h
theorem qIx_last {xs : List D} {d : D} {P : D → Prop} (h : xs.getLast? = some d) (p : P d) : qIx (.lst xs) (.int (-1)) P := by
  unfold qIx; simp only [atI_last h]; exact p
theorem qIx_lst {xs : List D} {i : Nat} {d : D} {P : D → Prop} (h : xs[i]? = some d) (p : P d) : qIx (.lst xs) (.int (i : Int)) P := by
  unfold qIx; simp only [atI_nat h]; exact p
theorem qIx_tup {xs : List D} {i : Nat} {d : D} {P : D → Prop} (h : xs[i]? = some d) (p : P d) : qIx (.tup xs) (.int (i : Int)) P := by
  unfold qIx; simp only [atI_nat h]; exact p
theorem qEq_tup {x : D} {ys : List D} {P : Bool → Prop} (h1 : okD x) (h2 : okD (.tup ys)) (p : P (eqD x (.tup ys))) : qEq x (.tup ys) P := by
  unfold qEq
  have : scEq x (.tup ys) = none := by cases x <;> rfl
  rw [this]
  exact ⟨h1, h2, p⟩
section
variable {X : Cx} {b : Bs} {pos : Pos} {x : Str}
theorem me_gi {n : Int} (h : ∃ t, X.mg x = some (.int n t)) (hg : Gl X x := by rfl) (hdb : (x == ("__debug__" : Str)) = false := by decide) : ME X b (.Name x pos) (wC (.int n)) := by
  obtain ⟨t, h⟩ := h
  exact me_glob (v := .int n) hg h ⟨t, rfl⟩ (fun _ => .int n) hdb
theorem me_gs {n : Str} (h : ∃ t, X.mg x = some (.str n t)) (hg : Gl X x := by rfl) (hdb : (x == ("__debug__" : Str)) = false := by decide) : ME X b (.Name x pos) (wC (.str n)) := by
  obtain ⟨t, h⟩ := h
  exact me_glob (v := .str n) hg h ⟨t, rfl⟩ (fun _ => .str n) hdb
end
theorem rangeD_of {lo : Int} {n i : Nat} {d : D} (h : (rangeD lo n)[i]? = some d) : i < n ∧ d = .int (lo + (i : Int)) := by
  have hl := (List.getElem?_eq_some_iff.mp h).1
  rw [rangeD_len] at hl
  rw [rangeD_get hl] at h
  exact ⟨hl, (Option.some.inj h).symm⟩
theorem rangeC_of {lo s : Int} {n i : Nat} {d : D} (h : (rangeC lo s n)[i]? = some d) : i < n ∧ d = .int (lo + (i : Int) * s) := by
  have hl := (List.getElem?_eq_some_iff.mp h).1
  rw [rangeC_len] at hl
  rw [rangeC_get hl] at h
  exact ⟨hl, (Option.some.inj h).symm⟩
theorem ltL {n : Nat} (h : n < 10000000) : n < Line := Nat.lt_trans h (by decide)
theorem leL {n : Nat} (h : n < 10000000) : n ≤ Line := Nat.le_of_lt (ltL h)
end Mi
namespace Mi
open PySem L2 Evl PySem.Spec PyProof.Rows
section
variable {i j k : Int} {s t : Str} {xs ys : List D} {c : Bool} {kvs : List (Key × D)} {P : D → Prop} {R : Bool → Prop} {x : D}
theorem e_qI {f : Int → Int → Int} : qI f (.int i) (.int j) P = P (.int (f i j)) := rfl
theorem e_qIC {C : Int → Int → Prop} {f : Int → Int → Int} : qIC C f (.int i) (.int j) P = (C i j ∧ P (.int (f i j))) := rfl
theorem e_add1 : qAdd (.int i) (.int j) P = P (.int (i + j)) := rfl
theorem e_add2 : qAdd (.str s) (.str t) P = (s.length + t.length ≤ Line ∧ P (.str (s ++ t))) := rfl
theorem e_add3 : qAdd (.lst xs) (.lst ys) P = (xs.length + ys.length ≤ Line ∧ P (.lst (xs ++ ys))) := rfl
theorem e_add4 : qAdd (.tup xs) (.tup ys) P = (xs.length + ys.length ≤ Line ∧ P (.tup (xs ++ ys))) := rfl
theorem e_catL : qCatL (.lst xs) (.lst ys) P = (xs.length + ys.length ≤ Line ∧ P (.lst (xs ++ ys))) := rfl
theorem e_aug1 : qAug (.int i) (.int j) P = P (.int (i + j)) := rfl
theorem e_aug2 : qAug (.str s) (.str t) P = (s.length + t.length ≤ Line ∧ P (.str (s ++ t))) := rfl
theorem e_mul1 : qMul (.int i) (.int j) P = (MulOk i j ∧ P (.int (i * j))) := rfl
theorem e_mul2 : qMul (.lst xs) (.int k) P = (-(2 ^ 63) ≤ k ∧ k < 2 ^ 63 ∧ xs.length * k.toNat ≤ Line ∧ P (.lst (List.replicate k.toNat xs).flatten)) := rfl
theorem e_rep : qRep (.lst xs) (.int k) P = (-(2 ^ 63) ≤ k ∧ k < 2 ^ 63 ∧ xs.length * k.toNat ≤ Line ∧ P (.lst (List.replicate k.toNat xs).flatten)) := rfl
theorem e_div : qDivP (.int i) (.int j) P = (0 < j ∧ j < 1073741824 ∧ P (.int (i / j))) := rfl
theorem e_mod : qModP (.int i) (.int j) P = (0 < j ∧ P (.int (i % j))) := rfl
theorem e_neg : qNeg (.int i) P = P (.int (-i)) := rfl
theorem e_ord1 {f : Int → Int → Bool} {g : Str → Str → Bool} : qOrd f g (.int i) (.int j) R = R (f i j) := rfl
theorem e_ord2 {f : Int → Int → Bool} {g : Str → Str → Bool} : qOrd f g (.str s) (.str t) R = R (g s t) := rfl
theorem e_isn : qIsN x .non R = R (isNonD x) := rfl
theorem e_nin : qNotN x .non R = R (!isNonD x) := rfl
theorem e_non1 : isNonD .non = true := rfl
theorem e_non2 : isNonD (.int i) = false := rfl
theorem e_non3 : isNonD (.str s) = false := rfl
theorem e_non4 : isNonD (.lst xs) = false := rfl
theorem e_non5 : isNonD (.tup xs) = false := rfl
theorem e_non6 : isNonD (.bl c) = false := rfl
theorem e_tru1 : qTru .non R = R false := rfl
theorem e_tru2 : qTru (.bl c) R = R c := rfl
theorem e_tru3 : qTru (.int i) R = R (i != 0) := rfl
theorem e_tru4 : qTru (.str s) R = (s.length ≤ Line ∧ R ((s.length : Int) != 0)) := rfl
theorem e_tru5 : qTru (.lst xs) R = R (!xs.isEmpty) := rfl
theorem e_tru6 : qTru (.tup xs) R = R (!xs.isEmpty) := rfl
theorem e_tru7 : qTru (.dic kvs) R = R (!kvs.isEmpty) := rfl
theorem e_sl1 {l h : Option Int} : qSl (.lst xs) l h P = P (.lst (cutD xs l h)) := rfl
theorem e_sl2 {l h : Option Int} : qSl (.tup xs) l h P = P (.tup (cutD xs l h)) := rfl
theorem e_sl3 {l h : Option Int} : qSl (.str s) l h P = (s.length ≤ Line ∧ P (.str (cutS s l h))) := rfl
theorem e_sl4 {l h : Option Int} : qSlL (.lst xs) l h P = P (.lst (cutD xs l h)) := rfl
theorem e_rev : qRev (.lst xs) P = P (.lst xs.reverse) := rfl
theorem e_it1 {Q : List D → Prop} : qItems (.lst xs) Q = Q xs := rfl
theorem e_it2 {Q : List D → Prop} : qItems (.tup xs) Q = Q xs := rfl
theorem e_it3 {Q : List D → Prop} : qItems (.str s) Q = Q (signs s) := rfl
theorem e_len1 : qLen (.lst xs) P = P (.int xs.length) := rfl
theorem e_len2 : qLen (.tup xs) P = P (.int xs.length) := rfl
theorem e_len3 : qLen (.dic kvs) P = P (.int kvs.length) := rfl
theorem e_len4 : qLen (.str s) P = (s.length ≤ Line ∧ P (.int s.length)) := rfl
theorem e_int1 : qInt (.int i) P = P (.int i) := rfl
theorem e_int2 : qInt (.bl c) P = P (.int (if c then 1 else 0)) := rfl
theorem e_int3 : qInt (.str s) P = ∃ n, PySem.intText? s = some n ∧ s.length ≤ 640 ∧ P (.int n) := rfl
theorem e_min : qMin (.int i) (.int j) P = P (.int (min i j)) := rfl
theorem e_max : qMax (.int i) (.int j) P = P (.int (max i j)) := rfl
theorem e_min3 : qMin3 (.int i) (.int j) (.int k) P = P (.int (min (min i j) k)) := rfl
theorem e_lst1 : qList (.lst xs) P = P (.lst xs) := rfl
theorem e_lst2 : qList (.tup xs) P = P (.lst xs) := rfl
theorem e_tup1 : qTuple (.lst xs) P = P (.tup xs) := rfl
theorem e_tup2 : qTuple (.tup xs) P = P (.tup xs) := rfl
theorem e_str : qStr (.int i) P = (i.natAbs.log2 < 1920 ∧ P (.str (toString i))) := rfl
theorem e_abs : qAbs (.int i) P = P (.int (if i < 0 then -i else i)) := rfl
theorem e_lenS : qLenS (.ext 0 (.lst xs)) P = P (.int xs.length) := rfl
theorem e_ixS : qIxS (.ext 0 (.lst xs)) (.int i) P = ∃ d, atI xs i = some d ∧ ∀ n, d = .int n → P (.int n) := rfl
end
theorem empty_map {α : Type} (f : α → D) (l : List α) : (l.map f).isEmpty = l.isEmpty := by cases l <;> rfl
theorem rep_flat {α : Type} (x : α) : ∀ n, (List.replicate n [x]).flatten = List.replicate n x
  | 0 => rfl
  | n + 1 => by rw [List.replicate_succ, List.flatten_cons, rep_flat x n]; rfl
end Mi
namespace Mi
open PySem L2 Evl PySem.Spec PyProof.Rows
/-! ### a grid: an owned list of owned lists, one of which a second name may hold -/
structure Gs where
  δ : Env
  G : List (List D)
  oi : Option Nat
def Gs.row (z : Gs) : Option Cell := match z.oi with
  | some i => (match z.G[i]? with | some ds => st (.lst ds) | none => none)
  | none => none
def Gs.fz (z : Gs) (r o : Nat) : Env := (z.δ.set r (st (.lst (z.G.map D.lst)))).set o z.row
structure GridR (K : PySem.W.Frag) (b : Bs) (r o : Nat) (S : Hp) (z : Gs) (σ : L2.St) (H : Hp) : Prop where
  base : StR K b z.δ σ S H
  nown : ∀ (i : Nat) (c : Cell), z.δ[i]? = some (some c) → c.own = false
  hr : z.δ[r]? = some none
  ho : z.δ[o]? = some none
  ro : r ≠ o
  grid : ∃ (p : Addr) (qs : List Addr), σ[r]? = some (some (.ref p)) ∧ H p = some (.lst (qs.map V.ref)) ∧ (p :: qs).Nodup ∧ (∀ a ∈ p :: qs, b.H0 a = none ∧ S a = none) ∧ qs.length = z.G.length ∧
    (∀ (k : Nat) (q : Addr), qs[k]? = some q → ∃ xs ds, H q = some (.lst xs) ∧ z.G[k]? = some ds ∧ RepA K b.g S xs ds) ∧ ∀ i, z.oi = some i → ∃ q, qs[i]? = some q ∧ σ[o]? = some (some (.ref q))
section
variable {X : Cx} {b : Bs} {K : PySem.W.Frag} {g : G} {S S' H H' : Hp} {δ : Env} {σ : L2.St} {z : Gs} {r o : Nat}
theorem repA_get : ∀ {vs : List V} {ds : List D}, vs.length = ds.length → (∀ (k : Nat) v d, vs[k]? = some v → ds[k]? = some d → Rep K g S v d) → RepA K g S vs ds
  | [], [], _, _ => .nil
  | _ :: _, [], h, _ => by cases h
  | [], _ :: _, h, _ => by cases h
  | v :: vs, d :: ds, h, k => .cons (k 0 v d rfl rfl) (repA_get (by simpa using h) fun i v d hv hd => k (i + 1) v d (by simpa using hv) (by simpa using hd))
theorem set_self_get {α : Type} {l : List α} {i : Nat} {x : α} (h : l[i]? = some x) : l.set i x = l := by
  apply List.ext_getElem?
  intro j
  by_cases hj : i = j
  · subst hj
    rw [List.getElem?_set_self (List.getElem?_eq_some_iff.mp h).1, h]
  · rw [List.getElem?_set_ne hj]
theorem GridR.grow (I : GridR K b r o S z σ H) (e : Ex H H') : GridR K b r o S z σ H' := by
  obtain ⟨p, qs, h1, h2, h3, h4, h5, h6, h7⟩ := I.grid
  exact ⟨I.base.grow (Grow.keepS I.base.sh e), I.nown, I.hr, I.ho, I.ro, p, qs, h1, e _ _ h2, h3, h4, h5, fun k q hq => let ⟨xs, ds, a, b, c⟩ := h6 k q hq; ⟨xs, ds, e _ _ a, b, c⟩, h7⟩
open Classical in
theorem GridR.frz (I : GridR K b r o S z σ H) : ∃ S1, Ex S S1 ∧ StR K b (z.fz r o) σ S1 H := by
  obtain ⟨p, qs, h1, h2, h3, h4, h5, h6, h7⟩ := I.grid
  let S1 : Hp := fun a => if a ∈ p :: qs then H a else S a
  have in1 : ∀ a, a ∈ p :: qs → S1 a = H a := fun a ha => if_pos ha
  have out1 : ∀ a, a ∉ p :: qs → S1 a = S a := fun a ha => if_neg ha
  have e1 : Ex S S1 := fun a u e => by
    rw [out1 a fun z => by rw [(h4 a z).2] at e; cases e]; exact e
  have I1 : StR K b z.δ σ S1 H := {
    sh := fun a u e => by
      by_cases ha : a ∈ p :: qs
      · rw [in1 a ha] at e; exact e
      · rw [out1 a ha] at e; exact I.base.sh a u e
    h0 := I.base.h0
    s0 := I.base.s0.trans e1
    old := fun a u e => by
      rw [out1 a fun z => by rw [(h4 a z).1] at e; cases e]; exact I.base.old a u e
    len := I.base.len
    slot := fun i c e => by
      obtain ⟨v, hv, rv⟩ := I.base.slot i c e
      refine ⟨v, hv, ?_⟩
      unfold CellR at rv ⊢
      rw [I.nown i c e, if_neg Bool.false_ne_true] at rv ⊢
      exact rv.mono e1
    sep := fun i j ci cj p _ hi _ oi _ _ _ => by rw [I.nown i ci hi] at oi; cases oi }
  have rowR : ∀ (k : Nat) q, qs[k]? = some q → ∃ ds, z.G[k]? = some ds ∧ Rep K b.g S1 (.ref q) (.lst ds) := fun k q hq => by
    obtain ⟨xs, ds, a, b, c⟩ := h6 k q hq
    exact ⟨ds, b, .lst (by rw [in1 q (List.mem_cons_of_mem _ (List.mem_of_getElem? hq))]; exact a) (c.mono e1)⟩
  have hrows : Rep K b.g S1 (.ref p) (.lst (z.G.map D.lst)) := .lst (by rw [in1 p List.mem_cons_self]; exact h2) (repA_get (by simp [h5]) fun k v d hv hd => by
    rw [List.getElem?_map] at hv hd
    obtain ⟨q, hq, rfl⟩ := Option.map_eq_some_iff.mp hv
    obtain ⟨ds, hds, rfl⟩ := Option.map_eq_some_iff.mp hd
    obtain ⟨ds', h8, h9⟩ := rowR k q hq
    rw [hds] at h8
    cases h8
    exact h9)
  have I2 := I1.set hrows r
  rw [set_self_get h1] at I2
  refine ⟨S1, e1, ?_⟩
  unfold Gs.fz Gs.row
  split
  · rename_i i hi
    obtain ⟨q, hq, ho⟩ := h7 i hi
    obtain ⟨ds, h8, h9⟩ := rowR i q hq
    rw [h8]
    have I3 := I2.set h9 o
    rw [set_self_get ho] at I3
    exact I3
  · exact I2.forget o
structure CoZ where
  nx : Gs → Prop
  rt : D → Prop
abbrev WZ := Gs → (Exc → Prop) → CoZ → Prop
structure WayZ (K : PySem.W.Frag) (b : Bs) (r o : Nat) (S : Hp) (C : CoZ) (Dn : Ends) : Prop where
  nx : ∀ z' σ' S' H', Ex S S' → GridR K b r o S' z' σ' H' → C.nx z' → Dn.nx σ' H'
  rt : ∀ d v S' H', RetR K b S' H' v d → C.rt d → Dn.rt v H'
theorem WayZ.mono {S1 : Hp} {C : CoZ} {Dn : Ends} (h : WayZ K b r o S C Dn) (e : Ex S S1) : WayZ K b r o S1 C Dn := ⟨fun z' σ' S' H' e' => h.nx z' σ' S' H' (e.trans e'), h.rt⟩
def tZ (K : PySem.W.Frag) (b : Bs) (r o : Nat) (w : WZ) : TS := fun Dn σ H => ∃ S z C, GridR K b r o S z σ H ∧ w z b.EX C ∧ WayZ K b r o S C Dn
def MZ (X : Cx) (b : Bs) (r o : Nat) (s : Stmt) (w : WZ) : Prop := PS X s (tZ X.K b r o w)
def MZs (X : Cx) (b : Bs) (r o : Nat) (s : List Stmt) (w : WZ) : Prop := PSs X s (tZ X.K b r o w)
variable {s : Stmt} {ss body orelse : List Stmt} {u u1 u2 : WZ} {ta : WT} {e a c : Expr} {pos p p' : Pos} {x : Str} {wa wi wv : WE}
def zNext : WZ := fun z _ C => C.nx z
def zSeq (u1 u2 : WZ) : WZ := fun z EX C => u1 z EX { C with nx := fun z' => u2 z' EX C }
theorem mz_nil : MZs X b r o [] zNext := PSs.imp pss_nil fun Dn σ H ⟨S, z, C, I, hw, k⟩ => k.nx z σ S H (Ex.refl _) I hw
theorem mz_cons (h1 : MZ X b r o s u1) (h2 : MZs X b r o ss u2) : MZs X b r o (s :: ss) (zSeq u1 u2) := PSs.imp (pss_cons h1 h2) fun Dn σ H ⟨S, z, C, I, hw, k⟩ =>
  ⟨S, z, _, I, hw, fun z' σ' S' H' e I' h' => ⟨S', z', C, I', h', k.mono e⟩, k.rt⟩
theorem mz_one (h1 : MZ X b r o s u1) : MZs X b r o [s] u1 := pss_one h1
def zIf (r o : Nat) (t : WT) (u1 u2 : WZ) : WZ := fun z EX C => ∃ c0 : Bool, (t (z.fz r o) EX fun c => c = c0) ∧ if c0 = true then u1 z EX C else u2 z EX C
theorem mz_if (ht : MT X b e ta) (h1 : MZs X b r o body u1) (h2 : MZs X b r o orelse u2) : MZ X b r o (.If e body orelse pos) (zIf r o ta u1 u2) := PS.imp (ps_if ht h1 h2) fun Dn σ H ⟨S, z, C, I, ⟨c0, hw, hb⟩, k⟩ => by
  obtain ⟨S1, e1, I1⟩ := I.frz
  refine ⟨S1, _, _, I1, hw, fun x S2 H2 g2 hx => ?_⟩
  subst hx
  cases x with
  | true =>
    rw [if_pos rfl] at hb ⊢
    exact ⟨S, z, C, I.grow g2.h, hb, k⟩
  | false =>
    rw [if_neg Bool.false_ne_true] at hb ⊢
    exact ⟨S, z, C, I.grow g2.h, hb, k⟩
def zSet (r o : Nat) (wi wv : WE) : WZ := fun z EX C => ∃ (i : Nat) (ds : List D), z.oi = some i ∧ z.G[i]? = some ds ∧ wv (z.fz r o) EX fun d => ∃ n, d = .int n ∧ wi (z.fz r o) EX fun y => ∃ (k : Nat), y = .int k ∧ k < ds.length ∧ C.nx { z with G := z.G.set i (ds.set k (.int n)) }
theorem nodup_get {l : List Addr} (h : l.Nodup) {i j : Nat} {a : Addr} (hi : l[i]? = some a) (hj : l[j]? = some a) : i = j := by
  have h1 := (List.getElem?_eq_some_iff.mp hi)
  have h2 := (List.getElem?_eq_some_iff.mp hj)
  obtain ⟨l1, e1⟩ := h1
  obtain ⟨l2, e2⟩ := h2
  have hp := List.pairwise_iff_getElem.mp h
  rcases Nat.lt_trichotomy i j with c | c | c
  · exact absurd (e1.trans e2.symm) (hp i j l1 l2 c)
  · exact c
  · exact absurd (e2.trans e1.symm) (hp j i l2 l1 c)
theorem mz_set (hu : X.A.units + 64 < cLine) (hv : ME X b a wv) (hi : MO X b c wi) (hN : X.N[o]? = some x := by rfl) (hvi : Vis X.env.scope x := by first | exact Or.inl rfl | exact Or.inr (Or.inl rfl) | exact Or.inr (Or.inr rfl)) (hd : (x == ("__debug__" : Str)) = false := by decide)
    (hcd : (x == ("__classdict__" : Str)) = false := by decide)
    (hsub : ∀ v, assign (.Subscript (.Name x p') c p) X.env v = (do
      let ov ← holding [v] (eval (.Name x p') X.env)
      let iv ← holding [v, ov] (eval c X.env)
      standAt p
      holding [v, ov, iv] (setItem ov iv v)
      release [v, ov, iv] []) := by intro _; rfl)
    (hs : swapsWithSole [.Subscript (.Name x p') c p] a pos.line X.env = pure false := by rfl) (hw : swappedStores [.Subscript (.Name x p') c p] a X.env = pure none := by rfl)
    (h1 : (assignEach [.Subscript (.Name x p') c p] X.env).map (·.2) = [assign (.Subscript (.Name x p') c p) X.env] := by rfl) : MZ X b r o (.Assign [.Subscript (.Name x p') c p] a pos) (zSet r o wi wv) :=
  PS.imp (ps_asg hv (pg_sub (pe_var hN hvi hd hcd) hi (set_any (by omega)) hsub) hs hw h1) fun Dn σ H ⟨S, z, C, I, ⟨i, ds, hi, hG, hw⟩, k⟩ => by
    obtain ⟨S1, e1, I1⟩ := I.frz
    refine ⟨S1, _, _, I1, hw, fun d v S2 H2 g2 rv ⟨n, hn, hw2⟩ => ?_⟩
    subst hn
    cases rv
    have J := I.grow g2.h
    obtain ⟨p, qs, f1, f2, f3, f4, f5, f6, f7⟩ := J.grid
    obtain ⟨q, hq, hσ⟩ := f7 i hi
    refine ⟨_, hσ, S2, _, _, I1.grow g2, hw2, fun y u' S3 H3 g3 r3 h3 => ?_⟩
    obtain ⟨kk, rfl, hk, hC⟩ := h3
    obtain rfl := r3.int
    have J3 := J.grow g3.h
    obtain ⟨p2, qs2, m1, m2, m3, m4, m5, m6, m7⟩ := J3.grid
    obtain ⟨q2, hq2, hσ2⟩ := m7 i hi
    rw [hσ] at hσ2
    cases hσ2
    obtain ⟨xs, ds', a1, a2, a3⟩ := m6 i q hq2
    rw [hG] at a2
    cases a2
    refine .inl ⟨q, xs, _, kk, rfl, rfl, a1, by rw [a3.len]; exact Evl.ixN_nat hk, ?_⟩
    have hqm : q ∈ p2 :: qs2 := List.mem_cons_of_mem _ (List.mem_of_getElem? hq2)
    obtain ⟨q0, qS⟩ := m4 q hqm
    have pq : p2 ≠ q := fun z => (List.nodup_cons.mp m3).1 (by rw [z]; exact List.mem_of_getElem? hq2)
    refine k.nx { z with G := z.G.set i (ds.set kk (.int n)) } σ S _ (Ex.refl _) ⟨⟨fun a u e => ?_, fun a u e => ?_, J3.base.s0, J3.base.old, J3.base.len, fun j cc e => ?_, fun j1 j2 c1 c2 p _ hj _ oj _ _ _ => by rw [J3.nown j1 c1 hj] at oj; cases oj⟩, J3.nown, J3.hr, J3.ho, J3.ro, p2, qs2, m1, by rw [upd_ne pq]; exact m2, m3, m4, by rw [m5]; show z.G.length = (z.G.set i _).length; rw [List.length_set], fun k' q' hq' => ?_, fun i' hi' => ?_⟩ hC
    · rw [upd_ne (ne_of_none e qS)]; exact J3.base.sh a u e
    · rw [upd_ne (ne_of_none e q0)]; exact J3.base.h0 a u e
    · obtain ⟨v, hv, rv⟩ := J3.base.slot j cc e
      refine ⟨v, hv, ?_⟩
      unfold CellR at rv ⊢
      rw [J3.nown j cc e, if_neg Bool.false_ne_true] at rv ⊢
      exact rv
    · by_cases hk2 : i = k'
      · subst hk2
        rw [hq2] at hq'
        cases hq'
        exact ⟨_, _, upd_same, by show (z.G.set i _)[i]? = _; rw [List.getElem?_set_self (by rw [← m5]; exact (List.getElem?_eq_some_iff.mp hq2).1)], a3.set (.int n) kk⟩
      · have nq : q' ≠ q := fun z => by
          subst z
          exact hk2 (nodup_get (List.nodup_cons.mp m3).2 hq2 hq')
        obtain ⟨xs', ds', b1, b2, b3⟩ := m6 k' q' hq'
        exact ⟨xs', ds', by rw [upd_ne nq]; exact b1, by show (z.G.set i _)[k']? = _; rw [List.getElem?_set_ne hk2]; exact b2, b3⟩
    · exact m7 i' hi'
theorem map_ref_inj : ∀ {l l' : List Addr}, l.map V.ref = l'.map V.ref → l = l'
  | [], [], _ => rfl
  | [], _ :: _, h => by cases h
  | _ :: _, [], h => by cases h
  | a :: l, c :: l', h => by
    rw [List.map_cons, List.map_cons] at h
    injection h with h1 h2
    rw [V.ref.inj h1, map_ref_inj h2]
def zRow (r o : Nat) (wi : WE) : WZ := fun z EX C => wi (z.fz r o) EX fun y => ∃ i : Nat, y = .int i ∧ i < z.G.length ∧ C.nx { z with oi := some i }
/-- row = rows[i] -/
theorem mz_row {xr : Str} {pr : Pos} (hNd : X.N.Nodup) (hi : MO X b c wi) (hr : X.N[r]? = some xr := by rfl) (ho : X.N[o]? = some x := by rfl) (hvr : Vis X.env.scope xr := by first | exact Or.inl rfl | exact Or.inr (Or.inl rfl) | exact Or.inr (Or.inr rfl)) (hx : Loc X.env.scope x := by first | exact Or.inl rfl | exact Or.inr rfl)
    (hd : (xr == ("__debug__" : Str)) = false := by decide) (hcd : (xr == ("__classdict__" : Str)) = false := by decide) (hpl : PlainIx c := by intro _ _; rfl)
    (hs : swapsWith (.Subscript (.Name xr pr) c p) (some (.Name x p')) pos.line X.env = pure false := by rfl)
    (hf : X.fn x = true ∨ X.env.scope.names.lookup x = some .local := by first | exact .inl rfl | exact .inr rfl | assumption) : MZ X b r o (.Assign [.Name x p'] (.Subscript (.Name xr pr) c p) pos) (zRow r o wi) :=
  PS.imp (L2.ps_set hNd ho hx (pe_ix ix_seq (pe_var hr hvr hd hcd) hi hpl) hs hf) fun Dn σ H ⟨S, z, C, I, hw, k⟩ => by
    obtain ⟨S1, e1, I1⟩ := I.frz
    obtain ⟨p, qs, f1, f2, f3, f4, f5, f6, f7⟩ := I.grid
    refine ⟨_, f1, S1, _, _, I1, hw, fun y u' S2 H2 g2 ry ⟨i, hy, hil, hC⟩ => ?_⟩
    subst hy
    obtain rfl := ry.int
    have hq : ∃ q, qs[i]? = some q := ⟨qs[i]'(by omega), by simp⟩
    obtain ⟨q, hq⟩ := hq
    refine .inl ⟨p, qs.map V.ref, i, .ref q, rfl, rfl, sq_of (g2.h _ _ f2), L2.atI_nat (by rw [List.getElem?_map, hq]; rfl), ?_⟩
    have J := I.grow g2.h
    obtain ⟨p2, qs2, m1, m2, m3, m4, m5, m6, m7⟩ := J.grid
    rw [f1] at m1
    cases m1
    have eq2 : qs2 = qs := by
      have := g2.h _ _ f2
      rw [m2] at this
      have := HO.lst.inj (Option.some.inj this)
      exact map_ref_inj this
    subst eq2
    have hol : o < σ.length := by
      have h1 := J.base.len
      have h2 := (List.getElem?_eq_some_iff.mp J.ho).1
      omega
    refine k.nx { z with oi := some i } _ S _ (Ex.refl _) ⟨⟨J.base.sh, J.base.h0, J.base.s0, J.base.old, by rw [List.length_set]; exact J.base.len, fun j cc e => ?_, fun j1 j2 c1 c2 p _ hj _ oj _ _ _ => by rw [J.nown j1 c1 hj] at oj; cases oj⟩, J.nown, J.hr, J.ho, J.ro, p, qs2, by rw [List.getElem?_set_ne (Ne.symm J.ro)]; exact f1, m2, m3, m4, m5, m6, fun i' hi' => ?_⟩ hC
    · obtain ⟨v, hv, rv⟩ := J.base.slot j cc e
      have hjo : o ≠ j := fun h => by
        subst h
        have := J.ho
        have e' : z.δ[o]? = some (some cc) := e
        rw [this] at e'
        cases e'
      exact ⟨v, by rw [List.getElem?_set_ne hjo]; exact hv, rv⟩
    · cases hi'
      exact ⟨q, hq, List.getElem?_set_self hol⟩
def zRet (r o : Nat) : WZ := fun z _ C => C.rt (.lst (z.G.map D.lst))
theorem mz_ret (hf : b.fr = false) (hN : X.N[r]? = some x := by rfl) (hv : Vis X.env.scope x := by first | exact Or.inl rfl | exact Or.inr (Or.inl rfl) | exact Or.inr (Or.inr rfl)) (hd : (x == ("__debug__" : Str)) = false := by decide)
    (hcd : (x == ("__classdict__" : Str)) = false := by decide) : MZ X b r o (.Return (some (.Name x p)) pos) (zRet r o) := PS.imp (ps_ret (me_var (b := b) r hN hv hd hcd)) fun Dn σ H ⟨S, z, C, I, hw, k⟩ => by
  obtain ⟨S1, e1, I1⟩ := I.frz
  refine ⟨S1, _, C.rt, I1, ?_, fun d v S' H' gr rr hd => k.rt d v S' H' ((I1.grow gr).ret hf rr) hd⟩
  have hrl := (List.getElem?_eq_some_iff.mp I.hr).1
  have : (z.fz r o)[r]? = some (st (.lst (z.G.map D.lst))) := by
    unfold Gs.fz
    rw [List.getElem?_set_ne (Ne.symm I.ro), List.getElem?_set_self hrl]
  unfold wVar
  rw [this]
  exact hw
def zFor (wi : WI) (t : Nat) (u : WZ) : WZ := fun z EX C => wi z.δ EX fun items => ∃ M : Nat → Gs → Prop, M 0 z ∧
  (∀ (i : Nat) d z', items[i]? = some d → M i z' → u { z' with δ := z'.δ.set t (st d) } EX { C with nx := M (i + 1) }) ∧ ∀ z', M items.length z' → C.nx z'
theorem GridR.gr (I : GridR K b r o S z σ H) (gr : Grow S H S' H') : GridR K b r o S' z σ H' := by
  obtain ⟨p, qs, h1, h2, h3, h4, h5, h6, h7⟩ := I.grid
  have there : ∀ a ∈ p :: qs, ∃ u, H a = some u := fun a ha => by
    rcases List.mem_cons.mp ha with rfl | ha
    · exact ⟨_, h2⟩
    · obtain ⟨k, hk⟩ := List.mem_iff_getElem?.mp ha
      obtain ⟨xs, ds, e, _⟩ := h6 k a hk
      exact ⟨_, e⟩
  refine ⟨I.base.grow gr, I.nown, I.hr, I.ho, I.ro, p, qs, h1, gr.h _ _ h2, h3, fun a ha => ⟨(h4 a ha).1, ?_⟩, h5, fun k q hq => let ⟨xs, ds, a, b, c⟩ := h6 k q hq; ⟨xs, ds, gr.h _ _ a, b, c.mono gr.s⟩, h7⟩
  obtain ⟨u, hu⟩ := there a ha
  exact (gr.old a u hu).trans (h4 a ha).2
theorem wipe_one {σ σ' : L2.St} {t j : Nat} (h : L2.wipe σ' [t] = L2.wipe σ [t]) (hj : t ≠ j) : σ'[j]? = σ[j]? := by
  have e := congrArg (fun l => l[j]?) h
  simp only [L2.wipe] at e
  rw [List.getElem?_set_ne hj, List.getElem?_set_ne hj] at e
  exact e
theorem mz_for {tg : Expr} {wi : WI} (t : Nat) (hr : t ≠ r) (ho : t ≠ o) (hp : PassesOwn (model X.prog X.w) X.A X.env X.xe) (hc : X.calm = true) (hi : MI X b tg e wi) (hg : MG X b [t] tg (wgName t)) (hb : MZs X b r o body u) (hs : ∀ x, foldedSetIterable e X.env x = pure x := by intro _; rfl) :
    MZ X b r o (.For tg e body [] pos) (zFor wi t u) := PS.imp (ps_for hp hc hi hg hb hs) fun Dn σ H ⟨S, z, C, I, hw, k⟩ => by
  refine ⟨S, z.δ, _, I.base, hw, fun items J S1 H1 g1 yi ⟨M, m0, ms, md⟩ => ?_⟩
  refine ⟨fun i m σ' H' => m = items.length - i ∧ i ≤ items.length ∧ ∃ S' z', Ex S1 S' ∧ GridR X.K b r o S' z' σ' H' ∧ M i z', ⟨items.length, by simp, Nat.zero_le _, S1, z, Ex.refl _, I.gr g1, m0⟩, ?_⟩
  rintro i m σ' H' ⟨rfl, hi, S', z', e1, I', hm⟩
  by_cases hlt : i < items.length
  · refine .inr ⟨yi.go i S' H' e1 I'.base.sh hlt, fun σ2 H2 => ∃ S2 z2, Ex S1 S2 ∧ GridR X.K b r o S2 z2 σ2 H2 ∧ M (i + 1) z2, fun σ2 H2 ⟨S2, z2, e2, I2, h2⟩ => ⟨items.length - (i + 1), by omega, rfl, hlt, S2, z2, e2, I2, h2⟩, fun v H2 y => ?_⟩
    obtain ⟨d, S2, hd, g2, rv⟩ := yi.yld i S' H' v H2 hlt e1 I'.base.sh y
    have J2 := I'.gr g2
    refine ⟨S2, z'.δ, d, fun δ' => δ' = z'.δ.set t (st d), J2.base, rv, rfl, fun δ2 σ2 I2 e2 hδ => ?_⟩
    subst hδ
    obtain ⟨p, qs, h1, h2, h3, h4, h5, h6, h7⟩ := J2.grid
    refine ⟨S2, { z' with δ := z'.δ.set t (st d) }, _, ⟨I2, fun j cc e => ?_, by show (z'.δ.set t _)[r]? = _; rw [List.getElem?_set_ne hr]; exact J2.hr, by show (z'.δ.set t _)[o]? = _; rw [List.getElem?_set_ne ho]; exact J2.ho, J2.ro, p, qs, by rw [wipe_one e2 hr]; exact h1, h2, h3, h4, h5, h6, fun i' hi' => ?_⟩, ms i d z' hd hm,
      ⟨fun z3 σ3 S3 H3 e3 I3 hM => ⟨S3, z3, (e1.trans g2.s).trans e3, I3, hM⟩, k.rt⟩⟩
    · by_cases hj : t = j
      · subst hj
        have e' : (z'.δ.set t (st d))[t]? = some (some cc) := e
        have hl : t < z'.δ.length := by
          have := (List.getElem?_eq_some_iff.mp e').1
          rwa [List.length_set] at this
        rw [List.getElem?_set_self hl] at e'
        cases e'
        rfl
      · have e' : (z'.δ.set t (st d))[j]? = some (some cc) := e
        rw [List.getElem?_set_ne hj] at e'
        exact J2.nown j cc e'
    · obtain ⟨q, a1, a2⟩ := h7 i' hi'
      exact ⟨q, a1, by rw [wipe_one e2 ho]; exact a2⟩
  · have e2 : i = items.length := by omega
    subst e2
    exact .inl ⟨yi.stop _ S' H' e1 I'.base.sh (Nat.le_refl _), k.nx z' σ' S' H' (g1.s.trans e1) I' (md z' hm)⟩
end
end Mi
namespace Mi
open PySem L2 Evl PySem.Spec PyProof.Rows
section
variable {X : Cx} {b : Bs} {K : PySem.W.Frag} {g : G} {S S' H H' : Hp} {δ : Env} {σ : L2.St} {z : Gs} {r o : Nat} {a e tg : Expr} {ss : List Stmt} {u : WZ} {wi : WI} {wg : WG} {we : WE} {pos p : Pos}
theorem repA_ints : ∀ ns : List Int, RepA K g S (ns.map V.int) (ns.map D.int)
  | [] => .nil
  | n :: ns => .cons (.int n) (repA_ints ns)
def wInitZ (r o : Nat) (wi : WI) (wg : WG) (we : WE) (vs : List Nat) (u : WZ) : WS := fun δ EX C => wi δ EX fun items => items.length < 10000000 ∧ (∀ (i : Nat) (c : Cell), δ[i]? = some (some c) → c.own = false) ∧ δ[r]? = some none ∧ δ[o]? = some none ∧ r ≠ o ∧
  ∃ row : List Int, (∀ (i : Nat) (d : D) (R : D → Prop), items[i]? = some d → R (.lst (row.map D.int)) → wg d (wipeE δ vs) fun δ2 => we δ2 (fun _ => False) R) ∧ u ⟨δ, List.replicate items.length (row.map D.int), none⟩ EX ⟨fun _ => False, C.rt⟩
theorem mz_init {y : Str} {py spos : Pos} {scope : Scope} {own : List (Str × Nat)} (hc : X.calm = true) (hN : X.N.Nodup) (hi : MI X b tg e wi) (ok : BlkOk X.N X.env.scope scope own)
    (hg : ∀ (s : Shared) (H : Hp) (C : Addr) (cl : List (Str × Addr)) (fp : List Addr), MG (X.blk s H scope (compEnvC scope cl C X.env) fp) b.calm (own.map (·.2)) tg wg)
    (he : ∀ (s : Shared) (H : Hp) (C : Addr) (cl : List (Str × Addr)) (fp : List Addr), MF (X.blk s H scope (compEnvC scope cl C X.env) fp) b.calm a we) (hrest : MZs X b r o ss u)
    (hy : X.N[r]? = some y := by rfl) (hyl : X.env.scope.names.lookup y = some .local := by rfl)
    (hsw : swapsWith (.ListComp a [⟨tg, e, [], 0⟩] scope pos) (some (.Name y py)) spos.line X.env = pure true := by exact sw_true rfl rfl rfl (by decide +kernel)) (hs : ∀ x, foldedSetIterable e X.env x = pure x := by intro _; rfl) :
    MSs X b (.Assign [.Name y py] (.ListComp a [⟨tg, e, [], 0⟩] scope pos) spos :: ss) (wInitZ r o wi wg we (own.map (·.2)) u) :=
  PSs.imp (pss_cons (ps_setLc (g := tGt X.K b.calm (own.map fun (q : Str × Nat) => q.2) wg) (tt := tM X.K b.calm wYes) (te := tF X.K b.calm we) hc hN hy hyl hsw hi ok hg (fun _ _ _ _ _ => mts_nil) he hs) hrest) fun Dn σ H ⟨S, δ, C, I, hw, k⟩ => by
    refine ⟨S, δ, _, I, hw, fun items J S1 H1 g1 yi ⟨hl, hno, hr, ho, hro, row, hs, hu⟩ => ?_⟩
    intro Dl hD
    have J1 := I.grow g1
    refine ⟨fun i m H' => m = items.length - i ∧ i ≤ items.length ∧ ∃ qs : List Addr, Ex H1 H' ∧ H' Dl = some (.lst (qs.map V.ref)) ∧ (Dl :: qs).Nodup ∧ (∀ q ∈ qs, H1 q = none) ∧ qs.length = i ∧ ∀ q ∈ qs, H' q = some (.lst (row.map V.int)),
      ⟨items.length, by simp, Nat.zero_le _, [], Ex.new hD, upd_same, by simp, (fun q hq => by simp at hq), rfl, (fun q hq => by simp at hq)⟩, ?_⟩
    rintro i m H' ⟨rfl, hi, qs, eH, hDl, hnd, hf, hql, hqs⟩
    by_cases hlt : i < items.length
    · refine .inr ⟨yi.go i S1 H' (Ex.refl _) (g1.sh.trans eH) hlt, fun H2 => ∃ qs : List Addr, Ex H1 H2 ∧ H2 Dl = some (.lst (qs.map V.ref)) ∧ (Dl :: qs).Nodup ∧ (∀ q ∈ qs, H1 q = none) ∧ qs.length = i + 1 ∧ ∀ q ∈ qs, H2 q = some (.lst (row.map V.int)),
        fun H2 ⟨qs, z1, z2, z3, z4, z5, z6⟩ => ⟨items.length - (i + 1), by omega, rfl, hlt, qs, z1, z2, z3, z4, z5, z6⟩, fun v H2 y => ?_⟩
      obtain ⟨d, S2, hd, g2, rv⟩ := yi.yld i S1 H' v H2 hlt (Ex.refl _) (g1.sh.trans eH) y
      have J2 : StR X.K b.calm (wipeE δ (own.map (·.2))) (L2.wipe σ (own.map (·.2))) S2 H2 := (((J1.grow (Grow.keepS J1.sh eH)).grow g2).wipe _).calm
      refine ⟨S2, _, d, _, J2, rv, hs i d (fun y => y = .lst (row.map D.int)) hd rfl, fun δ2 σ2 I2 e2 h2 => ?_⟩
      refine ⟨by rw [e2]; exact wipe_wipe σ _, S2, δ2, fun c => c = true, I2, rfl, fun c S3 H3 g3 h3 => ?_⟩
      subst h3
      show (if true = true then _ else _)
      rw [if_pos rfl]
      refine ⟨S3, δ2, _, I2.grow g3, h2, fun yd q' S4 H4 g4 hq' sq' ow hyd => ?_⟩
      subst hyd
      obtain ⟨xs, hx, ra⟩ := ow
      obtain rfl := ints_of ra
      have e24 : Ex H2 H4 := g3.h.trans g4.h
      have eh4 : Ex H' H4 := g2.h.trans e24
      have h4D : H4 Dl = some (.lst (qs.map V.ref)) := eh4 _ _ hDl
      have h3D : H3 Dl = some (.lst (qs.map V.ref)) := g3.h _ _ (g2.h _ _ hDl)
      have nqD : q' ≠ Dl := fun z => by rw [z, h3D] at hq'; cases hq'
      have h3q : ∀ q ∈ qs, H3 q = some (.lst (row.map V.int)) := fun q hq => g3.h _ _ (g2.h _ _ (hqs q hq))
      have nqq : q' ∉ qs := fun z => by rw [h3q q' z] at hq'; cases hq'
      have hD0 : Dl ∉ qs := (List.nodup_cons.mp hnd).1
      refine ⟨qs.map V.ref, h4D, by rw [List.length_map]; exact lt_line (ltL (by omega)), qs ++ [q'], fun p u hp => ?_, by rw [upd_same, List.map_append]; rfl, ?_, fun q hq => ?_, by rw [List.length_append, hql]; rfl, fun q hq => ?_⟩
      · rw [upd_ne (ne_of_none hp hD)]
        exact eh4 _ _ (eH _ _ hp)
      · refine List.nodup_cons.mpr ⟨fun z => ?_, List.nodup_append.mpr ⟨(List.nodup_cons.mp hnd).2, by simp, fun a ha c hc => ?_⟩⟩
        · rcases List.mem_append.mp z with z | z
          · exact hD0 z
          · exact nqD (List.mem_singleton.mp z).symm
        · cases List.mem_singleton.mp hc
          exact fun z => nqq (by rw [← z]; exact ha)
      · rcases List.mem_append.mp hq with hq | hq
        · exact hf q hq
        · cases List.mem_singleton.mp hq
          exact none_of_ex (eH.trans (g2.h.trans g3.h)) hq'
      · rcases List.mem_append.mp hq with hq | hq
        · rw [upd_ne (fun z => hD0 (by rw [← z]; exact hq))]
          exact eh4 _ _ (hqs q hq)
        · cases List.mem_singleton.mp hq
          rw [upd_ne nqD]
          exact hx
    · have e2 : i = items.length := by omega
      subst e2
      refine .inl ⟨yi.stop _ S1 H' (Ex.refl _) (g1.sh.trans eH) (Nat.le_refl _), ?_⟩
      have hrl : r < σ.length := by
        have h1 := J1.len
        have h2 := (List.getElem?_eq_some_iff.mp hr).1
        omega
      have fr : ∀ a, H1 a = none → b.H0 a = none ∧ S1 a = none := fun a ha => ⟨none_of_ex J1.h0 ha, none_of_ex g1.sh ha⟩
      have J3 := J1.grow (Grow.keepS J1.sh eH)
      refine ⟨S1, ⟨δ, List.replicate items.length (row.map D.int), none⟩, _, ⟨⟨J3.sh, J3.h0, J3.s0, J3.old, by rw [List.length_set]; exact J3.len, fun j cc e => ?_, fun j1 j2 c1 c2 p _ hj _ oj _ _ _ => by rw [hno j1 c1 hj] at oj; cases oj⟩, hno, hr, ho, hro, Dl, qs, List.getElem?_set_self hrl, hDl, hnd, fun a ha => ?_, by rw [List.length_replicate]; exact hql, fun k' q hq => ?_, fun i' hi' => by cases hi'⟩, hu, ⟨fun _ _ _ _ _ _ z => z.elim, k.rt⟩⟩
      · obtain ⟨v, hv, rv⟩ := J3.slot j cc e
        have hjr : r ≠ j := fun h => by
          subst h
          rw [hr] at e
          cases e
        exact ⟨v, by rw [List.getElem?_set_ne hjr]; exact hv, rv⟩
      · rcases List.mem_cons.mp ha with rfl | ha
        · exact fr _ hD
        · exact fr _ (hf a ha)
      · have hk := (List.getElem?_eq_some_iff.mp hq).1
        exact ⟨_, _, hqs q (List.mem_of_getElem? hq), by rw [List.getElem?_replicate, if_pos (by omega)], repA_ints row⟩
end
end Mi
namespace K86
open PySem Mi
/-! ### the least number of changes -/
def lev : List Str → List Str → Nat
  | [], B => B.length
  | A, [] => A.length
  | x :: A, y :: B => if x = y then min (1 + min (lev A (y :: B)) (lev (x :: A) B)) (lev A B) else 1 + min (lev A (y :: B)) (lev (x :: A) B)
termination_by A B => A.length + B.length
def lv (A B : List Str) (i j : Nat) : Nat := lev (A.drop i) (B.drop j)
theorem lev_nil (B : List Str) : lev [] B = B.length := by rw [lev]
theorem lev_nil' (A : List Str) : lev A [] = A.length := by cases A <;> rw [lev] <;> simp
theorem lv_endA {A B : List Str} {i j : Nat} (h : A.length ≤ i) : lv A B i j = B.length - j := by
  unfold lv; rw [List.drop_eq_nil_of_le h, lev_nil, List.length_drop]
theorem lv_endB {A B : List Str} {i j : Nat} (h : B.length ≤ j) : lv A B i j = A.length - i := by
  unfold lv; rw [List.drop_eq_nil_of_le h, lev_nil', List.length_drop]
theorem lv_step {A B : List Str} {i j : Nat} (hi : i < A.length) (hj : j < B.length) :
    lv A B i j = if A[i] = B[j] then min (1 + min (lv A B (i + 1) j) (lv A B i (j + 1))) (lv A B (i + 1) (j + 1)) else 1 + min (lv A B (i + 1) j) (lv A B i (j + 1)) := by
  unfold lv
  rw [List.drop_eq_getElem_cons hi, List.drop_eq_getElem_cons hj, lev]
/-! ### the way -/
abbrev P2 := Nat × Nat
def come (A B : List Str) (p : P2) : Bool := decide (p.2 < B.length ∧ lv A B p.1 p.2 = 1 + lv A B p.1 (p.2 + 1))
def goes (A B : List Str) (p : P2) : Bool := decide (p.1 < A.length ∧ lv A B p.1 p.2 = 1 + lv A B (p.1 + 1) p.2)
def more (A B : List Str) (p : P2) : Bool := decide (p.1 < A.length ∨ p.2 < B.length)
def nxt (A B : List Str) (p : P2) : P2 := if come A B p then (p.1, p.2 + 1) else if goes A B p then (p.1 + 1, p.2) else (p.1 + 1, p.2 + 1)
def at_ (A B : List Str) : Nat → P2
  | 0 => (0, 0)
  | t + 1 => if more A B (at_ A B t) then nxt A B (at_ A B t) else at_ A B t
inductive Ch where
  | stay (i j : Nat) | come (j : Nat) | go (i : Nat)
def Ch.d : Ch → D
  | .stay i j => .tup [.str "stay", .int i, .int j]
  | .come j => .tup [.str "come", .int j]
  | .go i => .tup [.str "go", .int i]
def chg (A B : List Str) (p : P2) : Ch := if come A B p then .come p.2 else if goes A B p then .go p.1 else .stay p.1 p.2
structure IsT (A B : List Str) (T : Nat) : Prop where
  fin : more A B (at_ A B T) = false
  bef : ∀ t, t < T → more A B (at_ A B t) = true
theorem stay_ok {A B : List Str} {p : P2} (h1 : p.1 ≤ A.length) (h2 : p.2 ≤ B.length) (hm : more A B p = true) (hc : come A B p = false) (hg : goes A B p = false) :
    ∃ (a : p.1 < A.length) (b : p.2 < B.length), A[p.1] = B[p.2] ∧ lv A B p.1 p.2 = lv A B (p.1 + 1) (p.2 + 1) := by
  unfold more at hm; unfold come at hc; unfold goes at hg
  rw [decide_eq_true_eq] at hm
  rw [decide_eq_false_iff_not] at hc hg
  by_cases a : p.1 < A.length
  · by_cases b : p.2 < B.length
    · refine ⟨a, b, ?_⟩
      have s := lv_step a b
      split at s
      · rename_i e
        refine ⟨e, ?_⟩
        have h3 : lv A B p.1 p.2 ≠ 1 + lv A B p.1 (p.2 + 1) := fun z => hc ⟨b, z⟩
        have h4 : lv A B p.1 p.2 ≠ 1 + lv A B (p.1 + 1) p.2 := fun z => hg ⟨a, z⟩
        omega
      · have h3 : lv A B p.1 p.2 ≠ 1 + lv A B p.1 (p.2 + 1) := fun z => hc ⟨b, z⟩
        have h4 : lv A B p.1 p.2 ≠ 1 + lv A B (p.1 + 1) p.2 := fun z => hg ⟨a, z⟩
        omega
    · exact absurd ⟨a, by rw [lv_endB (by omega), lv_endB (by omega)]; omega⟩ hg
  · have b : p.2 < B.length := by omega
    exact absurd ⟨b, by rw [lv_endA (by omega), lv_endA (by omega)]; omega⟩ hc
theorem at_le (A B : List Str) : ∀ t, (at_ A B t).1 ≤ A.length ∧ (at_ A B t).2 ≤ B.length
  | 0 => ⟨Nat.zero_le _, Nat.zero_le _⟩
  | t + 1 => by
    obtain ⟨h1, h2⟩ := at_le A B t
    unfold at_
    by_cases hm : more A B (at_ A B t) = true
    · rw [if_pos hm]
      unfold nxt
      by_cases hc : come A B (at_ A B t) = true
      · rw [if_pos hc]
        have := of_decide_eq_true hc
        exact ⟨h1, by show _ + 1 ≤ _; omega⟩
      · rw [if_neg hc]
        by_cases hg : goes A B (at_ A B t) = true
        · rw [if_pos hg]
          have := of_decide_eq_true hg
          exact ⟨by show _ + 1 ≤ _; omega, h2⟩
        · rw [if_neg hg]
          obtain ⟨a, b, _⟩ := stay_ok h1 h2 hm (by simpa using hc) (by simpa using hg)
          exact ⟨by show _ + 1 ≤ _; omega, by show _ + 1 ≤ _; omega⟩
    · rw [if_neg hm]; exact ⟨h1, h2⟩
theorem at_sum (A B : List Str) : ∀ t, (∀ s, s < t → more A B (at_ A B s) = true) → t ≤ (at_ A B t).1 + (at_ A B t).2
  | 0, _ => Nat.zero_le _
  | t + 1, h => by
    have ih := at_sum A B t fun s hs => h s (by omega)
    unfold at_
    rw [if_pos (h t (Nat.lt_succ_self t))]
    unfold nxt
    split
    · show t + 1 ≤ _ + (_ + 1); omega
    · split
      · show t + 1 ≤ (_ + 1) + _; omega
      · show t + 1 ≤ (_ + 1) + (_ + 1); omega
theorem isT_le {A B : List Str} {T : Nat} (h : IsT A B T) : T ≤ A.length + B.length := by
  have := at_sum A B T h.bef
  have := at_le A B T
  omega
theorem isT_ex (A B : List Str) : ∃ T, IsT A B T := by
  have hex : ∃ T, more A B (at_ A B T) = false := by
    apply Classical.byContradiction
    intro hn
    have hall : ∀ t, more A B (at_ A B t) = true := fun t => by
      cases e : more A B (at_ A B t) with
      | true => rfl
      | false => exact absurd ⟨t, e⟩ hn
    have := at_sum A B (A.length + B.length + 1) fun s _ => hall s
    have := at_le A B (A.length + B.length + 1)
    omega
  have key : ∀ n, (∃ T, T ≤ n ∧ more A B (at_ A B T) = false) → ∃ T, IsT A B T := by
    intro n
    induction n with
    | zero => rintro ⟨T, hT, e⟩; exact ⟨T, e, fun t ht => by omega⟩
    | succ n ih =>
      rintro ⟨T, hT, e⟩
      by_cases hx : ∃ T, T ≤ n ∧ more A B (at_ A B T) = false
      · exact ih hx
      · refine ⟨T, e, fun t ht => ?_⟩
        cases e2 : more A B (at_ A B t) with
        | true => rfl
        | false => exact absurd ⟨t, by omega, e2⟩ hx
  obtain ⟨T, e⟩ := hex
  exact key T ⟨T, Nat.le_refl _, e⟩
theorem isT_end {A B : List Str} {T : Nat} (h : IsT A B T) : at_ A B T = (A.length, B.length) := by
  have e := of_decide_eq_false h.fin
  have := at_le A B T
  exact Prod.ext (by show (at_ A B T).1 = A.length; omega) (by show (at_ A B T).2 = B.length; omega)
theorem at_past {A B : List Str} {T : Nat} (h : IsT A B T) : ∀ k, at_ A B (T + k) = at_ A B T
  | 0 => rfl
  | k + 1 => by
    show at_ A B (T + k + 1) = _
    rw [at_, at_past h k, if_neg (by rw [h.fin]; exact Bool.false_ne_true)]
/-! ### as data -/
abbrev SS (A : List Str) : D := .lst (A.map D.str)
def dueL (A B : List Str) (T : Nat) : List D := (List.range T).map fun t => (chg A B (at_ A B t)).d
def wd (B : List Str) : Nat := B.length + 1
def node (B : List Str) (p : P2) : Int := ((p.1 * wd B + p.2 : Nat) : Int)
def wayL (A B : List Str) (T : Nat) : List D := (List.range (T + 1)).map fun t => .int (node B (at_ A B t))
def aheadL (A B : List Str) : List D := (List.range ((A.length + 1) * wd B)).map fun p => .int (lv A B (p / wd B) (p % wd B) : Nat)
def opts (A B : List Str) (p : Nat) : List (Nat × Nat) :=
  (if p % wd B < B.length then [(p + 1, 1)] else []) ++ (if p / wd B < A.length then [(p + wd B, 1)] else []) ++
    (if p / wd B < A.length ∧ p % wd B < B.length ∧ A[p / wd B]? = B[p % wd B]? then [(p + wd B + 1, 0)] else [])
def optD (o : Nat × Nat) : D := .tup [.int (o.1 : Nat), .int (o.2 : Nat)]
def tabL (A B : List Str) : List D := (List.range ((A.length + 1) * wd B - 1)).map fun p => .lst ((opts A B p).map optD)
/-- fits -/
def Few (A B : List Str) : Prop := (A.length + 1) * (B.length + 1) ≤ 1900
theorem few_len {A B : List Str} (h : Few A B) : A.length < 1900 ∧ B.length < 1900 := by
  unfold Few at h
  constructor
  · have := Nat.le_mul_of_pos_right (A.length + 1) (show 0 < B.length + 1 from Nat.succ_pos _)
    omega
  · have := Nat.le_mul_of_pos_left (B.length + 1) (show 0 < A.length + 1 from Nat.succ_pos _)
    omega
theorem node_div {B : List Str} {p : P2} (h : p.2 ≤ B.length) : (p.1 * wd B + p.2) / wd B = p.1 := by
  unfold wd
  rw [Nat.mul_comm, Nat.mul_add_div (by omega), Nat.div_eq_of_lt (by omega), Nat.add_zero]
theorem node_mod {B : List Str} {p : P2} (h : p.2 ≤ B.length) : (p.1 * wd B + p.2) % wd B = p.2 := by
  unfold wd
  rw [Nat.mul_comm, Nat.mul_add_mod, Nat.mod_eq_of_lt (by omega)]
theorem node_lt {A B : List Str} {p : P2} (h1 : p.1 ≤ A.length) (h : p.2 ≤ B.length) : p.1 * wd B + p.2 < (A.length + 1) * wd B := by
  have := Nat.mul_le_mul_right (wd B) h1
  rw [Nat.succ_mul]
  unfold wd at *
  omega
theorem node_end {A B : List Str} : A.length * wd B + B.length = (A.length + 1) * wd B - 1 := by
  rw [Nat.succ_mul]; unfold wd; omega
theorem node_lt' {A B : List Str} {p : P2} (h1 : p.1 ≤ A.length) (h : p.2 ≤ B.length) (hm : more A B p = true) : p.1 * wd B + p.2 < (A.length + 1) * wd B - 1 := by
  have hm := of_decide_eq_true hm
  rw [← node_end]
  by_cases a : p.1 < A.length
  · have := Nat.mul_le_mul_right (wd B) (show p.1 + 1 ≤ A.length from a)
    rw [Nat.succ_mul] at this
    unfold wd at *
    omega
  · have e : p.1 = A.length := by omega
    rw [e]
    omega
end K86
namespace K86
open PySem Mi
def lvp (A B : List Str) (p : Nat) : Nat := lv A B (p / wd B) (p % wd B)
theorem p_node {A B : List Str} {p : Nat} (hp : p < (A.length + 1) * wd B) : ∃ i j, i ≤ A.length ∧ j ≤ B.length ∧ p = i * wd B + j ∧ p / wd B = i ∧ p % wd B = j := by
  have hw : 0 < wd B := Nat.succ_pos _
  refine ⟨p / wd B, p % wd B, ?_, ?_, ?_, rfl, rfl⟩
  · have := (Nat.div_lt_iff_lt_mul hw).mpr hp
    omega
  · have := Nat.mod_lt p hw
    unfold wd at *; omega
  · have := Nat.div_add_mod p (wd B)
    rw [Nat.mul_comm] at this
    omega
theorem lvp_node (A B : List Str) {i j : Nat} (hj : j ≤ B.length) : lvp A B (i * wd B + j) = lv A B i j := by
  unfold lvp
  rw [node_div (p := (i, j)) hj, node_mod (p := (i, j)) hj]
theorem lv_come {A B : List Str} {i j : Nat} (hi : i ≤ A.length) (hj : j < B.length) : lv A B i j ≤ 1 + lv A B i (j + 1) := by
  by_cases h : i < A.length
  · have := lv_step h hj
    split at this <;> omega
  · rw [lv_endA (by omega), lv_endA (by omega)]; omega
theorem lv_goes {A B : List Str} {i j : Nat} (hi : i < A.length) (hj : j ≤ B.length) : lv A B i j ≤ 1 + lv A B (i + 1) j := by
  by_cases h : j < B.length
  · have := lv_step hi h
    split at this <;> omega
  · rw [lv_endB (by omega), lv_endB (by omega)]; omega
theorem lv_stay {A B : List Str} {i j : Nat} (hi : i < A.length) (hj : j < B.length) (e : A[i]? = B[j]?) : lv A B i j ≤ lv A B (i + 1) (j + 1) := by
  have := lv_step hi hj
  rw [if_pos (by simpa [hi, hj] using e)] at this
  omega
/-- the node p = (i, j) and its options -/
theorem opts_eq (A B : List Str) {i j : Nat} (hj : j ≤ B.length) : opts A B (i * wd B + j) =
    (if j < B.length then [(i * wd B + (j + 1), 1)] else []) ++ (if i < A.length then [((i + 1) * wd B + j, 1)] else []) ++ (if i < A.length ∧ j < B.length ∧ A[i]? = B[j]? then [((i + 1) * wd B + (j + 1), 0)] else []) := by
  unfold opts
  rw [node_div (p := (i, j)) hj, node_mod (p := (i, j)) hj]
  have e1 : i * wd B + j + 1 = i * wd B + (j + 1) := rfl
  have e2 : i * wd B + j + wd B = (i + 1) * wd B + j := by rw [Nat.succ_mul]; omega
  have e3 : i * wd B + j + wd B + 1 = (i + 1) * wd B + (j + 1) := by rw [Nat.succ_mul]; omega
  rw [e3, e1, e2]
theorem opt_all {A B : List Str} {i j : Nat} (hi : i ≤ A.length) (hj : j ≤ B.length) : ∀ o ∈ opts A B (i * wd B + j), ∃ i' j', o.1 = i' * wd B + j' ∧ i' ≤ A.length ∧ j' ≤ B.length ∧ i * wd B + j < o.1 ∧ o.2 ≤ 1 ∧ lv A B i j ≤ o.2 + lv A B i' j' := by
  intro o ho
  rw [opts_eq A B hj] at ho
  have hm : (i + 1) * wd B = i * wd B + wd B := Nat.succ_mul _ _
  have hw : 0 < wd B := Nat.succ_pos _
  rcases List.mem_append.mp ho with ho | ho
  · rcases List.mem_append.mp ho with ho | ho
    · split at ho
      · rename_i h
        cases List.mem_singleton.mp ho
        exact ⟨i, j + 1, rfl, hi, h, by show _ < i * wd B + (j + 1); omega, Nat.le_refl _, lv_come hi h⟩
      · cases ho
    · split at ho
      · rename_i h
        cases List.mem_singleton.mp ho
        exact ⟨i + 1, j, rfl, h, hj, by show _ < (i + 1) * wd B + j; omega, Nat.le_refl _, lv_goes h hj⟩
      · cases ho
  · split at ho
    · rename_i h
      cases List.mem_singleton.mp ho
      exact ⟨i + 1, j + 1, rfl, h.1, h.2.1, by show _ < (i + 1) * wd B + (j + 1); omega, Nat.zero_le _, by rw [Nat.zero_add]; exact lv_stay h.1 h.2.1 h.2.2⟩
    · cases ho
def good (A B : List Str) (p : Nat) (o : Nat × Nat) : Bool := decide (o.2 + lvp A B o.1 = lvp A B p)
/-- the first good option is the next node of the way -/
theorem opt_first {A B : List Str} {i j : Nat} (hi : i ≤ A.length) (hj : j ≤ B.length) (hm : more A B (i, j) = true) :
    ∃ pre post c, opts A B (i * wd B + j) = pre ++ [((nxt A B (i, j)).1 * wd B + (nxt A B (i, j)).2, c)] ++ post ∧ (∀ o ∈ pre, good A B (i * wd B + j) o = false) ∧
      good A B (i * wd B + j) ((nxt A B (i, j)).1 * wd B + (nxt A B (i, j)).2, c) = true := by
  rw [opts_eq A B hj]
  unfold good
  simp only [lvp_node A B hj]
  unfold nxt
  by_cases hc : come A B (i, j) = true
  · have h := of_decide_eq_true hc
    rw [if_pos hc, if_pos (c := j < B.length) h.1]
    generalize (if i < A.length then [((i + 1) * wd B + j, 1)] else []) = Y
    generalize (if i < A.length ∧ j < B.length ∧ A[i]? = B[j]? then [((i + 1) * wd B + (j + 1), 0)] else []) = Z
    refine ⟨[], Y ++ Z, 1, by rw [List.nil_append, List.append_assoc], fun o ho => by simp at ho, ?_⟩
    have h1 : lv A B i j = 1 + lv A B i (j + 1) := h.2
    show decide (1 + lvp A B (i * wd B + (j + 1)) = lv A B i j) = true
    rw [lvp_node A B (show j + 1 ≤ B.length from h.1), decide_eq_true_eq, h1]
  · have hc' := of_decide_eq_false (by simpa using hc : come A B (i, j) = false)
    have pc : ∀ o ∈ (if j < B.length then [(i * wd B + (j + 1), 1)] else ([] : List (Nat × Nat))), decide (o.2 + lvp A B o.1 = lv A B i j) = false := fun o ho => by
      split at ho
      · rename_i h
        cases List.mem_singleton.mp ho
        rw [decide_eq_false_iff_not]
        show ¬ (1 + lvp A B (i * wd B + (j + 1)) = _)
        rw [lvp_node A B (show j + 1 ≤ B.length from h)]
        exact fun z => hc' ⟨h, z.symm⟩
      · cases ho
    by_cases hg : goes A B (i, j) = true
    · have h := of_decide_eq_true hg
      rw [if_neg hc, if_pos hg, if_pos (c := i < A.length) h.1]
      refine ⟨_, _, 1, rfl, pc, ?_⟩
      have h1 : lv A B i j = 1 + lv A B (i + 1) j := h.2
      show decide (1 + lvp A B ((i + 1) * wd B + j) = _) = true
      rw [lvp_node A B hj, decide_eq_true_eq, h1]
    · have hg' := of_decide_eq_false (by simpa using hg : goes A B (i, j) = false)
      obtain ⟨a, b, e, l⟩ := stay_ok (p := (i, j)) hi hj hm (by simpa using hc) (by simpa using hg)
      rw [if_neg hc, if_neg hg, if_pos (c := i < A.length ∧ _ ∧ _) ⟨a, b, by simpa [show i < A.length from a, show j < B.length from b] using e⟩]
      refine ⟨_, [], 0, by rw [List.append_nil], fun o ho => ?_, ?_⟩
      · rcases List.mem_append.mp ho with ho | ho
        · exact pc o ho
        · rw [if_pos (show i < A.length from a)] at ho
          cases List.mem_singleton.mp ho
          rw [decide_eq_false_iff_not]
          show ¬ (1 + lvp A B ((i + 1) * wd B + j) = _)
          rw [lvp_node A B hj]
          exact fun z => hg' ⟨a, z.symm⟩
      · show decide (0 + lvp A B ((i + 1) * wd B + (j + 1)) = _) = true
        rw [lvp_node A B (show j + 1 ≤ B.length from b), decide_eq_true_eq, Nat.zero_add]
        exact l.symm
end K86
namespace K86
open PySem L2 Evl Mi
def topS (i : Nat) : Stmt := PySem.Challenge.pw_inkedtrue_k86_least_changes.main.body.getD i (.Pass ⟨0, 0, 0, 0⟩)

structure Txt (mg : Str → Option Value) : Prop where
  len : mg "len" = none
  range : mg "range" = none
  min : mg "min" = none
  isinstance : mg "isinstance" = none
  list : mg "list" = none
  zip : mg "zip" = none
  int : mg "int" = none
  tuple : mg "tuple" = none
  bool : mg "bool" = none
  most : ∃ t, mg "MOST_CELLS" = some (.int 1900 t)
  best : ∃ t, mg "BEST" = some (.str "best" t)
section
variable {P : Program} {w : World} {K : PySem.W.Frag} {mg : Str → Option Value} {base : Heap} {g : G}
theorem node_cast (B : List Str) (p : P2) : node B p = (p.1 : Int) * ((B.length : Int) + 1) + p.2 := by
  unfold node wd; push_cast; rfl
theorem node_divI {B : List Str} {p : P2} (h : p.2 ≤ B.length) : node B p / ((B.length : Int) + 1) = p.1 := by
  have := node_div h
  unfold node wd at *
  exact_mod_cast this
theorem node_modI {B : List Str} {p : P2} (h : p.2 ≤ B.length) : node B p % ((B.length : Int) + 1) = p.2 := by
  have := node_mod h
  unfold node wd at *
  exact_mod_cast this
theorem node_come (B : List Str) (p : P2) : node B (p.1, p.2 + 1) = node B p + 1 := by
  unfold node; push_cast; omega
theorem node_go (B : List Str) (p : P2) : node B (p.1 + 1, p.2) = node B p + ((B.length : Int) + 1) := by
  unfold node wd; push_cast
  rw [Int.add_mul]; omega
theorem node_stay (B : List Str) (p : P2) : node B (p.1 + 1, p.2 + 1) = node B p + ((B.length : Int) + 1) + 1 := by
  unfold node wd; push_cast
  rw [Int.add_mul]; omega

def c_change_of : CT := fun ds EX P => ∃ A B p p', ds = [SS A, SS B, .int (node B p), .int (node B p')] ∧ p' = nxt A B p ∧ p.1 ≤ A.length ∧ p.2 ≤ B.length ∧ more A B p = true ∧ Few A B ∧ P (chg A B p).d
abbrev s_change_of : Stmt := topS 15
abbrev N_change_of : List Str := ["first", "second", "at", "behind", "wide", "i", "j"]
theorem sc_change_of : FnScope N_change_of ["first", "second", "at", "behind"] (defScope s_change_of) := ⟨rfl, rfl, rfl, by decide +kernel, rfl, by decide +kernel, by decide +kernel⟩
theorem ok_change_of {f : Addr} {fd : FuncData} (F : Fun K "change_of" "change_of" s_change_of f fd) (T : Txt mg)  : FnOk P w K mg base CX0 (0 + 1) f fd ["first", "second", "at", "behind"] (spD K g false c_change_of) := by
  refine Mi.Fun.data F sc_change_of (fun ds EX Q ⟨_, _, _, _, h, _⟩ => by rw [h]; rfl) (fun cdv A outer s H E S0 H0 hr => (ms_cons (ms_set 4 sc_change_of.nd (me_add (mo_of (me_len T.len rfl (mo_var 1))) (mo_of me_int)))
  (ms_cons (ms_par 5 6 rfl sc_change_of.nd (me_divP (mo_var 2) (mo_var 4)) (me_modP (mo_var 2) (mo_var 4)))
  (ms_cons (ms_if (mt_eq hr.units (mo_var 3) (mo_of (me_add (mo_of (me_add (mo_var 2) (mo_var 4))) (mo_of me_int))))
  (ms_one (ms_ret rfl (me_tup (ma_cons me_str (ma_cons (me_var 5) (ma_cons (me_var 6) ma_nil))))))
  ms_nil)
  (ms_one (ms_ret rfl (me_if (mt_w (mw_and (mt_eq hr.units (mo_var 3) (mo_of (me_add (mo_var 2) (mo_of me_int)))) (mw_and1 (mt_lt (mo_var 6) (mo_of (me_len T.len rfl (mo_var 1))))))) (me_tup (ma_cons me_str (ma_cons (me_var 6) ma_nil))) (me_tup (ma_cons me_str (ma_cons (me_var 5) ma_nil)))))))))) (fun ds Q h => ?_) (fun ds EX Q h => h)
  obtain ⟨A, B, p, p', rfl, rfl, h1, h2, hm, hf, h⟩ := h
  simp only [e_qI, e_qIC, e_add1, e_add2, e_add3, e_add4, e_catL, e_aug1, e_aug2, e_mul1, e_mul2, e_rep, e_div, e_mod, e_neg, e_ord1, e_ord2, e_isn, e_nin, e_non1, e_non2, e_non3, e_non4, e_non5, e_non6, e_tru1, e_tru2, e_tru3, e_tru4, e_tru5, e_tru6, e_tru7, e_sl1, e_sl2, e_sl3, e_sl4, e_rev, e_it1, e_it2, e_it3, e_len1, e_len2, e_len3, e_len4, e_int1, e_int2, e_int3, e_min, e_max, e_min3, e_lst1, e_lst2, e_tup1, e_tup2, e_str, e_abs, e_lenS, e_ixS, Mi.qLt, Mi.qLe, Mi.qGt, Mi.qGe, List.map_cons, List.map_nil, List.length_map, true_and, and_true, Bool.false_eq_true, if_false, if_true, Bool.not_true, Bool.not_false, qEq_int, qEq_str, qEq_bl, qNe_int, qNe_str, qNe_bl, line0, line1, line2, line3, line4, line6, line7, line10, isi_list_lst, isi_list_tup, isi_list_non, isi_list_str, isi_list_int, isi_tup_tup, isi_bool_bl, isi_bool_int, isi_int_int, isi_int_bl, isi_int_non, isi_int_str, isi_str_str, isi_str_non, isi_str_int, startE_c, startE_n, startE_e, wFor_e, wLc_e, wipeE, wgName, wgTup, wgCons, wgNil, List.getElem?_cons_zero, List.getElem?_cons_succ, List.set_cons_zero, List.set_cons_succ, List.length_cons, List.length_nil, Mi.wC, Mi.wVar, Mi.wVarO, Mi.wOp, Mi.wUn, Mi.wCmp, Mi.wCmpT, Mi.wChainT, Mi.wChain, Mi.wTru, Mi.wAndT, Mi.wOrT, Mi.wNotT, Mi.wAnd, Mi.wOr, Mi.wNot, Mi.wIfE, Mi.wNoPart, Mi.wPart, Mi.wSl, Mi.wNil, Mi.wCons, Mi.wTup, Mi.wLst, Mi.wNext, Mi.wSeq, Mi.wFreeze, Mi.wForget, Mi.wBreak, Mi.wCont, Mi.wRet, Mi.wRetO, Mi.wRetN, Mi.wDrop, Mi.wIf, Mi.wNever, Mi.wAsg, Mi.wSetO, Mi.wPar, Mi.wAug, Mi.wApp, Mi.wSetIx, Mi.wExt, Mi.wItems, Mi.wRng1, Mi.wRng2, Mi.wRng3, Mi.wEnum, Mi.wZip, Mi.wYes, Mi.wCall, Mi.wCallX, Mi.wB2, Mi.wMin3, Mi.wIsi, Mi.wGuard, Mi.wGuardD, Mi.wRaise]
  have hl := few_len hf
  rw [node_divI h2, node_modI h2]
  refine ⟨by omega, by omega, by omega, ?_⟩
  unfold chg at h
  unfold nxt
  by_cases hc : come A B p = true
  · rw [if_pos hc] at h
    have hc' := of_decide_eq_true hc
    rw [if_pos hc, node_come]
    refine ite_i (fun e => ?_) fun _ => ite_i (fun _ => ite_i (fun _ => h) fun e => ?_) fun e => ?_
    · have := of_decide_eq_true e; omega
    · have := of_decide_eq_false e; omega
    · have := of_decide_eq_false e; omega
  · rw [if_neg hc] at h
    by_cases hg : goes A B p = true
    · rw [if_pos hg] at h
      rw [if_neg hc, if_pos hg, node_go]
      refine ite_i (fun e => ?_) fun _ => ite_i (fun e => ite_i (fun e2 => ?_) fun e => h) fun e => h
      · have := of_decide_eq_true e; omega
      · have := of_decide_eq_true e; have := of_decide_eq_true e2; omega
    · rw [if_neg hg] at h
      rw [if_neg hc, if_neg hg, node_stay]
      refine ite_i (fun _ => h) fun e => ?_
      have := of_decide_eq_false e; omega

def c_check (CTM : Addr) : CT := fun ds EX P => ∃ A B : List Str, ds = [SS A, SS B] ∧ A.length ≤ 5000 ∧ B.length ≤ 5000 ∧
  (¬ Few A B → ∀ z : Exc, z.cls = CTM → z.bare = false → z.fs = [(("limit" : Str), D.int 1900)] → EX z) ∧ (Few A B → P .non)
abbrev s_check_sizes : Stmt := topS 13
abbrev N_check_sizes : List Str := ["first", "second"]
theorem sc_check_sizes : FnScope N_check_sizes ["first", "second"] (defScope s_check_sizes) := ⟨rfl, rfl, rfl, by decide +kernel, rfl, by decide +kernel, by decide +kernel⟩
theorem ok_check_sizes {f : Addr} {fd : FuncData} (F : Fun K "check_sizes" "check_sizes" s_check_sizes f fd) (T : Txt mg) {CTM : Addr} (Z : OwnX P w K mg base "TooMany" CTM ["limit"] 1) : FnOk P w K mg base (L2.CX P w) (2 + 1) f fd ["first", "second"] (spD K g false (c_check CTM)) := by
  refine Mi.Fun.dataX F sc_check_sizes (fun ds EX Q ⟨_, _, h, _⟩ => by rw [h]; rfl) (fun cdv A outer s H E S0 H0 EX hr tk po => (ms_one (ms_if (mt_gt (mo_of (me_mul (mo_of (me_add (mo_of (me_len T.len rfl (mo_var 0))) (mo_of me_int))) (mo_of (me_add (mo_of (me_len T.len rfl (mo_var 1))) (mo_of me_int))))) (mo_of (me_gi T.most)))
  (ms_one (ms_raise rfl tk Z hr rfl (ma_cons (me_gi T.most) ma_nil)))
  ms_nil))) (fun ds EX Q h => ?_)
  obtain ⟨A, B, rfl, hA, hB, hE, hP⟩ := h
  simp only [e_qI, e_qIC, e_add1, e_add2, e_add3, e_add4, e_catL, e_aug1, e_aug2, e_mul1, e_mul2, e_rep, e_div, e_mod, e_neg, e_ord1, e_ord2, e_isn, e_nin, e_non1, e_non2, e_non3, e_non4, e_non5, e_non6, e_tru1, e_tru2, e_tru3, e_tru4, e_tru5, e_tru6, e_tru7, e_sl1, e_sl2, e_sl3, e_sl4, e_rev, e_it1, e_it2, e_it3, e_len1, e_len2, e_len3, e_len4, e_int1, e_int2, e_int3, e_min, e_max, e_min3, e_lst1, e_lst2, e_tup1, e_tup2, e_str, e_abs, e_lenS, e_ixS, Mi.qLt, Mi.qLe, Mi.qGt, Mi.qGe, List.map_cons, List.map_nil, List.length_map, true_and, and_true, Bool.false_eq_true, if_false, if_true, Bool.not_true, Bool.not_false, qEq_int, qEq_str, qEq_bl, qNe_int, qNe_str, qNe_bl, line0, line1, line2, line3, line4, line6, line7, line10, isi_list_lst, isi_list_tup, isi_list_non, isi_list_str, isi_list_int, isi_tup_tup, isi_bool_bl, isi_bool_int, isi_int_int, isi_int_bl, isi_int_non, isi_int_str, isi_str_str, isi_str_non, isi_str_int, startE_c, startE_n, startE_e, wFor_e, wLc_e, wipeE, wgName, wgTup, wgCons, wgNil, List.getElem?_cons_zero, List.getElem?_cons_succ, List.set_cons_zero, List.set_cons_succ, List.length_cons, List.length_nil, Mi.wC, Mi.wVar, Mi.wVarO, Mi.wOp, Mi.wUn, Mi.wCmp, Mi.wCmpT, Mi.wChainT, Mi.wChain, Mi.wTru, Mi.wAndT, Mi.wOrT, Mi.wNotT, Mi.wAnd, Mi.wOr, Mi.wNot, Mi.wIfE, Mi.wNoPart, Mi.wPart, Mi.wSl, Mi.wNil, Mi.wCons, Mi.wTup, Mi.wLst, Mi.wNext, Mi.wSeq, Mi.wFreeze, Mi.wForget, Mi.wBreak, Mi.wCont, Mi.wRet, Mi.wRetO, Mi.wRetN, Mi.wDrop, Mi.wIf, Mi.wNever, Mi.wAsg, Mi.wSetO, Mi.wPar, Mi.wAug, Mi.wApp, Mi.wSetIx, Mi.wExt, Mi.wItems, Mi.wRng1, Mi.wRng2, Mi.wRng3, Mi.wEnum, Mi.wZip, Mi.wYes, Mi.wCall, Mi.wCallX, Mi.wB2, Mi.wMin3, Mi.wIsi, Mi.wGuard, Mi.wGuardD, Mi.wRaise]
  have e1 : (((A.length + 1) * (B.length + 1) : Nat) : Int) = ((A.length : Int) + 1) * ((B.length : Int) + 1) := by push_cast; rfl
  refine ⟨.inl (.inl ⟨by omega, by omega⟩), ite_i (fun e => ?_) fun e => ?_⟩
  · have e := of_decide_eq_true e
    refine ⟨by decide, hE (fun z => ?_) _ rfl rfl rfl⟩
    unfold Few at z; omega
  · have e := of_decide_eq_false e
    exact hP (by unfold Few; omega)

def c_table : CT := fun ds EX P => ∃ A B, ds = [SS A, SS B] ∧ Few A B ∧ P (.lst (tabL A B))
theorem str_get {A : List Str} {i : Nat} (h : i < A.length) : (A.map D.str)[i]? = some (.str A[i]) := by simp [h]
abbrev s_change_table : Stmt := topS 14
abbrev N_change_table : List Str := ["first", "second", "wide", "found", "at", "steps", "i", "j"]
theorem sc_change_table : FnScope N_change_table ["first", "second"] (defScope s_change_table) := ⟨rfl, rfl, rfl, by decide +kernel, rfl, by decide +kernel, by decide +kernel⟩
theorem ok_change_table {f : Addr} {fd : FuncData} (F : Fun K "change_table" "change_table" s_change_table f fd) (T : Txt mg)  : FnOk P w K mg base CX0 (0 + 1) f fd ["first", "second"] (spD K g false c_table) := by
  refine Mi.Fun.data F sc_change_table (fun ds EX Q ⟨_, _, h, _⟩ => by rw [h]; rfl) (fun cdv A outer s H E S0 H0 hr => (ms_cons (ms_set 2 sc_change_table.nd (me_add (mo_of (me_len T.len rfl (mo_var 1))) (mo_of me_int)))
  (ms_cons (ms_setO 3 sc_change_table.nd (mf_lst ma_nil))
  (ms_cut (ms_for (vs := [4]) PassesOwn.never rfl (mi_range1 rfl T.range (mo_of (me_sub (mo_of (me_mul (mo_of (me_add (mo_of (me_len T.len rfl (mo_var 0))) (mo_of me_int))) (mo_var 2))) (mo_of me_int)))) (mg_name 4 sc_change_table.nd)
  (ms_cons (ms_par 6 7 rfl sc_change_table.nd (me_divP (mo_var 4) (mo_var 2)) (me_modP (mo_var 4) (mo_var 2)))
  (ms_cons (ms_setO 5 sc_change_table.nd (mf_lst ma_nil))
  (ms_cut (ms_if (mt_lt (mo_var 7) (mo_of (me_len T.len rfl (mo_var 1))))
  (ms_one (ms_app 5 (me_tup (ma_cons (me_add (mo_var 4) (mo_of me_int)) (ma_cons me_int ma_nil)))))
  ms_nil)
  (ms_cut (ms_if (mt_lt (mo_var 6) (mo_of (me_len T.len rfl (mo_var 0))))
  (ms_one (ms_app 5 (me_tup (ma_cons (me_add (mo_var 4) (mo_var 2)) (ma_cons me_int ma_nil)))))
  ms_nil)
  (ms_cut (ms_ifD (mt_w (mw_and (mt_lt (mo_var 6) (mo_of (me_len T.len rfl (mo_var 0)))) (mw_and (mt_lt (mo_var 7) (mo_of (me_len T.len rfl (mo_var 1)))) (mw_and1 (mt_eq hr.units (mo_of (me_ix hr.units (mo_var 0) (mo_var 6))) (mo_of (me_ix hr.units (mo_var 1) (mo_var 7))))))))
  (ms_one (ms_app 5 (me_tup (ma_cons (me_add (mo_of (me_add (mo_var 4) (mo_var 2))) (mo_of me_int)) (ma_cons me_int ma_nil)))))
  ms_nil)
  (ms_freeze 5 (ms_one (ms_app 3 (me_var 5))))))))))
  (ms_freeze 3 (ms_one (ms_ret rfl (me_var 3)))))))) (fun ds Q h => ?_) (fun ds EX Q h => h)
  obtain ⟨A, B, rfl, hf, h⟩ := h
  simp only [e_qI, e_qIC, e_add1, e_add2, e_add3, e_add4, e_catL, e_aug1, e_aug2, e_mul1, e_mul2, e_rep, e_div, e_mod, e_neg, e_ord1, e_ord2, e_isn, e_nin, e_non1, e_non2, e_non3, e_non4, e_non5, e_non6, e_tru1, e_tru2, e_tru3, e_tru4, e_tru5, e_tru6, e_tru7, e_sl1, e_sl2, e_sl3, e_sl4, e_rev, e_it1, e_it2, e_it3, e_len1, e_len2, e_len3, e_len4, e_int1, e_int2, e_int3, e_min, e_max, e_min3, e_lst1, e_lst2, e_tup1, e_tup2, e_str, e_abs, e_lenS, e_ixS, Mi.qLt, Mi.qLe, Mi.qGt, Mi.qGe, List.map_cons, List.map_nil, List.length_map, true_and, and_true, Bool.false_eq_true, if_false, if_true, Bool.not_true, Bool.not_false, qEq_int, qEq_str, qEq_bl, qNe_int, qNe_str, qNe_bl, line0, line1, line2, line3, line4, line6, line7, line10, isi_list_lst, isi_list_tup, isi_list_non, isi_list_str, isi_list_int, isi_tup_tup, isi_bool_bl, isi_bool_int, isi_int_int, isi_int_bl, isi_int_non, isi_int_str, isi_str_str, isi_str_non, isi_str_int, startE_c, startE_n, startE_e, wFor_e, wLc_e, wipeE, wgName, wgTup, wgCons, wgNil, List.getElem?_cons_zero, List.getElem?_cons_succ, List.set_cons_zero, List.set_cons_succ, List.length_cons, List.length_nil, Mi.wC, Mi.wVar, Mi.wVarO, Mi.wOp, Mi.wUn, Mi.wCmp, Mi.wCmpT, Mi.wChainT, Mi.wChain, Mi.wTru, Mi.wAndT, Mi.wOrT, Mi.wNotT, Mi.wAnd, Mi.wOr, Mi.wNot, Mi.wIfE, Mi.wNoPart, Mi.wPart, Mi.wSl, Mi.wNil, Mi.wCons, Mi.wTup, Mi.wLst, Mi.wNext, Mi.wSeq, Mi.wFreeze, Mi.wForget, Mi.wBreak, Mi.wCont, Mi.wRet, Mi.wRetO, Mi.wRetN, Mi.wDrop, Mi.wIf, Mi.wNever, Mi.wAsg, Mi.wSetO, Mi.wPar, Mi.wAug, Mi.wApp, Mi.wSetIx, Mi.wExt, Mi.wItems, Mi.wRng1, Mi.wRng2, Mi.wRng3, Mi.wEnum, Mi.wZip, Mi.wYes, Mi.wCall, Mi.wCallX, Mi.wB2, Mi.wMin3, Mi.wIsi, Mi.wGuard, Mi.wGuardD, Mi.wRaise]
  have hl := few_len hf
  have e1 : (((A.length + 1) * (B.length + 1) : Nat) : Int) = ((A.length : Int) + 1) * ((B.length : Int) + 1) := by push_cast; rfl
  unfold Few at hf
  have hp : 0 < (A.length + 1) * (B.length + 1) := Nat.mul_pos (by omega) (by omega)
  have wI : ((wd B : Nat) : Int) = (B.length : Int) + 1 := by unfold wd; push_cast; rfl
  refine cut_i (fun δ' => ∃ c4 c5 c6 c7, δ' = [st (SS A), st (SS B), st (.int ((B.length : Int) + 1)), ow (.lst (tabL A B)), c4, c5, c6, c7]) ?_ ?_
  · simp only [e_qI, e_qIC, e_add1, e_add2, e_add3, e_add4, e_catL, e_aug1, e_aug2, e_mul1, e_mul2, e_rep, e_div, e_mod, e_neg, e_ord1, e_ord2, e_isn, e_nin, e_non1, e_non2, e_non3, e_non4, e_non5, e_non6, e_tru1, e_tru2, e_tru3, e_tru4, e_tru5, e_tru6, e_tru7, e_sl1, e_sl2, e_sl3, e_sl4, e_rev, e_it1, e_it2, e_it3, e_len1, e_len2, e_len3, e_len4, e_int1, e_int2, e_int3, e_min, e_max, e_min3, e_lst1, e_lst2, e_tup1, e_tup2, e_str, e_abs, e_lenS, e_ixS, Mi.qLt, Mi.qLe, Mi.qGt, Mi.qGe, List.map_cons, List.map_nil, List.length_map, true_and, and_true, Bool.false_eq_true, if_false, if_true, Bool.not_true, Bool.not_false, qEq_int, qEq_str, qEq_bl, qNe_int, qNe_str, qNe_bl, line0, line1, line2, line3, line4, line6, line7, line10, isi_list_lst, isi_list_tup, isi_list_non, isi_list_str, isi_list_int, isi_tup_tup, isi_bool_bl, isi_bool_int, isi_int_int, isi_int_bl, isi_int_non, isi_int_str, isi_str_str, isi_str_non, isi_str_int, startE_c, startE_n, startE_e, wFor_e, wLc_e, wipeE, wgName, wgTup, wgCons, wgNil, List.getElem?_cons_zero, List.getElem?_cons_succ, List.set_cons_zero, List.set_cons_succ, List.length_cons, List.length_nil, Mi.wC, Mi.wVar, Mi.wVarO, Mi.wOp, Mi.wUn, Mi.wCmp, Mi.wCmpT, Mi.wChainT, Mi.wChain, Mi.wTru, Mi.wAndT, Mi.wOrT, Mi.wNotT, Mi.wAnd, Mi.wOr, Mi.wNot, Mi.wIfE, Mi.wNoPart, Mi.wPart, Mi.wSl, Mi.wNil, Mi.wCons, Mi.wTup, Mi.wLst, Mi.wNext, Mi.wSeq, Mi.wFreeze, Mi.wForget, Mi.wBreak, Mi.wCont, Mi.wRet, Mi.wRetO, Mi.wRetN, Mi.wDrop, Mi.wIf, Mi.wNever, Mi.wAsg, Mi.wSetO, Mi.wPar, Mi.wAug, Mi.wApp, Mi.wSetIx, Mi.wExt, Mi.wItems, Mi.wRng1, Mi.wRng2, Mi.wRng3, Mi.wEnum, Mi.wZip, Mi.wYes, Mi.wCall, Mi.wCallX, Mi.wB2, Mi.wMin3, Mi.wIsi, Mi.wGuard, Mi.wGuardD, Mi.wRaise]
    refine ⟨.inl (.inl ⟨by omega, by omega⟩), by omega, by omega, ?_⟩
    refine for_i (fun k δ' => ∃ c4 c5 c6 c7, δ' = [st (SS A), st (SS B), st (.int ((B.length : Int) + 1)), ow (.lst ((List.range k).map fun p => .lst ((opts A B p).map optD))), c4, c5, c6, c7]) ⟨_, _, _, _, rfl⟩ ?_ ?_
    · rintro k d δ' hi ⟨c4, c5, c6, c7, rfl⟩
      obtain ⟨hk, rfl⟩ := rangeD_of hi
      have hk2 : k < (A.length + 1) * (B.length + 1) - 1 := by omega
      simp only [e_qI, e_qIC, e_add1, e_add2, e_add3, e_add4, e_catL, e_aug1, e_aug2, e_mul1, e_mul2, e_rep, e_div, e_mod, e_neg, e_ord1, e_ord2, e_isn, e_nin, e_non1, e_non2, e_non3, e_non4, e_non5, e_non6, e_tru1, e_tru2, e_tru3, e_tru4, e_tru5, e_tru6, e_tru7, e_sl1, e_sl2, e_sl3, e_sl4, e_rev, e_it1, e_it2, e_it3, e_len1, e_len2, e_len3, e_len4, e_int1, e_int2, e_int3, e_min, e_max, e_min3, e_lst1, e_lst2, e_tup1, e_tup2, e_str, e_abs, e_lenS, e_ixS, Mi.qLt, Mi.qLe, Mi.qGt, Mi.qGe, List.map_cons, List.map_nil, List.length_map, true_and, and_true, Bool.false_eq_true, if_false, if_true, Bool.not_true, Bool.not_false, qEq_int, qEq_str, qEq_bl, qNe_int, qNe_str, qNe_bl, line0, line1, line2, line3, line4, line6, line7, line10, isi_list_lst, isi_list_tup, isi_list_non, isi_list_str, isi_list_int, isi_tup_tup, isi_bool_bl, isi_bool_int, isi_int_int, isi_int_bl, isi_int_non, isi_int_str, isi_str_str, isi_str_non, isi_str_int, startE_c, startE_n, startE_e, wFor_e, wLc_e, wipeE, wgName, wgTup, wgCons, wgNil, List.getElem?_cons_zero, List.getElem?_cons_succ, List.set_cons_zero, List.set_cons_succ, List.length_cons, List.length_nil, Mi.wC, Mi.wVar, Mi.wVarO, Mi.wOp, Mi.wUn, Mi.wCmp, Mi.wCmpT, Mi.wChainT, Mi.wChain, Mi.wTru, Mi.wAndT, Mi.wOrT, Mi.wNotT, Mi.wAnd, Mi.wOr, Mi.wNot, Mi.wIfE, Mi.wNoPart, Mi.wPart, Mi.wSl, Mi.wNil, Mi.wCons, Mi.wTup, Mi.wLst, Mi.wNext, Mi.wSeq, Mi.wFreeze, Mi.wForget, Mi.wBreak, Mi.wCont, Mi.wRet, Mi.wRetO, Mi.wRetN, Mi.wDrop, Mi.wIf, Mi.wNever, Mi.wAsg, Mi.wSetO, Mi.wPar, Mi.wAug, Mi.wApp, Mi.wSetIx, Mi.wExt, Mi.wItems, Mi.wRng1, Mi.wRng2, Mi.wRng3, Mi.wEnum, Mi.wZip, Mi.wYes, Mi.wCall, Mi.wCallX, Mi.wB2, Mi.wMin3, Mi.wIsi, Mi.wGuard, Mi.wGuardD, Mi.wRaise, Int.zero_add]
      have ei : (k : Int) / ((B.length : Int) + 1) = ((k / wd B : Nat) : Int) := by rw [← wI]; exact (Int.natCast_ediv _ _).symm
      have ej : (k : Int) % ((B.length : Int) + 1) = ((k % wd B : Nat) : Int) := by rw [← wI]; exact (Int.natCast_emod _ _).symm
      rw [ei, ej]
      refine ⟨by omega, by omega, by omega, ?_⟩
      refine cut_i (fun δ' => δ' = [st (SS A), st (SS B), st (.int ((B.length : Int) + 1)), ow (.lst ((List.range k).map fun p => .lst ((opts A B p).map optD))), st (.int k), ow (.lst ((if k % wd B < B.length then [(k + 1, 1)] else []).map optD)), st (.int (k / wd B : Nat)), st (.int (k % wd B : Nat))]) ?_ ?_
      · simp only [e_qI, e_qIC, e_add1, e_add2, e_add3, e_add4, e_catL, e_aug1, e_aug2, e_mul1, e_mul2, e_rep, e_div, e_mod, e_neg, e_ord1, e_ord2, e_isn, e_nin, e_non1, e_non2, e_non3, e_non4, e_non5, e_non6, e_tru1, e_tru2, e_tru3, e_tru4, e_tru5, e_tru6, e_tru7, e_sl1, e_sl2, e_sl3, e_sl4, e_rev, e_it1, e_it2, e_it3, e_len1, e_len2, e_len3, e_len4, e_int1, e_int2, e_int3, e_min, e_max, e_min3, e_lst1, e_lst2, e_tup1, e_tup2, e_str, e_abs, e_lenS, e_ixS, Mi.qLt, Mi.qLe, Mi.qGt, Mi.qGe, List.map_cons, List.map_nil, List.length_map, true_and, and_true, Bool.false_eq_true, if_false, if_true, Bool.not_true, Bool.not_false, qEq_int, qEq_str, qEq_bl, qNe_int, qNe_str, qNe_bl, line0, line1, line2, line3, line4, line6, line7, line10, isi_list_lst, isi_list_tup, isi_list_non, isi_list_str, isi_list_int, isi_tup_tup, isi_bool_bl, isi_bool_int, isi_int_int, isi_int_bl, isi_int_non, isi_int_str, isi_str_str, isi_str_non, isi_str_int, startE_c, startE_n, startE_e, wFor_e, wLc_e, wipeE, wgName, wgTup, wgCons, wgNil, List.getElem?_cons_zero, List.getElem?_cons_succ, List.set_cons_zero, List.set_cons_succ, List.length_cons, List.length_nil, Mi.wC, Mi.wVar, Mi.wVarO, Mi.wOp, Mi.wUn, Mi.wCmp, Mi.wCmpT, Mi.wChainT, Mi.wChain, Mi.wTru, Mi.wAndT, Mi.wOrT, Mi.wNotT, Mi.wAnd, Mi.wOr, Mi.wNot, Mi.wIfE, Mi.wNoPart, Mi.wPart, Mi.wSl, Mi.wNil, Mi.wCons, Mi.wTup, Mi.wLst, Mi.wNext, Mi.wSeq, Mi.wFreeze, Mi.wForget, Mi.wBreak, Mi.wCont, Mi.wRet, Mi.wRetO, Mi.wRetN, Mi.wDrop, Mi.wIf, Mi.wNever, Mi.wAsg, Mi.wSetO, Mi.wPar, Mi.wAug, Mi.wApp, Mi.wSetIx, Mi.wExt, Mi.wItems, Mi.wRng1, Mi.wRng2, Mi.wRng3, Mi.wEnum, Mi.wZip, Mi.wYes, Mi.wCall, Mi.wCallX, Mi.wB2, Mi.wMin3, Mi.wIsi, Mi.wGuard, Mi.wGuardD, Mi.wRaise]
        refine ite_i (fun e => ?_) fun e => ?_
        · have e := of_decide_eq_true e
          refine ⟨by decide, ?_⟩
          rw [if_pos (by omega)]; rfl
        · have e := of_decide_eq_false e
          rw [if_neg (by omega)]; rfl
      · rintro δ' rfl
        refine cut_i (fun δ' => δ' = [st (SS A), st (SS B), st (.int ((B.length : Int) + 1)), ow (.lst ((List.range k).map fun p => .lst ((opts A B p).map optD))), st (.int k), ow (.lst (((if k % wd B < B.length then [(k + 1, 1)] else []) ++ (if k / wd B < A.length then [(k + wd B, 1)] else [])).map optD)), st (.int (k / wd B : Nat)), st (.int (k % wd B : Nat))]) ?_ ?_
        · simp only [e_qI, e_qIC, e_add1, e_add2, e_add3, e_add4, e_catL, e_aug1, e_aug2, e_mul1, e_mul2, e_rep, e_div, e_mod, e_neg, e_ord1, e_ord2, e_isn, e_nin, e_non1, e_non2, e_non3, e_non4, e_non5, e_non6, e_tru1, e_tru2, e_tru3, e_tru4, e_tru5, e_tru6, e_tru7, e_sl1, e_sl2, e_sl3, e_sl4, e_rev, e_it1, e_it2, e_it3, e_len1, e_len2, e_len3, e_len4, e_int1, e_int2, e_int3, e_min, e_max, e_min3, e_lst1, e_lst2, e_tup1, e_tup2, e_str, e_abs, e_lenS, e_ixS, Mi.qLt, Mi.qLe, Mi.qGt, Mi.qGe, List.map_cons, List.map_nil, List.length_map, true_and, and_true, Bool.false_eq_true, if_false, if_true, Bool.not_true, Bool.not_false, qEq_int, qEq_str, qEq_bl, qNe_int, qNe_str, qNe_bl, line0, line1, line2, line3, line4, line6, line7, line10, isi_list_lst, isi_list_tup, isi_list_non, isi_list_str, isi_list_int, isi_tup_tup, isi_bool_bl, isi_bool_int, isi_int_int, isi_int_bl, isi_int_non, isi_int_str, isi_str_str, isi_str_non, isi_str_int, startE_c, startE_n, startE_e, wFor_e, wLc_e, wipeE, wgName, wgTup, wgCons, wgNil, List.getElem?_cons_zero, List.getElem?_cons_succ, List.set_cons_zero, List.set_cons_succ, List.length_cons, List.length_nil, Mi.wC, Mi.wVar, Mi.wVarO, Mi.wOp, Mi.wUn, Mi.wCmp, Mi.wCmpT, Mi.wChainT, Mi.wChain, Mi.wTru, Mi.wAndT, Mi.wOrT, Mi.wNotT, Mi.wAnd, Mi.wOr, Mi.wNot, Mi.wIfE, Mi.wNoPart, Mi.wPart, Mi.wSl, Mi.wNil, Mi.wCons, Mi.wTup, Mi.wLst, Mi.wNext, Mi.wSeq, Mi.wFreeze, Mi.wForget, Mi.wBreak, Mi.wCont, Mi.wRet, Mi.wRetO, Mi.wRetN, Mi.wDrop, Mi.wIf, Mi.wNever, Mi.wAsg, Mi.wSetO, Mi.wPar, Mi.wAug, Mi.wApp, Mi.wSetIx, Mi.wExt, Mi.wItems, Mi.wRng1, Mi.wRng2, Mi.wRng3, Mi.wEnum, Mi.wZip, Mi.wYes, Mi.wCall, Mi.wCallX, Mi.wB2, Mi.wMin3, Mi.wIsi, Mi.wGuard, Mi.wGuardD, Mi.wRaise]
          refine ite_i (fun e => ?_) fun e => ?_
          · have e := of_decide_eq_true e
            refine ⟨ltL (by split <;> simp), ?_⟩
            rw [if_pos (c := k / wd B < A.length) (by omega), List.map_append, ← wI]; rfl
          · have e := of_decide_eq_false e
            rw [if_neg (c := k / wd B < A.length) (by omega), List.append_nil]
        · rintro δ' rfl
          refine cut_i (fun δ' => δ' = [st (SS A), st (SS B), st (.int ((B.length : Int) + 1)), ow (.lst ((List.range k).map fun p => .lst ((opts A B p).map optD))), st (.int k), ow (.lst ((opts A B k).map optD)), st (.int (k / wd B : Nat)), st (.int (k % wd B : Nat))]) ?_ ?_
          · refine ifD_i (decide (k / wd B < A.length ∧ k % wd B < B.length ∧ A[k / wd B]? = B[k % wd B]?)) ?_ (fun e => ?_) fun e => ?_
            · simp only [e_qI, e_qIC, e_add1, e_add2, e_add3, e_add4, e_catL, e_aug1, e_aug2, e_mul1, e_mul2, e_rep, e_div, e_mod, e_neg, e_ord1, e_ord2, e_isn, e_nin, e_non1, e_non2, e_non3, e_non4, e_non5, e_non6, e_tru1, e_tru2, e_tru3, e_tru4, e_tru5, e_tru6, e_tru7, e_sl1, e_sl2, e_sl3, e_sl4, e_rev, e_it1, e_it2, e_it3, e_len1, e_len2, e_len3, e_len4, e_int1, e_int2, e_int3, e_min, e_max, e_min3, e_lst1, e_lst2, e_tup1, e_tup2, e_str, e_abs, e_lenS, e_ixS, Mi.qLt, Mi.qLe, Mi.qGt, Mi.qGe, List.map_cons, List.map_nil, List.length_map, true_and, and_true, Bool.false_eq_true, if_false, if_true, Bool.not_true, Bool.not_false, qEq_int, qEq_str, qEq_bl, qNe_int, qNe_str, qNe_bl, line0, line1, line2, line3, line4, line6, line7, line10, isi_list_lst, isi_list_tup, isi_list_non, isi_list_str, isi_list_int, isi_tup_tup, isi_bool_bl, isi_bool_int, isi_int_int, isi_int_bl, isi_int_non, isi_int_str, isi_str_str, isi_str_non, isi_str_int, startE_c, startE_n, startE_e, wFor_e, wLc_e, wipeE, wgName, wgTup, wgCons, wgNil, List.getElem?_cons_zero, List.getElem?_cons_succ, List.set_cons_zero, List.set_cons_succ, List.length_cons, List.length_nil, Mi.wC, Mi.wVar, Mi.wVarO, Mi.wOp, Mi.wUn, Mi.wCmp, Mi.wCmpT, Mi.wChainT, Mi.wChain, Mi.wTru, Mi.wAndT, Mi.wOrT, Mi.wNotT, Mi.wAnd, Mi.wOr, Mi.wNot, Mi.wIfE, Mi.wNoPart, Mi.wPart, Mi.wSl, Mi.wNil, Mi.wCons, Mi.wTup, Mi.wLst, Mi.wNext, Mi.wSeq, Mi.wFreeze, Mi.wForget, Mi.wBreak, Mi.wCont, Mi.wRet, Mi.wRetO, Mi.wRetN, Mi.wDrop, Mi.wIf, Mi.wNever, Mi.wAsg, Mi.wSetO, Mi.wPar, Mi.wAug, Mi.wApp, Mi.wSetIx, Mi.wExt, Mi.wItems, Mi.wRng1, Mi.wRng2, Mi.wRng3, Mi.wEnum, Mi.wZip, Mi.wYes, Mi.wCall, Mi.wCallX, Mi.wB2, Mi.wMin3, Mi.wIsi, Mi.wGuard, Mi.wGuardD, Mi.wRaise]
              refine ite_i (fun e1 => ite_i (fun e2 => ?_) fun e2 => ?_) fun e1 => ?_
              · have e1 := of_decide_eq_true e1
                have e2 := of_decide_eq_true e2
                have h1 : k / wd B < A.length := by omega
                have h2 : k % wd B < B.length := by omega
                refine qIx_lst (str_get h1) (qIx_lst (str_get h2) ?_)
                rw [qEq_str]
                simp [h1, h2]
              · have e2 := of_decide_eq_false e2
                rw [eq_comm, decide_eq_false_iff_not]; omega
              · have e1 := of_decide_eq_false e1
                rw [eq_comm, decide_eq_false_iff_not]; omega
            · simp only [e_qI, e_qIC, e_add1, e_add2, e_add3, e_add4, e_catL, e_aug1, e_aug2, e_mul1, e_mul2, e_rep, e_div, e_mod, e_neg, e_ord1, e_ord2, e_isn, e_nin, e_non1, e_non2, e_non3, e_non4, e_non5, e_non6, e_tru1, e_tru2, e_tru3, e_tru4, e_tru5, e_tru6, e_tru7, e_sl1, e_sl2, e_sl3, e_sl4, e_rev, e_it1, e_it2, e_it3, e_len1, e_len2, e_len3, e_len4, e_int1, e_int2, e_int3, e_min, e_max, e_min3, e_lst1, e_lst2, e_tup1, e_tup2, e_str, e_abs, e_lenS, e_ixS, Mi.qLt, Mi.qLe, Mi.qGt, Mi.qGe, List.map_cons, List.map_nil, List.length_map, true_and, and_true, Bool.false_eq_true, if_false, if_true, Bool.not_true, Bool.not_false, qEq_int, qEq_str, qEq_bl, qNe_int, qNe_str, qNe_bl, line0, line1, line2, line3, line4, line6, line7, line10, isi_list_lst, isi_list_tup, isi_list_non, isi_list_str, isi_list_int, isi_tup_tup, isi_bool_bl, isi_bool_int, isi_int_int, isi_int_bl, isi_int_non, isi_int_str, isi_str_str, isi_str_non, isi_str_int, startE_c, startE_n, startE_e, wFor_e, wLc_e, wipeE, wgName, wgTup, wgCons, wgNil, List.getElem?_cons_zero, List.getElem?_cons_succ, List.set_cons_zero, List.set_cons_succ, List.length_cons, List.length_nil, Mi.wC, Mi.wVar, Mi.wVarO, Mi.wOp, Mi.wUn, Mi.wCmp, Mi.wCmpT, Mi.wChainT, Mi.wChain, Mi.wTru, Mi.wAndT, Mi.wOrT, Mi.wNotT, Mi.wAnd, Mi.wOr, Mi.wNot, Mi.wIfE, Mi.wNoPart, Mi.wPart, Mi.wSl, Mi.wNil, Mi.wCons, Mi.wTup, Mi.wLst, Mi.wNext, Mi.wSeq, Mi.wFreeze, Mi.wForget, Mi.wBreak, Mi.wCont, Mi.wRet, Mi.wRetO, Mi.wRetN, Mi.wDrop, Mi.wIf, Mi.wNever, Mi.wAsg, Mi.wSetO, Mi.wPar, Mi.wAug, Mi.wApp, Mi.wSetIx, Mi.wExt, Mi.wItems, Mi.wRng1, Mi.wRng2, Mi.wRng3, Mi.wEnum, Mi.wZip, Mi.wYes, Mi.wCall, Mi.wCallX, Mi.wB2, Mi.wMin3, Mi.wIsi, Mi.wGuard, Mi.wGuardD, Mi.wRaise]
              have e := of_decide_eq_true e
              refine ⟨?_, ?_⟩
              · show List.length _ < Line
                rw [List.length_append]
                exact ltL (by split <;> split <;> simp)
              · unfold opts
                rw [if_pos (c := k / wd B < A.length ∧ _) e, List.map_append, List.map_append, List.map_append, ← wI]; rfl
            · simp only [e_qI, e_qIC, e_add1, e_add2, e_add3, e_add4, e_catL, e_aug1, e_aug2, e_mul1, e_mul2, e_rep, e_div, e_mod, e_neg, e_ord1, e_ord2, e_isn, e_nin, e_non1, e_non2, e_non3, e_non4, e_non5, e_non6, e_tru1, e_tru2, e_tru3, e_tru4, e_tru5, e_tru6, e_tru7, e_sl1, e_sl2, e_sl3, e_sl4, e_rev, e_it1, e_it2, e_it3, e_len1, e_len2, e_len3, e_len4, e_int1, e_int2, e_int3, e_min, e_max, e_min3, e_lst1, e_lst2, e_tup1, e_tup2, e_str, e_abs, e_lenS, e_ixS, Mi.qLt, Mi.qLe, Mi.qGt, Mi.qGe, List.map_cons, List.map_nil, List.length_map, true_and, and_true, Bool.false_eq_true, if_false, if_true, Bool.not_true, Bool.not_false, qEq_int, qEq_str, qEq_bl, qNe_int, qNe_str, qNe_bl, line0, line1, line2, line3, line4, line6, line7, line10, isi_list_lst, isi_list_tup, isi_list_non, isi_list_str, isi_list_int, isi_tup_tup, isi_bool_bl, isi_bool_int, isi_int_int, isi_int_bl, isi_int_non, isi_int_str, isi_str_str, isi_str_non, isi_str_int, startE_c, startE_n, startE_e, wFor_e, wLc_e, wipeE, wgName, wgTup, wgCons, wgNil, List.getElem?_cons_zero, List.getElem?_cons_succ, List.set_cons_zero, List.set_cons_succ, List.length_cons, List.length_nil, Mi.wC, Mi.wVar, Mi.wVarO, Mi.wOp, Mi.wUn, Mi.wCmp, Mi.wCmpT, Mi.wChainT, Mi.wChain, Mi.wTru, Mi.wAndT, Mi.wOrT, Mi.wNotT, Mi.wAnd, Mi.wOr, Mi.wNot, Mi.wIfE, Mi.wNoPart, Mi.wPart, Mi.wSl, Mi.wNil, Mi.wCons, Mi.wTup, Mi.wLst, Mi.wNext, Mi.wSeq, Mi.wFreeze, Mi.wForget, Mi.wBreak, Mi.wCont, Mi.wRet, Mi.wRetO, Mi.wRetN, Mi.wDrop, Mi.wIf, Mi.wNever, Mi.wAsg, Mi.wSetO, Mi.wPar, Mi.wAug, Mi.wApp, Mi.wSetIx, Mi.wExt, Mi.wItems, Mi.wRng1, Mi.wRng2, Mi.wRng3, Mi.wEnum, Mi.wZip, Mi.wYes, Mi.wCall, Mi.wCallX, Mi.wB2, Mi.wMin3, Mi.wIsi, Mi.wGuard, Mi.wGuardD, Mi.wRaise]
              have e := of_decide_eq_false e
              unfold opts
              rw [if_neg (c := k / wd B < A.length ∧ _) e, List.append_nil]
          · rintro δ' rfl
            simp only [e_qI, e_qIC, e_add1, e_add2, e_add3, e_add4, e_catL, e_aug1, e_aug2, e_mul1, e_mul2, e_rep, e_div, e_mod, e_neg, e_ord1, e_ord2, e_isn, e_nin, e_non1, e_non2, e_non3, e_non4, e_non5, e_non6, e_tru1, e_tru2, e_tru3, e_tru4, e_tru5, e_tru6, e_tru7, e_sl1, e_sl2, e_sl3, e_sl4, e_rev, e_it1, e_it2, e_it3, e_len1, e_len2, e_len3, e_len4, e_int1, e_int2, e_int3, e_min, e_max, e_min3, e_lst1, e_lst2, e_tup1, e_tup2, e_str, e_abs, e_lenS, e_ixS, Mi.qLt, Mi.qLe, Mi.qGt, Mi.qGe, List.map_cons, List.map_nil, List.length_map, true_and, and_true, Bool.false_eq_true, if_false, if_true, Bool.not_true, Bool.not_false, qEq_int, qEq_str, qEq_bl, qNe_int, qNe_str, qNe_bl, line0, line1, line2, line3, line4, line6, line7, line10, isi_list_lst, isi_list_tup, isi_list_non, isi_list_str, isi_list_int, isi_tup_tup, isi_bool_bl, isi_bool_int, isi_int_int, isi_int_bl, isi_int_non, isi_int_str, isi_str_str, isi_str_non, isi_str_int, startE_c, startE_n, startE_e, wFor_e, wLc_e, wipeE, wgName, wgTup, wgCons, wgNil, List.getElem?_cons_zero, List.getElem?_cons_succ, List.set_cons_zero, List.set_cons_succ, List.length_cons, List.length_nil, Mi.wC, Mi.wVar, Mi.wVarO, Mi.wOp, Mi.wUn, Mi.wCmp, Mi.wCmpT, Mi.wChainT, Mi.wChain, Mi.wTru, Mi.wAndT, Mi.wOrT, Mi.wNotT, Mi.wAnd, Mi.wOr, Mi.wNot, Mi.wIfE, Mi.wNoPart, Mi.wPart, Mi.wSl, Mi.wNil, Mi.wCons, Mi.wTup, Mi.wLst, Mi.wNext, Mi.wSeq, Mi.wFreeze, Mi.wForget, Mi.wBreak, Mi.wCont, Mi.wRet, Mi.wRetO, Mi.wRetN, Mi.wDrop, Mi.wIf, Mi.wNever, Mi.wAsg, Mi.wSetO, Mi.wPar, Mi.wAug, Mi.wApp, Mi.wSetIx, Mi.wExt, Mi.wItems, Mi.wRng1, Mi.wRng2, Mi.wRng3, Mi.wEnum, Mi.wZip, Mi.wYes, Mi.wCall, Mi.wCallX, Mi.wB2, Mi.wMin3, Mi.wIsi, Mi.wGuard, Mi.wGuardD, Mi.wRaise]
            refine ⟨ltL (by rw [List.length_range]; omega), ?_⟩
            rw [List.range_succ, List.map_append]
            exact ⟨_, _, _, _, rfl⟩
    · rintro δ' ⟨c4, c5, c6, c7, rfl⟩
      refine ⟨c4, c5, c6, c7, ?_⟩
      rw [rangeD_len]
      have : (((A.length : Int) + 1) * ((B.length : Int) + 1) - 1).toNat = (A.length + 1) * wd B - 1 := by unfold wd; omega
      rw [this]; rfl
  · rintro δ' ⟨c4, c5, c6, c7, rfl⟩
    simp only [e_qI, e_qIC, e_add1, e_add2, e_add3, e_add4, e_catL, e_aug1, e_aug2, e_mul1, e_mul2, e_rep, e_div, e_mod, e_neg, e_ord1, e_ord2, e_isn, e_nin, e_non1, e_non2, e_non3, e_non4, e_non5, e_non6, e_tru1, e_tru2, e_tru3, e_tru4, e_tru5, e_tru6, e_tru7, e_sl1, e_sl2, e_sl3, e_sl4, e_rev, e_it1, e_it2, e_it3, e_len1, e_len2, e_len3, e_len4, e_int1, e_int2, e_int3, e_min, e_max, e_min3, e_lst1, e_lst2, e_tup1, e_tup2, e_str, e_abs, e_lenS, e_ixS, Mi.qLt, Mi.qLe, Mi.qGt, Mi.qGe, List.map_cons, List.map_nil, List.length_map, true_and, and_true, Bool.false_eq_true, if_false, if_true, Bool.not_true, Bool.not_false, qEq_int, qEq_str, qEq_bl, qNe_int, qNe_str, qNe_bl, line0, line1, line2, line3, line4, line6, line7, line10, isi_list_lst, isi_list_tup, isi_list_non, isi_list_str, isi_list_int, isi_tup_tup, isi_bool_bl, isi_bool_int, isi_int_int, isi_int_bl, isi_int_non, isi_int_str, isi_str_str, isi_str_non, isi_str_int, startE_c, startE_n, startE_e, wFor_e, wLc_e, wipeE, wgName, wgTup, wgCons, wgNil, List.getElem?_cons_zero, List.getElem?_cons_succ, List.set_cons_zero, List.set_cons_succ, List.length_cons, List.length_nil, Mi.wC, Mi.wVar, Mi.wVarO, Mi.wOp, Mi.wUn, Mi.wCmp, Mi.wCmpT, Mi.wChainT, Mi.wChain, Mi.wTru, Mi.wAndT, Mi.wOrT, Mi.wNotT, Mi.wAnd, Mi.wOr, Mi.wNot, Mi.wIfE, Mi.wNoPart, Mi.wPart, Mi.wSl, Mi.wNil, Mi.wCons, Mi.wTup, Mi.wLst, Mi.wNext, Mi.wSeq, Mi.wFreeze, Mi.wForget, Mi.wBreak, Mi.wCont, Mi.wRet, Mi.wRetO, Mi.wRetN, Mi.wDrop, Mi.wIf, Mi.wNever, Mi.wAsg, Mi.wSetO, Mi.wPar, Mi.wAug, Mi.wApp, Mi.wSetIx, Mi.wExt, Mi.wItems, Mi.wRng1, Mi.wRng2, Mi.wRng3, Mi.wEnum, Mi.wZip, Mi.wYes, Mi.wCall, Mi.wCallX, Mi.wB2, Mi.wMin3, Mi.wIsi, Mi.wGuard, Mi.wGuardD, Mi.wRaise]
    exact h

end
end K86
namespace K86
open PySem L2 Evl Mi
section
variable {P : Program} {w : World} {K : PySem.W.Frag} {mg : Str → Option Value} {base : Heap} {g : G}
theorem tab_len (A B : List Str) : (tabL A B).length = (A.length + 1) * wd B - 1 := by simp [tabL]
theorem tab_get {A B : List Str} {p : Nat} (h : p < (A.length + 1) * wd B - 1) : (tabL A B)[p]? = some (.lst ((opts A B p).map optD)) := by simp [tabL, h]
theorem ahead_get {A B : List Str} {p : Nat} (h : p < (A.length + 1) * wd B) : (aheadL A B)[p]? = some (.int (lvp A B p : Nat)) := by simp [aheadL, h, lvp]
theorem few_wd {A B : List Str} (h : Few A B) : (A.length + 1) * wd B ≤ 1900 := h
theorem opts_len (A B : List Str) (p : Nat) : (opts A B p).length ≤ 3 := by
  unfold opts
  rw [List.length_append, List.length_append]
  split <;> split <;> split <;> simp
def c_ahead : CT := fun ds EX P => ∃ A B, ds = [.lst (tabL A B)] ∧ Few A B ∧ P (.lst (aheadL A B))
abbrev s_least_ahead : Stmt := topS 7
abbrev N_least_ahead : List Str := ["table", "found", "place", "costs", "other", "cost"]
theorem sc_least_ahead : FnScope N_least_ahead ["table"] (defScope s_least_ahead) := ⟨rfl, rfl, rfl, by decide +kernel, rfl, by decide +kernel, by decide +kernel⟩
theorem ok_least_ahead {f : Addr} {fd : FuncData} (F : Fun K "least_ahead" "least_ahead" s_least_ahead f fd) (T : Txt mg)  : FnOk P w K mg base CX0 (0 + 1) f fd ["table"] (spD K g false c_ahead) := by
  refine Mi.Fun.data F sc_least_ahead (fun ds EX Q ⟨_, _, h, _⟩ => by rw [h]; rfl) (fun cdv A outer s H E S0 H0 hr => (ms_cons (ms_setO 1 sc_least_ahead.nd (mf_add (mo_of (me_mul (mo_of (me_lst (ma_cons me_non ma_nil))) (mo_of (me_len T.len rfl (mo_var 0))))) (mo_of (me_lst (ma_cons me_int ma_nil)))))
  (ms_cut (ms_for (vs := [2]) PassesOwn.never rfl (mi_range3 rfl T.range (mo_of (me_sub (mo_of (me_len T.len rfl (mo_var 0))) (mo_of me_int))) (mo_of (me_neg (mo_of me_int))) (mo_of (me_neg (mo_of me_int)))) (mg_name 2 sc_least_ahead.nd)
  (ms_cons (ms_setLc 3 (own := [("other", 4), ("cost", 5)]) rfl sc_least_ahead.nd (mi_any (me_ix hr.units (mo_var 0) (mo_var 2))) (blkOk_by (N := N_least_ahead) (sc := defScope s_least_ahead) (by decide +kernel)) (fun _ _ _ _ _ => (mg_tup 2 rfl (mgs_cons (mg_name 4 sc_least_ahead.nd) (mgs_cons (mg_name 5 sc_least_ahead.nd) mgs_nil)) rfl rfl (fun _ _ _ h => wgCons_len (fun _ _ _ h => wgCons_len (fun _ _ _ h => wgNil_len h) wgName_ex h) wgName_ex h))) (fun _ _ _ _ _ => (mts_one (mt_isnot (mo_of (me_ix hr.units (mo_var 1) (mo_var 4))) (mo_of me_non)))) (fun _ _ _ _ _ => (me_add (mo_var 5) (mo_of (me_ix hr.units (mo_var 1) (mo_var 4))))))
  (ms_one (ms_setIx 1 hr.units (me_if (mt_tru (mo_var 3)) (me_minL rfl T.min rfl (mo_var 3)) me_non) (mo_var 2)))))
  (ms_freeze 1 (ms_one (ms_ret rfl (me_var 1))))))) (fun ds Q h => ?_) (fun ds EX Q h => h)
  obtain ⟨A, B, rfl, hf, h⟩ := h
  have hf2 := few_wd hf
  have hn : 0 < (A.length + 1) * wd B := Nat.mul_pos (Nat.succ_pos _) (Nat.succ_pos _)
  generalize en : (A.length + 1) * wd B - 1 = n at *
  have en1 : (A.length + 1) * wd B = n + 1 := by omega
  have tl : (tabL A B).length = n := (tab_len A B).trans en
  simp only [e_qI, e_qIC, e_add1, e_add2, e_add3, e_add4, e_catL, e_aug1, e_aug2, e_mul1, e_mul2, e_rep, e_div, e_mod, e_neg, e_ord1, e_ord2, e_isn, e_nin, e_non1, e_non2, e_non3, e_non4, e_non5, e_non6, e_tru1, e_tru2, e_tru3, e_tru4, e_tru5, e_tru6, e_tru7, e_sl1, e_sl2, e_sl3, e_sl4, e_rev, e_it1, e_it2, e_it3, e_len1, e_len2, e_len3, e_len4, e_int1, e_int2, e_int3, e_min, e_max, e_min3, e_lst1, e_lst2, e_tup1, e_tup2, e_str, e_abs, e_lenS, e_ixS, Mi.qLt, Mi.qLe, Mi.qGt, Mi.qGe, List.map_cons, List.map_nil, List.length_map, true_and, and_true, Bool.false_eq_true, if_false, if_true, Bool.not_true, Bool.not_false, qEq_int, qEq_str, qEq_bl, qNe_int, qNe_str, qNe_bl, line0, line1, line2, line3, line4, line6, line7, line10, isi_list_lst, isi_list_tup, isi_list_non, isi_list_str, isi_list_int, isi_tup_tup, isi_bool_bl, isi_bool_int, isi_int_int, isi_int_bl, isi_int_non, isi_int_str, isi_str_str, isi_str_non, isi_str_int, startE_c, startE_n, startE_e, wFor_e, wLc_e, wipeE, wgName, wgTup, wgCons, wgNil, List.getElem?_cons_zero, List.getElem?_cons_succ, List.set_cons_zero, List.set_cons_succ, List.length_cons, List.length_nil, Mi.wC, Mi.wVar, Mi.wVarO, Mi.wOp, Mi.wUn, Mi.wCmp, Mi.wCmpT, Mi.wChainT, Mi.wChain, Mi.wTru, Mi.wAndT, Mi.wOrT, Mi.wNotT, Mi.wAnd, Mi.wOr, Mi.wNot, Mi.wIfE, Mi.wNoPart, Mi.wPart, Mi.wSl, Mi.wNil, Mi.wCons, Mi.wTup, Mi.wLst, Mi.wNext, Mi.wSeq, Mi.wFreeze, Mi.wForget, Mi.wBreak, Mi.wCont, Mi.wRet, Mi.wRetO, Mi.wRetN, Mi.wDrop, Mi.wIf, Mi.wNever, Mi.wAsg, Mi.wSetO, Mi.wPar, Mi.wAug, Mi.wApp, Mi.wSetIx, Mi.wExt, Mi.wItems, Mi.wRng1, Mi.wRng2, Mi.wRng3, Mi.wEnum, Mi.wZip, Mi.wYes, Mi.wCall, Mi.wCallX, Mi.wB2, Mi.wMin3, Mi.wIsi, Mi.wGuard, Mi.wGuardD, Mi.wRaise]
  rw [tl]
  refine ⟨by omega, by omega, leL (by omega), leL (by simp; omega), ?_⟩
  have elen : ([D.non].length) = 1 := rfl
  refine cut_i (fun δ' => ∃ c2 c3 c4 c5, δ' = [st (.lst (tabL A B)), ow (.lst (aheadL A B)), c2, c3, c4, c5]) ?_ ?_
  · simp only [e_qI, e_qIC, e_add1, e_add2, e_add3, e_add4, e_catL, e_aug1, e_aug2, e_mul1, e_mul2, e_rep, e_div, e_mod, e_neg, e_ord1, e_ord2, e_isn, e_nin, e_non1, e_non2, e_non3, e_non4, e_non5, e_non6, e_tru1, e_tru2, e_tru3, e_tru4, e_tru5, e_tru6, e_tru7, e_sl1, e_sl2, e_sl3, e_sl4, e_rev, e_it1, e_it2, e_it3, e_len1, e_len2, e_len3, e_len4, e_int1, e_int2, e_int3, e_min, e_max, e_min3, e_lst1, e_lst2, e_tup1, e_tup2, e_str, e_abs, e_lenS, e_ixS, Mi.qLt, Mi.qLe, Mi.qGt, Mi.qGe, List.map_cons, List.map_nil, List.length_map, true_and, and_true, Bool.false_eq_true, if_false, if_true, Bool.not_true, Bool.not_false, qEq_int, qEq_str, qEq_bl, qNe_int, qNe_str, qNe_bl, line0, line1, line2, line3, line4, line6, line7, line10, isi_list_lst, isi_list_tup, isi_list_non, isi_list_str, isi_list_int, isi_tup_tup, isi_bool_bl, isi_bool_int, isi_int_int, isi_int_bl, isi_int_non, isi_int_str, isi_str_str, isi_str_non, isi_str_int, startE_c, startE_n, startE_e, wFor_e, wLc_e, wipeE, wgName, wgTup, wgCons, wgNil, List.getElem?_cons_zero, List.getElem?_cons_succ, List.set_cons_zero, List.set_cons_succ, List.length_cons, List.length_nil, Mi.wC, Mi.wVar, Mi.wVarO, Mi.wOp, Mi.wUn, Mi.wCmp, Mi.wCmpT, Mi.wChainT, Mi.wChain, Mi.wTru, Mi.wAndT, Mi.wOrT, Mi.wNotT, Mi.wAnd, Mi.wOr, Mi.wNot, Mi.wIfE, Mi.wNoPart, Mi.wPart, Mi.wSl, Mi.wNil, Mi.wCons, Mi.wTup, Mi.wLst, Mi.wNext, Mi.wSeq, Mi.wFreeze, Mi.wForget, Mi.wBreak, Mi.wCont, Mi.wRet, Mi.wRetO, Mi.wRetN, Mi.wDrop, Mi.wIf, Mi.wNever, Mi.wAsg, Mi.wSetO, Mi.wPar, Mi.wAug, Mi.wApp, Mi.wSetIx, Mi.wExt, Mi.wItems, Mi.wRng1, Mi.wRng2, Mi.wRng3, Mi.wEnum, Mi.wZip, Mi.wYes, Mi.wCall, Mi.wCallX, Mi.wB2, Mi.wMin3, Mi.wIsi, Mi.wGuard, Mi.wGuardD, Mi.wRaise]
    rw [tl]
    refine ⟨n, ?_, ?_⟩
    · have := RgC.neg (i := (n : Int) - 1) (j := -1) (by omega) (by omega) (by omega) (by omega)
      have e : ((n : Int) - 1 - -1).toNat = n := by omega
      rw [e] at this
      exact this
    · refine for_i (fun k δ' => ∃ F c2 c3 c4 c5, δ' = [st (.lst (tabL A B)), ow (.lst F), c2, c3, c4, c5] ∧ F.length = n + 1 ∧ ∀ p, p ≤ n → F[p]? = some (if n ≤ p + k then .int (lvp A B p : Nat) else .non)) ⟨_, _, _, _, _, rfl, ?_, ?_⟩ ?_ ?_
      · simp
      · intro p hp
        rw [Int.toNat_natCast]
        rw [rep_flat]
        by_cases hq : p < n
        · rw [List.getElem?_append_left (by simpa using hq), List.getElem?_replicate, if_pos hq, if_neg (by omega)]
        · have : p = n := by omega
          subst this
          rw [List.getElem?_append_right (by simp), List.length_replicate, Nat.sub_self, if_pos (by omega)]
          have ee : lvp A B p = 0 := by
            have e := node_end (A := A) (B := B)
            have : p = A.length * wd B + B.length := by omega
            rw [this, lvp_node A B (Nat.le_refl _), lv_endA (Nat.le_refl _)]; omega
          rw [ee]; rfl
      · rintro k d δ' hi ⟨F, c2, c3, c4, c5, rfl, hF, hg⟩
        obtain ⟨hk, rfl⟩ := rangeC_of hi
        have ek : (n : Int) - 1 + (k : Int) * -1 = ((n - 1 - k : Nat) : Int) := by omega
        rw [ek]
        have hpl : n - 1 - k < (A.length + 1) * wd B - 1 := by omega
        obtain ⟨i, j, hi, hj, ep, ei, ej⟩ := p_node (A := A) (B := B) (p := n - 1 - k) (by omega)
        generalize n - 1 - k = p at *
        simp only [e_qI, e_qIC, e_add1, e_add2, e_add3, e_add4, e_catL, e_aug1, e_aug2, e_mul1, e_mul2, e_rep, e_div, e_mod, e_neg, e_ord1, e_ord2, e_isn, e_nin, e_non1, e_non2, e_non3, e_non4, e_non5, e_non6, e_tru1, e_tru2, e_tru3, e_tru4, e_tru5, e_tru6, e_tru7, e_sl1, e_sl2, e_sl3, e_sl4, e_rev, e_it1, e_it2, e_it3, e_len1, e_len2, e_len3, e_len4, e_int1, e_int2, e_int3, e_min, e_max, e_min3, e_lst1, e_lst2, e_tup1, e_tup2, e_str, e_abs, e_lenS, e_ixS, Mi.qLt, Mi.qLe, Mi.qGt, Mi.qGe, List.map_cons, List.map_nil, List.length_map, true_and, and_true, Bool.false_eq_true, if_false, if_true, Bool.not_true, Bool.not_false, qEq_int, qEq_str, qEq_bl, qNe_int, qNe_str, qNe_bl, line0, line1, line2, line3, line4, line6, line7, line10, isi_list_lst, isi_list_tup, isi_list_non, isi_list_str, isi_list_int, isi_tup_tup, isi_bool_bl, isi_bool_int, isi_int_int, isi_int_bl, isi_int_non, isi_int_str, isi_str_str, isi_str_non, isi_str_int, startE_c, startE_n, startE_e, wFor_e, wLc_e, wipeE, wgName, wgTup, wgCons, wgNil, List.getElem?_cons_zero, List.getElem?_cons_succ, List.set_cons_zero, List.set_cons_succ, List.length_cons, List.length_nil, Mi.wC, Mi.wVar, Mi.wVarO, Mi.wOp, Mi.wUn, Mi.wCmp, Mi.wCmpT, Mi.wChainT, Mi.wChain, Mi.wTru, Mi.wAndT, Mi.wOrT, Mi.wNotT, Mi.wAnd, Mi.wOr, Mi.wNot, Mi.wIfE, Mi.wNoPart, Mi.wPart, Mi.wSl, Mi.wNil, Mi.wCons, Mi.wTup, Mi.wLst, Mi.wNext, Mi.wSeq, Mi.wFreeze, Mi.wForget, Mi.wBreak, Mi.wCont, Mi.wRet, Mi.wRetO, Mi.wRetN, Mi.wDrop, Mi.wIf, Mi.wNever, Mi.wAsg, Mi.wSetO, Mi.wPar, Mi.wAug, Mi.wApp, Mi.wSetIx, Mi.wExt, Mi.wItems, Mi.wRng1, Mi.wRng2, Mi.wRng3, Mi.wEnum, Mi.wZip, Mi.wYes, Mi.wCall, Mi.wCallX, Mi.wB2, Mi.wMin3, Mi.wIsi, Mi.wGuard, Mi.wGuardD, Mi.wRaise]
        refine qIx_lst (tab_get hpl) ?_
        simp only [e_qI, e_qIC, e_add1, e_add2, e_add3, e_add4, e_catL, e_aug1, e_aug2, e_mul1, e_mul2, e_rep, e_div, e_mod, e_neg, e_ord1, e_ord2, e_isn, e_nin, e_non1, e_non2, e_non3, e_non4, e_non5, e_non6, e_tru1, e_tru2, e_tru3, e_tru4, e_tru5, e_tru6, e_tru7, e_sl1, e_sl2, e_sl3, e_sl4, e_rev, e_it1, e_it2, e_it3, e_len1, e_len2, e_len3, e_len4, e_int1, e_int2, e_int3, e_min, e_max, e_min3, e_lst1, e_lst2, e_tup1, e_tup2, e_str, e_abs, e_lenS, e_ixS, Mi.qLt, Mi.qLe, Mi.qGt, Mi.qGe, List.map_cons, List.map_nil, List.length_map, true_and, and_true, Bool.false_eq_true, if_false, if_true, Bool.not_true, Bool.not_false, qEq_int, qEq_str, qEq_bl, qNe_int, qNe_str, qNe_bl, line0, line1, line2, line3, line4, line6, line7, line10, isi_list_lst, isi_list_tup, isi_list_non, isi_list_str, isi_list_int, isi_tup_tup, isi_bool_bl, isi_bool_int, isi_int_int, isi_int_bl, isi_int_non, isi_int_str, isi_str_str, isi_str_non, isi_str_int, startE_c, startE_n, startE_e, wFor_e, wLc_e, wipeE, wgName, wgTup, wgCons, wgNil, List.getElem?_cons_zero, List.getElem?_cons_succ, List.set_cons_zero, List.set_cons_succ, List.length_cons, List.length_nil, Mi.wC, Mi.wVar, Mi.wVarO, Mi.wOp, Mi.wUn, Mi.wCmp, Mi.wCmpT, Mi.wChainT, Mi.wChain, Mi.wTru, Mi.wAndT, Mi.wOrT, Mi.wNotT, Mi.wAnd, Mi.wOr, Mi.wNot, Mi.wIfE, Mi.wNoPart, Mi.wPart, Mi.wSl, Mi.wNil, Mi.wCons, Mi.wTup, Mi.wLst, Mi.wNext, Mi.wSeq, Mi.wFreeze, Mi.wForget, Mi.wBreak, Mi.wCont, Mi.wRet, Mi.wRetO, Mi.wRetN, Mi.wDrop, Mi.wIf, Mi.wNever, Mi.wAsg, Mi.wSetO, Mi.wPar, Mi.wAug, Mi.wApp, Mi.wSetIx, Mi.wExt, Mi.wItems, Mi.wRng1, Mi.wRng2, Mi.wRng3, Mi.wEnum, Mi.wZip, Mi.wYes, Mi.wCall, Mi.wCallX, Mi.wB2, Mi.wMin3, Mi.wIsi, Mi.wGuard, Mi.wGuardD, Mi.wRaise]
        have hdec : ∀ o ∈ opts A B p, o.1 ≤ n ∧ n ≤ o.1 + k ∧ lvp A B p ≤ o.2 + lvp A B o.1 := fun o ho => by
          rw [ep] at ho
          obtain ⟨i', j', e', hi', hj', hlt, _, hle⟩ := opt_all hi hj o ho
          have h1 := node_lt (A := A) (B := B) (p := (i', j')) hi' hj'
          have h2 : lvp A B o.1 = lv A B i' j' := by rw [e', lvp_node A B hj']
          have h3 : lvp A B p = lv A B i j := by rw [ep, lvp_node A B hj]
          have h4 : o.1 < n + 1 := by rw [e']; exact en1 ▸ h1
          exact ⟨by omega, by omega, by rw [h2, h3]; exact hle⟩
        refine lc_i (fun q acc => acc = ((opts A B p).take q).map fun o => .int ((o.2 + lvp A B o.1 : Nat) : Int)) (leL (by rw [List.length_map]; have := opts_len A B p; omega)) rfl ?_ ?_
        · rintro q d acc hq rfl _
          rw [List.getElem?_map] at hq
          obtain ⟨o, ho, rfl⟩ := Option.map_eq_some_iff.mp hq
          obtain ⟨h1, h2, _⟩ := hdec o (List.mem_of_getElem? ho)
          have hF1 : F[o.1]? = some (.int (lvp A B o.1 : Nat)) := by rw [hg o.1 h1, if_pos h2]
          unfold optD
          simp only [e_qI, e_qIC, e_add1, e_add2, e_add3, e_add4, e_catL, e_aug1, e_aug2, e_mul1, e_mul2, e_rep, e_div, e_mod, e_neg, e_ord1, e_ord2, e_isn, e_nin, e_non1, e_non2, e_non3, e_non4, e_non5, e_non6, e_tru1, e_tru2, e_tru3, e_tru4, e_tru5, e_tru6, e_tru7, e_sl1, e_sl2, e_sl3, e_sl4, e_rev, e_it1, e_it2, e_it3, e_len1, e_len2, e_len3, e_len4, e_int1, e_int2, e_int3, e_min, e_max, e_min3, e_lst1, e_lst2, e_tup1, e_tup2, e_str, e_abs, e_lenS, e_ixS, Mi.qLt, Mi.qLe, Mi.qGt, Mi.qGe, List.map_cons, List.map_nil, List.length_map, true_and, and_true, Bool.false_eq_true, if_false, if_true, Bool.not_true, Bool.not_false, qEq_int, qEq_str, qEq_bl, qNe_int, qNe_str, qNe_bl, line0, line1, line2, line3, line4, line6, line7, line10, isi_list_lst, isi_list_tup, isi_list_non, isi_list_str, isi_list_int, isi_tup_tup, isi_bool_bl, isi_bool_int, isi_int_int, isi_int_bl, isi_int_non, isi_int_str, isi_str_str, isi_str_non, isi_str_int, startE_c, startE_n, startE_e, wFor_e, wLc_e, wipeE, wgName, wgTup, wgCons, wgNil, List.getElem?_cons_zero, List.getElem?_cons_succ, List.set_cons_zero, List.set_cons_succ, List.length_cons, List.length_nil, Mi.wC, Mi.wVar, Mi.wVarO, Mi.wOp, Mi.wUn, Mi.wCmp, Mi.wCmpT, Mi.wChainT, Mi.wChain, Mi.wTru, Mi.wAndT, Mi.wOrT, Mi.wNotT, Mi.wAnd, Mi.wOr, Mi.wNot, Mi.wIfE, Mi.wNoPart, Mi.wPart, Mi.wSl, Mi.wNil, Mi.wCons, Mi.wTup, Mi.wLst, Mi.wNext, Mi.wSeq, Mi.wFreeze, Mi.wForget, Mi.wBreak, Mi.wCont, Mi.wRet, Mi.wRetO, Mi.wRetN, Mi.wDrop, Mi.wIf, Mi.wNever, Mi.wAsg, Mi.wSetO, Mi.wPar, Mi.wAug, Mi.wApp, Mi.wSetIx, Mi.wExt, Mi.wItems, Mi.wRng1, Mi.wRng2, Mi.wRng3, Mi.wEnum, Mi.wZip, Mi.wYes, Mi.wCall, Mi.wCallX, Mi.wB2, Mi.wMin3, Mi.wIsi, Mi.wGuard, Mi.wGuardD, Mi.wRaise]
          refine qIx_lst hF1 ?_
          simp only [e_qI, e_qIC, e_add1, e_add2, e_add3, e_add4, e_catL, e_aug1, e_aug2, e_mul1, e_mul2, e_rep, e_div, e_mod, e_neg, e_ord1, e_ord2, e_isn, e_nin, e_non1, e_non2, e_non3, e_non4, e_non5, e_non6, e_tru1, e_tru2, e_tru3, e_tru4, e_tru5, e_tru6, e_tru7, e_sl1, e_sl2, e_sl3, e_sl4, e_rev, e_it1, e_it2, e_it3, e_len1, e_len2, e_len3, e_len4, e_int1, e_int2, e_int3, e_min, e_max, e_min3, e_lst1, e_lst2, e_tup1, e_tup2, e_str, e_abs, e_lenS, e_ixS, Mi.qLt, Mi.qLe, Mi.qGt, Mi.qGe, List.map_cons, List.map_nil, List.length_map, true_and, and_true, Bool.false_eq_true, if_false, if_true, Bool.not_true, Bool.not_false, qEq_int, qEq_str, qEq_bl, qNe_int, qNe_str, qNe_bl, line0, line1, line2, line3, line4, line6, line7, line10, isi_list_lst, isi_list_tup, isi_list_non, isi_list_str, isi_list_int, isi_tup_tup, isi_bool_bl, isi_bool_int, isi_int_int, isi_int_bl, isi_int_non, isi_int_str, isi_str_str, isi_str_non, isi_str_int, startE_c, startE_n, startE_e, wFor_e, wLc_e, wipeE, wgName, wgTup, wgCons, wgNil, List.getElem?_cons_zero, List.getElem?_cons_succ, List.set_cons_zero, List.set_cons_succ, List.length_cons, List.length_nil, Mi.wC, Mi.wVar, Mi.wVarO, Mi.wOp, Mi.wUn, Mi.wCmp, Mi.wCmpT, Mi.wChainT, Mi.wChain, Mi.wTru, Mi.wAndT, Mi.wOrT, Mi.wNotT, Mi.wAnd, Mi.wOr, Mi.wNot, Mi.wIfE, Mi.wNoPart, Mi.wPart, Mi.wSl, Mi.wNil, Mi.wCons, Mi.wTup, Mi.wLst, Mi.wNext, Mi.wSeq, Mi.wFreeze, Mi.wForget, Mi.wBreak, Mi.wCont, Mi.wRet, Mi.wRetO, Mi.wRetN, Mi.wDrop, Mi.wIf, Mi.wNever, Mi.wAsg, Mi.wSetO, Mi.wPar, Mi.wAug, Mi.wApp, Mi.wSetIx, Mi.wExt, Mi.wItems, Mi.wRng1, Mi.wRng2, Mi.wRng3, Mi.wEnum, Mi.wZip, Mi.wYes, Mi.wCall, Mi.wCallX, Mi.wB2, Mi.wMin3, Mi.wIsi, Mi.wGuard, Mi.wGuardD, Mi.wRaise]
          refine qIx_lst hF1 ?_
          simp only [e_qI, e_qIC, e_add1, e_add2, e_add3, e_add4, e_catL, e_aug1, e_aug2, e_mul1, e_mul2, e_rep, e_div, e_mod, e_neg, e_ord1, e_ord2, e_isn, e_nin, e_non1, e_non2, e_non3, e_non4, e_non5, e_non6, e_tru1, e_tru2, e_tru3, e_tru4, e_tru5, e_tru6, e_tru7, e_sl1, e_sl2, e_sl3, e_sl4, e_rev, e_it1, e_it2, e_it3, e_len1, e_len2, e_len3, e_len4, e_int1, e_int2, e_int3, e_min, e_max, e_min3, e_lst1, e_lst2, e_tup1, e_tup2, e_str, e_abs, e_lenS, e_ixS, Mi.qLt, Mi.qLe, Mi.qGt, Mi.qGe, List.map_cons, List.map_nil, List.length_map, true_and, and_true, Bool.false_eq_true, if_false, if_true, Bool.not_true, Bool.not_false, qEq_int, qEq_str, qEq_bl, qNe_int, qNe_str, qNe_bl, line0, line1, line2, line3, line4, line6, line7, line10, isi_list_lst, isi_list_tup, isi_list_non, isi_list_str, isi_list_int, isi_tup_tup, isi_bool_bl, isi_bool_int, isi_int_int, isi_int_bl, isi_int_non, isi_int_str, isi_str_str, isi_str_non, isi_str_int, startE_c, startE_n, startE_e, wFor_e, wLc_e, wipeE, wgName, wgTup, wgCons, wgNil, List.getElem?_cons_zero, List.getElem?_cons_succ, List.set_cons_zero, List.set_cons_succ, List.length_cons, List.length_nil, Mi.wC, Mi.wVar, Mi.wVarO, Mi.wOp, Mi.wUn, Mi.wCmp, Mi.wCmpT, Mi.wChainT, Mi.wChain, Mi.wTru, Mi.wAndT, Mi.wOrT, Mi.wNotT, Mi.wAnd, Mi.wOr, Mi.wNot, Mi.wIfE, Mi.wNoPart, Mi.wPart, Mi.wSl, Mi.wNil, Mi.wCons, Mi.wTup, Mi.wLst, Mi.wNext, Mi.wSeq, Mi.wFreeze, Mi.wForget, Mi.wBreak, Mi.wCont, Mi.wRet, Mi.wRetO, Mi.wRetN, Mi.wDrop, Mi.wIf, Mi.wNever, Mi.wAsg, Mi.wSetO, Mi.wPar, Mi.wAug, Mi.wApp, Mi.wSetIx, Mi.wExt, Mi.wItems, Mi.wRng1, Mi.wRng2, Mi.wRng3, Mi.wEnum, Mi.wZip, Mi.wYes, Mi.wCall, Mi.wCallX, Mi.wB2, Mi.wMin3, Mi.wIsi, Mi.wGuard, Mi.wGuardD, Mi.wRaise]
          rw [List.take_succ, ho, List.map_append]
          simp
        · rintro acc rfl
          rw [List.length_map, List.take_length]
          simp only [e_qI, e_qIC, e_add1, e_add2, e_add3, e_add4, e_catL, e_aug1, e_aug2, e_mul1, e_mul2, e_rep, e_div, e_mod, e_neg, e_ord1, e_ord2, e_isn, e_nin, e_non1, e_non2, e_non3, e_non4, e_non5, e_non6, e_tru1, e_tru2, e_tru3, e_tru4, e_tru5, e_tru6, e_tru7, e_sl1, e_sl2, e_sl3, e_sl4, e_rev, e_it1, e_it2, e_it3, e_len1, e_len2, e_len3, e_len4, e_int1, e_int2, e_int3, e_min, e_max, e_min3, e_lst1, e_lst2, e_tup1, e_tup2, e_str, e_abs, e_lenS, e_ixS, Mi.qLt, Mi.qLe, Mi.qGt, Mi.qGe, List.map_cons, List.map_nil, List.length_map, true_and, and_true, Bool.false_eq_true, if_false, if_true, Bool.not_true, Bool.not_false, qEq_int, qEq_str, qEq_bl, qNe_int, qNe_str, qNe_bl, line0, line1, line2, line3, line4, line6, line7, line10, isi_list_lst, isi_list_tup, isi_list_non, isi_list_str, isi_list_int, isi_tup_tup, isi_bool_bl, isi_bool_int, isi_int_int, isi_int_bl, isi_int_non, isi_int_str, isi_str_str, isi_str_non, isi_str_int, startE_c, startE_n, startE_e, wFor_e, wLc_e, wipeE, wgName, wgTup, wgCons, wgNil, List.getElem?_cons_zero, List.getElem?_cons_succ, List.set_cons_zero, List.set_cons_succ, List.length_cons, List.length_nil, Mi.wC, Mi.wVar, Mi.wVarO, Mi.wOp, Mi.wUn, Mi.wCmp, Mi.wCmpT, Mi.wChainT, Mi.wChain, Mi.wTru, Mi.wAndT, Mi.wOrT, Mi.wNotT, Mi.wAnd, Mi.wOr, Mi.wNot, Mi.wIfE, Mi.wNoPart, Mi.wPart, Mi.wSl, Mi.wNil, Mi.wCons, Mi.wTup, Mi.wLst, Mi.wNext, Mi.wSeq, Mi.wFreeze, Mi.wForget, Mi.wBreak, Mi.wCont, Mi.wRet, Mi.wRetO, Mi.wRetN, Mi.wDrop, Mi.wIf, Mi.wNever, Mi.wAsg, Mi.wSetO, Mi.wPar, Mi.wAug, Mi.wApp, Mi.wSetIx, Mi.wExt, Mi.wItems, Mi.wRng1, Mi.wRng2, Mi.wRng3, Mi.wEnum, Mi.wZip, Mi.wYes, Mi.wCall, Mi.wCallX, Mi.wB2, Mi.wMin3, Mi.wIsi, Mi.wGuard, Mi.wGuardD, Mi.wRaise]
          obtain ⟨pre, post, c, eo, _, hgood⟩ := opt_first (A := A) (B := B) hi hj (by
            unfold more; rw [decide_eq_true_eq]
            by_cases a : i < A.length
            · exact .inl a
            · refine .inr ?_
              have e : i = A.length := by omega
              have := node_end (A := A) (B := B)
              rw [e] at ep
              show j < B.length
              omega)
          rw [← ep] at eo hgood
          rw [if_pos (by rw [eo]; simp)]
          refine ⟨(opts A B p).map fun o => ((o.2 + lvp A B o.1 : Nat) : Int), by rw [List.map_map]; rfl, by rw [eo]; simp; omega, fun m hm hmin => ?_⟩
          have em : m = (lvp A B p : Nat) := by
            obtain ⟨o, ho, rfl⟩ := List.mem_map.mp hm
            have h1 := (hdec o ho).2.2
            have h2 := hmin _ (List.mem_map.mpr ⟨((nxt A B (i, j)).1 * wd B + (nxt A B (i, j)).2, c), by rw [eo]; simp, rfl⟩)
            have h3 := of_decide_eq_true hgood
            simp only at h2 h3
            omega
          rw [em, hF, ixN_nat (show p < n + 1 by omega)]
          refine ⟨_, _, _, _, _, rfl, by rw [List.length_set, hF], fun q hq => ?_⟩
          rw [List.getElem?_set]
          by_cases e : p = q
          · subst e
            rw [if_pos rfl, if_pos (by omega), if_pos (by omega)]
          · rw [if_neg e, hg q hq]
            congr 1
            by_cases c1 : n ≤ q + k
            · rw [if_pos c1, if_pos (by omega)]
            · rw [if_neg c1, if_neg (by omega)]
      · rintro δ' ⟨F, c2, c3, c4, c5, rfl, hF, hg⟩
        refine ⟨c2, c3, c4, c5, ?_⟩
        have : F = aheadL A B := by
          apply List.ext_getElem?
          intro q
          by_cases hq : q ≤ n
          · rw [hg q hq, rangeC_len, if_pos (by omega), ahead_get (by omega)]
          · rw [List.getElem?_eq_none (by omega), List.getElem?_eq_none (by simp [aheadL]; omega)]
        rw [this]
  · rintro δ' ⟨c2, c3, c4, c5, rfl⟩
    simp only [e_qI, e_qIC, e_add1, e_add2, e_add3, e_add4, e_catL, e_aug1, e_aug2, e_mul1, e_mul2, e_rep, e_div, e_mod, e_neg, e_ord1, e_ord2, e_isn, e_nin, e_non1, e_non2, e_non3, e_non4, e_non5, e_non6, e_tru1, e_tru2, e_tru3, e_tru4, e_tru5, e_tru6, e_tru7, e_sl1, e_sl2, e_sl3, e_sl4, e_rev, e_it1, e_it2, e_it3, e_len1, e_len2, e_len3, e_len4, e_int1, e_int2, e_int3, e_min, e_max, e_min3, e_lst1, e_lst2, e_tup1, e_tup2, e_str, e_abs, e_lenS, e_ixS, Mi.qLt, Mi.qLe, Mi.qGt, Mi.qGe, List.map_cons, List.map_nil, List.length_map, true_and, and_true, Bool.false_eq_true, if_false, if_true, Bool.not_true, Bool.not_false, qEq_int, qEq_str, qEq_bl, qNe_int, qNe_str, qNe_bl, line0, line1, line2, line3, line4, line6, line7, line10, isi_list_lst, isi_list_tup, isi_list_non, isi_list_str, isi_list_int, isi_tup_tup, isi_bool_bl, isi_bool_int, isi_int_int, isi_int_bl, isi_int_non, isi_int_str, isi_str_str, isi_str_non, isi_str_int, startE_c, startE_n, startE_e, wFor_e, wLc_e, wipeE, wgName, wgTup, wgCons, wgNil, List.getElem?_cons_zero, List.getElem?_cons_succ, List.set_cons_zero, List.set_cons_succ, List.length_cons, List.length_nil, Mi.wC, Mi.wVar, Mi.wVarO, Mi.wOp, Mi.wUn, Mi.wCmp, Mi.wCmpT, Mi.wChainT, Mi.wChain, Mi.wTru, Mi.wAndT, Mi.wOrT, Mi.wNotT, Mi.wAnd, Mi.wOr, Mi.wNot, Mi.wIfE, Mi.wNoPart, Mi.wPart, Mi.wSl, Mi.wNil, Mi.wCons, Mi.wTup, Mi.wLst, Mi.wNext, Mi.wSeq, Mi.wFreeze, Mi.wForget, Mi.wBreak, Mi.wCont, Mi.wRet, Mi.wRetO, Mi.wRetN, Mi.wDrop, Mi.wIf, Mi.wNever, Mi.wAsg, Mi.wSetO, Mi.wPar, Mi.wAug, Mi.wApp, Mi.wSetIx, Mi.wExt, Mi.wItems, Mi.wRng1, Mi.wRng2, Mi.wRng3, Mi.wEnum, Mi.wZip, Mi.wYes, Mi.wCall, Mi.wCallX, Mi.wB2, Mi.wMin3, Mi.wIsi, Mi.wGuard, Mi.wGuardD, Mi.wRaise]
    exact h

end
end K86
namespace K86
open PySem L2 Evl Mi
section
variable {P : Program} {w : World} {K : PySem.W.Frag} {mg : Str → Option Value} {base : Heap} {g : G}
theorem range_last (f : Nat → D) (t : Nat) : ((List.range (t + 1)).map f).getLast? = some (f t) := by
  rw [List.range_succ, List.map_append]; simp
theorem way0 (A B : List Str) : wayL A B 0 = [.int 0] := by
  unfold wayL node; simp [at_]
def c_first : CT := fun ds EX P => ∃ A B T, ds = [.lst (tabL A B), .lst (aheadL A B)] ∧ Few A B ∧ IsT A B T ∧ P (.lst (wayL A B T))
abbrev s_first_way : Stmt := topS 8
abbrev N_first_way : List Str := ["table", "ahead", "way", "place", "other", "cost"]
theorem sc_first_way : FnScope N_first_way ["table", "ahead"] (defScope s_first_way) := ⟨rfl, rfl, rfl, by decide +kernel, rfl, by decide +kernel, by decide +kernel⟩
theorem ok_first_way {f : Addr} {fd : FuncData} (F : Fun K "first_way" "first_way" s_first_way f fd) (T : Txt mg)  : FnOk P w K mg base CX0 (0 + 1) f fd ["table", "ahead"] (spD K g false c_first) := by
  refine Mi.Fun.data F sc_first_way (fun ds EX Q ⟨_, _, _, h, _⟩ => by rw [h]; rfl) (fun cdv A outer s H E S0 H0 hr => (ms_cons (ms_setO 2 sc_first_way.nd (mf_lst (ma_cons me_int ma_nil)))
  (ms_cut (ms_while PassesOwn.never (mt_lt (mo_of (me_ix hr.units (mo_var 2) (mo_of (me_neg (mo_of me_int))))) (mo_of (me_len T.len rfl (mo_var 0))))
  (ms_cons (ms_set 3 sc_first_way.nd (me_ix hr.units (mo_var 2) (mo_of (me_neg (mo_of me_int)))))
  (ms_one (ms_for (vs := [4, 5]) PassesOwn.never rfl (mi_any (me_ix hr.units (mo_var 0) (mo_var 3))) (mg_tup 2 rfl (mgs_cons (mg_name 4 sc_first_way.nd) (mgs_cons (mg_name 5 sc_first_way.nd) mgs_nil)) rfl rfl (fun _ _ _ h => wgCons_len (fun _ _ _ h => wgCons_len (fun _ _ _ h => wgNil_len h) wgName_ex h) wgName_ex h))
  (ms_one (ms_ifD (mt_w (mw_and (mt_isnot (mo_of (me_ix hr.units (mo_var 1) (mo_var 4))) (mo_of me_non)) (mw_and1 (mt_eq hr.units (mo_of (me_add (mo_var 5) (mo_of (me_ix hr.units (mo_var 1) (mo_var 4))))) (mo_of (me_ix hr.units (mo_var 1) (mo_var 3)))))))
  (ms_cons (ms_app 2 (me_var 4))
  (ms_one ms_break))
  ms_nil))))))
  (ms_freeze 2 (ms_one (ms_ret rfl (me_var 2))))))) (fun ds Q h => ?_) (fun ds EX Q h => h)
  obtain ⟨A, B, T', rfl, hf, hT, h⟩ := h
  have hf2 := few_wd hf
  have hn : 0 < (A.length + 1) * wd B := Nat.mul_pos (Nat.succ_pos _) (Nat.succ_pos _)
  have hl := few_len hf
  have hTl := isT_le hT
  simp only [e_qI, e_qIC, e_add1, e_add2, e_add3, e_add4, e_catL, e_aug1, e_aug2, e_mul1, e_mul2, e_rep, e_div, e_mod, e_neg, e_ord1, e_ord2, e_isn, e_nin, e_non1, e_non2, e_non3, e_non4, e_non5, e_non6, e_tru1, e_tru2, e_tru3, e_tru4, e_tru5, e_tru6, e_tru7, e_sl1, e_sl2, e_sl3, e_sl4, e_rev, e_it1, e_it2, e_it3, e_len1, e_len2, e_len3, e_len4, e_int1, e_int2, e_int3, e_min, e_max, e_min3, e_lst1, e_lst2, e_tup1, e_tup2, e_str, e_abs, e_lenS, e_ixS, Mi.qLt, Mi.qLe, Mi.qGt, Mi.qGe, List.map_cons, List.map_nil, List.length_map, true_and, and_true, Bool.false_eq_true, if_false, if_true, Bool.not_true, Bool.not_false, qEq_int, qEq_str, qEq_bl, qNe_int, qNe_str, qNe_bl, line0, line1, line2, line3, line4, line6, line7, line10, isi_list_lst, isi_list_tup, isi_list_non, isi_list_str, isi_list_int, isi_tup_tup, isi_bool_bl, isi_bool_int, isi_int_int, isi_int_bl, isi_int_non, isi_int_str, isi_str_str, isi_str_non, isi_str_int, startE_c, startE_n, startE_e, wFor_e, wLc_e, wipeE, wgName, wgTup, wgCons, wgNil, List.getElem?_cons_zero, List.getElem?_cons_succ, List.set_cons_zero, List.set_cons_succ, List.length_cons, List.length_nil, Mi.wC, Mi.wVar, Mi.wVarO, Mi.wOp, Mi.wUn, Mi.wCmp, Mi.wCmpT, Mi.wChainT, Mi.wChain, Mi.wTru, Mi.wAndT, Mi.wOrT, Mi.wNotT, Mi.wAnd, Mi.wOr, Mi.wNot, Mi.wIfE, Mi.wNoPart, Mi.wPart, Mi.wSl, Mi.wNil, Mi.wCons, Mi.wTup, Mi.wLst, Mi.wNext, Mi.wSeq, Mi.wFreeze, Mi.wForget, Mi.wBreak, Mi.wCont, Mi.wRet, Mi.wRetO, Mi.wRetN, Mi.wDrop, Mi.wIf, Mi.wNever, Mi.wAsg, Mi.wSetO, Mi.wPar, Mi.wAug, Mi.wApp, Mi.wSetIx, Mi.wExt, Mi.wItems, Mi.wRng1, Mi.wRng2, Mi.wRng3, Mi.wEnum, Mi.wZip, Mi.wYes, Mi.wCall, Mi.wCallX, Mi.wB2, Mi.wMin3, Mi.wIsi, Mi.wGuard, Mi.wGuardD, Mi.wRaise]
  refine cut_i (fun δ' => ∃ c3 c4 c5, δ' = [st (.lst (tabL A B)), st (.lst (aheadL A B)), ow (.lst (wayL A B T')), c3, c4, c5]) ?_ ?_
  · refine while_i (fun m δ' => ∃ t c3 c4 c5, δ' = [st (.lst (tabL A B)), st (.lst (aheadL A B)), ow (.lst (wayL A B t)), c3, c4, c5] ∧ m + t = A.length + B.length ∧ ∀ s, s < t → more A B (at_ A B s) = true) (A.length + B.length) ⟨0, none, none, none, by rw [way0], rfl, fun s hs => by omega⟩ ?_
    rintro m δ' ⟨t, c3, c4, c5, rfl, hm, hb⟩
    obtain ⟨ha, hb2⟩ := at_le A B t
    have hnode : node B (at_ A B t) = (((at_ A B t).1 * wd B + (at_ A B t).2 : Nat) : Int) := rfl
    have hnlt := node_lt (A := A) (B := B) ha hb2
    have wl : (wayL A B t).length = t + 1 := by simp [wayL]
    simp only [e_qI, e_qIC, e_add1, e_add2, e_add3, e_add4, e_catL, e_aug1, e_aug2, e_mul1, e_mul2, e_rep, e_div, e_mod, e_neg, e_ord1, e_ord2, e_isn, e_nin, e_non1, e_non2, e_non3, e_non4, e_non5, e_non6, e_tru1, e_tru2, e_tru3, e_tru4, e_tru5, e_tru6, e_tru7, e_sl1, e_sl2, e_sl3, e_sl4, e_rev, e_it1, e_it2, e_it3, e_len1, e_len2, e_len3, e_len4, e_int1, e_int2, e_int3, e_min, e_max, e_min3, e_lst1, e_lst2, e_tup1, e_tup2, e_str, e_abs, e_lenS, e_ixS, Mi.qLt, Mi.qLe, Mi.qGt, Mi.qGe, List.map_cons, List.map_nil, List.length_map, true_and, and_true, Bool.false_eq_true, if_false, if_true, Bool.not_true, Bool.not_false, qEq_int, qEq_str, qEq_bl, qNe_int, qNe_str, qNe_bl, line0, line1, line2, line3, line4, line6, line7, line10, isi_list_lst, isi_list_tup, isi_list_non, isi_list_str, isi_list_int, isi_tup_tup, isi_bool_bl, isi_bool_int, isi_int_int, isi_int_bl, isi_int_non, isi_int_str, isi_str_str, isi_str_non, isi_str_int, startE_c, startE_n, startE_e, wFor_e, wLc_e, wipeE, wgName, wgTup, wgCons, wgNil, List.getElem?_cons_zero, List.getElem?_cons_succ, List.set_cons_zero, List.set_cons_succ, List.length_cons, List.length_nil, Mi.wC, Mi.wVar, Mi.wVarO, Mi.wOp, Mi.wUn, Mi.wCmp, Mi.wCmpT, Mi.wChainT, Mi.wChain, Mi.wTru, Mi.wAndT, Mi.wOrT, Mi.wNotT, Mi.wAnd, Mi.wOr, Mi.wNot, Mi.wIfE, Mi.wNoPart, Mi.wPart, Mi.wSl, Mi.wNil, Mi.wCons, Mi.wTup, Mi.wLst, Mi.wNext, Mi.wSeq, Mi.wFreeze, Mi.wForget, Mi.wBreak, Mi.wCont, Mi.wRet, Mi.wRetO, Mi.wRetN, Mi.wDrop, Mi.wIf, Mi.wNever, Mi.wAsg, Mi.wSetO, Mi.wPar, Mi.wAug, Mi.wApp, Mi.wSetIx, Mi.wExt, Mi.wItems, Mi.wRng1, Mi.wRng2, Mi.wRng3, Mi.wEnum, Mi.wZip, Mi.wYes, Mi.wCall, Mi.wCallX, Mi.wB2, Mi.wMin3, Mi.wIsi, Mi.wGuard, Mi.wGuardD, Mi.wRaise]
    refine qIx_last (range_last _ t) ?_
    rw [hnode]
    simp only [e_qI, e_qIC, e_add1, e_add2, e_add3, e_add4, e_catL, e_aug1, e_aug2, e_mul1, e_mul2, e_rep, e_div, e_mod, e_neg, e_ord1, e_ord2, e_isn, e_nin, e_non1, e_non2, e_non3, e_non4, e_non5, e_non6, e_tru1, e_tru2, e_tru3, e_tru4, e_tru5, e_tru6, e_tru7, e_sl1, e_sl2, e_sl3, e_sl4, e_rev, e_it1, e_it2, e_it3, e_len1, e_len2, e_len3, e_len4, e_int1, e_int2, e_int3, e_min, e_max, e_min3, e_lst1, e_lst2, e_tup1, e_tup2, e_str, e_abs, e_lenS, e_ixS, Mi.qLt, Mi.qLe, Mi.qGt, Mi.qGe, List.map_cons, List.map_nil, List.length_map, true_and, and_true, Bool.false_eq_true, if_false, if_true, Bool.not_true, Bool.not_false, qEq_int, qEq_str, qEq_bl, qNe_int, qNe_str, qNe_bl, line0, line1, line2, line3, line4, line6, line7, line10, isi_list_lst, isi_list_tup, isi_list_non, isi_list_str, isi_list_int, isi_tup_tup, isi_bool_bl, isi_bool_int, isi_int_int, isi_int_bl, isi_int_non, isi_int_str, isi_str_str, isi_str_non, isi_str_int, startE_c, startE_n, startE_e, wFor_e, wLc_e, wipeE, wgName, wgTup, wgCons, wgNil, List.getElem?_cons_zero, List.getElem?_cons_succ, List.set_cons_zero, List.set_cons_succ, List.length_cons, List.length_nil, Mi.wC, Mi.wVar, Mi.wVarO, Mi.wOp, Mi.wUn, Mi.wCmp, Mi.wCmpT, Mi.wChainT, Mi.wChain, Mi.wTru, Mi.wAndT, Mi.wOrT, Mi.wNotT, Mi.wAnd, Mi.wOr, Mi.wNot, Mi.wIfE, Mi.wNoPart, Mi.wPart, Mi.wSl, Mi.wNil, Mi.wCons, Mi.wTup, Mi.wLst, Mi.wNext, Mi.wSeq, Mi.wFreeze, Mi.wForget, Mi.wBreak, Mi.wCont, Mi.wRet, Mi.wRetO, Mi.wRetN, Mi.wDrop, Mi.wIf, Mi.wNever, Mi.wAsg, Mi.wSetO, Mi.wPar, Mi.wAug, Mi.wApp, Mi.wSetIx, Mi.wExt, Mi.wItems, Mi.wRng1, Mi.wRng2, Mi.wRng3, Mi.wEnum, Mi.wZip, Mi.wYes, Mi.wCall, Mi.wCallX, Mi.wB2, Mi.wMin3, Mi.wIsi, Mi.wGuard, Mi.wGuardD, Mi.wRaise]
    rw [tab_len]
    refine ite_i (fun e => ?_) fun e => ?_
    · have e := of_decide_eq_true e
      have hlt : (at_ A B t).1 * wd B + (at_ A B t).2 < (A.length + 1) * wd B - 1 := by omega
      have hmore : more A B (at_ A B t) = true := by
        cases e2 : more A B (at_ A B t) with
        | true => rfl
        | false =>
          have e3 := isT_end (T := t) ⟨e2, hb⟩
          rw [e3] at hlt
          have := node_end (A := A) (B := B)
          simp only at hlt
          omega
      have hts := at_sum A B (t + 1) fun s hs => by
        by_cases c : s < t
        · exact hb s c
        · have : s = t := by omega
          rw [this]; exact hmore
      have hts2 := at_le A B (t + 1)
      refine qIx_last (range_last _ t) ?_
      rw [hnode]
      refine qIx_lst (tab_get hlt) ?_
      simp only [e_qI, e_qIC, e_add1, e_add2, e_add3, e_add4, e_catL, e_aug1, e_aug2, e_mul1, e_mul2, e_rep, e_div, e_mod, e_neg, e_ord1, e_ord2, e_isn, e_nin, e_non1, e_non2, e_non3, e_non4, e_non5, e_non6, e_tru1, e_tru2, e_tru3, e_tru4, e_tru5, e_tru6, e_tru7, e_sl1, e_sl2, e_sl3, e_sl4, e_rev, e_it1, e_it2, e_it3, e_len1, e_len2, e_len3, e_len4, e_int1, e_int2, e_int3, e_min, e_max, e_min3, e_lst1, e_lst2, e_tup1, e_tup2, e_str, e_abs, e_lenS, e_ixS, Mi.qLt, Mi.qLe, Mi.qGt, Mi.qGe, List.map_cons, List.map_nil, List.length_map, true_and, and_true, Bool.false_eq_true, if_false, if_true, Bool.not_true, Bool.not_false, qEq_int, qEq_str, qEq_bl, qNe_int, qNe_str, qNe_bl, line0, line1, line2, line3, line4, line6, line7, line10, isi_list_lst, isi_list_tup, isi_list_non, isi_list_str, isi_list_int, isi_tup_tup, isi_bool_bl, isi_bool_int, isi_int_int, isi_int_bl, isi_int_non, isi_int_str, isi_str_str, isi_str_non, isi_str_int, startE_c, startE_n, startE_e, wFor_e, wLc_e, wipeE, wgName, wgTup, wgCons, wgNil, List.getElem?_cons_zero, List.getElem?_cons_succ, List.set_cons_zero, List.set_cons_succ, List.length_cons, List.length_nil, Mi.wC, Mi.wVar, Mi.wVarO, Mi.wOp, Mi.wUn, Mi.wCmp, Mi.wCmpT, Mi.wChainT, Mi.wChain, Mi.wTru, Mi.wAndT, Mi.wOrT, Mi.wNotT, Mi.wAnd, Mi.wOr, Mi.wNot, Mi.wIfE, Mi.wNoPart, Mi.wPart, Mi.wSl, Mi.wNil, Mi.wCons, Mi.wTup, Mi.wLst, Mi.wNext, Mi.wSeq, Mi.wFreeze, Mi.wForget, Mi.wBreak, Mi.wCont, Mi.wRet, Mi.wRetO, Mi.wRetN, Mi.wDrop, Mi.wIf, Mi.wNever, Mi.wAsg, Mi.wSetO, Mi.wPar, Mi.wAug, Mi.wApp, Mi.wSetIx, Mi.wExt, Mi.wItems, Mi.wRng1, Mi.wRng2, Mi.wRng3, Mi.wEnum, Mi.wZip, Mi.wYes, Mi.wCall, Mi.wCallX, Mi.wB2, Mi.wMin3, Mi.wIsi, Mi.wGuard, Mi.wGuardD, Mi.wRaise]
      obtain ⟨pre, post, c, eo, hpre, hgood⟩ := opt_first (A := A) (B := B) (i := (at_ A B t).1) (j := (at_ A B t).2) ha hb2 hmore
      have hp := hlt
      have hall := opt_all (A := A) (B := B) ha hb2
      have eat : at_ A B (t + 1) = nxt A B (at_ A B t) := by rw [at_, if_pos hmore]
      have hnodeq : ∀ q, (at_ A B t).1 * wd B + (at_ A B t).2 = q → True := fun _ _ => trivial
      generalize eqp : (at_ A B t).1 * wd B + (at_ A B t).2 = p at *
      refine for_i (fun k δ' => ∃ c4 c5, δ' = [st (.lst (tabL A B)), st (.lst (aheadL A B)), ow (.lst (wayL A B t)), st (.int (p : Nat)), c4, c5] ∧ k ≤ pre.length) ⟨_, _, rfl, Nat.zero_le _⟩ ?_ ?_
      · rintro k d δ' hk ⟨c4, c5, rfl, hkl⟩
        rw [List.getElem?_map] at hk
        obtain ⟨o, ho, rfl⟩ := Option.map_eq_some_iff.mp hk
        obtain ⟨i', j', e', hi', hj', _, _, _⟩ := hall o (List.mem_of_getElem? ho)
        have hol : o.1 < (A.length + 1) * wd B := by rw [e']; exact node_lt (p := (i', j')) hi' hj'
        unfold optD
        simp only [e_qI, e_qIC, e_add1, e_add2, e_add3, e_add4, e_catL, e_aug1, e_aug2, e_mul1, e_mul2, e_rep, e_div, e_mod, e_neg, e_ord1, e_ord2, e_isn, e_nin, e_non1, e_non2, e_non3, e_non4, e_non5, e_non6, e_tru1, e_tru2, e_tru3, e_tru4, e_tru5, e_tru6, e_tru7, e_sl1, e_sl2, e_sl3, e_sl4, e_rev, e_it1, e_it2, e_it3, e_len1, e_len2, e_len3, e_len4, e_int1, e_int2, e_int3, e_min, e_max, e_min3, e_lst1, e_lst2, e_tup1, e_tup2, e_str, e_abs, e_lenS, e_ixS, Mi.qLt, Mi.qLe, Mi.qGt, Mi.qGe, List.map_cons, List.map_nil, List.length_map, true_and, and_true, Bool.false_eq_true, if_false, if_true, Bool.not_true, Bool.not_false, qEq_int, qEq_str, qEq_bl, qNe_int, qNe_str, qNe_bl, line0, line1, line2, line3, line4, line6, line7, line10, isi_list_lst, isi_list_tup, isi_list_non, isi_list_str, isi_list_int, isi_tup_tup, isi_bool_bl, isi_bool_int, isi_int_int, isi_int_bl, isi_int_non, isi_int_str, isi_str_str, isi_str_non, isi_str_int, startE_c, startE_n, startE_e, wFor_e, wLc_e, wipeE, wgName, wgTup, wgCons, wgNil, List.getElem?_cons_zero, List.getElem?_cons_succ, List.set_cons_zero, List.set_cons_succ, List.length_cons, List.length_nil, Mi.wC, Mi.wVar, Mi.wVarO, Mi.wOp, Mi.wUn, Mi.wCmp, Mi.wCmpT, Mi.wChainT, Mi.wChain, Mi.wTru, Mi.wAndT, Mi.wOrT, Mi.wNotT, Mi.wAnd, Mi.wOr, Mi.wNot, Mi.wIfE, Mi.wNoPart, Mi.wPart, Mi.wSl, Mi.wNil, Mi.wCons, Mi.wTup, Mi.wLst, Mi.wNext, Mi.wSeq, Mi.wFreeze, Mi.wForget, Mi.wBreak, Mi.wCont, Mi.wRet, Mi.wRetO, Mi.wRetN, Mi.wDrop, Mi.wIf, Mi.wNever, Mi.wAsg, Mi.wSetO, Mi.wPar, Mi.wAug, Mi.wApp, Mi.wSetIx, Mi.wExt, Mi.wItems, Mi.wRng1, Mi.wRng2, Mi.wRng3, Mi.wEnum, Mi.wZip, Mi.wYes, Mi.wCall, Mi.wCallX, Mi.wB2, Mi.wMin3, Mi.wIsi, Mi.wGuard, Mi.wGuardD, Mi.wRaise]
        refine ifD_i (good A B p o) ?_ (fun e => ?_) fun e => ?_
        · simp only [e_qI, e_qIC, e_add1, e_add2, e_add3, e_add4, e_catL, e_aug1, e_aug2, e_mul1, e_mul2, e_rep, e_div, e_mod, e_neg, e_ord1, e_ord2, e_isn, e_nin, e_non1, e_non2, e_non3, e_non4, e_non5, e_non6, e_tru1, e_tru2, e_tru3, e_tru4, e_tru5, e_tru6, e_tru7, e_sl1, e_sl2, e_sl3, e_sl4, e_rev, e_it1, e_it2, e_it3, e_len1, e_len2, e_len3, e_len4, e_int1, e_int2, e_int3, e_min, e_max, e_min3, e_lst1, e_lst2, e_tup1, e_tup2, e_str, e_abs, e_lenS, e_ixS, Mi.qLt, Mi.qLe, Mi.qGt, Mi.qGe, List.map_cons, List.map_nil, List.length_map, true_and, and_true, Bool.false_eq_true, if_false, if_true, Bool.not_true, Bool.not_false, qEq_int, qEq_str, qEq_bl, qNe_int, qNe_str, qNe_bl, line0, line1, line2, line3, line4, line6, line7, line10, isi_list_lst, isi_list_tup, isi_list_non, isi_list_str, isi_list_int, isi_tup_tup, isi_bool_bl, isi_bool_int, isi_int_int, isi_int_bl, isi_int_non, isi_int_str, isi_str_str, isi_str_non, isi_str_int, startE_c, startE_n, startE_e, wFor_e, wLc_e, wipeE, wgName, wgTup, wgCons, wgNil, List.getElem?_cons_zero, List.getElem?_cons_succ, List.set_cons_zero, List.set_cons_succ, List.length_cons, List.length_nil, Mi.wC, Mi.wVar, Mi.wVarO, Mi.wOp, Mi.wUn, Mi.wCmp, Mi.wCmpT, Mi.wChainT, Mi.wChain, Mi.wTru, Mi.wAndT, Mi.wOrT, Mi.wNotT, Mi.wAnd, Mi.wOr, Mi.wNot, Mi.wIfE, Mi.wNoPart, Mi.wPart, Mi.wSl, Mi.wNil, Mi.wCons, Mi.wTup, Mi.wLst, Mi.wNext, Mi.wSeq, Mi.wFreeze, Mi.wForget, Mi.wBreak, Mi.wCont, Mi.wRet, Mi.wRetO, Mi.wRetN, Mi.wDrop, Mi.wIf, Mi.wNever, Mi.wAsg, Mi.wSetO, Mi.wPar, Mi.wAug, Mi.wApp, Mi.wSetIx, Mi.wExt, Mi.wItems, Mi.wRng1, Mi.wRng2, Mi.wRng3, Mi.wEnum, Mi.wZip, Mi.wYes, Mi.wCall, Mi.wCallX, Mi.wB2, Mi.wMin3, Mi.wIsi, Mi.wGuard, Mi.wGuardD, Mi.wRaise]
          refine qIx_lst (ahead_get hol) ?_
          simp only [e_qI, e_qIC, e_add1, e_add2, e_add3, e_add4, e_catL, e_aug1, e_aug2, e_mul1, e_mul2, e_rep, e_div, e_mod, e_neg, e_ord1, e_ord2, e_isn, e_nin, e_non1, e_non2, e_non3, e_non4, e_non5, e_non6, e_tru1, e_tru2, e_tru3, e_tru4, e_tru5, e_tru6, e_tru7, e_sl1, e_sl2, e_sl3, e_sl4, e_rev, e_it1, e_it2, e_it3, e_len1, e_len2, e_len3, e_len4, e_int1, e_int2, e_int3, e_min, e_max, e_min3, e_lst1, e_lst2, e_tup1, e_tup2, e_str, e_abs, e_lenS, e_ixS, Mi.qLt, Mi.qLe, Mi.qGt, Mi.qGe, List.map_cons, List.map_nil, List.length_map, true_and, and_true, Bool.false_eq_true, if_false, if_true, Bool.not_true, Bool.not_false, qEq_int, qEq_str, qEq_bl, qNe_int, qNe_str, qNe_bl, line0, line1, line2, line3, line4, line6, line7, line10, isi_list_lst, isi_list_tup, isi_list_non, isi_list_str, isi_list_int, isi_tup_tup, isi_bool_bl, isi_bool_int, isi_int_int, isi_int_bl, isi_int_non, isi_int_str, isi_str_str, isi_str_non, isi_str_int, startE_c, startE_n, startE_e, wFor_e, wLc_e, wipeE, wgName, wgTup, wgCons, wgNil, List.getElem?_cons_zero, List.getElem?_cons_succ, List.set_cons_zero, List.set_cons_succ, List.length_cons, List.length_nil, Mi.wC, Mi.wVar, Mi.wVarO, Mi.wOp, Mi.wUn, Mi.wCmp, Mi.wCmpT, Mi.wChainT, Mi.wChain, Mi.wTru, Mi.wAndT, Mi.wOrT, Mi.wNotT, Mi.wAnd, Mi.wOr, Mi.wNot, Mi.wIfE, Mi.wNoPart, Mi.wPart, Mi.wSl, Mi.wNil, Mi.wCons, Mi.wTup, Mi.wLst, Mi.wNext, Mi.wSeq, Mi.wFreeze, Mi.wForget, Mi.wBreak, Mi.wCont, Mi.wRet, Mi.wRetO, Mi.wRetN, Mi.wDrop, Mi.wIf, Mi.wNever, Mi.wAsg, Mi.wSetO, Mi.wPar, Mi.wAug, Mi.wApp, Mi.wSetIx, Mi.wExt, Mi.wItems, Mi.wRng1, Mi.wRng2, Mi.wRng3, Mi.wEnum, Mi.wZip, Mi.wYes, Mi.wCall, Mi.wCallX, Mi.wB2, Mi.wMin3, Mi.wIsi, Mi.wGuard, Mi.wGuardD, Mi.wRaise]
          refine qIx_lst (ahead_get hol) ?_
          simp only [e_qI, e_qIC, e_add1, e_add2, e_add3, e_add4, e_catL, e_aug1, e_aug2, e_mul1, e_mul2, e_rep, e_div, e_mod, e_neg, e_ord1, e_ord2, e_isn, e_nin, e_non1, e_non2, e_non3, e_non4, e_non5, e_non6, e_tru1, e_tru2, e_tru3, e_tru4, e_tru5, e_tru6, e_tru7, e_sl1, e_sl2, e_sl3, e_sl4, e_rev, e_it1, e_it2, e_it3, e_len1, e_len2, e_len3, e_len4, e_int1, e_int2, e_int3, e_min, e_max, e_min3, e_lst1, e_lst2, e_tup1, e_tup2, e_str, e_abs, e_lenS, e_ixS, Mi.qLt, Mi.qLe, Mi.qGt, Mi.qGe, List.map_cons, List.map_nil, List.length_map, true_and, and_true, Bool.false_eq_true, if_false, if_true, Bool.not_true, Bool.not_false, qEq_int, qEq_str, qEq_bl, qNe_int, qNe_str, qNe_bl, line0, line1, line2, line3, line4, line6, line7, line10, isi_list_lst, isi_list_tup, isi_list_non, isi_list_str, isi_list_int, isi_tup_tup, isi_bool_bl, isi_bool_int, isi_int_int, isi_int_bl, isi_int_non, isi_int_str, isi_str_str, isi_str_non, isi_str_int, startE_c, startE_n, startE_e, wFor_e, wLc_e, wipeE, wgName, wgTup, wgCons, wgNil, List.getElem?_cons_zero, List.getElem?_cons_succ, List.set_cons_zero, List.set_cons_succ, List.length_cons, List.length_nil, Mi.wC, Mi.wVar, Mi.wVarO, Mi.wOp, Mi.wUn, Mi.wCmp, Mi.wCmpT, Mi.wChainT, Mi.wChain, Mi.wTru, Mi.wAndT, Mi.wOrT, Mi.wNotT, Mi.wAnd, Mi.wOr, Mi.wNot, Mi.wIfE, Mi.wNoPart, Mi.wPart, Mi.wSl, Mi.wNil, Mi.wCons, Mi.wTup, Mi.wLst, Mi.wNext, Mi.wSeq, Mi.wFreeze, Mi.wForget, Mi.wBreak, Mi.wCont, Mi.wRet, Mi.wRetO, Mi.wRetN, Mi.wDrop, Mi.wIf, Mi.wNever, Mi.wAsg, Mi.wSetO, Mi.wPar, Mi.wAug, Mi.wApp, Mi.wSetIx, Mi.wExt, Mi.wItems, Mi.wRng1, Mi.wRng2, Mi.wRng3, Mi.wEnum, Mi.wZip, Mi.wYes, Mi.wCall, Mi.wCallX, Mi.wB2, Mi.wMin3, Mi.wIsi, Mi.wGuard, Mi.wGuardD, Mi.wRaise]
          refine qIx_lst (ahead_get (p := p) (by omega)) ?_
          simp only [e_qI, e_qIC, e_add1, e_add2, e_add3, e_add4, e_catL, e_aug1, e_aug2, e_mul1, e_mul2, e_rep, e_div, e_mod, e_neg, e_ord1, e_ord2, e_isn, e_nin, e_non1, e_non2, e_non3, e_non4, e_non5, e_non6, e_tru1, e_tru2, e_tru3, e_tru4, e_tru5, e_tru6, e_tru7, e_sl1, e_sl2, e_sl3, e_sl4, e_rev, e_it1, e_it2, e_it3, e_len1, e_len2, e_len3, e_len4, e_int1, e_int2, e_int3, e_min, e_max, e_min3, e_lst1, e_lst2, e_tup1, e_tup2, e_str, e_abs, e_lenS, e_ixS, Mi.qLt, Mi.qLe, Mi.qGt, Mi.qGe, List.map_cons, List.map_nil, List.length_map, true_and, and_true, Bool.false_eq_true, if_false, if_true, Bool.not_true, Bool.not_false, qEq_int, qEq_str, qEq_bl, qNe_int, qNe_str, qNe_bl, line0, line1, line2, line3, line4, line6, line7, line10, isi_list_lst, isi_list_tup, isi_list_non, isi_list_str, isi_list_int, isi_tup_tup, isi_bool_bl, isi_bool_int, isi_int_int, isi_int_bl, isi_int_non, isi_int_str, isi_str_str, isi_str_non, isi_str_int, startE_c, startE_n, startE_e, wFor_e, wLc_e, wipeE, wgName, wgTup, wgCons, wgNil, List.getElem?_cons_zero, List.getElem?_cons_succ, List.set_cons_zero, List.set_cons_succ, List.length_cons, List.length_nil, Mi.wC, Mi.wVar, Mi.wVarO, Mi.wOp, Mi.wUn, Mi.wCmp, Mi.wCmpT, Mi.wChainT, Mi.wChain, Mi.wTru, Mi.wAndT, Mi.wOrT, Mi.wNotT, Mi.wAnd, Mi.wOr, Mi.wNot, Mi.wIfE, Mi.wNoPart, Mi.wPart, Mi.wSl, Mi.wNil, Mi.wCons, Mi.wTup, Mi.wLst, Mi.wNext, Mi.wSeq, Mi.wFreeze, Mi.wForget, Mi.wBreak, Mi.wCont, Mi.wRet, Mi.wRetO, Mi.wRetN, Mi.wDrop, Mi.wIf, Mi.wNever, Mi.wAsg, Mi.wSetO, Mi.wPar, Mi.wAug, Mi.wApp, Mi.wSetIx, Mi.wExt, Mi.wItems, Mi.wRng1, Mi.wRng2, Mi.wRng3, Mi.wEnum, Mi.wZip, Mi.wYes, Mi.wCall, Mi.wCallX, Mi.wB2, Mi.wMin3, Mi.wIsi, Mi.wGuard, Mi.wGuardD, Mi.wRaise]
          unfold good
          congr 1
          rw [eq_iff_iff]
          omega
        · have hkl2 : k = pre.length := by
            by_cases c : k < pre.length
            · have : o ∈ pre := by
                rw [eo, List.append_assoc, List.getElem?_append_left c] at ho
                exact List.mem_of_getElem? ho
              rw [hpre o this] at e
              cases e
            · omega
          have eo2 : o = ((nxt A B ((at_ A B t).1, (at_ A B t).2)).1 * wd B + (nxt A B ((at_ A B t).1, (at_ A B t).2)).2, c) := by
            rw [eo, hkl2, List.append_assoc, List.getElem?_append_right (Nat.le_refl _), Nat.sub_self] at ho
            simpa using ho.symm
          simp only [e_qI, e_qIC, e_add1, e_add2, e_add3, e_add4, e_catL, e_aug1, e_aug2, e_mul1, e_mul2, e_rep, e_div, e_mod, e_neg, e_ord1, e_ord2, e_isn, e_nin, e_non1, e_non2, e_non3, e_non4, e_non5, e_non6, e_tru1, e_tru2, e_tru3, e_tru4, e_tru5, e_tru6, e_tru7, e_sl1, e_sl2, e_sl3, e_sl4, e_rev, e_it1, e_it2, e_it3, e_len1, e_len2, e_len3, e_len4, e_int1, e_int2, e_int3, e_min, e_max, e_min3, e_lst1, e_lst2, e_tup1, e_tup2, e_str, e_abs, e_lenS, e_ixS, Mi.qLt, Mi.qLe, Mi.qGt, Mi.qGe, List.map_cons, List.map_nil, List.length_map, true_and, and_true, Bool.false_eq_true, if_false, if_true, Bool.not_true, Bool.not_false, qEq_int, qEq_str, qEq_bl, qNe_int, qNe_str, qNe_bl, line0, line1, line2, line3, line4, line6, line7, line10, isi_list_lst, isi_list_tup, isi_list_non, isi_list_str, isi_list_int, isi_tup_tup, isi_bool_bl, isi_bool_int, isi_int_int, isi_int_bl, isi_int_non, isi_int_str, isi_str_str, isi_str_non, isi_str_int, startE_c, startE_n, startE_e, wFor_e, wLc_e, wipeE, wgName, wgTup, wgCons, wgNil, List.getElem?_cons_zero, List.getElem?_cons_succ, List.set_cons_zero, List.set_cons_succ, List.length_cons, List.length_nil, Mi.wC, Mi.wVar, Mi.wVarO, Mi.wOp, Mi.wUn, Mi.wCmp, Mi.wCmpT, Mi.wChainT, Mi.wChain, Mi.wTru, Mi.wAndT, Mi.wOrT, Mi.wNotT, Mi.wAnd, Mi.wOr, Mi.wNot, Mi.wIfE, Mi.wNoPart, Mi.wPart, Mi.wSl, Mi.wNil, Mi.wCons, Mi.wTup, Mi.wLst, Mi.wNext, Mi.wSeq, Mi.wFreeze, Mi.wForget, Mi.wBreak, Mi.wCont, Mi.wRet, Mi.wRetO, Mi.wRetN, Mi.wDrop, Mi.wIf, Mi.wNever, Mi.wAsg, Mi.wSetO, Mi.wPar, Mi.wAug, Mi.wApp, Mi.wSetIx, Mi.wExt, Mi.wItems, Mi.wRng1, Mi.wRng2, Mi.wRng3, Mi.wEnum, Mi.wZip, Mi.wYes, Mi.wCall, Mi.wCallX, Mi.wB2, Mi.wMin3, Mi.wIsi, Mi.wGuard, Mi.wGuardD, Mi.wRaise]
          refine ⟨by rw [wl]; exact ltL (by omega), m - 1, by omega, t + 1, st (.int (p : Nat)), st (.int (o.1 : Nat)), st (.int (o.2 : Nat)), ?_, by omega, fun s hs => ?_⟩
          · have : wayL A B (t + 1) = wayL A B t ++ [.int o.1] := by
              unfold wayL
              rw [List.range_succ (n := t + 1), List.map_append, eo2]
              show _ ++ [D.int (node B (at_ A B (t + 1)))] = _
              rw [eat]
              rfl
            rw [this]
          · by_cases c : s < t
            · exact hb s c
            · have : s = t := by omega
              rw [this]; exact hmore
        · simp only [e_qI, e_qIC, e_add1, e_add2, e_add3, e_add4, e_catL, e_aug1, e_aug2, e_mul1, e_mul2, e_rep, e_div, e_mod, e_neg, e_ord1, e_ord2, e_isn, e_nin, e_non1, e_non2, e_non3, e_non4, e_non5, e_non6, e_tru1, e_tru2, e_tru3, e_tru4, e_tru5, e_tru6, e_tru7, e_sl1, e_sl2, e_sl3, e_sl4, e_rev, e_it1, e_it2, e_it3, e_len1, e_len2, e_len3, e_len4, e_int1, e_int2, e_int3, e_min, e_max, e_min3, e_lst1, e_lst2, e_tup1, e_tup2, e_str, e_abs, e_lenS, e_ixS, Mi.qLt, Mi.qLe, Mi.qGt, Mi.qGe, List.map_cons, List.map_nil, List.length_map, true_and, and_true, Bool.false_eq_true, if_false, if_true, Bool.not_true, Bool.not_false, qEq_int, qEq_str, qEq_bl, qNe_int, qNe_str, qNe_bl, line0, line1, line2, line3, line4, line6, line7, line10, isi_list_lst, isi_list_tup, isi_list_non, isi_list_str, isi_list_int, isi_tup_tup, isi_bool_bl, isi_bool_int, isi_int_int, isi_int_bl, isi_int_non, isi_int_str, isi_str_str, isi_str_non, isi_str_int, startE_c, startE_n, startE_e, wFor_e, wLc_e, wipeE, wgName, wgTup, wgCons, wgNil, List.getElem?_cons_zero, List.getElem?_cons_succ, List.set_cons_zero, List.set_cons_succ, List.length_cons, List.length_nil, Mi.wC, Mi.wVar, Mi.wVarO, Mi.wOp, Mi.wUn, Mi.wCmp, Mi.wCmpT, Mi.wChainT, Mi.wChain, Mi.wTru, Mi.wAndT, Mi.wOrT, Mi.wNotT, Mi.wAnd, Mi.wOr, Mi.wNot, Mi.wIfE, Mi.wNoPart, Mi.wPart, Mi.wSl, Mi.wNil, Mi.wCons, Mi.wTup, Mi.wLst, Mi.wNext, Mi.wSeq, Mi.wFreeze, Mi.wForget, Mi.wBreak, Mi.wCont, Mi.wRet, Mi.wRetO, Mi.wRetN, Mi.wDrop, Mi.wIf, Mi.wNever, Mi.wAsg, Mi.wSetO, Mi.wPar, Mi.wAug, Mi.wApp, Mi.wSetIx, Mi.wExt, Mi.wItems, Mi.wRng1, Mi.wRng2, Mi.wRng3, Mi.wEnum, Mi.wZip, Mi.wYes, Mi.wCall, Mi.wCallX, Mi.wB2, Mi.wMin3, Mi.wIsi, Mi.wGuard, Mi.wGuardD, Mi.wRaise]
          refine ⟨_, _, rfl, ?_⟩
          by_cases c2 : k < pre.length
          · exact c2
          · have hkl2 : k = pre.length := by omega
            have eo2 : o = ((nxt A B ((at_ A B t).1, (at_ A B t).2)).1 * wd B + (nxt A B ((at_ A B t).1, (at_ A B t).2)).2, c) := by
              rw [eo, hkl2, List.append_assoc, List.getElem?_append_right (Nat.le_refl _), Nat.sub_self] at ho
              simpa using ho.symm
            rw [eo2, hgood] at e
            cases e
      · rintro δ' ⟨c4, c5, rfl, hkl⟩
        rw [List.length_map, eo] at hkl
        simp at hkl
        omega
    · have e := of_decide_eq_false e
      have hend : more A B (at_ A B t) = false := by
        cases e2 : more A B (at_ A B t) with
        | false => rfl
        | true => exact absurd (node_lt' ha hb2 e2) (by omega)
      have ht : t = T' := by
        by_cases c1 : t < T'
        · rw [hT.bef t c1] at hend; cases hend
        · by_cases c2 : T' < t
          · have := hb T' c2
            rw [hT.fin] at this; cases this
          · omega
      subst ht
      exact ⟨_, _, _, rfl⟩
  · rintro δ' ⟨c3, c4, c5, rfl⟩
    simp only [e_qI, e_qIC, e_add1, e_add2, e_add3, e_add4, e_catL, e_aug1, e_aug2, e_mul1, e_mul2, e_rep, e_div, e_mod, e_neg, e_ord1, e_ord2, e_isn, e_nin, e_non1, e_non2, e_non3, e_non4, e_non5, e_non6, e_tru1, e_tru2, e_tru3, e_tru4, e_tru5, e_tru6, e_tru7, e_sl1, e_sl2, e_sl3, e_sl4, e_rev, e_it1, e_it2, e_it3, e_len1, e_len2, e_len3, e_len4, e_int1, e_int2, e_int3, e_min, e_max, e_min3, e_lst1, e_lst2, e_tup1, e_tup2, e_str, e_abs, e_lenS, e_ixS, Mi.qLt, Mi.qLe, Mi.qGt, Mi.qGe, List.map_cons, List.map_nil, List.length_map, true_and, and_true, Bool.false_eq_true, if_false, if_true, Bool.not_true, Bool.not_false, qEq_int, qEq_str, qEq_bl, qNe_int, qNe_str, qNe_bl, line0, line1, line2, line3, line4, line6, line7, line10, isi_list_lst, isi_list_tup, isi_list_non, isi_list_str, isi_list_int, isi_tup_tup, isi_bool_bl, isi_bool_int, isi_int_int, isi_int_bl, isi_int_non, isi_int_str, isi_str_str, isi_str_non, isi_str_int, startE_c, startE_n, startE_e, wFor_e, wLc_e, wipeE, wgName, wgTup, wgCons, wgNil, List.getElem?_cons_zero, List.getElem?_cons_succ, List.set_cons_zero, List.set_cons_succ, List.length_cons, List.length_nil, Mi.wC, Mi.wVar, Mi.wVarO, Mi.wOp, Mi.wUn, Mi.wCmp, Mi.wCmpT, Mi.wChainT, Mi.wChain, Mi.wTru, Mi.wAndT, Mi.wOrT, Mi.wNotT, Mi.wAnd, Mi.wOr, Mi.wNot, Mi.wIfE, Mi.wNoPart, Mi.wPart, Mi.wSl, Mi.wNil, Mi.wCons, Mi.wTup, Mi.wLst, Mi.wNext, Mi.wSeq, Mi.wFreeze, Mi.wForget, Mi.wBreak, Mi.wCont, Mi.wRet, Mi.wRetO, Mi.wRetN, Mi.wDrop, Mi.wIf, Mi.wNever, Mi.wAsg, Mi.wSetO, Mi.wPar, Mi.wAug, Mi.wApp, Mi.wSetIx, Mi.wExt, Mi.wItems, Mi.wRng1, Mi.wRng2, Mi.wRng3, Mi.wEnum, Mi.wZip, Mi.wYes, Mi.wCall, Mi.wCallX, Mi.wB2, Mi.wMin3, Mi.wIsi, Mi.wGuard, Mi.wGuardD, Mi.wRaise]
    exact h

end
end K86
namespace K86
open PySem L2 Evl Mi
section
variable {P : Program} {w : World} {K : PySem.W.Frag} {mg : Str → Option Value} {base : Heap} {g : G}

def c_told : CT := fun ds EX P => ∃ A B T, ds = [.lst (tabL A B)] ∧ Few A B ∧ IsT A B T ∧ P (.tup [.str "best", .int (lvp A B 0 : Nat), .lst (wayL A B T), .lst (aheadL A B)])
abbrev s_told_answer : Stmt := topS 10
abbrev N_told_answer : List Str := ["table", "ahead"]
theorem sc_told_answer : FnScope N_told_answer ["table"] (defScope s_told_answer) := ⟨rfl, rfl, rfl, by decide +kernel, rfl, by decide +kernel, by decide +kernel⟩
theorem ok_told_answer {f : Addr} {fd : FuncData} (F : Fun K "told_answer" "told_answer" s_told_answer f fd) (T : Txt mg) (Z1 : Cal P w K mg base g false "least_ahead" 1 c_ahead) (Z2 : Cal P w K mg base g false "first_way" 1 c_first) : FnOk P w K mg base CX0 (1 + 1) f fd ["table"] (spD K g false c_told) := by
  refine Mi.Fun.data F sc_told_answer (fun ds EX Q ⟨_, _, _, h, _⟩ => by rw [h]; rfl) (fun cdv A outer s H E S0 H0 hr => (ms_cons (ms_set 1 sc_told_answer.nd (me_call Z1 hr rfl (ma_cons (me_var 0) ma_nil)))
  (ms_cons (ms_if (mt_is (mo_of (me_ix hr.units (mo_var 1) (mo_of me_int))) (mo_of me_non))
  (ms_one ms_never)
  ms_nil)
  (ms_one (ms_ret rfl (me_tup (ma_cons (me_gs T.best) (ma_cons (me_ix hr.units (mo_var 1) (mo_of me_int)) (ma_cons (me_call Z2 hr rfl (ma_cons (me_var 0) (ma_cons (me_var 1) ma_nil))) (ma_cons (me_var 1) ma_nil)))))))))) (fun ds Q h => ?_) (fun ds EX Q h => h)
  obtain ⟨A, B, T', rfl, hf, hT, h⟩ := h
  have hn : 0 < (A.length + 1) * wd B := Nat.mul_pos (Nat.succ_pos _) (Nat.succ_pos _)
  simp only [e_qI, e_qIC, e_add1, e_add2, e_add3, e_add4, e_catL, e_aug1, e_aug2, e_mul1, e_mul2, e_rep, e_div, e_mod, e_neg, e_ord1, e_ord2, e_isn, e_nin, e_non1, e_non2, e_non3, e_non4, e_non5, e_non6, e_tru1, e_tru2, e_tru3, e_tru4, e_tru5, e_tru6, e_tru7, e_sl1, e_sl2, e_sl3, e_sl4, e_rev, e_it1, e_it2, e_it3, e_len1, e_len2, e_len3, e_len4, e_int1, e_int2, e_int3, e_min, e_max, e_min3, e_lst1, e_lst2, e_tup1, e_tup2, e_str, e_abs, e_lenS, e_ixS, Mi.qLt, Mi.qLe, Mi.qGt, Mi.qGe, List.map_cons, List.map_nil, List.length_map, true_and, and_true, Bool.false_eq_true, if_false, if_true, Bool.not_true, Bool.not_false, qEq_int, qEq_str, qEq_bl, qNe_int, qNe_str, qNe_bl, line0, line1, line2, line3, line4, line6, line7, line10, isi_list_lst, isi_list_tup, isi_list_non, isi_list_str, isi_list_int, isi_tup_tup, isi_bool_bl, isi_bool_int, isi_int_int, isi_int_bl, isi_int_non, isi_int_str, isi_str_str, isi_str_non, isi_str_int, startE_c, startE_n, startE_e, wFor_e, wLc_e, wipeE, wgName, wgTup, wgCons, wgNil, List.getElem?_cons_zero, List.getElem?_cons_succ, List.set_cons_zero, List.set_cons_succ, List.length_cons, List.length_nil, Mi.wC, Mi.wVar, Mi.wVarO, Mi.wOp, Mi.wUn, Mi.wCmp, Mi.wCmpT, Mi.wChainT, Mi.wChain, Mi.wTru, Mi.wAndT, Mi.wOrT, Mi.wNotT, Mi.wAnd, Mi.wOr, Mi.wNot, Mi.wIfE, Mi.wNoPart, Mi.wPart, Mi.wSl, Mi.wNil, Mi.wCons, Mi.wTup, Mi.wLst, Mi.wNext, Mi.wSeq, Mi.wFreeze, Mi.wForget, Mi.wBreak, Mi.wCont, Mi.wRet, Mi.wRetO, Mi.wRetN, Mi.wDrop, Mi.wIf, Mi.wNever, Mi.wAsg, Mi.wSetO, Mi.wPar, Mi.wAug, Mi.wApp, Mi.wSetIx, Mi.wExt, Mi.wItems, Mi.wRng1, Mi.wRng2, Mi.wRng3, Mi.wEnum, Mi.wZip, Mi.wYes, Mi.wCall, Mi.wCallX, Mi.wB2, Mi.wMin3, Mi.wIsi, Mi.wGuard, Mi.wGuardD, Mi.wRaise]
  refine ⟨A, B, rfl, hf, ?_⟩
  simp only [e_qI, e_qIC, e_add1, e_add2, e_add3, e_add4, e_catL, e_aug1, e_aug2, e_mul1, e_mul2, e_rep, e_div, e_mod, e_neg, e_ord1, e_ord2, e_isn, e_nin, e_non1, e_non2, e_non3, e_non4, e_non5, e_non6, e_tru1, e_tru2, e_tru3, e_tru4, e_tru5, e_tru6, e_tru7, e_sl1, e_sl2, e_sl3, e_sl4, e_rev, e_it1, e_it2, e_it3, e_len1, e_len2, e_len3, e_len4, e_int1, e_int2, e_int3, e_min, e_max, e_min3, e_lst1, e_lst2, e_tup1, e_tup2, e_str, e_abs, e_lenS, e_ixS, Mi.qLt, Mi.qLe, Mi.qGt, Mi.qGe, List.map_cons, List.map_nil, List.length_map, true_and, and_true, Bool.false_eq_true, if_false, if_true, Bool.not_true, Bool.not_false, qEq_int, qEq_str, qEq_bl, qNe_int, qNe_str, qNe_bl, line0, line1, line2, line3, line4, line6, line7, line10, isi_list_lst, isi_list_tup, isi_list_non, isi_list_str, isi_list_int, isi_tup_tup, isi_bool_bl, isi_bool_int, isi_int_int, isi_int_bl, isi_int_non, isi_int_str, isi_str_str, isi_str_non, isi_str_int, startE_c, startE_n, startE_e, wFor_e, wLc_e, wipeE, wgName, wgTup, wgCons, wgNil, List.getElem?_cons_zero, List.getElem?_cons_succ, List.set_cons_zero, List.set_cons_succ, List.length_cons, List.length_nil, Mi.wC, Mi.wVar, Mi.wVarO, Mi.wOp, Mi.wUn, Mi.wCmp, Mi.wCmpT, Mi.wChainT, Mi.wChain, Mi.wTru, Mi.wAndT, Mi.wOrT, Mi.wNotT, Mi.wAnd, Mi.wOr, Mi.wNot, Mi.wIfE, Mi.wNoPart, Mi.wPart, Mi.wSl, Mi.wNil, Mi.wCons, Mi.wTup, Mi.wLst, Mi.wNext, Mi.wSeq, Mi.wFreeze, Mi.wForget, Mi.wBreak, Mi.wCont, Mi.wRet, Mi.wRetO, Mi.wRetN, Mi.wDrop, Mi.wIf, Mi.wNever, Mi.wAsg, Mi.wSetO, Mi.wPar, Mi.wAug, Mi.wApp, Mi.wSetIx, Mi.wExt, Mi.wItems, Mi.wRng1, Mi.wRng2, Mi.wRng3, Mi.wEnum, Mi.wZip, Mi.wYes, Mi.wCall, Mi.wCallX, Mi.wB2, Mi.wMin3, Mi.wIsi, Mi.wGuard, Mi.wGuardD, Mi.wRaise]
  have h0 := ahead_get (A := A) (B := B) (p := 0) hn
  refine qIx_lst (i := 0) h0 ?_
  simp only [e_qI, e_qIC, e_add1, e_add2, e_add3, e_add4, e_catL, e_aug1, e_aug2, e_mul1, e_mul2, e_rep, e_div, e_mod, e_neg, e_ord1, e_ord2, e_isn, e_nin, e_non1, e_non2, e_non3, e_non4, e_non5, e_non6, e_tru1, e_tru2, e_tru3, e_tru4, e_tru5, e_tru6, e_tru7, e_sl1, e_sl2, e_sl3, e_sl4, e_rev, e_it1, e_it2, e_it3, e_len1, e_len2, e_len3, e_len4, e_int1, e_int2, e_int3, e_min, e_max, e_min3, e_lst1, e_lst2, e_tup1, e_tup2, e_str, e_abs, e_lenS, e_ixS, Mi.qLt, Mi.qLe, Mi.qGt, Mi.qGe, List.map_cons, List.map_nil, List.length_map, true_and, and_true, Bool.false_eq_true, if_false, if_true, Bool.not_true, Bool.not_false, qEq_int, qEq_str, qEq_bl, qNe_int, qNe_str, qNe_bl, line0, line1, line2, line3, line4, line6, line7, line10, isi_list_lst, isi_list_tup, isi_list_non, isi_list_str, isi_list_int, isi_tup_tup, isi_bool_bl, isi_bool_int, isi_int_int, isi_int_bl, isi_int_non, isi_int_str, isi_str_str, isi_str_non, isi_str_int, startE_c, startE_n, startE_e, wFor_e, wLc_e, wipeE, wgName, wgTup, wgCons, wgNil, List.getElem?_cons_zero, List.getElem?_cons_succ, List.set_cons_zero, List.set_cons_succ, List.length_cons, List.length_nil, Mi.wC, Mi.wVar, Mi.wVarO, Mi.wOp, Mi.wUn, Mi.wCmp, Mi.wCmpT, Mi.wChainT, Mi.wChain, Mi.wTru, Mi.wAndT, Mi.wOrT, Mi.wNotT, Mi.wAnd, Mi.wOr, Mi.wNot, Mi.wIfE, Mi.wNoPart, Mi.wPart, Mi.wSl, Mi.wNil, Mi.wCons, Mi.wTup, Mi.wLst, Mi.wNext, Mi.wSeq, Mi.wFreeze, Mi.wForget, Mi.wBreak, Mi.wCont, Mi.wRet, Mi.wRetO, Mi.wRetN, Mi.wDrop, Mi.wIf, Mi.wNever, Mi.wAsg, Mi.wSetO, Mi.wPar, Mi.wAug, Mi.wApp, Mi.wSetIx, Mi.wExt, Mi.wItems, Mi.wRng1, Mi.wRng2, Mi.wRng3, Mi.wEnum, Mi.wZip, Mi.wYes, Mi.wCall, Mi.wCallX, Mi.wB2, Mi.wMin3, Mi.wIsi, Mi.wGuard, Mi.wGuardD, Mi.wRaise]
  refine qIx_lst (i := 0) h0 ?_
  exact ⟨A, B, T', rfl, hf, hT, h⟩
theorem cut_from {α : Type} (xs : List α) (n : Nat) : cutD xs (some (n : Int)) none = xs.drop n := by
  unfold cutD
  rw [HT.sIx_nat, HT.sIx_none]
  by_cases h : n ≤ xs.length
  · rw [Nat.min_eq_left h, List.take_of_length_le (by rw [List.length_drop]; exact Nat.le_refl _)]
  · rw [Nat.min_eq_right (by omega), List.drop_of_length_le (Nat.le_refl _), List.drop_of_length_le (by omega)]; simp
theorem cut_to {α : Type} (xs : List α) (n : Nat) : cutD xs none (some (n : Int)) = xs.take n := by
  unfold cutD
  rw [HT.sIx_nat, HT.sIx_none, Nat.sub_zero, List.drop_zero]
  by_cases h : n ≤ xs.length
  · rw [Nat.min_eq_left h]
  · rw [Nat.min_eq_right (by omega), List.take_of_length_le (Nat.le_refl _), List.take_of_length_le (by omega)]
def c_changes (CTM : Addr) : CT := fun ds EX P => ∃ A B T, ds = [SS A, SS B] ∧ A.length ≤ 5000 ∧ B.length ≤ 5000 ∧ IsT A B T ∧
  (¬ Few A B → ∀ z : Exc, z.cls = CTM → z.bare = false → z.fs = [(("limit" : Str), D.int 1900)] → EX z) ∧ (Few A B → P (.lst (dueL A B T)))
abbrev s_changes : Stmt := topS 16
abbrev N_changes : List Str := ["first", "second", "_", "way", "at", "behind"]
theorem sc_changes : FnScope N_changes ["first", "second"] (defScope s_changes) := ⟨rfl, rfl, rfl, by decide +kernel, rfl, by decide +kernel, by decide +kernel⟩
theorem ok_changes {f : Addr} {fd : FuncData} (F : Fun K "changes" "changes" s_changes f fd) (T : Txt mg) {CTM : Addr} (Z1 : CalX P w K mg base g false "check_sizes" 3 (c_check CTM)) (Z2 : Cal P w K mg base g false "told_answer" 2 c_told) (Z3 : Cal P w K mg base g false "change_table" 1 c_table) (Z4 : Cal P w K mg base g false "change_of" 1 c_change_of) : FnOk P w K mg base (L2.CX P w) (3 + 1) f fd ["first", "second"] (spD K g true (c_changes CTM)) := by
  refine Mi.Fun.dataX F sc_changes (fun ds EX Q ⟨_, _, _, h, _⟩ => by rw [h]; rfl) (fun cdv A outer s H E S0 H0 EX hr tk po => (ms_cons (ms_expr (me_callX Z1 tk hr rfl (ma_cons (me_var 0) (ma_cons (me_var 1) ma_nil))))
  (ms_cons (ms_ifD (mt_w (mw_and (mt_not (mt_tru (mo_var 0))) (mw_and1 (mt_not (mt_tru (mo_var 1))))))
  (ms_one (ms_retF rfl (mf_lst ma_nil)))
  ms_nil)
  (ms_cons (ms_asg (vs := [2, 2, 3, 2]) (me_call Z2 (hr.mono (by decide)) rfl (ma_cons (me_call Z3 (hr.mono (by decide)) rfl (ma_cons (me_var 0) (ma_cons (me_var 1) ma_nil))) ma_nil)) (mg_tup 4 rfl (mgs_cons (mg_name 2 sc_changes.nd) (mgs_cons (mg_name 2 sc_changes.nd) (mgs_cons (mg_name 3 sc_changes.nd) (mgs_cons (mg_name 2 sc_changes.nd) mgs_nil)))) rfl rfl (fun _ _ _ h => wgCons_len (fun _ _ _ h => wgCons_len (fun _ _ _ h => wgCons_len (fun _ _ _ h => wgCons_len (fun _ _ _ h => wgNil_len h) wgName_ex h) wgName_ex h) wgName_ex h) wgName_ex h)))
  (ms_one (ms_retF rfl (mf_lc (own := [("at", 4), ("behind", 5)]) rfl sc_changes.nd (mi_zip rfl T.zip (me_var 3) (me_sl (mo_var 3) (mp_some (mo_of me_int)) mp_none)) (blkOk_by (N := N_changes) (sc := defScope s_changes) (by decide +kernel)) (fun _ _ _ _ _ => (mg_tup 2 rfl (mgs_cons (mg_name 4 sc_changes.nd) (mgs_cons (mg_name 5 sc_changes.nd) mgs_nil)) rfl rfl (fun _ _ _ h => wgCons_len (fun _ _ _ h => wgCons_len (fun _ _ _ h => wgNil_len h) wgName_ex h) wgName_ex h))) (fun _ _ _ _ _ => mts_nil) (fun _ _ _ _ _ => (me_call Z4 (hr.mono (by decide)) rfl (ma_cons (me_var 0) (ma_cons (me_var 1) (ma_cons (me_var 4) (ma_cons (me_var 5) ma_nil))))))))))))) (fun ds EX Q h => ?_)
  obtain ⟨A, B, T', rfl, hA, hB, hT, hE, hP⟩ := h
  simp only [e_qI, e_qIC, e_add1, e_add2, e_add3, e_add4, e_catL, e_aug1, e_aug2, e_mul1, e_mul2, e_rep, e_div, e_mod, e_neg, e_ord1, e_ord2, e_isn, e_nin, e_non1, e_non2, e_non3, e_non4, e_non5, e_non6, e_tru1, e_tru2, e_tru3, e_tru4, e_tru5, e_tru6, e_tru7, e_sl1, e_sl2, e_sl3, e_sl4, e_rev, e_it1, e_it2, e_it3, e_len1, e_len2, e_len3, e_len4, e_int1, e_int2, e_int3, e_min, e_max, e_min3, e_lst1, e_lst2, e_tup1, e_tup2, e_str, e_abs, e_lenS, e_ixS, Mi.qLt, Mi.qLe, Mi.qGt, Mi.qGe, List.map_cons, List.map_nil, List.length_map, true_and, and_true, Bool.false_eq_true, if_false, if_true, Bool.not_true, Bool.not_false, qEq_int, qEq_str, qEq_bl, qNe_int, qNe_str, qNe_bl, line0, line1, line2, line3, line4, line6, line7, line10, isi_list_lst, isi_list_tup, isi_list_non, isi_list_str, isi_list_int, isi_tup_tup, isi_bool_bl, isi_bool_int, isi_int_int, isi_int_bl, isi_int_non, isi_int_str, isi_str_str, isi_str_non, isi_str_int, startE_c, startE_n, startE_e, wFor_e, wLc_e, wipeE, wgName, wgTup, wgCons, wgNil, List.getElem?_cons_zero, List.getElem?_cons_succ, List.set_cons_zero, List.set_cons_succ, List.length_cons, List.length_nil, Mi.wC, Mi.wVar, Mi.wVarO, Mi.wOp, Mi.wUn, Mi.wCmp, Mi.wCmpT, Mi.wChainT, Mi.wChain, Mi.wTru, Mi.wAndT, Mi.wOrT, Mi.wNotT, Mi.wAnd, Mi.wOr, Mi.wNot, Mi.wIfE, Mi.wNoPart, Mi.wPart, Mi.wSl, Mi.wNil, Mi.wCons, Mi.wTup, Mi.wLst, Mi.wNext, Mi.wSeq, Mi.wFreeze, Mi.wForget, Mi.wBreak, Mi.wCont, Mi.wRet, Mi.wRetO, Mi.wRetN, Mi.wDrop, Mi.wIf, Mi.wNever, Mi.wAsg, Mi.wSetO, Mi.wPar, Mi.wAug, Mi.wApp, Mi.wSetIx, Mi.wExt, Mi.wItems, Mi.wRng1, Mi.wRng2, Mi.wRng3, Mi.wEnum, Mi.wZip, Mi.wYes, Mi.wCall, Mi.wCallX, Mi.wB2, Mi.wMin3, Mi.wIsi, Mi.wGuard, Mi.wGuardD, Mi.wRaise]
  refine ⟨A, B, rfl, hA, hB, hE, fun hf => ?_⟩
  have hP := hP hf
  have hTl := isT_le hT
  have hl := few_len hf
  refine ifD_i (A.isEmpty && B.isEmpty) ?_ (fun e => ?_) fun e => ?_
  · simp only [e_qI, e_qIC, e_add1, e_add2, e_add3, e_add4, e_catL, e_aug1, e_aug2, e_mul1, e_mul2, e_rep, e_div, e_mod, e_neg, e_ord1, e_ord2, e_isn, e_nin, e_non1, e_non2, e_non3, e_non4, e_non5, e_non6, e_tru1, e_tru2, e_tru3, e_tru4, e_tru5, e_tru6, e_tru7, e_sl1, e_sl2, e_sl3, e_sl4, e_rev, e_it1, e_it2, e_it3, e_len1, e_len2, e_len3, e_len4, e_int1, e_int2, e_int3, e_min, e_max, e_min3, e_lst1, e_lst2, e_tup1, e_tup2, e_str, e_abs, e_lenS, e_ixS, Mi.qLt, Mi.qLe, Mi.qGt, Mi.qGe, List.map_cons, List.map_nil, List.length_map, true_and, and_true, Bool.false_eq_true, if_false, if_true, Bool.not_true, Bool.not_false, qEq_int, qEq_str, qEq_bl, qNe_int, qNe_str, qNe_bl, line0, line1, line2, line3, line4, line6, line7, line10, isi_list_lst, isi_list_tup, isi_list_non, isi_list_str, isi_list_int, isi_tup_tup, isi_bool_bl, isi_bool_int, isi_int_int, isi_int_bl, isi_int_non, isi_int_str, isi_str_str, isi_str_non, isi_str_int, startE_c, startE_n, startE_e, wFor_e, wLc_e, wipeE, wgName, wgTup, wgCons, wgNil, List.getElem?_cons_zero, List.getElem?_cons_succ, List.set_cons_zero, List.set_cons_succ, List.length_cons, List.length_nil, Mi.wC, Mi.wVar, Mi.wVarO, Mi.wOp, Mi.wUn, Mi.wCmp, Mi.wCmpT, Mi.wChainT, Mi.wChain, Mi.wTru, Mi.wAndT, Mi.wOrT, Mi.wNotT, Mi.wAnd, Mi.wOr, Mi.wNot, Mi.wIfE, Mi.wNoPart, Mi.wPart, Mi.wSl, Mi.wNil, Mi.wCons, Mi.wTup, Mi.wLst, Mi.wNext, Mi.wSeq, Mi.wFreeze, Mi.wForget, Mi.wBreak, Mi.wCont, Mi.wRet, Mi.wRetO, Mi.wRetN, Mi.wDrop, Mi.wIf, Mi.wNever, Mi.wAsg, Mi.wSetO, Mi.wPar, Mi.wAug, Mi.wApp, Mi.wSetIx, Mi.wExt, Mi.wItems, Mi.wRng1, Mi.wRng2, Mi.wRng3, Mi.wEnum, Mi.wZip, Mi.wYes, Mi.wCall, Mi.wCallX, Mi.wB2, Mi.wMin3, Mi.wIsi, Mi.wGuard, Mi.wGuardD, Mi.wRaise, empty_map]
    cases A.isEmpty <;> cases B.isEmpty <;> rfl
  · simp only [e_qI, e_qIC, e_add1, e_add2, e_add3, e_add4, e_catL, e_aug1, e_aug2, e_mul1, e_mul2, e_rep, e_div, e_mod, e_neg, e_ord1, e_ord2, e_isn, e_nin, e_non1, e_non2, e_non3, e_non4, e_non5, e_non6, e_tru1, e_tru2, e_tru3, e_tru4, e_tru5, e_tru6, e_tru7, e_sl1, e_sl2, e_sl3, e_sl4, e_rev, e_it1, e_it2, e_it3, e_len1, e_len2, e_len3, e_len4, e_int1, e_int2, e_int3, e_min, e_max, e_min3, e_lst1, e_lst2, e_tup1, e_tup2, e_str, e_abs, e_lenS, e_ixS, Mi.qLt, Mi.qLe, Mi.qGt, Mi.qGe, List.map_cons, List.map_nil, List.length_map, true_and, and_true, Bool.false_eq_true, if_false, if_true, Bool.not_true, Bool.not_false, qEq_int, qEq_str, qEq_bl, qNe_int, qNe_str, qNe_bl, line0, line1, line2, line3, line4, line6, line7, line10, isi_list_lst, isi_list_tup, isi_list_non, isi_list_str, isi_list_int, isi_tup_tup, isi_bool_bl, isi_bool_int, isi_int_int, isi_int_bl, isi_int_non, isi_int_str, isi_str_str, isi_str_non, isi_str_int, startE_c, startE_n, startE_e, wFor_e, wLc_e, wipeE, wgName, wgTup, wgCons, wgNil, List.getElem?_cons_zero, List.getElem?_cons_succ, List.set_cons_zero, List.set_cons_succ, List.length_cons, List.length_nil, Mi.wC, Mi.wVar, Mi.wVarO, Mi.wOp, Mi.wUn, Mi.wCmp, Mi.wCmpT, Mi.wChainT, Mi.wChain, Mi.wTru, Mi.wAndT, Mi.wOrT, Mi.wNotT, Mi.wAnd, Mi.wOr, Mi.wNot, Mi.wIfE, Mi.wNoPart, Mi.wPart, Mi.wSl, Mi.wNil, Mi.wCons, Mi.wTup, Mi.wLst, Mi.wNext, Mi.wSeq, Mi.wFreeze, Mi.wForget, Mi.wBreak, Mi.wCont, Mi.wRet, Mi.wRetO, Mi.wRetN, Mi.wDrop, Mi.wIf, Mi.wNever, Mi.wAsg, Mi.wSetO, Mi.wPar, Mi.wAug, Mi.wApp, Mi.wSetIx, Mi.wExt, Mi.wItems, Mi.wRng1, Mi.wRng2, Mi.wRng3, Mi.wEnum, Mi.wZip, Mi.wYes, Mi.wCall, Mi.wCallX, Mi.wB2, Mi.wMin3, Mi.wIsi, Mi.wGuard, Mi.wGuardD, Mi.wRaise]
    obtain ⟨e1, e2⟩ := Bool.and_eq_true_iff.mp e
    have h1 : A = [] := List.isEmpty_iff.mp e1
    have h2 : B = [] := List.isEmpty_iff.mp e2
    subst h1; subst h2
    have : T' = 0 := by simp at hTl; exact hTl
    subst this
    exact hP
  · simp only [e_qI, e_qIC, e_add1, e_add2, e_add3, e_add4, e_catL, e_aug1, e_aug2, e_mul1, e_mul2, e_rep, e_div, e_mod, e_neg, e_ord1, e_ord2, e_isn, e_nin, e_non1, e_non2, e_non3, e_non4, e_non5, e_non6, e_tru1, e_tru2, e_tru3, e_tru4, e_tru5, e_tru6, e_tru7, e_sl1, e_sl2, e_sl3, e_sl4, e_rev, e_it1, e_it2, e_it3, e_len1, e_len2, e_len3, e_len4, e_int1, e_int2, e_int3, e_min, e_max, e_min3, e_lst1, e_lst2, e_tup1, e_tup2, e_str, e_abs, e_lenS, e_ixS, Mi.qLt, Mi.qLe, Mi.qGt, Mi.qGe, List.map_cons, List.map_nil, List.length_map, true_and, and_true, Bool.false_eq_true, if_false, if_true, Bool.not_true, Bool.not_false, qEq_int, qEq_str, qEq_bl, qNe_int, qNe_str, qNe_bl, line0, line1, line2, line3, line4, line6, line7, line10, isi_list_lst, isi_list_tup, isi_list_non, isi_list_str, isi_list_int, isi_tup_tup, isi_bool_bl, isi_bool_int, isi_int_int, isi_int_bl, isi_int_non, isi_int_str, isi_str_str, isi_str_non, isi_str_int, startE_c, startE_n, startE_e, wFor_e, wLc_e, wipeE, wgName, wgTup, wgCons, wgNil, List.getElem?_cons_zero, List.getElem?_cons_succ, List.set_cons_zero, List.set_cons_succ, List.length_cons, List.length_nil, Mi.wC, Mi.wVar, Mi.wVarO, Mi.wOp, Mi.wUn, Mi.wCmp, Mi.wCmpT, Mi.wChainT, Mi.wChain, Mi.wTru, Mi.wAndT, Mi.wOrT, Mi.wNotT, Mi.wAnd, Mi.wOr, Mi.wNot, Mi.wIfE, Mi.wNoPart, Mi.wPart, Mi.wSl, Mi.wNil, Mi.wCons, Mi.wTup, Mi.wLst, Mi.wNext, Mi.wSeq, Mi.wFreeze, Mi.wForget, Mi.wBreak, Mi.wCont, Mi.wRet, Mi.wRetO, Mi.wRetN, Mi.wDrop, Mi.wIf, Mi.wNever, Mi.wAsg, Mi.wSetO, Mi.wPar, Mi.wAug, Mi.wApp, Mi.wSetIx, Mi.wExt, Mi.wItems, Mi.wRng1, Mi.wRng2, Mi.wRng3, Mi.wEnum, Mi.wZip, Mi.wYes, Mi.wCall, Mi.wCallX, Mi.wB2, Mi.wMin3, Mi.wIsi, Mi.wGuard, Mi.wGuardD, Mi.wRaise]
    refine ⟨A, B, rfl, hf, A, B, T', rfl, hf, hT, ?_⟩
    simp only [e_qI, e_qIC, e_add1, e_add2, e_add3, e_add4, e_catL, e_aug1, e_aug2, e_mul1, e_mul2, e_rep, e_div, e_mod, e_neg, e_ord1, e_ord2, e_isn, e_nin, e_non1, e_non2, e_non3, e_non4, e_non5, e_non6, e_tru1, e_tru2, e_tru3, e_tru4, e_tru5, e_tru6, e_tru7, e_sl1, e_sl2, e_sl3, e_sl4, e_rev, e_it1, e_it2, e_it3, e_len1, e_len2, e_len3, e_len4, e_int1, e_int2, e_int3, e_min, e_max, e_min3, e_lst1, e_lst2, e_tup1, e_tup2, e_str, e_abs, e_lenS, e_ixS, Mi.qLt, Mi.qLe, Mi.qGt, Mi.qGe, List.map_cons, List.map_nil, List.length_map, true_and, and_true, Bool.false_eq_true, if_false, if_true, Bool.not_true, Bool.not_false, qEq_int, qEq_str, qEq_bl, qNe_int, qNe_str, qNe_bl, line0, line1, line2, line3, line4, line6, line7, line10, isi_list_lst, isi_list_tup, isi_list_non, isi_list_str, isi_list_int, isi_tup_tup, isi_bool_bl, isi_bool_int, isi_int_int, isi_int_bl, isi_int_non, isi_int_str, isi_str_str, isi_str_non, isi_str_int, startE_c, startE_n, startE_e, wFor_e, wLc_e, wipeE, wgName, wgTup, wgCons, wgNil, List.getElem?_cons_zero, List.getElem?_cons_succ, List.set_cons_zero, List.set_cons_succ, List.length_cons, List.length_nil, Mi.wC, Mi.wVar, Mi.wVarO, Mi.wOp, Mi.wUn, Mi.wCmp, Mi.wCmpT, Mi.wChainT, Mi.wChain, Mi.wTru, Mi.wAndT, Mi.wOrT, Mi.wNotT, Mi.wAnd, Mi.wOr, Mi.wNot, Mi.wIfE, Mi.wNoPart, Mi.wPart, Mi.wSl, Mi.wNil, Mi.wCons, Mi.wTup, Mi.wLst, Mi.wNext, Mi.wSeq, Mi.wFreeze, Mi.wForget, Mi.wBreak, Mi.wCont, Mi.wRet, Mi.wRetO, Mi.wRetN, Mi.wDrop, Mi.wIf, Mi.wNever, Mi.wAsg, Mi.wSetO, Mi.wPar, Mi.wAug, Mi.wApp, Mi.wSetIx, Mi.wExt, Mi.wItems, Mi.wRng1, Mi.wRng2, Mi.wRng3, Mi.wEnum, Mi.wZip, Mi.wYes, Mi.wCall, Mi.wCallX, Mi.wB2, Mi.wMin3, Mi.wIsi, Mi.wGuard, Mi.wGuardD, Mi.wRaise]
    have ecut : cutD (wayL A B T') (some 1) none = (wayL A B T').drop 1 := cut_from _ 1
    rw [ecut]
    have hlen : (zipD (wayL A B T') ((wayL A B T').drop 1)).length = T' := by
      rw [zipD_len, List.length_drop]; simp [wayL]
    refine lc_map (fun k => (chg A B (at_ A B k)).d) (by rw [hlen]; exact leL (by omega)) ?_ ?_
    · intro k d R hk hR
      have hkT : k < T' := by
        have := (List.getElem?_eq_some_iff.mp hk).1
        rwa [hlen] at this
      have g1 : (wayL A B T')[k]? = some (.int (node B (at_ A B k))) := by
        simp [wayL, show k < T' + 1 by omega]
      have g2 : ((wayL A B T').drop 1)[k]? = some (.int (node B (at_ A B (k + 1)))) := by
        rw [List.getElem?_drop]
        rw [Nat.add_comm 1 k]
        unfold wayL
        rw [List.getElem?_map, List.getElem?_range (by omega)]
        rfl
      rw [zipD_get g1 g2] at hk
      obtain rfl := (Option.some.inj hk).symm
      simp only [e_qI, e_qIC, e_add1, e_add2, e_add3, e_add4, e_catL, e_aug1, e_aug2, e_mul1, e_mul2, e_rep, e_div, e_mod, e_neg, e_ord1, e_ord2, e_isn, e_nin, e_non1, e_non2, e_non3, e_non4, e_non5, e_non6, e_tru1, e_tru2, e_tru3, e_tru4, e_tru5, e_tru6, e_tru7, e_sl1, e_sl2, e_sl3, e_sl4, e_rev, e_it1, e_it2, e_it3, e_len1, e_len2, e_len3, e_len4, e_int1, e_int2, e_int3, e_min, e_max, e_min3, e_lst1, e_lst2, e_tup1, e_tup2, e_str, e_abs, e_lenS, e_ixS, Mi.qLt, Mi.qLe, Mi.qGt, Mi.qGe, List.map_cons, List.map_nil, List.length_map, true_and, and_true, Bool.false_eq_true, if_false, if_true, Bool.not_true, Bool.not_false, qEq_int, qEq_str, qEq_bl, qNe_int, qNe_str, qNe_bl, line0, line1, line2, line3, line4, line6, line7, line10, isi_list_lst, isi_list_tup, isi_list_non, isi_list_str, isi_list_int, isi_tup_tup, isi_bool_bl, isi_bool_int, isi_int_int, isi_int_bl, isi_int_non, isi_int_str, isi_str_str, isi_str_non, isi_str_int, startE_c, startE_n, startE_e, wFor_e, wLc_e, wipeE, wgName, wgTup, wgCons, wgNil, List.getElem?_cons_zero, List.getElem?_cons_succ, List.set_cons_zero, List.set_cons_succ, List.length_cons, List.length_nil, Mi.wC, Mi.wVar, Mi.wVarO, Mi.wOp, Mi.wUn, Mi.wCmp, Mi.wCmpT, Mi.wChainT, Mi.wChain, Mi.wTru, Mi.wAndT, Mi.wOrT, Mi.wNotT, Mi.wAnd, Mi.wOr, Mi.wNot, Mi.wIfE, Mi.wNoPart, Mi.wPart, Mi.wSl, Mi.wNil, Mi.wCons, Mi.wTup, Mi.wLst, Mi.wNext, Mi.wSeq, Mi.wFreeze, Mi.wForget, Mi.wBreak, Mi.wCont, Mi.wRet, Mi.wRetO, Mi.wRetN, Mi.wDrop, Mi.wIf, Mi.wNever, Mi.wAsg, Mi.wSetO, Mi.wPar, Mi.wAug, Mi.wApp, Mi.wSetIx, Mi.wExt, Mi.wItems, Mi.wRng1, Mi.wRng2, Mi.wRng3, Mi.wEnum, Mi.wZip, Mi.wYes, Mi.wCall, Mi.wCallX, Mi.wB2, Mi.wMin3, Mi.wIsi, Mi.wGuard, Mi.wGuardD, Mi.wRaise]
      have ha := at_le A B k
      have hm := hT.bef k hkT
      exact ⟨A, B, at_ A B k, at_ A B (k + 1), rfl, by rw [at_, if_pos hm], ha.1, ha.2, hm, hf, hR⟩
    · rw [hlen]; exact hP

end
end K86
namespace K86
open PySem L2 Evl Mi
section
variable {P : Program} {w : World} {K : PySem.W.Frag} {mg : Str → Option Value} {base : Heap} {g : G}
def Ch.isStay : Ch → Bool
  | .stay _ _ => true
  | _ => false
def cnt (A B : List Str) (T : Nat) : List D := ((List.range T).filter fun t => !(chg A B (at_ A B t)).isStay).map fun t => (chg A B (at_ A B t)).d
theorem due_get {A B : List Str} {T k : Nat} {d : D} (h : (dueL A B T)[k]? = some d) : k < T ∧ d = (chg A B (at_ A B k)).d := by
  unfold dueL at h
  have hl := (List.getElem?_eq_some_iff.mp h).1
  rw [List.length_map, List.length_range] at hl
  rw [List.getElem?_map, List.getElem?_range hl] at h
  exact ⟨hl, (Option.some.inj h).symm⟩
theorem due_len (A B : List Str) (T : Nat) : (dueL A B T).length = T := by simp [dueL]
def c_count (CTM : Addr) : CT := fun ds EX P => ∃ A B T, ds = [SS A, SS B] ∧ A.length ≤ 5000 ∧ B.length ≤ 5000 ∧ IsT A B T ∧
  (¬ Few A B → ∀ z : Exc, z.cls = CTM → z.bare = false → z.fs = [(("limit" : Str), D.int 1900)] → EX z) ∧ (Few A B → P (.int ((cnt A B T).length : Nat)))
/-- the comprehension of the changes other than stays -/
theorem lc_cnt {A B : List Str} {T : Nat} {s0 s1 : Option Cell} {P : D → Prop} (hT : T ≤ 10000) (hP : P (.lst (cnt A B T))) {wg : WG} {wt : WT} {we : WE} {δ : Mi.Env}
    (hs : ∀ (c : Ch) (R : D → Prop) (N : Prop), ((c.isStay = false) → R c.d) → (c.isStay = true → N) → wg c.d δ fun δ2 => wt δ2 (fun _ => False) fun x => if x = true then we δ2 (fun _ => False) R else N) : lcD (dueL A B T) wg wt we δ P := by
  refine lc_filter (fun k => !(chg A B (at_ A B k)).isStay) (fun k => (chg A B (at_ A B k)).d) (by rw [due_len]; exact leL (by omega)) (fun k d R N hk h1 h2 => ?_) (by rw [due_len]; exact hP)
  obtain ⟨_, rfl⟩ := due_get hk
  exact hs _ R N (fun e => h1 (by rw [e]; rfl)) fun e => h2 (by rw [e]; rfl)
abbrev s_change_count : Stmt := topS 17
abbrev N_change_count : List Str := ["first", "second", "change"]
theorem sc_change_count : FnScope N_change_count ["first", "second"] (defScope s_change_count) := ⟨rfl, rfl, rfl, by decide +kernel, rfl, by decide +kernel, by decide +kernel⟩
theorem ok_change_count {f : Addr} {fd : FuncData} (F : Fun K "change_count" "change_count" s_change_count f fd) (T : Txt mg) {CTM : Addr} (Z1 : CalX P w K mg base g true "changes" 4 (c_changes CTM)) : FnOk P w K mg base (L2.CX P w) (4 + 1) f fd ["first", "second"] (spD K g false (c_count CTM)) := by
  refine Mi.Fun.dataX F sc_change_count (fun ds EX Q ⟨_, _, _, h, _⟩ => by rw [h]; rfl) (fun cdv A outer s H E S0 H0 EX hr tk po => (ms_one (ms_ret rfl (me_len T.len rfl (mo_of (me_ofF (mf_lc (own := [("change", 2)]) rfl sc_change_count.nd (mi_any (me_ofF (mf_callX Z1 tk hr rfl (ma_cons (me_var 0) (ma_cons (me_var 1) ma_nil))))) (blkOk_by (N := N_change_count) (sc := defScope s_change_count) (by decide +kernel)) (fun _ _ _ _ _ => (mg_name 2 sc_change_count.nd)) (fun _ _ _ _ _ => (mts_one (mt_ne hr.units (mo_of (me_ix hr.units (mo_var 2) (mo_of me_int))) (mo_of me_str)))) (fun _ _ _ _ _ => (me_var 2))))))))) (fun ds EX Q h => ?_)
  obtain ⟨A, B, T', rfl, hA, hB, hT, hE, hP⟩ := h
  simp only [e_qI, e_qIC, e_add1, e_add2, e_add3, e_add4, e_catL, e_aug1, e_aug2, e_mul1, e_mul2, e_rep, e_div, e_mod, e_neg, e_ord1, e_ord2, e_isn, e_nin, e_non1, e_non2, e_non3, e_non4, e_non5, e_non6, e_tru1, e_tru2, e_tru3, e_tru4, e_tru5, e_tru6, e_tru7, e_sl1, e_sl2, e_sl3, e_sl4, e_rev, e_it1, e_it2, e_it3, e_len1, e_len2, e_len3, e_len4, e_int1, e_int2, e_int3, e_min, e_max, e_min3, e_lst1, e_lst2, e_tup1, e_tup2, e_str, e_abs, e_lenS, e_ixS, Mi.qLt, Mi.qLe, Mi.qGt, Mi.qGe, List.map_cons, List.map_nil, List.length_map, true_and, and_true, Bool.false_eq_true, if_false, if_true, Bool.not_true, Bool.not_false, qEq_int, qEq_str, qEq_bl, qNe_int, qNe_str, qNe_bl, line0, line1, line2, line3, line4, line6, line7, line10, isi_list_lst, isi_list_tup, isi_list_non, isi_list_str, isi_list_int, isi_tup_tup, isi_bool_bl, isi_bool_int, isi_int_int, isi_int_bl, isi_int_non, isi_int_str, isi_str_str, isi_str_non, isi_str_int, startE_c, startE_n, startE_e, wFor_e, wLc_e, wipeE, wgName, wgTup, wgCons, wgNil, List.getElem?_cons_zero, List.getElem?_cons_succ, List.set_cons_zero, List.set_cons_succ, List.length_cons, List.length_nil, Mi.wC, Mi.wVar, Mi.wVarO, Mi.wOp, Mi.wUn, Mi.wCmp, Mi.wCmpT, Mi.wChainT, Mi.wChain, Mi.wTru, Mi.wAndT, Mi.wOrT, Mi.wNotT, Mi.wAnd, Mi.wOr, Mi.wNot, Mi.wIfE, Mi.wNoPart, Mi.wPart, Mi.wSl, Mi.wNil, Mi.wCons, Mi.wTup, Mi.wLst, Mi.wNext, Mi.wSeq, Mi.wFreeze, Mi.wForget, Mi.wBreak, Mi.wCont, Mi.wRet, Mi.wRetO, Mi.wRetN, Mi.wDrop, Mi.wIf, Mi.wNever, Mi.wAsg, Mi.wSetO, Mi.wPar, Mi.wAug, Mi.wApp, Mi.wSetIx, Mi.wExt, Mi.wItems, Mi.wRng1, Mi.wRng2, Mi.wRng3, Mi.wEnum, Mi.wZip, Mi.wYes, Mi.wCall, Mi.wCallX, Mi.wB2, Mi.wMin3, Mi.wIsi, Mi.wGuard, Mi.wGuardD, Mi.wRaise]
  refine ⟨A, B, T', rfl, hA, hB, hT, hE, fun hf => ?_⟩
  have hP := hP hf
  have hTl := isT_le hT
  have hl := few_len hf
  simp only [e_qI, e_qIC, e_add1, e_add2, e_add3, e_add4, e_catL, e_aug1, e_aug2, e_mul1, e_mul2, e_rep, e_div, e_mod, e_neg, e_ord1, e_ord2, e_isn, e_nin, e_non1, e_non2, e_non3, e_non4, e_non5, e_non6, e_tru1, e_tru2, e_tru3, e_tru4, e_tru5, e_tru6, e_tru7, e_sl1, e_sl2, e_sl3, e_sl4, e_rev, e_it1, e_it2, e_it3, e_len1, e_len2, e_len3, e_len4, e_int1, e_int2, e_int3, e_min, e_max, e_min3, e_lst1, e_lst2, e_tup1, e_tup2, e_str, e_abs, e_lenS, e_ixS, Mi.qLt, Mi.qLe, Mi.qGt, Mi.qGe, List.map_cons, List.map_nil, List.length_map, true_and, and_true, Bool.false_eq_true, if_false, if_true, Bool.not_true, Bool.not_false, qEq_int, qEq_str, qEq_bl, qNe_int, qNe_str, qNe_bl, line0, line1, line2, line3, line4, line6, line7, line10, isi_list_lst, isi_list_tup, isi_list_non, isi_list_str, isi_list_int, isi_tup_tup, isi_bool_bl, isi_bool_int, isi_int_int, isi_int_bl, isi_int_non, isi_int_str, isi_str_str, isi_str_non, isi_str_int, startE_c, startE_n, startE_e, wFor_e, wLc_e, wipeE, wgName, wgTup, wgCons, wgNil, List.getElem?_cons_zero, List.getElem?_cons_succ, List.set_cons_zero, List.set_cons_succ, List.length_cons, List.length_nil, Mi.wC, Mi.wVar, Mi.wVarO, Mi.wOp, Mi.wUn, Mi.wCmp, Mi.wCmpT, Mi.wChainT, Mi.wChain, Mi.wTru, Mi.wAndT, Mi.wOrT, Mi.wNotT, Mi.wAnd, Mi.wOr, Mi.wNot, Mi.wIfE, Mi.wNoPart, Mi.wPart, Mi.wSl, Mi.wNil, Mi.wCons, Mi.wTup, Mi.wLst, Mi.wNext, Mi.wSeq, Mi.wFreeze, Mi.wForget, Mi.wBreak, Mi.wCont, Mi.wRet, Mi.wRetO, Mi.wRetN, Mi.wDrop, Mi.wIf, Mi.wNever, Mi.wAsg, Mi.wSetO, Mi.wPar, Mi.wAug, Mi.wApp, Mi.wSetIx, Mi.wExt, Mi.wItems, Mi.wRng1, Mi.wRng2, Mi.wRng3, Mi.wEnum, Mi.wZip, Mi.wYes, Mi.wCall, Mi.wCallX, Mi.wB2, Mi.wMin3, Mi.wIsi, Mi.wGuard, Mi.wGuardD, Mi.wRaise]
  refine lc_cnt (s0 := none) (s1 := none) (by omega) (by simp only [e_qI, e_qIC, e_add1, e_add2, e_add3, e_add4, e_catL, e_aug1, e_aug2, e_mul1, e_mul2, e_rep, e_div, e_mod, e_neg, e_ord1, e_ord2, e_isn, e_nin, e_non1, e_non2, e_non3, e_non4, e_non5, e_non6, e_tru1, e_tru2, e_tru3, e_tru4, e_tru5, e_tru6, e_tru7, e_sl1, e_sl2, e_sl3, e_sl4, e_rev, e_it1, e_it2, e_it3, e_len1, e_len2, e_len3, e_len4, e_int1, e_int2, e_int3, e_min, e_max, e_min3, e_lst1, e_lst2, e_tup1, e_tup2, e_str, e_abs, e_lenS, e_ixS, Mi.qLt, Mi.qLe, Mi.qGt, Mi.qGe, List.map_cons, List.map_nil, List.length_map, true_and, and_true, Bool.false_eq_true, if_false, if_true, Bool.not_true, Bool.not_false, qEq_int, qEq_str, qEq_bl, qNe_int, qNe_str, qNe_bl, line0, line1, line2, line3, line4, line6, line7, line10, isi_list_lst, isi_list_tup, isi_list_non, isi_list_str, isi_list_int, isi_tup_tup, isi_bool_bl, isi_bool_int, isi_int_int, isi_int_bl, isi_int_non, isi_int_str, isi_str_str, isi_str_non, isi_str_int, startE_c, startE_n, startE_e, wFor_e, wLc_e, wipeE, wgName, wgTup, wgCons, wgNil, List.getElem?_cons_zero, List.getElem?_cons_succ, List.set_cons_zero, List.set_cons_succ, List.length_cons, List.length_nil, Mi.wC, Mi.wVar, Mi.wVarO, Mi.wOp, Mi.wUn, Mi.wCmp, Mi.wCmpT, Mi.wChainT, Mi.wChain, Mi.wTru, Mi.wAndT, Mi.wOrT, Mi.wNotT, Mi.wAnd, Mi.wOr, Mi.wNot, Mi.wIfE, Mi.wNoPart, Mi.wPart, Mi.wSl, Mi.wNil, Mi.wCons, Mi.wTup, Mi.wLst, Mi.wNext, Mi.wSeq, Mi.wFreeze, Mi.wForget, Mi.wBreak, Mi.wCont, Mi.wRet, Mi.wRetO, Mi.wRetN, Mi.wDrop, Mi.wIf, Mi.wNever, Mi.wAsg, Mi.wSetO, Mi.wPar, Mi.wAug, Mi.wApp, Mi.wSetIx, Mi.wExt, Mi.wItems, Mi.wRng1, Mi.wRng2, Mi.wRng3, Mi.wEnum, Mi.wZip, Mi.wYes, Mi.wCall, Mi.wCallX, Mi.wB2, Mi.wMin3, Mi.wIsi, Mi.wGuard, Mi.wGuardD, Mi.wRaise]; exact hP) fun c R N h1 h2 => ?_
  cases c with
  | stay i j =>
    simp only [e_qI, e_qIC, e_add1, e_add2, e_add3, e_add4, e_catL, e_aug1, e_aug2, e_mul1, e_mul2, e_rep, e_div, e_mod, e_neg, e_ord1, e_ord2, e_isn, e_nin, e_non1, e_non2, e_non3, e_non4, e_non5, e_non6, e_tru1, e_tru2, e_tru3, e_tru4, e_tru5, e_tru6, e_tru7, e_sl1, e_sl2, e_sl3, e_sl4, e_rev, e_it1, e_it2, e_it3, e_len1, e_len2, e_len3, e_len4, e_int1, e_int2, e_int3, e_min, e_max, e_min3, e_lst1, e_lst2, e_tup1, e_tup2, e_str, e_abs, e_lenS, e_ixS, Mi.qLt, Mi.qLe, Mi.qGt, Mi.qGe, List.map_cons, List.map_nil, List.length_map, true_and, and_true, Bool.false_eq_true, if_false, if_true, Bool.not_true, Bool.not_false, qEq_int, qEq_str, qEq_bl, qNe_int, qNe_str, qNe_bl, line0, line1, line2, line3, line4, line6, line7, line10, isi_list_lst, isi_list_tup, isi_list_non, isi_list_str, isi_list_int, isi_tup_tup, isi_bool_bl, isi_bool_int, isi_int_int, isi_int_bl, isi_int_non, isi_int_str, isi_str_str, isi_str_non, isi_str_int, startE_c, startE_n, startE_e, wFor_e, wLc_e, wipeE, wgName, wgTup, wgCons, wgNil, List.getElem?_cons_zero, List.getElem?_cons_succ, List.set_cons_zero, List.set_cons_succ, List.length_cons, List.length_nil, Mi.wC, Mi.wVar, Mi.wVarO, Mi.wOp, Mi.wUn, Mi.wCmp, Mi.wCmpT, Mi.wChainT, Mi.wChain, Mi.wTru, Mi.wAndT, Mi.wOrT, Mi.wNotT, Mi.wAnd, Mi.wOr, Mi.wNot, Mi.wIfE, Mi.wNoPart, Mi.wPart, Mi.wSl, Mi.wNil, Mi.wCons, Mi.wTup, Mi.wLst, Mi.wNext, Mi.wSeq, Mi.wFreeze, Mi.wForget, Mi.wBreak, Mi.wCont, Mi.wRet, Mi.wRetO, Mi.wRetN, Mi.wDrop, Mi.wIf, Mi.wNever, Mi.wAsg, Mi.wSetO, Mi.wPar, Mi.wAug, Mi.wApp, Mi.wSetIx, Mi.wExt, Mi.wItems, Mi.wRng1, Mi.wRng2, Mi.wRng3, Mi.wEnum, Mi.wZip, Mi.wYes, Mi.wCall, Mi.wCallX, Mi.wB2, Mi.wMin3, Mi.wIsi, Mi.wGuard, Mi.wGuardD, Mi.wRaise, Ch.d]
    refine qIx_tup (i := 0) rfl ?_
    simp only [e_qI, e_qIC, e_add1, e_add2, e_add3, e_add4, e_catL, e_aug1, e_aug2, e_mul1, e_mul2, e_rep, e_div, e_mod, e_neg, e_ord1, e_ord2, e_isn, e_nin, e_non1, e_non2, e_non3, e_non4, e_non5, e_non6, e_tru1, e_tru2, e_tru3, e_tru4, e_tru5, e_tru6, e_tru7, e_sl1, e_sl2, e_sl3, e_sl4, e_rev, e_it1, e_it2, e_it3, e_len1, e_len2, e_len3, e_len4, e_int1, e_int2, e_int3, e_min, e_max, e_min3, e_lst1, e_lst2, e_tup1, e_tup2, e_str, e_abs, e_lenS, e_ixS, Mi.qLt, Mi.qLe, Mi.qGt, Mi.qGe, List.map_cons, List.map_nil, List.length_map, true_and, and_true, Bool.false_eq_true, if_false, if_true, Bool.not_true, Bool.not_false, qEq_int, qEq_str, qEq_bl, qNe_int, qNe_str, qNe_bl, line0, line1, line2, line3, line4, line6, line7, line10, isi_list_lst, isi_list_tup, isi_list_non, isi_list_str, isi_list_int, isi_tup_tup, isi_bool_bl, isi_bool_int, isi_int_int, isi_int_bl, isi_int_non, isi_int_str, isi_str_str, isi_str_non, isi_str_int, startE_c, startE_n, startE_e, wFor_e, wLc_e, wipeE, wgName, wgTup, wgCons, wgNil, List.getElem?_cons_zero, List.getElem?_cons_succ, List.set_cons_zero, List.set_cons_succ, List.length_cons, List.length_nil, Mi.wC, Mi.wVar, Mi.wVarO, Mi.wOp, Mi.wUn, Mi.wCmp, Mi.wCmpT, Mi.wChainT, Mi.wChain, Mi.wTru, Mi.wAndT, Mi.wOrT, Mi.wNotT, Mi.wAnd, Mi.wOr, Mi.wNot, Mi.wIfE, Mi.wNoPart, Mi.wPart, Mi.wSl, Mi.wNil, Mi.wCons, Mi.wTup, Mi.wLst, Mi.wNext, Mi.wSeq, Mi.wFreeze, Mi.wForget, Mi.wBreak, Mi.wCont, Mi.wRet, Mi.wRetO, Mi.wRetN, Mi.wDrop, Mi.wIf, Mi.wNever, Mi.wAsg, Mi.wSetO, Mi.wPar, Mi.wAug, Mi.wApp, Mi.wSetIx, Mi.wExt, Mi.wItems, Mi.wRng1, Mi.wRng2, Mi.wRng3, Mi.wEnum, Mi.wZip, Mi.wYes, Mi.wCall, Mi.wCallX, Mi.wB2, Mi.wMin3, Mi.wIsi, Mi.wGuard, Mi.wGuardD, Mi.wRaise]
    rw [if_neg (by decide +kernel)]
    exact h2 rfl
  | come j =>
    simp only [e_qI, e_qIC, e_add1, e_add2, e_add3, e_add4, e_catL, e_aug1, e_aug2, e_mul1, e_mul2, e_rep, e_div, e_mod, e_neg, e_ord1, e_ord2, e_isn, e_nin, e_non1, e_non2, e_non3, e_non4, e_non5, e_non6, e_tru1, e_tru2, e_tru3, e_tru4, e_tru5, e_tru6, e_tru7, e_sl1, e_sl2, e_sl3, e_sl4, e_rev, e_it1, e_it2, e_it3, e_len1, e_len2, e_len3, e_len4, e_int1, e_int2, e_int3, e_min, e_max, e_min3, e_lst1, e_lst2, e_tup1, e_tup2, e_str, e_abs, e_lenS, e_ixS, Mi.qLt, Mi.qLe, Mi.qGt, Mi.qGe, List.map_cons, List.map_nil, List.length_map, true_and, and_true, Bool.false_eq_true, if_false, if_true, Bool.not_true, Bool.not_false, qEq_int, qEq_str, qEq_bl, qNe_int, qNe_str, qNe_bl, line0, line1, line2, line3, line4, line6, line7, line10, isi_list_lst, isi_list_tup, isi_list_non, isi_list_str, isi_list_int, isi_tup_tup, isi_bool_bl, isi_bool_int, isi_int_int, isi_int_bl, isi_int_non, isi_int_str, isi_str_str, isi_str_non, isi_str_int, startE_c, startE_n, startE_e, wFor_e, wLc_e, wipeE, wgName, wgTup, wgCons, wgNil, List.getElem?_cons_zero, List.getElem?_cons_succ, List.set_cons_zero, List.set_cons_succ, List.length_cons, List.length_nil, Mi.wC, Mi.wVar, Mi.wVarO, Mi.wOp, Mi.wUn, Mi.wCmp, Mi.wCmpT, Mi.wChainT, Mi.wChain, Mi.wTru, Mi.wAndT, Mi.wOrT, Mi.wNotT, Mi.wAnd, Mi.wOr, Mi.wNot, Mi.wIfE, Mi.wNoPart, Mi.wPart, Mi.wSl, Mi.wNil, Mi.wCons, Mi.wTup, Mi.wLst, Mi.wNext, Mi.wSeq, Mi.wFreeze, Mi.wForget, Mi.wBreak, Mi.wCont, Mi.wRet, Mi.wRetO, Mi.wRetN, Mi.wDrop, Mi.wIf, Mi.wNever, Mi.wAsg, Mi.wSetO, Mi.wPar, Mi.wAug, Mi.wApp, Mi.wSetIx, Mi.wExt, Mi.wItems, Mi.wRng1, Mi.wRng2, Mi.wRng3, Mi.wEnum, Mi.wZip, Mi.wYes, Mi.wCall, Mi.wCallX, Mi.wB2, Mi.wMin3, Mi.wIsi, Mi.wGuard, Mi.wGuardD, Mi.wRaise, Ch.d]
    refine qIx_tup (i := 0) rfl ?_
    simp only [e_qI, e_qIC, e_add1, e_add2, e_add3, e_add4, e_catL, e_aug1, e_aug2, e_mul1, e_mul2, e_rep, e_div, e_mod, e_neg, e_ord1, e_ord2, e_isn, e_nin, e_non1, e_non2, e_non3, e_non4, e_non5, e_non6, e_tru1, e_tru2, e_tru3, e_tru4, e_tru5, e_tru6, e_tru7, e_sl1, e_sl2, e_sl3, e_sl4, e_rev, e_it1, e_it2, e_it3, e_len1, e_len2, e_len3, e_len4, e_int1, e_int2, e_int3, e_min, e_max, e_min3, e_lst1, e_lst2, e_tup1, e_tup2, e_str, e_abs, e_lenS, e_ixS, Mi.qLt, Mi.qLe, Mi.qGt, Mi.qGe, List.map_cons, List.map_nil, List.length_map, true_and, and_true, Bool.false_eq_true, if_false, if_true, Bool.not_true, Bool.not_false, qEq_int, qEq_str, qEq_bl, qNe_int, qNe_str, qNe_bl, line0, line1, line2, line3, line4, line6, line7, line10, isi_list_lst, isi_list_tup, isi_list_non, isi_list_str, isi_list_int, isi_tup_tup, isi_bool_bl, isi_bool_int, isi_int_int, isi_int_bl, isi_int_non, isi_int_str, isi_str_str, isi_str_non, isi_str_int, startE_c, startE_n, startE_e, wFor_e, wLc_e, wipeE, wgName, wgTup, wgCons, wgNil, List.getElem?_cons_zero, List.getElem?_cons_succ, List.set_cons_zero, List.set_cons_succ, List.length_cons, List.length_nil, Mi.wC, Mi.wVar, Mi.wVarO, Mi.wOp, Mi.wUn, Mi.wCmp, Mi.wCmpT, Mi.wChainT, Mi.wChain, Mi.wTru, Mi.wAndT, Mi.wOrT, Mi.wNotT, Mi.wAnd, Mi.wOr, Mi.wNot, Mi.wIfE, Mi.wNoPart, Mi.wPart, Mi.wSl, Mi.wNil, Mi.wCons, Mi.wTup, Mi.wLst, Mi.wNext, Mi.wSeq, Mi.wFreeze, Mi.wForget, Mi.wBreak, Mi.wCont, Mi.wRet, Mi.wRetO, Mi.wRetN, Mi.wDrop, Mi.wIf, Mi.wNever, Mi.wAsg, Mi.wSetO, Mi.wPar, Mi.wAug, Mi.wApp, Mi.wSetIx, Mi.wExt, Mi.wItems, Mi.wRng1, Mi.wRng2, Mi.wRng3, Mi.wEnum, Mi.wZip, Mi.wYes, Mi.wCall, Mi.wCallX, Mi.wB2, Mi.wMin3, Mi.wIsi, Mi.wGuard, Mi.wGuardD, Mi.wRaise]
    rw [if_pos (by decide +kernel)]
    exact h1 rfl
  | go j =>
    simp only [e_qI, e_qIC, e_add1, e_add2, e_add3, e_add4, e_catL, e_aug1, e_aug2, e_mul1, e_mul2, e_rep, e_div, e_mod, e_neg, e_ord1, e_ord2, e_isn, e_nin, e_non1, e_non2, e_non3, e_non4, e_non5, e_non6, e_tru1, e_tru2, e_tru3, e_tru4, e_tru5, e_tru6, e_tru7, e_sl1, e_sl2, e_sl3, e_sl4, e_rev, e_it1, e_it2, e_it3, e_len1, e_len2, e_len3, e_len4, e_int1, e_int2, e_int3, e_min, e_max, e_min3, e_lst1, e_lst2, e_tup1, e_tup2, e_str, e_abs, e_lenS, e_ixS, Mi.qLt, Mi.qLe, Mi.qGt, Mi.qGe, List.map_cons, List.map_nil, List.length_map, true_and, and_true, Bool.false_eq_true, if_false, if_true, Bool.not_true, Bool.not_false, qEq_int, qEq_str, qEq_bl, qNe_int, qNe_str, qNe_bl, line0, line1, line2, line3, line4, line6, line7, line10, isi_list_lst, isi_list_tup, isi_list_non, isi_list_str, isi_list_int, isi_tup_tup, isi_bool_bl, isi_bool_int, isi_int_int, isi_int_bl, isi_int_non, isi_int_str, isi_str_str, isi_str_non, isi_str_int, startE_c, startE_n, startE_e, wFor_e, wLc_e, wipeE, wgName, wgTup, wgCons, wgNil, List.getElem?_cons_zero, List.getElem?_cons_succ, List.set_cons_zero, List.set_cons_succ, List.length_cons, List.length_nil, Mi.wC, Mi.wVar, Mi.wVarO, Mi.wOp, Mi.wUn, Mi.wCmp, Mi.wCmpT, Mi.wChainT, Mi.wChain, Mi.wTru, Mi.wAndT, Mi.wOrT, Mi.wNotT, Mi.wAnd, Mi.wOr, Mi.wNot, Mi.wIfE, Mi.wNoPart, Mi.wPart, Mi.wSl, Mi.wNil, Mi.wCons, Mi.wTup, Mi.wLst, Mi.wNext, Mi.wSeq, Mi.wFreeze, Mi.wForget, Mi.wBreak, Mi.wCont, Mi.wRet, Mi.wRetO, Mi.wRetN, Mi.wDrop, Mi.wIf, Mi.wNever, Mi.wAsg, Mi.wSetO, Mi.wPar, Mi.wAug, Mi.wApp, Mi.wSetIx, Mi.wExt, Mi.wItems, Mi.wRng1, Mi.wRng2, Mi.wRng3, Mi.wEnum, Mi.wZip, Mi.wYes, Mi.wCall, Mi.wCallX, Mi.wB2, Mi.wMin3, Mi.wIsi, Mi.wGuard, Mi.wGuardD, Mi.wRaise, Ch.d]
    refine qIx_tup (i := 0) rfl ?_
    simp only [e_qI, e_qIC, e_add1, e_add2, e_add3, e_add4, e_catL, e_aug1, e_aug2, e_mul1, e_mul2, e_rep, e_div, e_mod, e_neg, e_ord1, e_ord2, e_isn, e_nin, e_non1, e_non2, e_non3, e_non4, e_non5, e_non6, e_tru1, e_tru2, e_tru3, e_tru4, e_tru5, e_tru6, e_tru7, e_sl1, e_sl2, e_sl3, e_sl4, e_rev, e_it1, e_it2, e_it3, e_len1, e_len2, e_len3, e_len4, e_int1, e_int2, e_int3, e_min, e_max, e_min3, e_lst1, e_lst2, e_tup1, e_tup2, e_str, e_abs, e_lenS, e_ixS, Mi.qLt, Mi.qLe, Mi.qGt, Mi.qGe, List.map_cons, List.map_nil, List.length_map, true_and, and_true, Bool.false_eq_true, if_false, if_true, Bool.not_true, Bool.not_false, qEq_int, qEq_str, qEq_bl, qNe_int, qNe_str, qNe_bl, line0, line1, line2, line3, line4, line6, line7, line10, isi_list_lst, isi_list_tup, isi_list_non, isi_list_str, isi_list_int, isi_tup_tup, isi_bool_bl, isi_bool_int, isi_int_int, isi_int_bl, isi_int_non, isi_int_str, isi_str_str, isi_str_non, isi_str_int, startE_c, startE_n, startE_e, wFor_e, wLc_e, wipeE, wgName, wgTup, wgCons, wgNil, List.getElem?_cons_zero, List.getElem?_cons_succ, List.set_cons_zero, List.set_cons_succ, List.length_cons, List.length_nil, Mi.wC, Mi.wVar, Mi.wVarO, Mi.wOp, Mi.wUn, Mi.wCmp, Mi.wCmpT, Mi.wChainT, Mi.wChain, Mi.wTru, Mi.wAndT, Mi.wOrT, Mi.wNotT, Mi.wAnd, Mi.wOr, Mi.wNot, Mi.wIfE, Mi.wNoPart, Mi.wPart, Mi.wSl, Mi.wNil, Mi.wCons, Mi.wTup, Mi.wLst, Mi.wNext, Mi.wSeq, Mi.wFreeze, Mi.wForget, Mi.wBreak, Mi.wCont, Mi.wRet, Mi.wRetO, Mi.wRetN, Mi.wDrop, Mi.wIf, Mi.wNever, Mi.wAsg, Mi.wSetO, Mi.wPar, Mi.wAug, Mi.wApp, Mi.wSetIx, Mi.wExt, Mi.wItems, Mi.wRng1, Mi.wRng2, Mi.wRng3, Mi.wEnum, Mi.wZip, Mi.wYes, Mi.wCall, Mi.wCallX, Mi.wB2, Mi.wMin3, Mi.wIsi, Mi.wGuard, Mi.wGuardD, Mi.wRaise]
    rw [if_pos (by decide +kernel)]
    exact h1 rfl

theorem ss_snoc (l : List Str) (x : Str) : SS (l ++ (some x).toList) = .lst (l.map D.str ++ [.str x]) := by simp
def c_done : CT := fun ds EX P => ∃ A B T, ds = [SS A, SS B, .lst (dueL A B T)] ∧ A.length ≤ 5000 ∧ B.length ≤ 5000 ∧ IsT A B T ∧ P (SS B)
abbrev s_done : Stmt := topS 18
abbrev N_done : List Str := ["first", "second", "listed", "found", "change"]
theorem sc_done : FnScope N_done ["first", "second", "listed"] (defScope s_done) := ⟨rfl, rfl, rfl, by decide +kernel, rfl, by decide +kernel, by decide +kernel⟩
theorem ok_done {f : Addr} {fd : FuncData} (F : Fun K "done" "done" s_done f fd) (T : Txt mg)  : FnOk P w K mg base CX0 (0 + 1) f fd ["first", "second", "listed"] (spD K g false c_done) := by
  refine Mi.Fun.data F sc_done (fun ds EX Q ⟨_, _, _, h, _⟩ => by rw [h]; rfl) (fun cdv A outer s H E S0 H0 hr => (ms_cons (ms_setO 3 sc_done.nd (mf_lst ma_nil))
  (ms_cut (ms_for (vs := [4]) PassesOwn.never rfl (mi_any (me_var 2)) (mg_name 4 sc_done.nd)
  (ms_one (ms_if (mt_eq hr.units (mo_of (me_ix hr.units (mo_var 4) (mo_of me_int))) (mo_of me_str))
  (ms_one (ms_app 3 (me_ix hr.units (mo_var 0) (mo_of (me_ix hr.units (mo_var 4) (mo_of me_int))))))
  (ms_one (ms_if (mt_eq hr.units (mo_of (me_ix hr.units (mo_var 4) (mo_of me_int))) (mo_of me_str))
  (ms_one (ms_app 3 (me_ix hr.units (mo_var 1) (mo_of (me_ix hr.units (mo_var 4) (mo_of me_int))))))
  ms_nil)))))
  (ms_freeze 3 (ms_one (ms_ret rfl (me_var 3))))))) (fun ds Q h => ?_) (fun ds EX Q h => h)
  obtain ⟨A, B, T', rfl, hA, hB, hT, h⟩ := h
  simp only [e_qI, e_qIC, e_add1, e_add2, e_add3, e_add4, e_catL, e_aug1, e_aug2, e_mul1, e_mul2, e_rep, e_div, e_mod, e_neg, e_ord1, e_ord2, e_isn, e_nin, e_non1, e_non2, e_non3, e_non4, e_non5, e_non6, e_tru1, e_tru2, e_tru3, e_tru4, e_tru5, e_tru6, e_tru7, e_sl1, e_sl2, e_sl3, e_sl4, e_rev, e_it1, e_it2, e_it3, e_len1, e_len2, e_len3, e_len4, e_int1, e_int2, e_int3, e_min, e_max, e_min3, e_lst1, e_lst2, e_tup1, e_tup2, e_str, e_abs, e_lenS, e_ixS, Mi.qLt, Mi.qLe, Mi.qGt, Mi.qGe, List.map_cons, List.map_nil, List.length_map, true_and, and_true, Bool.false_eq_true, if_false, if_true, Bool.not_true, Bool.not_false, qEq_int, qEq_str, qEq_bl, qNe_int, qNe_str, qNe_bl, line0, line1, line2, line3, line4, line6, line7, line10, isi_list_lst, isi_list_tup, isi_list_non, isi_list_str, isi_list_int, isi_tup_tup, isi_bool_bl, isi_bool_int, isi_int_int, isi_int_bl, isi_int_non, isi_int_str, isi_str_str, isi_str_non, isi_str_int, startE_c, startE_n, startE_e, wFor_e, wLc_e, wipeE, wgName, wgTup, wgCons, wgNil, List.getElem?_cons_zero, List.getElem?_cons_succ, List.set_cons_zero, List.set_cons_succ, List.length_cons, List.length_nil, Mi.wC, Mi.wVar, Mi.wVarO, Mi.wOp, Mi.wUn, Mi.wCmp, Mi.wCmpT, Mi.wChainT, Mi.wChain, Mi.wTru, Mi.wAndT, Mi.wOrT, Mi.wNotT, Mi.wAnd, Mi.wOr, Mi.wNot, Mi.wIfE, Mi.wNoPart, Mi.wPart, Mi.wSl, Mi.wNil, Mi.wCons, Mi.wTup, Mi.wLst, Mi.wNext, Mi.wSeq, Mi.wFreeze, Mi.wForget, Mi.wBreak, Mi.wCont, Mi.wRet, Mi.wRetO, Mi.wRetN, Mi.wDrop, Mi.wIf, Mi.wNever, Mi.wAsg, Mi.wSetO, Mi.wPar, Mi.wAug, Mi.wApp, Mi.wSetIx, Mi.wExt, Mi.wItems, Mi.wRng1, Mi.wRng2, Mi.wRng3, Mi.wEnum, Mi.wZip, Mi.wYes, Mi.wCall, Mi.wCallX, Mi.wB2, Mi.wMin3, Mi.wIsi, Mi.wGuard, Mi.wGuardD, Mi.wRaise]
  refine cut_i (fun δ' => ∃ c4, δ' = [st (SS A), st (SS B), st (.lst (dueL A B T')), ow (SS B), c4]) ?_ ?_
  · simp only [e_qI, e_qIC, e_add1, e_add2, e_add3, e_add4, e_catL, e_aug1, e_aug2, e_mul1, e_mul2, e_rep, e_div, e_mod, e_neg, e_ord1, e_ord2, e_isn, e_nin, e_non1, e_non2, e_non3, e_non4, e_non5, e_non6, e_tru1, e_tru2, e_tru3, e_tru4, e_tru5, e_tru6, e_tru7, e_sl1, e_sl2, e_sl3, e_sl4, e_rev, e_it1, e_it2, e_it3, e_len1, e_len2, e_len3, e_len4, e_int1, e_int2, e_int3, e_min, e_max, e_min3, e_lst1, e_lst2, e_tup1, e_tup2, e_str, e_abs, e_lenS, e_ixS, Mi.qLt, Mi.qLe, Mi.qGt, Mi.qGe, List.map_cons, List.map_nil, List.length_map, true_and, and_true, Bool.false_eq_true, if_false, if_true, Bool.not_true, Bool.not_false, qEq_int, qEq_str, qEq_bl, qNe_int, qNe_str, qNe_bl, line0, line1, line2, line3, line4, line6, line7, line10, isi_list_lst, isi_list_tup, isi_list_non, isi_list_str, isi_list_int, isi_tup_tup, isi_bool_bl, isi_bool_int, isi_int_int, isi_int_bl, isi_int_non, isi_int_str, isi_str_str, isi_str_non, isi_str_int, startE_c, startE_n, startE_e, wFor_e, wLc_e, wipeE, wgName, wgTup, wgCons, wgNil, List.getElem?_cons_zero, List.getElem?_cons_succ, List.set_cons_zero, List.set_cons_succ, List.length_cons, List.length_nil, Mi.wC, Mi.wVar, Mi.wVarO, Mi.wOp, Mi.wUn, Mi.wCmp, Mi.wCmpT, Mi.wChainT, Mi.wChain, Mi.wTru, Mi.wAndT, Mi.wOrT, Mi.wNotT, Mi.wAnd, Mi.wOr, Mi.wNot, Mi.wIfE, Mi.wNoPart, Mi.wPart, Mi.wSl, Mi.wNil, Mi.wCons, Mi.wTup, Mi.wLst, Mi.wNext, Mi.wSeq, Mi.wFreeze, Mi.wForget, Mi.wBreak, Mi.wCont, Mi.wRet, Mi.wRetO, Mi.wRetN, Mi.wDrop, Mi.wIf, Mi.wNever, Mi.wAsg, Mi.wSetO, Mi.wPar, Mi.wAug, Mi.wApp, Mi.wSetIx, Mi.wExt, Mi.wItems, Mi.wRng1, Mi.wRng2, Mi.wRng3, Mi.wEnum, Mi.wZip, Mi.wYes, Mi.wCall, Mi.wCallX, Mi.wB2, Mi.wMin3, Mi.wIsi, Mi.wGuard, Mi.wGuardD, Mi.wRaise]
    refine for_i (fun k δ' => ∃ c4, δ' = [st (SS A), st (SS B), st (.lst (dueL A B T')), ow (SS (B.take (at_ A B k).2)), c4]) ⟨_, rfl⟩ ?_ ?_
    · rintro k d δ' hk ⟨c4, rfl⟩
      obtain ⟨hkT, rfl⟩ := due_get hk
      have hm := hT.bef k hkT
      obtain ⟨h1, h2⟩ := at_le A B k
      have e1 : at_ A B (k + 1) = nxt A B (at_ A B k) := by rw [at_, if_pos hm]
      rw [e1]
      have hlen : (B.take (at_ A B k).2).length < Line := ltL (by rw [List.length_take]; omega)
      unfold chg nxt
      by_cases hc : come A B (at_ A B k) = true
      · have hcd := of_decide_eq_true hc
        rw [if_pos hc, if_pos hc]
        simp only [e_qI, e_qIC, e_add1, e_add2, e_add3, e_add4, e_catL, e_aug1, e_aug2, e_mul1, e_mul2, e_rep, e_div, e_mod, e_neg, e_ord1, e_ord2, e_isn, e_nin, e_non1, e_non2, e_non3, e_non4, e_non5, e_non6, e_tru1, e_tru2, e_tru3, e_tru4, e_tru5, e_tru6, e_tru7, e_sl1, e_sl2, e_sl3, e_sl4, e_rev, e_it1, e_it2, e_it3, e_len1, e_len2, e_len3, e_len4, e_int1, e_int2, e_int3, e_min, e_max, e_min3, e_lst1, e_lst2, e_tup1, e_tup2, e_str, e_abs, e_lenS, e_ixS, Mi.qLt, Mi.qLe, Mi.qGt, Mi.qGe, List.map_cons, List.map_nil, List.length_map, true_and, and_true, Bool.false_eq_true, if_false, if_true, Bool.not_true, Bool.not_false, qEq_int, qEq_str, qEq_bl, qNe_int, qNe_str, qNe_bl, line0, line1, line2, line3, line4, line6, line7, line10, isi_list_lst, isi_list_tup, isi_list_non, isi_list_str, isi_list_int, isi_tup_tup, isi_bool_bl, isi_bool_int, isi_int_int, isi_int_bl, isi_int_non, isi_int_str, isi_str_str, isi_str_non, isi_str_int, startE_c, startE_n, startE_e, wFor_e, wLc_e, wipeE, wgName, wgTup, wgCons, wgNil, List.getElem?_cons_zero, List.getElem?_cons_succ, List.set_cons_zero, List.set_cons_succ, List.length_cons, List.length_nil, Mi.wC, Mi.wVar, Mi.wVarO, Mi.wOp, Mi.wUn, Mi.wCmp, Mi.wCmpT, Mi.wChainT, Mi.wChain, Mi.wTru, Mi.wAndT, Mi.wOrT, Mi.wNotT, Mi.wAnd, Mi.wOr, Mi.wNot, Mi.wIfE, Mi.wNoPart, Mi.wPart, Mi.wSl, Mi.wNil, Mi.wCons, Mi.wTup, Mi.wLst, Mi.wNext, Mi.wSeq, Mi.wFreeze, Mi.wForget, Mi.wBreak, Mi.wCont, Mi.wRet, Mi.wRetO, Mi.wRetN, Mi.wDrop, Mi.wIf, Mi.wNever, Mi.wAsg, Mi.wSetO, Mi.wPar, Mi.wAug, Mi.wApp, Mi.wSetIx, Mi.wExt, Mi.wItems, Mi.wRng1, Mi.wRng2, Mi.wRng3, Mi.wEnum, Mi.wZip, Mi.wYes, Mi.wCall, Mi.wCallX, Mi.wB2, Mi.wMin3, Mi.wIsi, Mi.wGuard, Mi.wGuardD, Mi.wRaise, Ch.d]
        refine qIx_tup (i := 0) rfl ?_
        simp only [e_qI, e_qIC, e_add1, e_add2, e_add3, e_add4, e_catL, e_aug1, e_aug2, e_mul1, e_mul2, e_rep, e_div, e_mod, e_neg, e_ord1, e_ord2, e_isn, e_nin, e_non1, e_non2, e_non3, e_non4, e_non5, e_non6, e_tru1, e_tru2, e_tru3, e_tru4, e_tru5, e_tru6, e_tru7, e_sl1, e_sl2, e_sl3, e_sl4, e_rev, e_it1, e_it2, e_it3, e_len1, e_len2, e_len3, e_len4, e_int1, e_int2, e_int3, e_min, e_max, e_min3, e_lst1, e_lst2, e_tup1, e_tup2, e_str, e_abs, e_lenS, e_ixS, Mi.qLt, Mi.qLe, Mi.qGt, Mi.qGe, List.map_cons, List.map_nil, List.length_map, true_and, and_true, Bool.false_eq_true, if_false, if_true, Bool.not_true, Bool.not_false, qEq_int, qEq_str, qEq_bl, qNe_int, qNe_str, qNe_bl, line0, line1, line2, line3, line4, line6, line7, line10, isi_list_lst, isi_list_tup, isi_list_non, isi_list_str, isi_list_int, isi_tup_tup, isi_bool_bl, isi_bool_int, isi_int_int, isi_int_bl, isi_int_non, isi_int_str, isi_str_str, isi_str_non, isi_str_int, startE_c, startE_n, startE_e, wFor_e, wLc_e, wipeE, wgName, wgTup, wgCons, wgNil, List.getElem?_cons_zero, List.getElem?_cons_succ, List.set_cons_zero, List.set_cons_succ, List.length_cons, List.length_nil, Mi.wC, Mi.wVar, Mi.wVarO, Mi.wOp, Mi.wUn, Mi.wCmp, Mi.wCmpT, Mi.wChainT, Mi.wChain, Mi.wTru, Mi.wAndT, Mi.wOrT, Mi.wNotT, Mi.wAnd, Mi.wOr, Mi.wNot, Mi.wIfE, Mi.wNoPart, Mi.wPart, Mi.wSl, Mi.wNil, Mi.wCons, Mi.wTup, Mi.wLst, Mi.wNext, Mi.wSeq, Mi.wFreeze, Mi.wForget, Mi.wBreak, Mi.wCont, Mi.wRet, Mi.wRetO, Mi.wRetN, Mi.wDrop, Mi.wIf, Mi.wNever, Mi.wAsg, Mi.wSetO, Mi.wPar, Mi.wAug, Mi.wApp, Mi.wSetIx, Mi.wExt, Mi.wItems, Mi.wRng1, Mi.wRng2, Mi.wRng3, Mi.wEnum, Mi.wZip, Mi.wYes, Mi.wCall, Mi.wCallX, Mi.wB2, Mi.wMin3, Mi.wIsi, Mi.wGuard, Mi.wGuardD, Mi.wRaise]
        rw [if_neg (by decide +kernel)]
        refine qIx_tup (i := 0) rfl ?_
        simp only [e_qI, e_qIC, e_add1, e_add2, e_add3, e_add4, e_catL, e_aug1, e_aug2, e_mul1, e_mul2, e_rep, e_div, e_mod, e_neg, e_ord1, e_ord2, e_isn, e_nin, e_non1, e_non2, e_non3, e_non4, e_non5, e_non6, e_tru1, e_tru2, e_tru3, e_tru4, e_tru5, e_tru6, e_tru7, e_sl1, e_sl2, e_sl3, e_sl4, e_rev, e_it1, e_it2, e_it3, e_len1, e_len2, e_len3, e_len4, e_int1, e_int2, e_int3, e_min, e_max, e_min3, e_lst1, e_lst2, e_tup1, e_tup2, e_str, e_abs, e_lenS, e_ixS, Mi.qLt, Mi.qLe, Mi.qGt, Mi.qGe, List.map_cons, List.map_nil, List.length_map, true_and, and_true, Bool.false_eq_true, if_false, if_true, Bool.not_true, Bool.not_false, qEq_int, qEq_str, qEq_bl, qNe_int, qNe_str, qNe_bl, line0, line1, line2, line3, line4, line6, line7, line10, isi_list_lst, isi_list_tup, isi_list_non, isi_list_str, isi_list_int, isi_tup_tup, isi_bool_bl, isi_bool_int, isi_int_int, isi_int_bl, isi_int_non, isi_int_str, isi_str_str, isi_str_non, isi_str_int, startE_c, startE_n, startE_e, wFor_e, wLc_e, wipeE, wgName, wgTup, wgCons, wgNil, List.getElem?_cons_zero, List.getElem?_cons_succ, List.set_cons_zero, List.set_cons_succ, List.length_cons, List.length_nil, Mi.wC, Mi.wVar, Mi.wVarO, Mi.wOp, Mi.wUn, Mi.wCmp, Mi.wCmpT, Mi.wChainT, Mi.wChain, Mi.wTru, Mi.wAndT, Mi.wOrT, Mi.wNotT, Mi.wAnd, Mi.wOr, Mi.wNot, Mi.wIfE, Mi.wNoPart, Mi.wPart, Mi.wSl, Mi.wNil, Mi.wCons, Mi.wTup, Mi.wLst, Mi.wNext, Mi.wSeq, Mi.wFreeze, Mi.wForget, Mi.wBreak, Mi.wCont, Mi.wRet, Mi.wRetO, Mi.wRetN, Mi.wDrop, Mi.wIf, Mi.wNever, Mi.wAsg, Mi.wSetO, Mi.wPar, Mi.wAug, Mi.wApp, Mi.wSetIx, Mi.wExt, Mi.wItems, Mi.wRng1, Mi.wRng2, Mi.wRng3, Mi.wEnum, Mi.wZip, Mi.wYes, Mi.wCall, Mi.wCallX, Mi.wB2, Mi.wMin3, Mi.wIsi, Mi.wGuard, Mi.wGuardD, Mi.wRaise]
        rw [if_pos (by decide +kernel)]
        refine qIx_tup (i := 1) rfl ?_
        refine qIx_lst (str_get hcd.1) ?_
        refine ⟨hlen, ?_⟩
        rw [List.take_succ, List.getElem?_eq_getElem hcd.1, ss_snoc]
        exact ⟨_, rfl⟩
      · by_cases hg : goes A B (at_ A B k) = true
        · rw [if_neg hc, if_neg hc, if_pos hg, if_pos hg]
          simp only [e_qI, e_qIC, e_add1, e_add2, e_add3, e_add4, e_catL, e_aug1, e_aug2, e_mul1, e_mul2, e_rep, e_div, e_mod, e_neg, e_ord1, e_ord2, e_isn, e_nin, e_non1, e_non2, e_non3, e_non4, e_non5, e_non6, e_tru1, e_tru2, e_tru3, e_tru4, e_tru5, e_tru6, e_tru7, e_sl1, e_sl2, e_sl3, e_sl4, e_rev, e_it1, e_it2, e_it3, e_len1, e_len2, e_len3, e_len4, e_int1, e_int2, e_int3, e_min, e_max, e_min3, e_lst1, e_lst2, e_tup1, e_tup2, e_str, e_abs, e_lenS, e_ixS, Mi.qLt, Mi.qLe, Mi.qGt, Mi.qGe, List.map_cons, List.map_nil, List.length_map, true_and, and_true, Bool.false_eq_true, if_false, if_true, Bool.not_true, Bool.not_false, qEq_int, qEq_str, qEq_bl, qNe_int, qNe_str, qNe_bl, line0, line1, line2, line3, line4, line6, line7, line10, isi_list_lst, isi_list_tup, isi_list_non, isi_list_str, isi_list_int, isi_tup_tup, isi_bool_bl, isi_bool_int, isi_int_int, isi_int_bl, isi_int_non, isi_int_str, isi_str_str, isi_str_non, isi_str_int, startE_c, startE_n, startE_e, wFor_e, wLc_e, wipeE, wgName, wgTup, wgCons, wgNil, List.getElem?_cons_zero, List.getElem?_cons_succ, List.set_cons_zero, List.set_cons_succ, List.length_cons, List.length_nil, Mi.wC, Mi.wVar, Mi.wVarO, Mi.wOp, Mi.wUn, Mi.wCmp, Mi.wCmpT, Mi.wChainT, Mi.wChain, Mi.wTru, Mi.wAndT, Mi.wOrT, Mi.wNotT, Mi.wAnd, Mi.wOr, Mi.wNot, Mi.wIfE, Mi.wNoPart, Mi.wPart, Mi.wSl, Mi.wNil, Mi.wCons, Mi.wTup, Mi.wLst, Mi.wNext, Mi.wSeq, Mi.wFreeze, Mi.wForget, Mi.wBreak, Mi.wCont, Mi.wRet, Mi.wRetO, Mi.wRetN, Mi.wDrop, Mi.wIf, Mi.wNever, Mi.wAsg, Mi.wSetO, Mi.wPar, Mi.wAug, Mi.wApp, Mi.wSetIx, Mi.wExt, Mi.wItems, Mi.wRng1, Mi.wRng2, Mi.wRng3, Mi.wEnum, Mi.wZip, Mi.wYes, Mi.wCall, Mi.wCallX, Mi.wB2, Mi.wMin3, Mi.wIsi, Mi.wGuard, Mi.wGuardD, Mi.wRaise, Ch.d]
          refine qIx_tup (i := 0) rfl ?_
          simp only [e_qI, e_qIC, e_add1, e_add2, e_add3, e_add4, e_catL, e_aug1, e_aug2, e_mul1, e_mul2, e_rep, e_div, e_mod, e_neg, e_ord1, e_ord2, e_isn, e_nin, e_non1, e_non2, e_non3, e_non4, e_non5, e_non6, e_tru1, e_tru2, e_tru3, e_tru4, e_tru5, e_tru6, e_tru7, e_sl1, e_sl2, e_sl3, e_sl4, e_rev, e_it1, e_it2, e_it3, e_len1, e_len2, e_len3, e_len4, e_int1, e_int2, e_int3, e_min, e_max, e_min3, e_lst1, e_lst2, e_tup1, e_tup2, e_str, e_abs, e_lenS, e_ixS, Mi.qLt, Mi.qLe, Mi.qGt, Mi.qGe, List.map_cons, List.map_nil, List.length_map, true_and, and_true, Bool.false_eq_true, if_false, if_true, Bool.not_true, Bool.not_false, qEq_int, qEq_str, qEq_bl, qNe_int, qNe_str, qNe_bl, line0, line1, line2, line3, line4, line6, line7, line10, isi_list_lst, isi_list_tup, isi_list_non, isi_list_str, isi_list_int, isi_tup_tup, isi_bool_bl, isi_bool_int, isi_int_int, isi_int_bl, isi_int_non, isi_int_str, isi_str_str, isi_str_non, isi_str_int, startE_c, startE_n, startE_e, wFor_e, wLc_e, wipeE, wgName, wgTup, wgCons, wgNil, List.getElem?_cons_zero, List.getElem?_cons_succ, List.set_cons_zero, List.set_cons_succ, List.length_cons, List.length_nil, Mi.wC, Mi.wVar, Mi.wVarO, Mi.wOp, Mi.wUn, Mi.wCmp, Mi.wCmpT, Mi.wChainT, Mi.wChain, Mi.wTru, Mi.wAndT, Mi.wOrT, Mi.wNotT, Mi.wAnd, Mi.wOr, Mi.wNot, Mi.wIfE, Mi.wNoPart, Mi.wPart, Mi.wSl, Mi.wNil, Mi.wCons, Mi.wTup, Mi.wLst, Mi.wNext, Mi.wSeq, Mi.wFreeze, Mi.wForget, Mi.wBreak, Mi.wCont, Mi.wRet, Mi.wRetO, Mi.wRetN, Mi.wDrop, Mi.wIf, Mi.wNever, Mi.wAsg, Mi.wSetO, Mi.wPar, Mi.wAug, Mi.wApp, Mi.wSetIx, Mi.wExt, Mi.wItems, Mi.wRng1, Mi.wRng2, Mi.wRng3, Mi.wEnum, Mi.wZip, Mi.wYes, Mi.wCall, Mi.wCallX, Mi.wB2, Mi.wMin3, Mi.wIsi, Mi.wGuard, Mi.wGuardD, Mi.wRaise]
          rw [if_neg (by decide +kernel)]
          refine qIx_tup (i := 0) rfl ?_
          simp only [e_qI, e_qIC, e_add1, e_add2, e_add3, e_add4, e_catL, e_aug1, e_aug2, e_mul1, e_mul2, e_rep, e_div, e_mod, e_neg, e_ord1, e_ord2, e_isn, e_nin, e_non1, e_non2, e_non3, e_non4, e_non5, e_non6, e_tru1, e_tru2, e_tru3, e_tru4, e_tru5, e_tru6, e_tru7, e_sl1, e_sl2, e_sl3, e_sl4, e_rev, e_it1, e_it2, e_it3, e_len1, e_len2, e_len3, e_len4, e_int1, e_int2, e_int3, e_min, e_max, e_min3, e_lst1, e_lst2, e_tup1, e_tup2, e_str, e_abs, e_lenS, e_ixS, Mi.qLt, Mi.qLe, Mi.qGt, Mi.qGe, List.map_cons, List.map_nil, List.length_map, true_and, and_true, Bool.false_eq_true, if_false, if_true, Bool.not_true, Bool.not_false, qEq_int, qEq_str, qEq_bl, qNe_int, qNe_str, qNe_bl, line0, line1, line2, line3, line4, line6, line7, line10, isi_list_lst, isi_list_tup, isi_list_non, isi_list_str, isi_list_int, isi_tup_tup, isi_bool_bl, isi_bool_int, isi_int_int, isi_int_bl, isi_int_non, isi_int_str, isi_str_str, isi_str_non, isi_str_int, startE_c, startE_n, startE_e, wFor_e, wLc_e, wipeE, wgName, wgTup, wgCons, wgNil, List.getElem?_cons_zero, List.getElem?_cons_succ, List.set_cons_zero, List.set_cons_succ, List.length_cons, List.length_nil, Mi.wC, Mi.wVar, Mi.wVarO, Mi.wOp, Mi.wUn, Mi.wCmp, Mi.wCmpT, Mi.wChainT, Mi.wChain, Mi.wTru, Mi.wAndT, Mi.wOrT, Mi.wNotT, Mi.wAnd, Mi.wOr, Mi.wNot, Mi.wIfE, Mi.wNoPart, Mi.wPart, Mi.wSl, Mi.wNil, Mi.wCons, Mi.wTup, Mi.wLst, Mi.wNext, Mi.wSeq, Mi.wFreeze, Mi.wForget, Mi.wBreak, Mi.wCont, Mi.wRet, Mi.wRetO, Mi.wRetN, Mi.wDrop, Mi.wIf, Mi.wNever, Mi.wAsg, Mi.wSetO, Mi.wPar, Mi.wAug, Mi.wApp, Mi.wSetIx, Mi.wExt, Mi.wItems, Mi.wRng1, Mi.wRng2, Mi.wRng3, Mi.wEnum, Mi.wZip, Mi.wYes, Mi.wCall, Mi.wCallX, Mi.wB2, Mi.wMin3, Mi.wIsi, Mi.wGuard, Mi.wGuardD, Mi.wRaise]
          rw [if_neg (by decide +kernel)]
          exact ⟨_, rfl⟩
        · obtain ⟨a, b, e, _⟩ := stay_ok h1 h2 hm (by simpa using hc) (by simpa using hg)
          rw [if_neg hc, if_neg hc, if_neg hg, if_neg hg]
          simp only [e_qI, e_qIC, e_add1, e_add2, e_add3, e_add4, e_catL, e_aug1, e_aug2, e_mul1, e_mul2, e_rep, e_div, e_mod, e_neg, e_ord1, e_ord2, e_isn, e_nin, e_non1, e_non2, e_non3, e_non4, e_non5, e_non6, e_tru1, e_tru2, e_tru3, e_tru4, e_tru5, e_tru6, e_tru7, e_sl1, e_sl2, e_sl3, e_sl4, e_rev, e_it1, e_it2, e_it3, e_len1, e_len2, e_len3, e_len4, e_int1, e_int2, e_int3, e_min, e_max, e_min3, e_lst1, e_lst2, e_tup1, e_tup2, e_str, e_abs, e_lenS, e_ixS, Mi.qLt, Mi.qLe, Mi.qGt, Mi.qGe, List.map_cons, List.map_nil, List.length_map, true_and, and_true, Bool.false_eq_true, if_false, if_true, Bool.not_true, Bool.not_false, qEq_int, qEq_str, qEq_bl, qNe_int, qNe_str, qNe_bl, line0, line1, line2, line3, line4, line6, line7, line10, isi_list_lst, isi_list_tup, isi_list_non, isi_list_str, isi_list_int, isi_tup_tup, isi_bool_bl, isi_bool_int, isi_int_int, isi_int_bl, isi_int_non, isi_int_str, isi_str_str, isi_str_non, isi_str_int, startE_c, startE_n, startE_e, wFor_e, wLc_e, wipeE, wgName, wgTup, wgCons, wgNil, List.getElem?_cons_zero, List.getElem?_cons_succ, List.set_cons_zero, List.set_cons_succ, List.length_cons, List.length_nil, Mi.wC, Mi.wVar, Mi.wVarO, Mi.wOp, Mi.wUn, Mi.wCmp, Mi.wCmpT, Mi.wChainT, Mi.wChain, Mi.wTru, Mi.wAndT, Mi.wOrT, Mi.wNotT, Mi.wAnd, Mi.wOr, Mi.wNot, Mi.wIfE, Mi.wNoPart, Mi.wPart, Mi.wSl, Mi.wNil, Mi.wCons, Mi.wTup, Mi.wLst, Mi.wNext, Mi.wSeq, Mi.wFreeze, Mi.wForget, Mi.wBreak, Mi.wCont, Mi.wRet, Mi.wRetO, Mi.wRetN, Mi.wDrop, Mi.wIf, Mi.wNever, Mi.wAsg, Mi.wSetO, Mi.wPar, Mi.wAug, Mi.wApp, Mi.wSetIx, Mi.wExt, Mi.wItems, Mi.wRng1, Mi.wRng2, Mi.wRng3, Mi.wEnum, Mi.wZip, Mi.wYes, Mi.wCall, Mi.wCallX, Mi.wB2, Mi.wMin3, Mi.wIsi, Mi.wGuard, Mi.wGuardD, Mi.wRaise, Ch.d]
          refine qIx_tup (i := 0) rfl ?_
          simp only [e_qI, e_qIC, e_add1, e_add2, e_add3, e_add4, e_catL, e_aug1, e_aug2, e_mul1, e_mul2, e_rep, e_div, e_mod, e_neg, e_ord1, e_ord2, e_isn, e_nin, e_non1, e_non2, e_non3, e_non4, e_non5, e_non6, e_tru1, e_tru2, e_tru3, e_tru4, e_tru5, e_tru6, e_tru7, e_sl1, e_sl2, e_sl3, e_sl4, e_rev, e_it1, e_it2, e_it3, e_len1, e_len2, e_len3, e_len4, e_int1, e_int2, e_int3, e_min, e_max, e_min3, e_lst1, e_lst2, e_tup1, e_tup2, e_str, e_abs, e_lenS, e_ixS, Mi.qLt, Mi.qLe, Mi.qGt, Mi.qGe, List.map_cons, List.map_nil, List.length_map, true_and, and_true, Bool.false_eq_true, if_false, if_true, Bool.not_true, Bool.not_false, qEq_int, qEq_str, qEq_bl, qNe_int, qNe_str, qNe_bl, line0, line1, line2, line3, line4, line6, line7, line10, isi_list_lst, isi_list_tup, isi_list_non, isi_list_str, isi_list_int, isi_tup_tup, isi_bool_bl, isi_bool_int, isi_int_int, isi_int_bl, isi_int_non, isi_int_str, isi_str_str, isi_str_non, isi_str_int, startE_c, startE_n, startE_e, wFor_e, wLc_e, wipeE, wgName, wgTup, wgCons, wgNil, List.getElem?_cons_zero, List.getElem?_cons_succ, List.set_cons_zero, List.set_cons_succ, List.length_cons, List.length_nil, Mi.wC, Mi.wVar, Mi.wVarO, Mi.wOp, Mi.wUn, Mi.wCmp, Mi.wCmpT, Mi.wChainT, Mi.wChain, Mi.wTru, Mi.wAndT, Mi.wOrT, Mi.wNotT, Mi.wAnd, Mi.wOr, Mi.wNot, Mi.wIfE, Mi.wNoPart, Mi.wPart, Mi.wSl, Mi.wNil, Mi.wCons, Mi.wTup, Mi.wLst, Mi.wNext, Mi.wSeq, Mi.wFreeze, Mi.wForget, Mi.wBreak, Mi.wCont, Mi.wRet, Mi.wRetO, Mi.wRetN, Mi.wDrop, Mi.wIf, Mi.wNever, Mi.wAsg, Mi.wSetO, Mi.wPar, Mi.wAug, Mi.wApp, Mi.wSetIx, Mi.wExt, Mi.wItems, Mi.wRng1, Mi.wRng2, Mi.wRng3, Mi.wEnum, Mi.wZip, Mi.wYes, Mi.wCall, Mi.wCallX, Mi.wB2, Mi.wMin3, Mi.wIsi, Mi.wGuard, Mi.wGuardD, Mi.wRaise]
          rw [if_pos (by decide +kernel)]
          refine qIx_tup (i := 1) rfl ?_
          refine qIx_lst (str_get a) ?_
          refine ⟨hlen, ?_⟩
          rw [List.take_succ, List.getElem?_eq_getElem b, ss_snoc, e]
          exact ⟨_, rfl⟩
    · rintro δ' ⟨c4, rfl⟩
      rw [due_len, isT_end hT]
      refine ⟨c4, ?_⟩
      rw [List.take_of_length_le (Nat.le_refl _)]
  · rintro δ' ⟨c4, rfl⟩
    simp only [e_qI, e_qIC, e_add1, e_add2, e_add3, e_add4, e_catL, e_aug1, e_aug2, e_mul1, e_mul2, e_rep, e_div, e_mod, e_neg, e_ord1, e_ord2, e_isn, e_nin, e_non1, e_non2, e_non3, e_non4, e_non5, e_non6, e_tru1, e_tru2, e_tru3, e_tru4, e_tru5, e_tru6, e_tru7, e_sl1, e_sl2, e_sl3, e_sl4, e_rev, e_it1, e_it2, e_it3, e_len1, e_len2, e_len3, e_len4, e_int1, e_int2, e_int3, e_min, e_max, e_min3, e_lst1, e_lst2, e_tup1, e_tup2, e_str, e_abs, e_lenS, e_ixS, Mi.qLt, Mi.qLe, Mi.qGt, Mi.qGe, List.map_cons, List.map_nil, List.length_map, true_and, and_true, Bool.false_eq_true, if_false, if_true, Bool.not_true, Bool.not_false, qEq_int, qEq_str, qEq_bl, qNe_int, qNe_str, qNe_bl, line0, line1, line2, line3, line4, line6, line7, line10, isi_list_lst, isi_list_tup, isi_list_non, isi_list_str, isi_list_int, isi_tup_tup, isi_bool_bl, isi_bool_int, isi_int_int, isi_int_bl, isi_int_non, isi_int_str, isi_str_str, isi_str_non, isi_str_int, startE_c, startE_n, startE_e, wFor_e, wLc_e, wipeE, wgName, wgTup, wgCons, wgNil, List.getElem?_cons_zero, List.getElem?_cons_succ, List.set_cons_zero, List.set_cons_succ, List.length_cons, List.length_nil, Mi.wC, Mi.wVar, Mi.wVarO, Mi.wOp, Mi.wUn, Mi.wCmp, Mi.wCmpT, Mi.wChainT, Mi.wChain, Mi.wTru, Mi.wAndT, Mi.wOrT, Mi.wNotT, Mi.wAnd, Mi.wOr, Mi.wNot, Mi.wIfE, Mi.wNoPart, Mi.wPart, Mi.wSl, Mi.wNil, Mi.wCons, Mi.wTup, Mi.wLst, Mi.wNext, Mi.wSeq, Mi.wFreeze, Mi.wForget, Mi.wBreak, Mi.wCont, Mi.wRet, Mi.wRetO, Mi.wRetN, Mi.wDrop, Mi.wIf, Mi.wNever, Mi.wAsg, Mi.wSetO, Mi.wPar, Mi.wAug, Mi.wApp, Mi.wSetIx, Mi.wExt, Mi.wItems, Mi.wRng1, Mi.wRng2, Mi.wRng3, Mi.wEnum, Mi.wZip, Mi.wYes, Mi.wCall, Mi.wCallX, Mi.wB2, Mi.wMin3, Mi.wIsi, Mi.wGuard, Mi.wGuardD, Mi.wRaise]
    exact h

def areL (A B : List Str) : List D → Nat → Nat → Bool
  | [], i, j => decide (i = A.length) && decide (j = B.length)
  | x :: xs, i, j => if eqD x (.tup [.str "stay", .int i, .int j]) && (decide (i < A.length) && (decide (j < B.length) && decide (A[i]? = B[j]?))) then areL A B xs (i + 1) (j + 1)
    else if eqD x (.tup [.str "come", .int j]) && decide (j < B.length) then areL A B xs i (j + 1)
    else if eqD x (.tup [.str "go", .int i]) && decide (i < A.length) then areL A B xs (i + 1) j else false
def areD (A B : List Str) : D → Bool
  | .lst xs => areL A B xs 0 0
  | _ => false
def vgood (v : D) : Prop := (∃ xs, v = .lst xs ∧ ∀ x ∈ xs, okD x) ∨ (∃ xs, v = .tup xs) ∨ v = .non ∨ (∃ s, v = .str s) ∨ ∃ i, v = .int i
def c_are : CT := fun ds EX P => ∃ A B v, ds = [SS A, SS B, v] ∧ vgood v ∧ P (.bl (areD A B v))
theorem ok_stay (i j : Nat) : okD (.tup [.str "stay", .int i, .int j]) := (sh_tup (n := 0) (xs := [.str "stay", .int i, .int j]) (fun x hx => by
  simp only [List.mem_cons, List.not_mem_nil, or_false] at hx
  rcases hx with rfl | rfl | rfl
  · exact sh_str (by decide +kernel)
  · exact sh_int
  · exact sh_int)).ok
theorem ok_come (j : Nat) : okD (.tup [.str "come", .int j]) := (sh_tup (n := 0) (xs := [.str "come", .int j]) (fun x hx => by
  simp only [List.mem_cons, List.not_mem_nil, or_false] at hx
  rcases hx with rfl | rfl
  · exact sh_str (by decide +kernel)
  · exact sh_int)).ok
theorem ok_go (j : Nat) : okD (.tup [.str "go", .int j]) := (sh_tup (n := 0) (xs := [.str "go", .int j]) (fun x hx => by
  simp only [List.mem_cons, List.not_mem_nil, or_false] at hx
  rcases hx with rfl | rfl
  · exact sh_str (by decide +kernel)
  · exact sh_int)).ok
abbrev s_are_changes : Stmt := topS 19
abbrev N_are_changes : List Str := ["first", "second", "value", "change", "i", "j"]
theorem sc_are_changes : FnScope N_are_changes ["first", "second", "value"] (defScope s_are_changes) := ⟨rfl, rfl, rfl, by decide +kernel, rfl, by decide +kernel, by decide +kernel⟩
theorem ok_are_changes {f : Addr} {fd : FuncData} (F : Fun K "are_changes" "are_changes" s_are_changes f fd) (T : Txt mg)  : FnOk P w K mg base CX0 (0 + 1) f fd ["first", "second", "value"] (spD K g false c_are) := by
  refine Mi.Fun.data F sc_are_changes (fun ds EX Q ⟨_, _, _, h, _⟩ => by rw [h]; rfl) (fun cdv A outer s H E S0 H0 hr => (ms_cons (ms_if (mt_not (mt_tru (mo_of (me_isi (T := "list") T.isinstance rfl rfl T.list boot_list'' (mo_var 2)))))
  (ms_one (ms_ret rfl me_bl))
  ms_nil)
  (ms_cons (ms_asg (vs := [4, 5]) (me_tup (ma_cons me_int (ma_cons me_int ma_nil))) (mg_tup 2 rfl (mgs_cons (mg_name 4 sc_are_changes.nd) (mgs_cons (mg_name 5 sc_are_changes.nd) mgs_nil)) rfl rfl (fun _ _ _ h => wgCons_len (fun _ _ _ h => wgCons_len (fun _ _ _ h => wgNil_len h) wgName_ex h) wgName_ex h)))
  (ms_cut (ms_for (vs := [3]) PassesOwn.never rfl (mi_any (me_var 2)) (mg_name 3 sc_are_changes.nd)
  (ms_one (ms_ifD (mt_w (mw_and (mt_eq hr.units (mo_var 3) (mo_of (me_tup (ma_cons me_str (ma_cons (me_var 4) (ma_cons (me_var 5) ma_nil)))))) (mw_and (mt_lt (mo_var 4) (mo_of (me_len T.len rfl (mo_var 0)))) (mw_and (mt_lt (mo_var 5) (mo_of (me_len T.len rfl (mo_var 1)))) (mw_and1 (mt_eq hr.units (mo_of (me_ix hr.units (mo_var 0) (mo_var 4))) (mo_of (me_ix hr.units (mo_var 1) (mo_var 5)))))))))
  (ms_one (ms_par 4 5 rfl sc_are_changes.nd (me_add (mo_var 4) (mo_of me_int)) (me_add (mo_var 5) (mo_of me_int))))
  (ms_one (ms_ifD (mt_w (mw_and (mt_eq hr.units (mo_var 3) (mo_of (me_tup (ma_cons me_str (ma_cons (me_var 5) ma_nil))))) (mw_and1 (mt_lt (mo_var 5) (mo_of (me_len T.len rfl (mo_var 1)))))))
  (ms_one (ms_augAdd 5 sc_are_changes.nd (mo_of me_int)))
  (ms_one (ms_ifD (mt_w (mw_and (mt_eq hr.units (mo_var 3) (mo_of (me_tup (ma_cons me_str (ma_cons (me_var 4) ma_nil))))) (mw_and1 (mt_lt (mo_var 4) (mo_of (me_len T.len rfl (mo_var 0)))))))
  (ms_one (ms_augAdd 4 sc_are_changes.nd (mo_of me_int)))
  (ms_one (ms_ret rfl me_bl)))))))))
  (ms_one (ms_ret rfl (me_and (me_eq hr.units (mo_var 4) (mo_of (me_len T.len rfl (mo_var 0)))) (me_bone (me_eq hr.units (mo_var 5) (mo_of (me_len T.len rfl (mo_var 1)))))))))))) (fun ds Q h => ?_) (fun ds EX Q h => h)
  obtain ⟨A, B, v, rfl, hv, h⟩ := h
  simp only [e_qI, e_qIC, e_add1, e_add2, e_add3, e_add4, e_catL, e_aug1, e_aug2, e_mul1, e_mul2, e_rep, e_div, e_mod, e_neg, e_ord1, e_ord2, e_isn, e_nin, e_non1, e_non2, e_non3, e_non4, e_non5, e_non6, e_tru1, e_tru2, e_tru3, e_tru4, e_tru5, e_tru6, e_tru7, e_sl1, e_sl2, e_sl3, e_sl4, e_rev, e_it1, e_it2, e_it3, e_len1, e_len2, e_len3, e_len4, e_int1, e_int2, e_int3, e_min, e_max, e_min3, e_lst1, e_lst2, e_tup1, e_tup2, e_str, e_abs, e_lenS, e_ixS, Mi.qLt, Mi.qLe, Mi.qGt, Mi.qGe, List.map_cons, List.map_nil, List.length_map, true_and, and_true, Bool.false_eq_true, if_false, if_true, Bool.not_true, Bool.not_false, qEq_int, qEq_str, qEq_bl, qNe_int, qNe_str, qNe_bl, line0, line1, line2, line3, line4, line6, line7, line10, isi_list_lst, isi_list_tup, isi_list_non, isi_list_str, isi_list_int, isi_tup_tup, isi_bool_bl, isi_bool_int, isi_int_int, isi_int_bl, isi_int_non, isi_int_str, isi_str_str, isi_str_non, isi_str_int, startE_c, startE_n, startE_e, wFor_e, wLc_e, wipeE, wgName, wgTup, wgCons, wgNil, List.getElem?_cons_zero, List.getElem?_cons_succ, List.set_cons_zero, List.set_cons_succ, List.length_cons, List.length_nil, Mi.wC, Mi.wVar, Mi.wVarO, Mi.wOp, Mi.wUn, Mi.wCmp, Mi.wCmpT, Mi.wChainT, Mi.wChain, Mi.wTru, Mi.wAndT, Mi.wOrT, Mi.wNotT, Mi.wAnd, Mi.wOr, Mi.wNot, Mi.wIfE, Mi.wNoPart, Mi.wPart, Mi.wSl, Mi.wNil, Mi.wCons, Mi.wTup, Mi.wLst, Mi.wNext, Mi.wSeq, Mi.wFreeze, Mi.wForget, Mi.wBreak, Mi.wCont, Mi.wRet, Mi.wRetO, Mi.wRetN, Mi.wDrop, Mi.wIf, Mi.wNever, Mi.wAsg, Mi.wSetO, Mi.wPar, Mi.wAug, Mi.wApp, Mi.wSetIx, Mi.wExt, Mi.wItems, Mi.wRng1, Mi.wRng2, Mi.wRng3, Mi.wEnum, Mi.wZip, Mi.wYes, Mi.wCall, Mi.wCallX, Mi.wB2, Mi.wMin3, Mi.wIsi, Mi.wGuard, Mi.wGuardD, Mi.wRaise]
  rcases hv with ⟨xs, rfl, hx⟩ | ⟨xs, rfl⟩ | rfl | ⟨s, rfl⟩ | ⟨i, rfl⟩
  · simp only [e_qI, e_qIC, e_add1, e_add2, e_add3, e_add4, e_catL, e_aug1, e_aug2, e_mul1, e_mul2, e_rep, e_div, e_mod, e_neg, e_ord1, e_ord2, e_isn, e_nin, e_non1, e_non2, e_non3, e_non4, e_non5, e_non6, e_tru1, e_tru2, e_tru3, e_tru4, e_tru5, e_tru6, e_tru7, e_sl1, e_sl2, e_sl3, e_sl4, e_rev, e_it1, e_it2, e_it3, e_len1, e_len2, e_len3, e_len4, e_int1, e_int2, e_int3, e_min, e_max, e_min3, e_lst1, e_lst2, e_tup1, e_tup2, e_str, e_abs, e_lenS, e_ixS, Mi.qLt, Mi.qLe, Mi.qGt, Mi.qGe, List.map_cons, List.map_nil, List.length_map, true_and, and_true, Bool.false_eq_true, if_false, if_true, Bool.not_true, Bool.not_false, qEq_int, qEq_str, qEq_bl, qNe_int, qNe_str, qNe_bl, line0, line1, line2, line3, line4, line6, line7, line10, isi_list_lst, isi_list_tup, isi_list_non, isi_list_str, isi_list_int, isi_tup_tup, isi_bool_bl, isi_bool_int, isi_int_int, isi_int_bl, isi_int_non, isi_int_str, isi_str_str, isi_str_non, isi_str_int, startE_c, startE_n, startE_e, wFor_e, wLc_e, wipeE, wgName, wgTup, wgCons, wgNil, List.getElem?_cons_zero, List.getElem?_cons_succ, List.set_cons_zero, List.set_cons_succ, List.length_cons, List.length_nil, Mi.wC, Mi.wVar, Mi.wVarO, Mi.wOp, Mi.wUn, Mi.wCmp, Mi.wCmpT, Mi.wChainT, Mi.wChain, Mi.wTru, Mi.wAndT, Mi.wOrT, Mi.wNotT, Mi.wAnd, Mi.wOr, Mi.wNot, Mi.wIfE, Mi.wNoPart, Mi.wPart, Mi.wSl, Mi.wNil, Mi.wCons, Mi.wTup, Mi.wLst, Mi.wNext, Mi.wSeq, Mi.wFreeze, Mi.wForget, Mi.wBreak, Mi.wCont, Mi.wRet, Mi.wRetO, Mi.wRetN, Mi.wDrop, Mi.wIf, Mi.wNever, Mi.wAsg, Mi.wSetO, Mi.wPar, Mi.wAug, Mi.wApp, Mi.wSetIx, Mi.wExt, Mi.wItems, Mi.wRng1, Mi.wRng2, Mi.wRng3, Mi.wEnum, Mi.wZip, Mi.wYes, Mi.wCall, Mi.wCallX, Mi.wB2, Mi.wMin3, Mi.wIsi, Mi.wGuard, Mi.wGuardD, Mi.wRaise]
    refine cut_i (fun δ' => ∃ c3 i j, δ' = [st (SS A), st (SS B), st (.lst xs), c3, st (.int (i : Nat)), st (.int (j : Nat))] ∧ areL A B xs 0 0 = (decide (i = A.length) && decide (j = B.length))) ?_ ?_
    · simp only [e_qI, e_qIC, e_add1, e_add2, e_add3, e_add4, e_catL, e_aug1, e_aug2, e_mul1, e_mul2, e_rep, e_div, e_mod, e_neg, e_ord1, e_ord2, e_isn, e_nin, e_non1, e_non2, e_non3, e_non4, e_non5, e_non6, e_tru1, e_tru2, e_tru3, e_tru4, e_tru5, e_tru6, e_tru7, e_sl1, e_sl2, e_sl3, e_sl4, e_rev, e_it1, e_it2, e_it3, e_len1, e_len2, e_len3, e_len4, e_int1, e_int2, e_int3, e_min, e_max, e_min3, e_lst1, e_lst2, e_tup1, e_tup2, e_str, e_abs, e_lenS, e_ixS, Mi.qLt, Mi.qLe, Mi.qGt, Mi.qGe, List.map_cons, List.map_nil, List.length_map, true_and, and_true, Bool.false_eq_true, if_false, if_true, Bool.not_true, Bool.not_false, qEq_int, qEq_str, qEq_bl, qNe_int, qNe_str, qNe_bl, line0, line1, line2, line3, line4, line6, line7, line10, isi_list_lst, isi_list_tup, isi_list_non, isi_list_str, isi_list_int, isi_tup_tup, isi_bool_bl, isi_bool_int, isi_int_int, isi_int_bl, isi_int_non, isi_int_str, isi_str_str, isi_str_non, isi_str_int, startE_c, startE_n, startE_e, wFor_e, wLc_e, wipeE, wgName, wgTup, wgCons, wgNil, List.getElem?_cons_zero, List.getElem?_cons_succ, List.set_cons_zero, List.set_cons_succ, List.length_cons, List.length_nil, Mi.wC, Mi.wVar, Mi.wVarO, Mi.wOp, Mi.wUn, Mi.wCmp, Mi.wCmpT, Mi.wChainT, Mi.wChain, Mi.wTru, Mi.wAndT, Mi.wOrT, Mi.wNotT, Mi.wAnd, Mi.wOr, Mi.wNot, Mi.wIfE, Mi.wNoPart, Mi.wPart, Mi.wSl, Mi.wNil, Mi.wCons, Mi.wTup, Mi.wLst, Mi.wNext, Mi.wSeq, Mi.wFreeze, Mi.wForget, Mi.wBreak, Mi.wCont, Mi.wRet, Mi.wRetO, Mi.wRetN, Mi.wDrop, Mi.wIf, Mi.wNever, Mi.wAsg, Mi.wSetO, Mi.wPar, Mi.wAug, Mi.wApp, Mi.wSetIx, Mi.wExt, Mi.wItems, Mi.wRng1, Mi.wRng2, Mi.wRng3, Mi.wEnum, Mi.wZip, Mi.wYes, Mi.wCall, Mi.wCallX, Mi.wB2, Mi.wMin3, Mi.wIsi, Mi.wGuard, Mi.wGuardD, Mi.wRaise]
      refine for_i (fun k δ' => ∃ c3 i j, δ' = [st (SS A), st (SS B), st (.lst xs), c3, st (.int (i : Nat)), st (.int (j : Nat))] ∧ areL A B xs 0 0 = areL A B (xs.drop k) i j) ⟨_, 0, 0, rfl, rfl⟩ ?_ ?_
      · rintro k d δ' hk ⟨c3, i, j, rfl, he⟩
        have hd : okD d := hx d (List.mem_of_getElem? hk)
        have hdr : xs.drop k = d :: xs.drop (k + 1) := by
          obtain ⟨hl, rfl⟩ := List.getElem?_eq_some_iff.mp hk
          exact List.drop_eq_getElem_cons hl
        rw [hdr, areL] at he
        simp only [e_qI, e_qIC, e_add1, e_add2, e_add3, e_add4, e_catL, e_aug1, e_aug2, e_mul1, e_mul2, e_rep, e_div, e_mod, e_neg, e_ord1, e_ord2, e_isn, e_nin, e_non1, e_non2, e_non3, e_non4, e_non5, e_non6, e_tru1, e_tru2, e_tru3, e_tru4, e_tru5, e_tru6, e_tru7, e_sl1, e_sl2, e_sl3, e_sl4, e_rev, e_it1, e_it2, e_it3, e_len1, e_len2, e_len3, e_len4, e_int1, e_int2, e_int3, e_min, e_max, e_min3, e_lst1, e_lst2, e_tup1, e_tup2, e_str, e_abs, e_lenS, e_ixS, Mi.qLt, Mi.qLe, Mi.qGt, Mi.qGe, List.map_cons, List.map_nil, List.length_map, true_and, and_true, Bool.false_eq_true, if_false, if_true, Bool.not_true, Bool.not_false, qEq_int, qEq_str, qEq_bl, qNe_int, qNe_str, qNe_bl, line0, line1, line2, line3, line4, line6, line7, line10, isi_list_lst, isi_list_tup, isi_list_non, isi_list_str, isi_list_int, isi_tup_tup, isi_bool_bl, isi_bool_int, isi_int_int, isi_int_bl, isi_int_non, isi_int_str, isi_str_str, isi_str_non, isi_str_int, startE_c, startE_n, startE_e, wFor_e, wLc_e, wipeE, wgName, wgTup, wgCons, wgNil, List.getElem?_cons_zero, List.getElem?_cons_succ, List.set_cons_zero, List.set_cons_succ, List.length_cons, List.length_nil, Mi.wC, Mi.wVar, Mi.wVarO, Mi.wOp, Mi.wUn, Mi.wCmp, Mi.wCmpT, Mi.wChainT, Mi.wChain, Mi.wTru, Mi.wAndT, Mi.wOrT, Mi.wNotT, Mi.wAnd, Mi.wOr, Mi.wNot, Mi.wIfE, Mi.wNoPart, Mi.wPart, Mi.wSl, Mi.wNil, Mi.wCons, Mi.wTup, Mi.wLst, Mi.wNext, Mi.wSeq, Mi.wFreeze, Mi.wForget, Mi.wBreak, Mi.wCont, Mi.wRet, Mi.wRetO, Mi.wRetN, Mi.wDrop, Mi.wIf, Mi.wNever, Mi.wAsg, Mi.wSetO, Mi.wPar, Mi.wAug, Mi.wApp, Mi.wSetIx, Mi.wExt, Mi.wItems, Mi.wRng1, Mi.wRng2, Mi.wRng3, Mi.wEnum, Mi.wZip, Mi.wYes, Mi.wCall, Mi.wCallX, Mi.wB2, Mi.wMin3, Mi.wIsi, Mi.wGuard, Mi.wGuardD, Mi.wRaise]
        refine ifD_i (eqD d (.tup [.str "stay", .int i, .int j]) && (decide (i < A.length) && (decide (j < B.length) && decide (A[i]? = B[j]?)))) ?_ (fun e => ?_) fun e => ?_
        · simp only [e_qI, e_qIC, e_add1, e_add2, e_add3, e_add4, e_catL, e_aug1, e_aug2, e_mul1, e_mul2, e_rep, e_div, e_mod, e_neg, e_ord1, e_ord2, e_isn, e_nin, e_non1, e_non2, e_non3, e_non4, e_non5, e_non6, e_tru1, e_tru2, e_tru3, e_tru4, e_tru5, e_tru6, e_tru7, e_sl1, e_sl2, e_sl3, e_sl4, e_rev, e_it1, e_it2, e_it3, e_len1, e_len2, e_len3, e_len4, e_int1, e_int2, e_int3, e_min, e_max, e_min3, e_lst1, e_lst2, e_tup1, e_tup2, e_str, e_abs, e_lenS, e_ixS, Mi.qLt, Mi.qLe, Mi.qGt, Mi.qGe, List.map_cons, List.map_nil, List.length_map, true_and, and_true, Bool.false_eq_true, if_false, if_true, Bool.not_true, Bool.not_false, qEq_int, qEq_str, qEq_bl, qNe_int, qNe_str, qNe_bl, line0, line1, line2, line3, line4, line6, line7, line10, isi_list_lst, isi_list_tup, isi_list_non, isi_list_str, isi_list_int, isi_tup_tup, isi_bool_bl, isi_bool_int, isi_int_int, isi_int_bl, isi_int_non, isi_int_str, isi_str_str, isi_str_non, isi_str_int, startE_c, startE_n, startE_e, wFor_e, wLc_e, wipeE, wgName, wgTup, wgCons, wgNil, List.getElem?_cons_zero, List.getElem?_cons_succ, List.set_cons_zero, List.set_cons_succ, List.length_cons, List.length_nil, Mi.wC, Mi.wVar, Mi.wVarO, Mi.wOp, Mi.wUn, Mi.wCmp, Mi.wCmpT, Mi.wChainT, Mi.wChain, Mi.wTru, Mi.wAndT, Mi.wOrT, Mi.wNotT, Mi.wAnd, Mi.wOr, Mi.wNot, Mi.wIfE, Mi.wNoPart, Mi.wPart, Mi.wSl, Mi.wNil, Mi.wCons, Mi.wTup, Mi.wLst, Mi.wNext, Mi.wSeq, Mi.wFreeze, Mi.wForget, Mi.wBreak, Mi.wCont, Mi.wRet, Mi.wRetO, Mi.wRetN, Mi.wDrop, Mi.wIf, Mi.wNever, Mi.wAsg, Mi.wSetO, Mi.wPar, Mi.wAug, Mi.wApp, Mi.wSetIx, Mi.wExt, Mi.wItems, Mi.wRng1, Mi.wRng2, Mi.wRng3, Mi.wEnum, Mi.wZip, Mi.wYes, Mi.wCall, Mi.wCallX, Mi.wB2, Mi.wMin3, Mi.wIsi, Mi.wGuard, Mi.wGuardD, Mi.wRaise]
          refine qEq_tup hd (ok_stay i j) ?_
          refine ite_i (fun e1 => ite_i (fun e2 => ite_i (fun e3 => ?_) fun e3 => ?_) fun e2 => ?_) fun e1 => ?_
          · have h2 : i < A.length := by have := of_decide_eq_true e2; omega
            have h3 : j < B.length := by have := of_decide_eq_true e3; omega
            refine qIx_lst (str_get h2) (qIx_lst (str_get h3) ?_)
            rw [qEq_str]
            simp [e1, h2, h3]
          · have h3 : ¬ j < B.length := by have := of_decide_eq_false e3; omega
            simp [h3]
          · have h2 : ¬ i < A.length := by have := of_decide_eq_false e2; omega
            simp [h2]
          · simp [e1]
        · simp only [e_qI, e_qIC, e_add1, e_add2, e_add3, e_add4, e_catL, e_aug1, e_aug2, e_mul1, e_mul2, e_rep, e_div, e_mod, e_neg, e_ord1, e_ord2, e_isn, e_nin, e_non1, e_non2, e_non3, e_non4, e_non5, e_non6, e_tru1, e_tru2, e_tru3, e_tru4, e_tru5, e_tru6, e_tru7, e_sl1, e_sl2, e_sl3, e_sl4, e_rev, e_it1, e_it2, e_it3, e_len1, e_len2, e_len3, e_len4, e_int1, e_int2, e_int3, e_min, e_max, e_min3, e_lst1, e_lst2, e_tup1, e_tup2, e_str, e_abs, e_lenS, e_ixS, Mi.qLt, Mi.qLe, Mi.qGt, Mi.qGe, List.map_cons, List.map_nil, List.length_map, true_and, and_true, Bool.false_eq_true, if_false, if_true, Bool.not_true, Bool.not_false, qEq_int, qEq_str, qEq_bl, qNe_int, qNe_str, qNe_bl, line0, line1, line2, line3, line4, line6, line7, line10, isi_list_lst, isi_list_tup, isi_list_non, isi_list_str, isi_list_int, isi_tup_tup, isi_bool_bl, isi_bool_int, isi_int_int, isi_int_bl, isi_int_non, isi_int_str, isi_str_str, isi_str_non, isi_str_int, startE_c, startE_n, startE_e, wFor_e, wLc_e, wipeE, wgName, wgTup, wgCons, wgNil, List.getElem?_cons_zero, List.getElem?_cons_succ, List.set_cons_zero, List.set_cons_succ, List.length_cons, List.length_nil, Mi.wC, Mi.wVar, Mi.wVarO, Mi.wOp, Mi.wUn, Mi.wCmp, Mi.wCmpT, Mi.wChainT, Mi.wChain, Mi.wTru, Mi.wAndT, Mi.wOrT, Mi.wNotT, Mi.wAnd, Mi.wOr, Mi.wNot, Mi.wIfE, Mi.wNoPart, Mi.wPart, Mi.wSl, Mi.wNil, Mi.wCons, Mi.wTup, Mi.wLst, Mi.wNext, Mi.wSeq, Mi.wFreeze, Mi.wForget, Mi.wBreak, Mi.wCont, Mi.wRet, Mi.wRetO, Mi.wRetN, Mi.wDrop, Mi.wIf, Mi.wNever, Mi.wAsg, Mi.wSetO, Mi.wPar, Mi.wAug, Mi.wApp, Mi.wSetIx, Mi.wExt, Mi.wItems, Mi.wRng1, Mi.wRng2, Mi.wRng3, Mi.wEnum, Mi.wZip, Mi.wYes, Mi.wCall, Mi.wCallX, Mi.wB2, Mi.wMin3, Mi.wIsi, Mi.wGuard, Mi.wGuardD, Mi.wRaise]
          rw [if_pos e] at he
          exact ⟨st d, i + 1, j + 1, rfl, he⟩
        · rw [e, if_neg Bool.false_ne_true] at he
          refine ifD_i (eqD d (.tup [.str "come", .int j]) && decide (j < B.length)) ?_ (fun e2 => ?_) fun e2 => ?_
          · simp only [e_qI, e_qIC, e_add1, e_add2, e_add3, e_add4, e_catL, e_aug1, e_aug2, e_mul1, e_mul2, e_rep, e_div, e_mod, e_neg, e_ord1, e_ord2, e_isn, e_nin, e_non1, e_non2, e_non3, e_non4, e_non5, e_non6, e_tru1, e_tru2, e_tru3, e_tru4, e_tru5, e_tru6, e_tru7, e_sl1, e_sl2, e_sl3, e_sl4, e_rev, e_it1, e_it2, e_it3, e_len1, e_len2, e_len3, e_len4, e_int1, e_int2, e_int3, e_min, e_max, e_min3, e_lst1, e_lst2, e_tup1, e_tup2, e_str, e_abs, e_lenS, e_ixS, Mi.qLt, Mi.qLe, Mi.qGt, Mi.qGe, List.map_cons, List.map_nil, List.length_map, true_and, and_true, Bool.false_eq_true, if_false, if_true, Bool.not_true, Bool.not_false, qEq_int, qEq_str, qEq_bl, qNe_int, qNe_str, qNe_bl, line0, line1, line2, line3, line4, line6, line7, line10, isi_list_lst, isi_list_tup, isi_list_non, isi_list_str, isi_list_int, isi_tup_tup, isi_bool_bl, isi_bool_int, isi_int_int, isi_int_bl, isi_int_non, isi_int_str, isi_str_str, isi_str_non, isi_str_int, startE_c, startE_n, startE_e, wFor_e, wLc_e, wipeE, wgName, wgTup, wgCons, wgNil, List.getElem?_cons_zero, List.getElem?_cons_succ, List.set_cons_zero, List.set_cons_succ, List.length_cons, List.length_nil, Mi.wC, Mi.wVar, Mi.wVarO, Mi.wOp, Mi.wUn, Mi.wCmp, Mi.wCmpT, Mi.wChainT, Mi.wChain, Mi.wTru, Mi.wAndT, Mi.wOrT, Mi.wNotT, Mi.wAnd, Mi.wOr, Mi.wNot, Mi.wIfE, Mi.wNoPart, Mi.wPart, Mi.wSl, Mi.wNil, Mi.wCons, Mi.wTup, Mi.wLst, Mi.wNext, Mi.wSeq, Mi.wFreeze, Mi.wForget, Mi.wBreak, Mi.wCont, Mi.wRet, Mi.wRetO, Mi.wRetN, Mi.wDrop, Mi.wIf, Mi.wNever, Mi.wAsg, Mi.wSetO, Mi.wPar, Mi.wAug, Mi.wApp, Mi.wSetIx, Mi.wExt, Mi.wItems, Mi.wRng1, Mi.wRng2, Mi.wRng3, Mi.wEnum, Mi.wZip, Mi.wYes, Mi.wCall, Mi.wCallX, Mi.wB2, Mi.wMin3, Mi.wIsi, Mi.wGuard, Mi.wGuardD, Mi.wRaise]
            refine qEq_tup hd (ok_come j) ?_
            refine ite_i (fun e1 => ?_) fun e1 => ?_
            · simp [e1]
            · simp [e1]
          · simp only [e_qI, e_qIC, e_add1, e_add2, e_add3, e_add4, e_catL, e_aug1, e_aug2, e_mul1, e_mul2, e_rep, e_div, e_mod, e_neg, e_ord1, e_ord2, e_isn, e_nin, e_non1, e_non2, e_non3, e_non4, e_non5, e_non6, e_tru1, e_tru2, e_tru3, e_tru4, e_tru5, e_tru6, e_tru7, e_sl1, e_sl2, e_sl3, e_sl4, e_rev, e_it1, e_it2, e_it3, e_len1, e_len2, e_len3, e_len4, e_int1, e_int2, e_int3, e_min, e_max, e_min3, e_lst1, e_lst2, e_tup1, e_tup2, e_str, e_abs, e_lenS, e_ixS, Mi.qLt, Mi.qLe, Mi.qGt, Mi.qGe, List.map_cons, List.map_nil, List.length_map, true_and, and_true, Bool.false_eq_true, if_false, if_true, Bool.not_true, Bool.not_false, qEq_int, qEq_str, qEq_bl, qNe_int, qNe_str, qNe_bl, line0, line1, line2, line3, line4, line6, line7, line10, isi_list_lst, isi_list_tup, isi_list_non, isi_list_str, isi_list_int, isi_tup_tup, isi_bool_bl, isi_bool_int, isi_int_int, isi_int_bl, isi_int_non, isi_int_str, isi_str_str, isi_str_non, isi_str_int, startE_c, startE_n, startE_e, wFor_e, wLc_e, wipeE, wgName, wgTup, wgCons, wgNil, List.getElem?_cons_zero, List.getElem?_cons_succ, List.set_cons_zero, List.set_cons_succ, List.length_cons, List.length_nil, Mi.wC, Mi.wVar, Mi.wVarO, Mi.wOp, Mi.wUn, Mi.wCmp, Mi.wCmpT, Mi.wChainT, Mi.wChain, Mi.wTru, Mi.wAndT, Mi.wOrT, Mi.wNotT, Mi.wAnd, Mi.wOr, Mi.wNot, Mi.wIfE, Mi.wNoPart, Mi.wPart, Mi.wSl, Mi.wNil, Mi.wCons, Mi.wTup, Mi.wLst, Mi.wNext, Mi.wSeq, Mi.wFreeze, Mi.wForget, Mi.wBreak, Mi.wCont, Mi.wRet, Mi.wRetO, Mi.wRetN, Mi.wDrop, Mi.wIf, Mi.wNever, Mi.wAsg, Mi.wSetO, Mi.wPar, Mi.wAug, Mi.wApp, Mi.wSetIx, Mi.wExt, Mi.wItems, Mi.wRng1, Mi.wRng2, Mi.wRng3, Mi.wEnum, Mi.wZip, Mi.wYes, Mi.wCall, Mi.wCallX, Mi.wB2, Mi.wMin3, Mi.wIsi, Mi.wGuard, Mi.wGuardD, Mi.wRaise]
            rw [if_pos e2] at he
            exact ⟨st d, i, j + 1, rfl, he⟩
          · rw [e2, if_neg Bool.false_ne_true] at he
            refine ifD_i (eqD d (.tup [.str "go", .int i]) && decide (i < A.length)) ?_ (fun e3 => ?_) fun e3 => ?_
            · simp only [e_qI, e_qIC, e_add1, e_add2, e_add3, e_add4, e_catL, e_aug1, e_aug2, e_mul1, e_mul2, e_rep, e_div, e_mod, e_neg, e_ord1, e_ord2, e_isn, e_nin, e_non1, e_non2, e_non3, e_non4, e_non5, e_non6, e_tru1, e_tru2, e_tru3, e_tru4, e_tru5, e_tru6, e_tru7, e_sl1, e_sl2, e_sl3, e_sl4, e_rev, e_it1, e_it2, e_it3, e_len1, e_len2, e_len3, e_len4, e_int1, e_int2, e_int3, e_min, e_max, e_min3, e_lst1, e_lst2, e_tup1, e_tup2, e_str, e_abs, e_lenS, e_ixS, Mi.qLt, Mi.qLe, Mi.qGt, Mi.qGe, List.map_cons, List.map_nil, List.length_map, true_and, and_true, Bool.false_eq_true, if_false, if_true, Bool.not_true, Bool.not_false, qEq_int, qEq_str, qEq_bl, qNe_int, qNe_str, qNe_bl, line0, line1, line2, line3, line4, line6, line7, line10, isi_list_lst, isi_list_tup, isi_list_non, isi_list_str, isi_list_int, isi_tup_tup, isi_bool_bl, isi_bool_int, isi_int_int, isi_int_bl, isi_int_non, isi_int_str, isi_str_str, isi_str_non, isi_str_int, startE_c, startE_n, startE_e, wFor_e, wLc_e, wipeE, wgName, wgTup, wgCons, wgNil, List.getElem?_cons_zero, List.getElem?_cons_succ, List.set_cons_zero, List.set_cons_succ, List.length_cons, List.length_nil, Mi.wC, Mi.wVar, Mi.wVarO, Mi.wOp, Mi.wUn, Mi.wCmp, Mi.wCmpT, Mi.wChainT, Mi.wChain, Mi.wTru, Mi.wAndT, Mi.wOrT, Mi.wNotT, Mi.wAnd, Mi.wOr, Mi.wNot, Mi.wIfE, Mi.wNoPart, Mi.wPart, Mi.wSl, Mi.wNil, Mi.wCons, Mi.wTup, Mi.wLst, Mi.wNext, Mi.wSeq, Mi.wFreeze, Mi.wForget, Mi.wBreak, Mi.wCont, Mi.wRet, Mi.wRetO, Mi.wRetN, Mi.wDrop, Mi.wIf, Mi.wNever, Mi.wAsg, Mi.wSetO, Mi.wPar, Mi.wAug, Mi.wApp, Mi.wSetIx, Mi.wExt, Mi.wItems, Mi.wRng1, Mi.wRng2, Mi.wRng3, Mi.wEnum, Mi.wZip, Mi.wYes, Mi.wCall, Mi.wCallX, Mi.wB2, Mi.wMin3, Mi.wIsi, Mi.wGuard, Mi.wGuardD, Mi.wRaise]
              refine qEq_tup hd (ok_go i) ?_
              refine ite_i (fun e1 => ?_) fun e1 => ?_
              · simp [e1]
              · simp [e1]
            · simp only [e_qI, e_qIC, e_add1, e_add2, e_add3, e_add4, e_catL, e_aug1, e_aug2, e_mul1, e_mul2, e_rep, e_div, e_mod, e_neg, e_ord1, e_ord2, e_isn, e_nin, e_non1, e_non2, e_non3, e_non4, e_non5, e_non6, e_tru1, e_tru2, e_tru3, e_tru4, e_tru5, e_tru6, e_tru7, e_sl1, e_sl2, e_sl3, e_sl4, e_rev, e_it1, e_it2, e_it3, e_len1, e_len2, e_len3, e_len4, e_int1, e_int2, e_int3, e_min, e_max, e_min3, e_lst1, e_lst2, e_tup1, e_tup2, e_str, e_abs, e_lenS, e_ixS, Mi.qLt, Mi.qLe, Mi.qGt, Mi.qGe, List.map_cons, List.map_nil, List.length_map, true_and, and_true, Bool.false_eq_true, if_false, if_true, Bool.not_true, Bool.not_false, qEq_int, qEq_str, qEq_bl, qNe_int, qNe_str, qNe_bl, line0, line1, line2, line3, line4, line6, line7, line10, isi_list_lst, isi_list_tup, isi_list_non, isi_list_str, isi_list_int, isi_tup_tup, isi_bool_bl, isi_bool_int, isi_int_int, isi_int_bl, isi_int_non, isi_int_str, isi_str_str, isi_str_non, isi_str_int, startE_c, startE_n, startE_e, wFor_e, wLc_e, wipeE, wgName, wgTup, wgCons, wgNil, List.getElem?_cons_zero, List.getElem?_cons_succ, List.set_cons_zero, List.set_cons_succ, List.length_cons, List.length_nil, Mi.wC, Mi.wVar, Mi.wVarO, Mi.wOp, Mi.wUn, Mi.wCmp, Mi.wCmpT, Mi.wChainT, Mi.wChain, Mi.wTru, Mi.wAndT, Mi.wOrT, Mi.wNotT, Mi.wAnd, Mi.wOr, Mi.wNot, Mi.wIfE, Mi.wNoPart, Mi.wPart, Mi.wSl, Mi.wNil, Mi.wCons, Mi.wTup, Mi.wLst, Mi.wNext, Mi.wSeq, Mi.wFreeze, Mi.wForget, Mi.wBreak, Mi.wCont, Mi.wRet, Mi.wRetO, Mi.wRetN, Mi.wDrop, Mi.wIf, Mi.wNever, Mi.wAsg, Mi.wSetO, Mi.wPar, Mi.wAug, Mi.wApp, Mi.wSetIx, Mi.wExt, Mi.wItems, Mi.wRng1, Mi.wRng2, Mi.wRng3, Mi.wEnum, Mi.wZip, Mi.wYes, Mi.wCall, Mi.wCallX, Mi.wB2, Mi.wMin3, Mi.wIsi, Mi.wGuard, Mi.wGuardD, Mi.wRaise]
              rw [if_pos e3] at he
              exact ⟨st d, i + 1, j, rfl, he⟩
            · rw [e3, if_neg Bool.false_ne_true] at he
              simp only [e_qI, e_qIC, e_add1, e_add2, e_add3, e_add4, e_catL, e_aug1, e_aug2, e_mul1, e_mul2, e_rep, e_div, e_mod, e_neg, e_ord1, e_ord2, e_isn, e_nin, e_non1, e_non2, e_non3, e_non4, e_non5, e_non6, e_tru1, e_tru2, e_tru3, e_tru4, e_tru5, e_tru6, e_tru7, e_sl1, e_sl2, e_sl3, e_sl4, e_rev, e_it1, e_it2, e_it3, e_len1, e_len2, e_len3, e_len4, e_int1, e_int2, e_int3, e_min, e_max, e_min3, e_lst1, e_lst2, e_tup1, e_tup2, e_str, e_abs, e_lenS, e_ixS, Mi.qLt, Mi.qLe, Mi.qGt, Mi.qGe, List.map_cons, List.map_nil, List.length_map, true_and, and_true, Bool.false_eq_true, if_false, if_true, Bool.not_true, Bool.not_false, qEq_int, qEq_str, qEq_bl, qNe_int, qNe_str, qNe_bl, line0, line1, line2, line3, line4, line6, line7, line10, isi_list_lst, isi_list_tup, isi_list_non, isi_list_str, isi_list_int, isi_tup_tup, isi_bool_bl, isi_bool_int, isi_int_int, isi_int_bl, isi_int_non, isi_int_str, isi_str_str, isi_str_non, isi_str_int, startE_c, startE_n, startE_e, wFor_e, wLc_e, wipeE, wgName, wgTup, wgCons, wgNil, List.getElem?_cons_zero, List.getElem?_cons_succ, List.set_cons_zero, List.set_cons_succ, List.length_cons, List.length_nil, Mi.wC, Mi.wVar, Mi.wVarO, Mi.wOp, Mi.wUn, Mi.wCmp, Mi.wCmpT, Mi.wChainT, Mi.wChain, Mi.wTru, Mi.wAndT, Mi.wOrT, Mi.wNotT, Mi.wAnd, Mi.wOr, Mi.wNot, Mi.wIfE, Mi.wNoPart, Mi.wPart, Mi.wSl, Mi.wNil, Mi.wCons, Mi.wTup, Mi.wLst, Mi.wNext, Mi.wSeq, Mi.wFreeze, Mi.wForget, Mi.wBreak, Mi.wCont, Mi.wRet, Mi.wRetO, Mi.wRetN, Mi.wDrop, Mi.wIf, Mi.wNever, Mi.wAsg, Mi.wSetO, Mi.wPar, Mi.wAug, Mi.wApp, Mi.wSetIx, Mi.wExt, Mi.wItems, Mi.wRng1, Mi.wRng2, Mi.wRng3, Mi.wEnum, Mi.wZip, Mi.wYes, Mi.wCall, Mi.wCallX, Mi.wB2, Mi.wMin3, Mi.wIsi, Mi.wGuard, Mi.wGuardD, Mi.wRaise]
              have : areD A B (.lst xs) = false := he
              rw [this] at h
              exact h
      · rintro δ' ⟨c3, i, j, rfl, he⟩
        rw [List.drop_of_length_le (Nat.le_refl _), areL] at he
        exact ⟨_, i, j, rfl, he⟩
    · rintro δ' ⟨c3, i, j, rfl, he⟩
      simp only [e_qI, e_qIC, e_add1, e_add2, e_add3, e_add4, e_catL, e_aug1, e_aug2, e_mul1, e_mul2, e_rep, e_div, e_mod, e_neg, e_ord1, e_ord2, e_isn, e_nin, e_non1, e_non2, e_non3, e_non4, e_non5, e_non6, e_tru1, e_tru2, e_tru3, e_tru4, e_tru5, e_tru6, e_tru7, e_sl1, e_sl2, e_sl3, e_sl4, e_rev, e_it1, e_it2, e_it3, e_len1, e_len2, e_len3, e_len4, e_int1, e_int2, e_int3, e_min, e_max, e_min3, e_lst1, e_lst2, e_tup1, e_tup2, e_str, e_abs, e_lenS, e_ixS, Mi.qLt, Mi.qLe, Mi.qGt, Mi.qGe, List.map_cons, List.map_nil, List.length_map, true_and, and_true, Bool.false_eq_true, if_false, if_true, Bool.not_true, Bool.not_false, qEq_int, qEq_str, qEq_bl, qNe_int, qNe_str, qNe_bl, line0, line1, line2, line3, line4, line6, line7, line10, isi_list_lst, isi_list_tup, isi_list_non, isi_list_str, isi_list_int, isi_tup_tup, isi_bool_bl, isi_bool_int, isi_int_int, isi_int_bl, isi_int_non, isi_int_str, isi_str_str, isi_str_non, isi_str_int, startE_c, startE_n, startE_e, wFor_e, wLc_e, wipeE, wgName, wgTup, wgCons, wgNil, List.getElem?_cons_zero, List.getElem?_cons_succ, List.set_cons_zero, List.set_cons_succ, List.length_cons, List.length_nil, Mi.wC, Mi.wVar, Mi.wVarO, Mi.wOp, Mi.wUn, Mi.wCmp, Mi.wCmpT, Mi.wChainT, Mi.wChain, Mi.wTru, Mi.wAndT, Mi.wOrT, Mi.wNotT, Mi.wAnd, Mi.wOr, Mi.wNot, Mi.wIfE, Mi.wNoPart, Mi.wPart, Mi.wSl, Mi.wNil, Mi.wCons, Mi.wTup, Mi.wLst, Mi.wNext, Mi.wSeq, Mi.wFreeze, Mi.wForget, Mi.wBreak, Mi.wCont, Mi.wRet, Mi.wRetO, Mi.wRetN, Mi.wDrop, Mi.wIf, Mi.wNever, Mi.wAsg, Mi.wSetO, Mi.wPar, Mi.wAug, Mi.wApp, Mi.wSetIx, Mi.wExt, Mi.wItems, Mi.wRng1, Mi.wRng2, Mi.wRng3, Mi.wEnum, Mi.wZip, Mi.wYes, Mi.wCall, Mi.wCallX, Mi.wB2, Mi.wMin3, Mi.wIsi, Mi.wGuard, Mi.wGuardD, Mi.wRaise]
      have : areD A B (.lst xs) = _ := he
      rw [this] at h
      refine ite_i (fun e => ?_) fun e => ?_
      · have e := of_decide_eq_true e
        have e' : i = A.length := by omega
        rw [e', decide_eq_true rfl, Bool.true_and] at h
        have : decide ((j : Int) = (B.length : Int)) = decide (j = B.length) := by congr 1; rw [eq_iff_iff]; omega
        rw [this]
        exact h
      · have e' : ¬ i = A.length := by have := of_decide_eq_false e; omega
        rw [decide_eq_false e', Bool.false_and] at h
        rw [e]
        exact h
  · simp only [e_qI, e_qIC, e_add1, e_add2, e_add3, e_add4, e_catL, e_aug1, e_aug2, e_mul1, e_mul2, e_rep, e_div, e_mod, e_neg, e_ord1, e_ord2, e_isn, e_nin, e_non1, e_non2, e_non3, e_non4, e_non5, e_non6, e_tru1, e_tru2, e_tru3, e_tru4, e_tru5, e_tru6, e_tru7, e_sl1, e_sl2, e_sl3, e_sl4, e_rev, e_it1, e_it2, e_it3, e_len1, e_len2, e_len3, e_len4, e_int1, e_int2, e_int3, e_min, e_max, e_min3, e_lst1, e_lst2, e_tup1, e_tup2, e_str, e_abs, e_lenS, e_ixS, Mi.qLt, Mi.qLe, Mi.qGt, Mi.qGe, List.map_cons, List.map_nil, List.length_map, true_and, and_true, Bool.false_eq_true, if_false, if_true, Bool.not_true, Bool.not_false, qEq_int, qEq_str, qEq_bl, qNe_int, qNe_str, qNe_bl, line0, line1, line2, line3, line4, line6, line7, line10, isi_list_lst, isi_list_tup, isi_list_non, isi_list_str, isi_list_int, isi_tup_tup, isi_bool_bl, isi_bool_int, isi_int_int, isi_int_bl, isi_int_non, isi_int_str, isi_str_str, isi_str_non, isi_str_int, startE_c, startE_n, startE_e, wFor_e, wLc_e, wipeE, wgName, wgTup, wgCons, wgNil, List.getElem?_cons_zero, List.getElem?_cons_succ, List.set_cons_zero, List.set_cons_succ, List.length_cons, List.length_nil, Mi.wC, Mi.wVar, Mi.wVarO, Mi.wOp, Mi.wUn, Mi.wCmp, Mi.wCmpT, Mi.wChainT, Mi.wChain, Mi.wTru, Mi.wAndT, Mi.wOrT, Mi.wNotT, Mi.wAnd, Mi.wOr, Mi.wNot, Mi.wIfE, Mi.wNoPart, Mi.wPart, Mi.wSl, Mi.wNil, Mi.wCons, Mi.wTup, Mi.wLst, Mi.wNext, Mi.wSeq, Mi.wFreeze, Mi.wForget, Mi.wBreak, Mi.wCont, Mi.wRet, Mi.wRetO, Mi.wRetN, Mi.wDrop, Mi.wIf, Mi.wNever, Mi.wAsg, Mi.wSetO, Mi.wPar, Mi.wAug, Mi.wApp, Mi.wSetIx, Mi.wExt, Mi.wItems, Mi.wRng1, Mi.wRng2, Mi.wRng3, Mi.wEnum, Mi.wZip, Mi.wYes, Mi.wCall, Mi.wCallX, Mi.wB2, Mi.wMin3, Mi.wIsi, Mi.wGuard, Mi.wGuardD, Mi.wRaise]; exact h
  · simp only [e_qI, e_qIC, e_add1, e_add2, e_add3, e_add4, e_catL, e_aug1, e_aug2, e_mul1, e_mul2, e_rep, e_div, e_mod, e_neg, e_ord1, e_ord2, e_isn, e_nin, e_non1, e_non2, e_non3, e_non4, e_non5, e_non6, e_tru1, e_tru2, e_tru3, e_tru4, e_tru5, e_tru6, e_tru7, e_sl1, e_sl2, e_sl3, e_sl4, e_rev, e_it1, e_it2, e_it3, e_len1, e_len2, e_len3, e_len4, e_int1, e_int2, e_int3, e_min, e_max, e_min3, e_lst1, e_lst2, e_tup1, e_tup2, e_str, e_abs, e_lenS, e_ixS, Mi.qLt, Mi.qLe, Mi.qGt, Mi.qGe, List.map_cons, List.map_nil, List.length_map, true_and, and_true, Bool.false_eq_true, if_false, if_true, Bool.not_true, Bool.not_false, qEq_int, qEq_str, qEq_bl, qNe_int, qNe_str, qNe_bl, line0, line1, line2, line3, line4, line6, line7, line10, isi_list_lst, isi_list_tup, isi_list_non, isi_list_str, isi_list_int, isi_tup_tup, isi_bool_bl, isi_bool_int, isi_int_int, isi_int_bl, isi_int_non, isi_int_str, isi_str_str, isi_str_non, isi_str_int, startE_c, startE_n, startE_e, wFor_e, wLc_e, wipeE, wgName, wgTup, wgCons, wgNil, List.getElem?_cons_zero, List.getElem?_cons_succ, List.set_cons_zero, List.set_cons_succ, List.length_cons, List.length_nil, Mi.wC, Mi.wVar, Mi.wVarO, Mi.wOp, Mi.wUn, Mi.wCmp, Mi.wCmpT, Mi.wChainT, Mi.wChain, Mi.wTru, Mi.wAndT, Mi.wOrT, Mi.wNotT, Mi.wAnd, Mi.wOr, Mi.wNot, Mi.wIfE, Mi.wNoPart, Mi.wPart, Mi.wSl, Mi.wNil, Mi.wCons, Mi.wTup, Mi.wLst, Mi.wNext, Mi.wSeq, Mi.wFreeze, Mi.wForget, Mi.wBreak, Mi.wCont, Mi.wRet, Mi.wRetO, Mi.wRetN, Mi.wDrop, Mi.wIf, Mi.wNever, Mi.wAsg, Mi.wSetO, Mi.wPar, Mi.wAug, Mi.wApp, Mi.wSetIx, Mi.wExt, Mi.wItems, Mi.wRng1, Mi.wRng2, Mi.wRng3, Mi.wEnum, Mi.wZip, Mi.wYes, Mi.wCall, Mi.wCallX, Mi.wB2, Mi.wMin3, Mi.wIsi, Mi.wGuard, Mi.wGuardD, Mi.wRaise]; exact h
  · simp only [e_qI, e_qIC, e_add1, e_add2, e_add3, e_add4, e_catL, e_aug1, e_aug2, e_mul1, e_mul2, e_rep, e_div, e_mod, e_neg, e_ord1, e_ord2, e_isn, e_nin, e_non1, e_non2, e_non3, e_non4, e_non5, e_non6, e_tru1, e_tru2, e_tru3, e_tru4, e_tru5, e_tru6, e_tru7, e_sl1, e_sl2, e_sl3, e_sl4, e_rev, e_it1, e_it2, e_it3, e_len1, e_len2, e_len3, e_len4, e_int1, e_int2, e_int3, e_min, e_max, e_min3, e_lst1, e_lst2, e_tup1, e_tup2, e_str, e_abs, e_lenS, e_ixS, Mi.qLt, Mi.qLe, Mi.qGt, Mi.qGe, List.map_cons, List.map_nil, List.length_map, true_and, and_true, Bool.false_eq_true, if_false, if_true, Bool.not_true, Bool.not_false, qEq_int, qEq_str, qEq_bl, qNe_int, qNe_str, qNe_bl, line0, line1, line2, line3, line4, line6, line7, line10, isi_list_lst, isi_list_tup, isi_list_non, isi_list_str, isi_list_int, isi_tup_tup, isi_bool_bl, isi_bool_int, isi_int_int, isi_int_bl, isi_int_non, isi_int_str, isi_str_str, isi_str_non, isi_str_int, startE_c, startE_n, startE_e, wFor_e, wLc_e, wipeE, wgName, wgTup, wgCons, wgNil, List.getElem?_cons_zero, List.getElem?_cons_succ, List.set_cons_zero, List.set_cons_succ, List.length_cons, List.length_nil, Mi.wC, Mi.wVar, Mi.wVarO, Mi.wOp, Mi.wUn, Mi.wCmp, Mi.wCmpT, Mi.wChainT, Mi.wChain, Mi.wTru, Mi.wAndT, Mi.wOrT, Mi.wNotT, Mi.wAnd, Mi.wOr, Mi.wNot, Mi.wIfE, Mi.wNoPart, Mi.wPart, Mi.wSl, Mi.wNil, Mi.wCons, Mi.wTup, Mi.wLst, Mi.wNext, Mi.wSeq, Mi.wFreeze, Mi.wForget, Mi.wBreak, Mi.wCont, Mi.wRet, Mi.wRetO, Mi.wRetN, Mi.wDrop, Mi.wIf, Mi.wNever, Mi.wAsg, Mi.wSetO, Mi.wPar, Mi.wAug, Mi.wApp, Mi.wSetIx, Mi.wExt, Mi.wItems, Mi.wRng1, Mi.wRng2, Mi.wRng3, Mi.wEnum, Mi.wZip, Mi.wYes, Mi.wCall, Mi.wCallX, Mi.wB2, Mi.wMin3, Mi.wIsi, Mi.wGuard, Mi.wGuardD, Mi.wRaise]; exact h
  · simp only [e_qI, e_qIC, e_add1, e_add2, e_add3, e_add4, e_catL, e_aug1, e_aug2, e_mul1, e_mul2, e_rep, e_div, e_mod, e_neg, e_ord1, e_ord2, e_isn, e_nin, e_non1, e_non2, e_non3, e_non4, e_non5, e_non6, e_tru1, e_tru2, e_tru3, e_tru4, e_tru5, e_tru6, e_tru7, e_sl1, e_sl2, e_sl3, e_sl4, e_rev, e_it1, e_it2, e_it3, e_len1, e_len2, e_len3, e_len4, e_int1, e_int2, e_int3, e_min, e_max, e_min3, e_lst1, e_lst2, e_tup1, e_tup2, e_str, e_abs, e_lenS, e_ixS, Mi.qLt, Mi.qLe, Mi.qGt, Mi.qGe, List.map_cons, List.map_nil, List.length_map, true_and, and_true, Bool.false_eq_true, if_false, if_true, Bool.not_true, Bool.not_false, qEq_int, qEq_str, qEq_bl, qNe_int, qNe_str, qNe_bl, line0, line1, line2, line3, line4, line6, line7, line10, isi_list_lst, isi_list_tup, isi_list_non, isi_list_str, isi_list_int, isi_tup_tup, isi_bool_bl, isi_bool_int, isi_int_int, isi_int_bl, isi_int_non, isi_int_str, isi_str_str, isi_str_non, isi_str_int, startE_c, startE_n, startE_e, wFor_e, wLc_e, wipeE, wgName, wgTup, wgCons, wgNil, List.getElem?_cons_zero, List.getElem?_cons_succ, List.set_cons_zero, List.set_cons_succ, List.length_cons, List.length_nil, Mi.wC, Mi.wVar, Mi.wVarO, Mi.wOp, Mi.wUn, Mi.wCmp, Mi.wCmpT, Mi.wChainT, Mi.wChain, Mi.wTru, Mi.wAndT, Mi.wOrT, Mi.wNotT, Mi.wAnd, Mi.wOr, Mi.wNot, Mi.wIfE, Mi.wNoPart, Mi.wPart, Mi.wSl, Mi.wNil, Mi.wCons, Mi.wTup, Mi.wLst, Mi.wNext, Mi.wSeq, Mi.wFreeze, Mi.wForget, Mi.wBreak, Mi.wCont, Mi.wRet, Mi.wRetO, Mi.wRetN, Mi.wDrop, Mi.wIf, Mi.wNever, Mi.wAsg, Mi.wSetO, Mi.wPar, Mi.wAug, Mi.wApp, Mi.wSetIx, Mi.wExt, Mi.wItems, Mi.wRng1, Mi.wRng2, Mi.wRng3, Mi.wEnum, Mi.wZip, Mi.wYes, Mi.wCall, Mi.wCallX, Mi.wB2, Mi.wMin3, Mi.wIsi, Mi.wGuard, Mi.wGuardD, Mi.wRaise]; exact h
abbrev s_law_right : Stmt := topS 24
abbrev N_law_right : List Str := ["first", "second", "value", "change", "i", "j"]
theorem sc_law_right : FnScope N_law_right ["first", "second", "value"] (defScope s_law_right) := ⟨rfl, rfl, rfl, by decide +kernel, rfl, by decide +kernel, by decide +kernel⟩
theorem ok_law_right {f : Addr} {fd : FuncData} (F : Fun K "_law_right" "_law_right" s_law_right f fd) (T : Txt mg)  : FnOk P w K mg base CX0 (0 + 1) f fd ["first", "second", "value"] (spD K g false c_are) := by
  refine Mi.Fun.data F sc_law_right (fun ds EX Q ⟨_, _, _, h, _⟩ => by rw [h]; rfl) (fun cdv A outer s H E S0 H0 hr => (ms_cons (ms_if (mt_not (mt_tru (mo_of (me_isi (T := "list") T.isinstance rfl rfl T.list boot_list'' (mo_var 2)))))
  (ms_one (ms_ret rfl me_bl))
  ms_nil)
  (ms_cons (ms_asg (vs := [4, 5]) (me_tup (ma_cons me_int (ma_cons me_int ma_nil))) (mg_tup 2 rfl (mgs_cons (mg_name 4 sc_law_right.nd) (mgs_cons (mg_name 5 sc_law_right.nd) mgs_nil)) rfl rfl (fun _ _ _ h => wgCons_len (fun _ _ _ h => wgCons_len (fun _ _ _ h => wgNil_len h) wgName_ex h) wgName_ex h)))
  (ms_cut (ms_for (vs := [3]) PassesOwn.never rfl (mi_any (me_var 2)) (mg_name 3 sc_law_right.nd)
  (ms_one (ms_ifD (mt_w (mw_and (mt_lt (mo_var 4) (mo_of (me_len T.len rfl (mo_var 0)))) (mw_and (mt_lt (mo_var 5) (mo_of (me_len T.len rfl (mo_var 1)))) (mw_and (mt_eq hr.units (mo_of (me_ix hr.units (mo_var 0) (mo_var 4))) (mo_of (me_ix hr.units (mo_var 1) (mo_var 5)))) (mw_and1 (mt_eq hr.units (mo_var 3) (mo_of (me_tup (ma_cons me_str (ma_cons (me_var 4) (ma_cons (me_var 5) ma_nil)))))))))))
  (ms_one (ms_par 4 5 rfl sc_law_right.nd (me_add (mo_var 4) (mo_of me_int)) (me_add (mo_var 5) (mo_of me_int))))
  (ms_one (ms_ifD (mt_w (mw_and (mt_lt (mo_var 5) (mo_of (me_len T.len rfl (mo_var 1)))) (mw_and1 (mt_eq hr.units (mo_var 3) (mo_of (me_tup (ma_cons me_str (ma_cons (me_var 5) ma_nil))))))))
  (ms_one (ms_set 5 sc_law_right.nd (me_add (mo_var 5) (mo_of me_int))))
  (ms_one (ms_ifD (mt_w (mw_and (mt_lt (mo_var 4) (mo_of (me_len T.len rfl (mo_var 0)))) (mw_and1 (mt_eq hr.units (mo_var 3) (mo_of (me_tup (ma_cons me_str (ma_cons (me_var 4) ma_nil))))))))
  (ms_one (ms_set 4 sc_law_right.nd (me_add (mo_var 4) (mo_of me_int))))
  (ms_one (ms_ret rfl me_bl)))))))))
  (ms_one (ms_ret rfl (me_and (me_eq hr.units (mo_var 4) (mo_of (me_len T.len rfl (mo_var 0)))) (me_bone (me_eq hr.units (mo_var 5) (mo_of (me_len T.len rfl (mo_var 1)))))))))))) (fun ds Q h => ?_) (fun ds EX Q h => h)
  obtain ⟨A, B, v, rfl, hv, h⟩ := h
  simp only [e_qI, e_qIC, e_add1, e_add2, e_add3, e_add4, e_catL, e_aug1, e_aug2, e_mul1, e_mul2, e_rep, e_div, e_mod, e_neg, e_ord1, e_ord2, e_isn, e_nin, e_non1, e_non2, e_non3, e_non4, e_non5, e_non6, e_tru1, e_tru2, e_tru3, e_tru4, e_tru5, e_tru6, e_tru7, e_sl1, e_sl2, e_sl3, e_sl4, e_rev, e_it1, e_it2, e_it3, e_len1, e_len2, e_len3, e_len4, e_int1, e_int2, e_int3, e_min, e_max, e_min3, e_lst1, e_lst2, e_tup1, e_tup2, e_str, e_abs, e_lenS, e_ixS, Mi.qLt, Mi.qLe, Mi.qGt, Mi.qGe, List.map_cons, List.map_nil, List.length_map, true_and, and_true, Bool.false_eq_true, if_false, if_true, Bool.not_true, Bool.not_false, qEq_int, qEq_str, qEq_bl, qNe_int, qNe_str, qNe_bl, line0, line1, line2, line3, line4, line6, line7, line10, isi_list_lst, isi_list_tup, isi_list_non, isi_list_str, isi_list_int, isi_tup_tup, isi_bool_bl, isi_bool_int, isi_int_int, isi_int_bl, isi_int_non, isi_int_str, isi_str_str, isi_str_non, isi_str_int, startE_c, startE_n, startE_e, wFor_e, wLc_e, wipeE, wgName, wgTup, wgCons, wgNil, List.getElem?_cons_zero, List.getElem?_cons_succ, List.set_cons_zero, List.set_cons_succ, List.length_cons, List.length_nil, Mi.wC, Mi.wVar, Mi.wVarO, Mi.wOp, Mi.wUn, Mi.wCmp, Mi.wCmpT, Mi.wChainT, Mi.wChain, Mi.wTru, Mi.wAndT, Mi.wOrT, Mi.wNotT, Mi.wAnd, Mi.wOr, Mi.wNot, Mi.wIfE, Mi.wNoPart, Mi.wPart, Mi.wSl, Mi.wNil, Mi.wCons, Mi.wTup, Mi.wLst, Mi.wNext, Mi.wSeq, Mi.wFreeze, Mi.wForget, Mi.wBreak, Mi.wCont, Mi.wRet, Mi.wRetO, Mi.wRetN, Mi.wDrop, Mi.wIf, Mi.wNever, Mi.wAsg, Mi.wSetO, Mi.wPar, Mi.wAug, Mi.wApp, Mi.wSetIx, Mi.wExt, Mi.wItems, Mi.wRng1, Mi.wRng2, Mi.wRng3, Mi.wEnum, Mi.wZip, Mi.wYes, Mi.wCall, Mi.wCallX, Mi.wB2, Mi.wMin3, Mi.wIsi, Mi.wGuard, Mi.wGuardD, Mi.wRaise]
  rcases hv with ⟨xs, rfl, hx⟩ | ⟨xs, rfl⟩ | rfl | ⟨s, rfl⟩ | ⟨i, rfl⟩
  · simp only [e_qI, e_qIC, e_add1, e_add2, e_add3, e_add4, e_catL, e_aug1, e_aug2, e_mul1, e_mul2, e_rep, e_div, e_mod, e_neg, e_ord1, e_ord2, e_isn, e_nin, e_non1, e_non2, e_non3, e_non4, e_non5, e_non6, e_tru1, e_tru2, e_tru3, e_tru4, e_tru5, e_tru6, e_tru7, e_sl1, e_sl2, e_sl3, e_sl4, e_rev, e_it1, e_it2, e_it3, e_len1, e_len2, e_len3, e_len4, e_int1, e_int2, e_int3, e_min, e_max, e_min3, e_lst1, e_lst2, e_tup1, e_tup2, e_str, e_abs, e_lenS, e_ixS, Mi.qLt, Mi.qLe, Mi.qGt, Mi.qGe, List.map_cons, List.map_nil, List.length_map, true_and, and_true, Bool.false_eq_true, if_false, if_true, Bool.not_true, Bool.not_false, qEq_int, qEq_str, qEq_bl, qNe_int, qNe_str, qNe_bl, line0, line1, line2, line3, line4, line6, line7, line10, isi_list_lst, isi_list_tup, isi_list_non, isi_list_str, isi_list_int, isi_tup_tup, isi_bool_bl, isi_bool_int, isi_int_int, isi_int_bl, isi_int_non, isi_int_str, isi_str_str, isi_str_non, isi_str_int, startE_c, startE_n, startE_e, wFor_e, wLc_e, wipeE, wgName, wgTup, wgCons, wgNil, List.getElem?_cons_zero, List.getElem?_cons_succ, List.set_cons_zero, List.set_cons_succ, List.length_cons, List.length_nil, Mi.wC, Mi.wVar, Mi.wVarO, Mi.wOp, Mi.wUn, Mi.wCmp, Mi.wCmpT, Mi.wChainT, Mi.wChain, Mi.wTru, Mi.wAndT, Mi.wOrT, Mi.wNotT, Mi.wAnd, Mi.wOr, Mi.wNot, Mi.wIfE, Mi.wNoPart, Mi.wPart, Mi.wSl, Mi.wNil, Mi.wCons, Mi.wTup, Mi.wLst, Mi.wNext, Mi.wSeq, Mi.wFreeze, Mi.wForget, Mi.wBreak, Mi.wCont, Mi.wRet, Mi.wRetO, Mi.wRetN, Mi.wDrop, Mi.wIf, Mi.wNever, Mi.wAsg, Mi.wSetO, Mi.wPar, Mi.wAug, Mi.wApp, Mi.wSetIx, Mi.wExt, Mi.wItems, Mi.wRng1, Mi.wRng2, Mi.wRng3, Mi.wEnum, Mi.wZip, Mi.wYes, Mi.wCall, Mi.wCallX, Mi.wB2, Mi.wMin3, Mi.wIsi, Mi.wGuard, Mi.wGuardD, Mi.wRaise]
    refine cut_i (fun δ' => ∃ c3 i j, δ' = [st (SS A), st (SS B), st (.lst xs), c3, st (.int (i : Nat)), st (.int (j : Nat))] ∧ areL A B xs 0 0 = (decide (i = A.length) && decide (j = B.length))) ?_ ?_
    · simp only [e_qI, e_qIC, e_add1, e_add2, e_add3, e_add4, e_catL, e_aug1, e_aug2, e_mul1, e_mul2, e_rep, e_div, e_mod, e_neg, e_ord1, e_ord2, e_isn, e_nin, e_non1, e_non2, e_non3, e_non4, e_non5, e_non6, e_tru1, e_tru2, e_tru3, e_tru4, e_tru5, e_tru6, e_tru7, e_sl1, e_sl2, e_sl3, e_sl4, e_rev, e_it1, e_it2, e_it3, e_len1, e_len2, e_len3, e_len4, e_int1, e_int2, e_int3, e_min, e_max, e_min3, e_lst1, e_lst2, e_tup1, e_tup2, e_str, e_abs, e_lenS, e_ixS, Mi.qLt, Mi.qLe, Mi.qGt, Mi.qGe, List.map_cons, List.map_nil, List.length_map, true_and, and_true, Bool.false_eq_true, if_false, if_true, Bool.not_true, Bool.not_false, qEq_int, qEq_str, qEq_bl, qNe_int, qNe_str, qNe_bl, line0, line1, line2, line3, line4, line6, line7, line10, isi_list_lst, isi_list_tup, isi_list_non, isi_list_str, isi_list_int, isi_tup_tup, isi_bool_bl, isi_bool_int, isi_int_int, isi_int_bl, isi_int_non, isi_int_str, isi_str_str, isi_str_non, isi_str_int, startE_c, startE_n, startE_e, wFor_e, wLc_e, wipeE, wgName, wgTup, wgCons, wgNil, List.getElem?_cons_zero, List.getElem?_cons_succ, List.set_cons_zero, List.set_cons_succ, List.length_cons, List.length_nil, Mi.wC, Mi.wVar, Mi.wVarO, Mi.wOp, Mi.wUn, Mi.wCmp, Mi.wCmpT, Mi.wChainT, Mi.wChain, Mi.wTru, Mi.wAndT, Mi.wOrT, Mi.wNotT, Mi.wAnd, Mi.wOr, Mi.wNot, Mi.wIfE, Mi.wNoPart, Mi.wPart, Mi.wSl, Mi.wNil, Mi.wCons, Mi.wTup, Mi.wLst, Mi.wNext, Mi.wSeq, Mi.wFreeze, Mi.wForget, Mi.wBreak, Mi.wCont, Mi.wRet, Mi.wRetO, Mi.wRetN, Mi.wDrop, Mi.wIf, Mi.wNever, Mi.wAsg, Mi.wSetO, Mi.wPar, Mi.wAug, Mi.wApp, Mi.wSetIx, Mi.wExt, Mi.wItems, Mi.wRng1, Mi.wRng2, Mi.wRng3, Mi.wEnum, Mi.wZip, Mi.wYes, Mi.wCall, Mi.wCallX, Mi.wB2, Mi.wMin3, Mi.wIsi, Mi.wGuard, Mi.wGuardD, Mi.wRaise]
      refine for_i (fun k δ' => ∃ c3 i j, δ' = [st (SS A), st (SS B), st (.lst xs), c3, st (.int (i : Nat)), st (.int (j : Nat))] ∧ areL A B xs 0 0 = areL A B (xs.drop k) i j) ⟨_, 0, 0, rfl, rfl⟩ ?_ ?_
      · rintro k d δ' hk ⟨c3, i, j, rfl, he⟩
        have hd : okD d := hx d (List.mem_of_getElem? hk)
        have hdr : xs.drop k = d :: xs.drop (k + 1) := by
          obtain ⟨hl, rfl⟩ := List.getElem?_eq_some_iff.mp hk
          exact List.drop_eq_getElem_cons hl
        rw [hdr, areL] at he
        simp only [e_qI, e_qIC, e_add1, e_add2, e_add3, e_add4, e_catL, e_aug1, e_aug2, e_mul1, e_mul2, e_rep, e_div, e_mod, e_neg, e_ord1, e_ord2, e_isn, e_nin, e_non1, e_non2, e_non3, e_non4, e_non5, e_non6, e_tru1, e_tru2, e_tru3, e_tru4, e_tru5, e_tru6, e_tru7, e_sl1, e_sl2, e_sl3, e_sl4, e_rev, e_it1, e_it2, e_it3, e_len1, e_len2, e_len3, e_len4, e_int1, e_int2, e_int3, e_min, e_max, e_min3, e_lst1, e_lst2, e_tup1, e_tup2, e_str, e_abs, e_lenS, e_ixS, Mi.qLt, Mi.qLe, Mi.qGt, Mi.qGe, List.map_cons, List.map_nil, List.length_map, true_and, and_true, Bool.false_eq_true, if_false, if_true, Bool.not_true, Bool.not_false, qEq_int, qEq_str, qEq_bl, qNe_int, qNe_str, qNe_bl, line0, line1, line2, line3, line4, line6, line7, line10, isi_list_lst, isi_list_tup, isi_list_non, isi_list_str, isi_list_int, isi_tup_tup, isi_bool_bl, isi_bool_int, isi_int_int, isi_int_bl, isi_int_non, isi_int_str, isi_str_str, isi_str_non, isi_str_int, startE_c, startE_n, startE_e, wFor_e, wLc_e, wipeE, wgName, wgTup, wgCons, wgNil, List.getElem?_cons_zero, List.getElem?_cons_succ, List.set_cons_zero, List.set_cons_succ, List.length_cons, List.length_nil, Mi.wC, Mi.wVar, Mi.wVarO, Mi.wOp, Mi.wUn, Mi.wCmp, Mi.wCmpT, Mi.wChainT, Mi.wChain, Mi.wTru, Mi.wAndT, Mi.wOrT, Mi.wNotT, Mi.wAnd, Mi.wOr, Mi.wNot, Mi.wIfE, Mi.wNoPart, Mi.wPart, Mi.wSl, Mi.wNil, Mi.wCons, Mi.wTup, Mi.wLst, Mi.wNext, Mi.wSeq, Mi.wFreeze, Mi.wForget, Mi.wBreak, Mi.wCont, Mi.wRet, Mi.wRetO, Mi.wRetN, Mi.wDrop, Mi.wIf, Mi.wNever, Mi.wAsg, Mi.wSetO, Mi.wPar, Mi.wAug, Mi.wApp, Mi.wSetIx, Mi.wExt, Mi.wItems, Mi.wRng1, Mi.wRng2, Mi.wRng3, Mi.wEnum, Mi.wZip, Mi.wYes, Mi.wCall, Mi.wCallX, Mi.wB2, Mi.wMin3, Mi.wIsi, Mi.wGuard, Mi.wGuardD, Mi.wRaise]
        refine ifD_i (eqD d (.tup [.str "stay", .int i, .int j]) && (decide (i < A.length) && (decide (j < B.length) && decide (A[i]? = B[j]?)))) ?_ (fun e => ?_) fun e => ?_
        · simp only [e_qI, e_qIC, e_add1, e_add2, e_add3, e_add4, e_catL, e_aug1, e_aug2, e_mul1, e_mul2, e_rep, e_div, e_mod, e_neg, e_ord1, e_ord2, e_isn, e_nin, e_non1, e_non2, e_non3, e_non4, e_non5, e_non6, e_tru1, e_tru2, e_tru3, e_tru4, e_tru5, e_tru6, e_tru7, e_sl1, e_sl2, e_sl3, e_sl4, e_rev, e_it1, e_it2, e_it3, e_len1, e_len2, e_len3, e_len4, e_int1, e_int2, e_int3, e_min, e_max, e_min3, e_lst1, e_lst2, e_tup1, e_tup2, e_str, e_abs, e_lenS, e_ixS, Mi.qLt, Mi.qLe, Mi.qGt, Mi.qGe, List.map_cons, List.map_nil, List.length_map, true_and, and_true, Bool.false_eq_true, if_false, if_true, Bool.not_true, Bool.not_false, qEq_int, qEq_str, qEq_bl, qNe_int, qNe_str, qNe_bl, line0, line1, line2, line3, line4, line6, line7, line10, isi_list_lst, isi_list_tup, isi_list_non, isi_list_str, isi_list_int, isi_tup_tup, isi_bool_bl, isi_bool_int, isi_int_int, isi_int_bl, isi_int_non, isi_int_str, isi_str_str, isi_str_non, isi_str_int, startE_c, startE_n, startE_e, wFor_e, wLc_e, wipeE, wgName, wgTup, wgCons, wgNil, List.getElem?_cons_zero, List.getElem?_cons_succ, List.set_cons_zero, List.set_cons_succ, List.length_cons, List.length_nil, Mi.wC, Mi.wVar, Mi.wVarO, Mi.wOp, Mi.wUn, Mi.wCmp, Mi.wCmpT, Mi.wChainT, Mi.wChain, Mi.wTru, Mi.wAndT, Mi.wOrT, Mi.wNotT, Mi.wAnd, Mi.wOr, Mi.wNot, Mi.wIfE, Mi.wNoPart, Mi.wPart, Mi.wSl, Mi.wNil, Mi.wCons, Mi.wTup, Mi.wLst, Mi.wNext, Mi.wSeq, Mi.wFreeze, Mi.wForget, Mi.wBreak, Mi.wCont, Mi.wRet, Mi.wRetO, Mi.wRetN, Mi.wDrop, Mi.wIf, Mi.wNever, Mi.wAsg, Mi.wSetO, Mi.wPar, Mi.wAug, Mi.wApp, Mi.wSetIx, Mi.wExt, Mi.wItems, Mi.wRng1, Mi.wRng2, Mi.wRng3, Mi.wEnum, Mi.wZip, Mi.wYes, Mi.wCall, Mi.wCallX, Mi.wB2, Mi.wMin3, Mi.wIsi, Mi.wGuard, Mi.wGuardD, Mi.wRaise]
          refine ite_i (fun e2 => ite_i (fun e3 => ?_) fun e3 => ?_) fun e2 => ?_
          · have h2 : i < A.length := by have := of_decide_eq_true e2; omega
            have h3 : j < B.length := by have := of_decide_eq_true e3; omega
            refine qIx_lst (str_get h2) (qIx_lst (str_get h3) ?_)
            simp only [e_qI, e_qIC, e_add1, e_add2, e_add3, e_add4, e_catL, e_aug1, e_aug2, e_mul1, e_mul2, e_rep, e_div, e_mod, e_neg, e_ord1, e_ord2, e_isn, e_nin, e_non1, e_non2, e_non3, e_non4, e_non5, e_non6, e_tru1, e_tru2, e_tru3, e_tru4, e_tru5, e_tru6, e_tru7, e_sl1, e_sl2, e_sl3, e_sl4, e_rev, e_it1, e_it2, e_it3, e_len1, e_len2, e_len3, e_len4, e_int1, e_int2, e_int3, e_min, e_max, e_min3, e_lst1, e_lst2, e_tup1, e_tup2, e_str, e_abs, e_lenS, e_ixS, Mi.qLt, Mi.qLe, Mi.qGt, Mi.qGe, List.map_cons, List.map_nil, List.length_map, true_and, and_true, Bool.false_eq_true, if_false, if_true, Bool.not_true, Bool.not_false, qEq_int, qEq_str, qEq_bl, qNe_int, qNe_str, qNe_bl, line0, line1, line2, line3, line4, line6, line7, line10, isi_list_lst, isi_list_tup, isi_list_non, isi_list_str, isi_list_int, isi_tup_tup, isi_bool_bl, isi_bool_int, isi_int_int, isi_int_bl, isi_int_non, isi_int_str, isi_str_str, isi_str_non, isi_str_int, startE_c, startE_n, startE_e, wFor_e, wLc_e, wipeE, wgName, wgTup, wgCons, wgNil, List.getElem?_cons_zero, List.getElem?_cons_succ, List.set_cons_zero, List.set_cons_succ, List.length_cons, List.length_nil, Mi.wC, Mi.wVar, Mi.wVarO, Mi.wOp, Mi.wUn, Mi.wCmp, Mi.wCmpT, Mi.wChainT, Mi.wChain, Mi.wTru, Mi.wAndT, Mi.wOrT, Mi.wNotT, Mi.wAnd, Mi.wOr, Mi.wNot, Mi.wIfE, Mi.wNoPart, Mi.wPart, Mi.wSl, Mi.wNil, Mi.wCons, Mi.wTup, Mi.wLst, Mi.wNext, Mi.wSeq, Mi.wFreeze, Mi.wForget, Mi.wBreak, Mi.wCont, Mi.wRet, Mi.wRetO, Mi.wRetN, Mi.wDrop, Mi.wIf, Mi.wNever, Mi.wAsg, Mi.wSetO, Mi.wPar, Mi.wAug, Mi.wApp, Mi.wSetIx, Mi.wExt, Mi.wItems, Mi.wRng1, Mi.wRng2, Mi.wRng3, Mi.wEnum, Mi.wZip, Mi.wYes, Mi.wCall, Mi.wCallX, Mi.wB2, Mi.wMin3, Mi.wIsi, Mi.wGuard, Mi.wGuardD, Mi.wRaise]
            refine ite_i (fun e4 => qEq_tup hd (ok_stay i j) ?_) fun e4 => ?_
            · have e4 := of_decide_eq_true e4
              simp [h2, h3, e4]
            · have e4 := of_decide_eq_false e4
              simp [h2, h3, e4]
          · have h3 : ¬ j < B.length := by have := of_decide_eq_false e3; omega
            simp [h3]
          · have h2 : ¬ i < A.length := by have := of_decide_eq_false e2; omega
            simp [h2]
        · simp only [e_qI, e_qIC, e_add1, e_add2, e_add3, e_add4, e_catL, e_aug1, e_aug2, e_mul1, e_mul2, e_rep, e_div, e_mod, e_neg, e_ord1, e_ord2, e_isn, e_nin, e_non1, e_non2, e_non3, e_non4, e_non5, e_non6, e_tru1, e_tru2, e_tru3, e_tru4, e_tru5, e_tru6, e_tru7, e_sl1, e_sl2, e_sl3, e_sl4, e_rev, e_it1, e_it2, e_it3, e_len1, e_len2, e_len3, e_len4, e_int1, e_int2, e_int3, e_min, e_max, e_min3, e_lst1, e_lst2, e_tup1, e_tup2, e_str, e_abs, e_lenS, e_ixS, Mi.qLt, Mi.qLe, Mi.qGt, Mi.qGe, List.map_cons, List.map_nil, List.length_map, true_and, and_true, Bool.false_eq_true, if_false, if_true, Bool.not_true, Bool.not_false, qEq_int, qEq_str, qEq_bl, qNe_int, qNe_str, qNe_bl, line0, line1, line2, line3, line4, line6, line7, line10, isi_list_lst, isi_list_tup, isi_list_non, isi_list_str, isi_list_int, isi_tup_tup, isi_bool_bl, isi_bool_int, isi_int_int, isi_int_bl, isi_int_non, isi_int_str, isi_str_str, isi_str_non, isi_str_int, startE_c, startE_n, startE_e, wFor_e, wLc_e, wipeE, wgName, wgTup, wgCons, wgNil, List.getElem?_cons_zero, List.getElem?_cons_succ, List.set_cons_zero, List.set_cons_succ, List.length_cons, List.length_nil, Mi.wC, Mi.wVar, Mi.wVarO, Mi.wOp, Mi.wUn, Mi.wCmp, Mi.wCmpT, Mi.wChainT, Mi.wChain, Mi.wTru, Mi.wAndT, Mi.wOrT, Mi.wNotT, Mi.wAnd, Mi.wOr, Mi.wNot, Mi.wIfE, Mi.wNoPart, Mi.wPart, Mi.wSl, Mi.wNil, Mi.wCons, Mi.wTup, Mi.wLst, Mi.wNext, Mi.wSeq, Mi.wFreeze, Mi.wForget, Mi.wBreak, Mi.wCont, Mi.wRet, Mi.wRetO, Mi.wRetN, Mi.wDrop, Mi.wIf, Mi.wNever, Mi.wAsg, Mi.wSetO, Mi.wPar, Mi.wAug, Mi.wApp, Mi.wSetIx, Mi.wExt, Mi.wItems, Mi.wRng1, Mi.wRng2, Mi.wRng3, Mi.wEnum, Mi.wZip, Mi.wYes, Mi.wCall, Mi.wCallX, Mi.wB2, Mi.wMin3, Mi.wIsi, Mi.wGuard, Mi.wGuardD, Mi.wRaise]
          rw [if_pos e] at he
          exact ⟨st d, i + 1, j + 1, rfl, he⟩
        · rw [e, if_neg Bool.false_ne_true] at he
          refine ifD_i (eqD d (.tup [.str "come", .int j]) && decide (j < B.length)) ?_ (fun e2 => ?_) fun e2 => ?_
          · simp only [e_qI, e_qIC, e_add1, e_add2, e_add3, e_add4, e_catL, e_aug1, e_aug2, e_mul1, e_mul2, e_rep, e_div, e_mod, e_neg, e_ord1, e_ord2, e_isn, e_nin, e_non1, e_non2, e_non3, e_non4, e_non5, e_non6, e_tru1, e_tru2, e_tru3, e_tru4, e_tru5, e_tru6, e_tru7, e_sl1, e_sl2, e_sl3, e_sl4, e_rev, e_it1, e_it2, e_it3, e_len1, e_len2, e_len3, e_len4, e_int1, e_int2, e_int3, e_min, e_max, e_min3, e_lst1, e_lst2, e_tup1, e_tup2, e_str, e_abs, e_lenS, e_ixS, Mi.qLt, Mi.qLe, Mi.qGt, Mi.qGe, List.map_cons, List.map_nil, List.length_map, true_and, and_true, Bool.false_eq_true, if_false, if_true, Bool.not_true, Bool.not_false, qEq_int, qEq_str, qEq_bl, qNe_int, qNe_str, qNe_bl, line0, line1, line2, line3, line4, line6, line7, line10, isi_list_lst, isi_list_tup, isi_list_non, isi_list_str, isi_list_int, isi_tup_tup, isi_bool_bl, isi_bool_int, isi_int_int, isi_int_bl, isi_int_non, isi_int_str, isi_str_str, isi_str_non, isi_str_int, startE_c, startE_n, startE_e, wFor_e, wLc_e, wipeE, wgName, wgTup, wgCons, wgNil, List.getElem?_cons_zero, List.getElem?_cons_succ, List.set_cons_zero, List.set_cons_succ, List.length_cons, List.length_nil, Mi.wC, Mi.wVar, Mi.wVarO, Mi.wOp, Mi.wUn, Mi.wCmp, Mi.wCmpT, Mi.wChainT, Mi.wChain, Mi.wTru, Mi.wAndT, Mi.wOrT, Mi.wNotT, Mi.wAnd, Mi.wOr, Mi.wNot, Mi.wIfE, Mi.wNoPart, Mi.wPart, Mi.wSl, Mi.wNil, Mi.wCons, Mi.wTup, Mi.wLst, Mi.wNext, Mi.wSeq, Mi.wFreeze, Mi.wForget, Mi.wBreak, Mi.wCont, Mi.wRet, Mi.wRetO, Mi.wRetN, Mi.wDrop, Mi.wIf, Mi.wNever, Mi.wAsg, Mi.wSetO, Mi.wPar, Mi.wAug, Mi.wApp, Mi.wSetIx, Mi.wExt, Mi.wItems, Mi.wRng1, Mi.wRng2, Mi.wRng3, Mi.wEnum, Mi.wZip, Mi.wYes, Mi.wCall, Mi.wCallX, Mi.wB2, Mi.wMin3, Mi.wIsi, Mi.wGuard, Mi.wGuardD, Mi.wRaise]
            refine ite_i (fun e1 => qEq_tup hd (ok_come j) ?_) fun e1 => ?_
            · have h3 : j < B.length := by have := of_decide_eq_true e1; omega
              simp [h3]
            · have h3 : ¬ j < B.length := by have := of_decide_eq_false e1; omega
              simp [h3]
          · simp only [e_qI, e_qIC, e_add1, e_add2, e_add3, e_add4, e_catL, e_aug1, e_aug2, e_mul1, e_mul2, e_rep, e_div, e_mod, e_neg, e_ord1, e_ord2, e_isn, e_nin, e_non1, e_non2, e_non3, e_non4, e_non5, e_non6, e_tru1, e_tru2, e_tru3, e_tru4, e_tru5, e_tru6, e_tru7, e_sl1, e_sl2, e_sl3, e_sl4, e_rev, e_it1, e_it2, e_it3, e_len1, e_len2, e_len3, e_len4, e_int1, e_int2, e_int3, e_min, e_max, e_min3, e_lst1, e_lst2, e_tup1, e_tup2, e_str, e_abs, e_lenS, e_ixS, Mi.qLt, Mi.qLe, Mi.qGt, Mi.qGe, List.map_cons, List.map_nil, List.length_map, true_and, and_true, Bool.false_eq_true, if_false, if_true, Bool.not_true, Bool.not_false, qEq_int, qEq_str, qEq_bl, qNe_int, qNe_str, qNe_bl, line0, line1, line2, line3, line4, line6, line7, line10, isi_list_lst, isi_list_tup, isi_list_non, isi_list_str, isi_list_int, isi_tup_tup, isi_bool_bl, isi_bool_int, isi_int_int, isi_int_bl, isi_int_non, isi_int_str, isi_str_str, isi_str_non, isi_str_int, startE_c, startE_n, startE_e, wFor_e, wLc_e, wipeE, wgName, wgTup, wgCons, wgNil, List.getElem?_cons_zero, List.getElem?_cons_succ, List.set_cons_zero, List.set_cons_succ, List.length_cons, List.length_nil, Mi.wC, Mi.wVar, Mi.wVarO, Mi.wOp, Mi.wUn, Mi.wCmp, Mi.wCmpT, Mi.wChainT, Mi.wChain, Mi.wTru, Mi.wAndT, Mi.wOrT, Mi.wNotT, Mi.wAnd, Mi.wOr, Mi.wNot, Mi.wIfE, Mi.wNoPart, Mi.wPart, Mi.wSl, Mi.wNil, Mi.wCons, Mi.wTup, Mi.wLst, Mi.wNext, Mi.wSeq, Mi.wFreeze, Mi.wForget, Mi.wBreak, Mi.wCont, Mi.wRet, Mi.wRetO, Mi.wRetN, Mi.wDrop, Mi.wIf, Mi.wNever, Mi.wAsg, Mi.wSetO, Mi.wPar, Mi.wAug, Mi.wApp, Mi.wSetIx, Mi.wExt, Mi.wItems, Mi.wRng1, Mi.wRng2, Mi.wRng3, Mi.wEnum, Mi.wZip, Mi.wYes, Mi.wCall, Mi.wCallX, Mi.wB2, Mi.wMin3, Mi.wIsi, Mi.wGuard, Mi.wGuardD, Mi.wRaise]
            rw [if_pos e2] at he
            exact ⟨st d, i, j + 1, rfl, he⟩
          · rw [e2, if_neg Bool.false_ne_true] at he
            refine ifD_i (eqD d (.tup [.str "go", .int i]) && decide (i < A.length)) ?_ (fun e3 => ?_) fun e3 => ?_
            · simp only [e_qI, e_qIC, e_add1, e_add2, e_add3, e_add4, e_catL, e_aug1, e_aug2, e_mul1, e_mul2, e_rep, e_div, e_mod, e_neg, e_ord1, e_ord2, e_isn, e_nin, e_non1, e_non2, e_non3, e_non4, e_non5, e_non6, e_tru1, e_tru2, e_tru3, e_tru4, e_tru5, e_tru6, e_tru7, e_sl1, e_sl2, e_sl3, e_sl4, e_rev, e_it1, e_it2, e_it3, e_len1, e_len2, e_len3, e_len4, e_int1, e_int2, e_int3, e_min, e_max, e_min3, e_lst1, e_lst2, e_tup1, e_tup2, e_str, e_abs, e_lenS, e_ixS, Mi.qLt, Mi.qLe, Mi.qGt, Mi.qGe, List.map_cons, List.map_nil, List.length_map, true_and, and_true, Bool.false_eq_true, if_false, if_true, Bool.not_true, Bool.not_false, qEq_int, qEq_str, qEq_bl, qNe_int, qNe_str, qNe_bl, line0, line1, line2, line3, line4, line6, line7, line10, isi_list_lst, isi_list_tup, isi_list_non, isi_list_str, isi_list_int, isi_tup_tup, isi_bool_bl, isi_bool_int, isi_int_int, isi_int_bl, isi_int_non, isi_int_str, isi_str_str, isi_str_non, isi_str_int, startE_c, startE_n, startE_e, wFor_e, wLc_e, wipeE, wgName, wgTup, wgCons, wgNil, List.getElem?_cons_zero, List.getElem?_cons_succ, List.set_cons_zero, List.set_cons_succ, List.length_cons, List.length_nil, Mi.wC, Mi.wVar, Mi.wVarO, Mi.wOp, Mi.wUn, Mi.wCmp, Mi.wCmpT, Mi.wChainT, Mi.wChain, Mi.wTru, Mi.wAndT, Mi.wOrT, Mi.wNotT, Mi.wAnd, Mi.wOr, Mi.wNot, Mi.wIfE, Mi.wNoPart, Mi.wPart, Mi.wSl, Mi.wNil, Mi.wCons, Mi.wTup, Mi.wLst, Mi.wNext, Mi.wSeq, Mi.wFreeze, Mi.wForget, Mi.wBreak, Mi.wCont, Mi.wRet, Mi.wRetO, Mi.wRetN, Mi.wDrop, Mi.wIf, Mi.wNever, Mi.wAsg, Mi.wSetO, Mi.wPar, Mi.wAug, Mi.wApp, Mi.wSetIx, Mi.wExt, Mi.wItems, Mi.wRng1, Mi.wRng2, Mi.wRng3, Mi.wEnum, Mi.wZip, Mi.wYes, Mi.wCall, Mi.wCallX, Mi.wB2, Mi.wMin3, Mi.wIsi, Mi.wGuard, Mi.wGuardD, Mi.wRaise]
              refine ite_i (fun e1 => qEq_tup hd (ok_go i) ?_) fun e1 => ?_
              · have h3 : i < A.length := by have := of_decide_eq_true e1; omega
                simp [h3]
              · have h3 : ¬ i < A.length := by have := of_decide_eq_false e1; omega
                simp [h3]
            · simp only [e_qI, e_qIC, e_add1, e_add2, e_add3, e_add4, e_catL, e_aug1, e_aug2, e_mul1, e_mul2, e_rep, e_div, e_mod, e_neg, e_ord1, e_ord2, e_isn, e_nin, e_non1, e_non2, e_non3, e_non4, e_non5, e_non6, e_tru1, e_tru2, e_tru3, e_tru4, e_tru5, e_tru6, e_tru7, e_sl1, e_sl2, e_sl3, e_sl4, e_rev, e_it1, e_it2, e_it3, e_len1, e_len2, e_len3, e_len4, e_int1, e_int2, e_int3, e_min, e_max, e_min3, e_lst1, e_lst2, e_tup1, e_tup2, e_str, e_abs, e_lenS, e_ixS, Mi.qLt, Mi.qLe, Mi.qGt, Mi.qGe, List.map_cons, List.map_nil, List.length_map, true_and, and_true, Bool.false_eq_true, if_false, if_true, Bool.not_true, Bool.not_false, qEq_int, qEq_str, qEq_bl, qNe_int, qNe_str, qNe_bl, line0, line1, line2, line3, line4, line6, line7, line10, isi_list_lst, isi_list_tup, isi_list_non, isi_list_str, isi_list_int, isi_tup_tup, isi_bool_bl, isi_bool_int, isi_int_int, isi_int_bl, isi_int_non, isi_int_str, isi_str_str, isi_str_non, isi_str_int, startE_c, startE_n, startE_e, wFor_e, wLc_e, wipeE, wgName, wgTup, wgCons, wgNil, List.getElem?_cons_zero, List.getElem?_cons_succ, List.set_cons_zero, List.set_cons_succ, List.length_cons, List.length_nil, Mi.wC, Mi.wVar, Mi.wVarO, Mi.wOp, Mi.wUn, Mi.wCmp, Mi.wCmpT, Mi.wChainT, Mi.wChain, Mi.wTru, Mi.wAndT, Mi.wOrT, Mi.wNotT, Mi.wAnd, Mi.wOr, Mi.wNot, Mi.wIfE, Mi.wNoPart, Mi.wPart, Mi.wSl, Mi.wNil, Mi.wCons, Mi.wTup, Mi.wLst, Mi.wNext, Mi.wSeq, Mi.wFreeze, Mi.wForget, Mi.wBreak, Mi.wCont, Mi.wRet, Mi.wRetO, Mi.wRetN, Mi.wDrop, Mi.wIf, Mi.wNever, Mi.wAsg, Mi.wSetO, Mi.wPar, Mi.wAug, Mi.wApp, Mi.wSetIx, Mi.wExt, Mi.wItems, Mi.wRng1, Mi.wRng2, Mi.wRng3, Mi.wEnum, Mi.wZip, Mi.wYes, Mi.wCall, Mi.wCallX, Mi.wB2, Mi.wMin3, Mi.wIsi, Mi.wGuard, Mi.wGuardD, Mi.wRaise]
              rw [if_pos e3] at he
              exact ⟨st d, i + 1, j, rfl, he⟩
            · rw [e3, if_neg Bool.false_ne_true] at he
              simp only [e_qI, e_qIC, e_add1, e_add2, e_add3, e_add4, e_catL, e_aug1, e_aug2, e_mul1, e_mul2, e_rep, e_div, e_mod, e_neg, e_ord1, e_ord2, e_isn, e_nin, e_non1, e_non2, e_non3, e_non4, e_non5, e_non6, e_tru1, e_tru2, e_tru3, e_tru4, e_tru5, e_tru6, e_tru7, e_sl1, e_sl2, e_sl3, e_sl4, e_rev, e_it1, e_it2, e_it3, e_len1, e_len2, e_len3, e_len4, e_int1, e_int2, e_int3, e_min, e_max, e_min3, e_lst1, e_lst2, e_tup1, e_tup2, e_str, e_abs, e_lenS, e_ixS, Mi.qLt, Mi.qLe, Mi.qGt, Mi.qGe, List.map_cons, List.map_nil, List.length_map, true_and, and_true, Bool.false_eq_true, if_false, if_true, Bool.not_true, Bool.not_false, qEq_int, qEq_str, qEq_bl, qNe_int, qNe_str, qNe_bl, line0, line1, line2, line3, line4, line6, line7, line10, isi_list_lst, isi_list_tup, isi_list_non, isi_list_str, isi_list_int, isi_tup_tup, isi_bool_bl, isi_bool_int, isi_int_int, isi_int_bl, isi_int_non, isi_int_str, isi_str_str, isi_str_non, isi_str_int, startE_c, startE_n, startE_e, wFor_e, wLc_e, wipeE, wgName, wgTup, wgCons, wgNil, List.getElem?_cons_zero, List.getElem?_cons_succ, List.set_cons_zero, List.set_cons_succ, List.length_cons, List.length_nil, Mi.wC, Mi.wVar, Mi.wVarO, Mi.wOp, Mi.wUn, Mi.wCmp, Mi.wCmpT, Mi.wChainT, Mi.wChain, Mi.wTru, Mi.wAndT, Mi.wOrT, Mi.wNotT, Mi.wAnd, Mi.wOr, Mi.wNot, Mi.wIfE, Mi.wNoPart, Mi.wPart, Mi.wSl, Mi.wNil, Mi.wCons, Mi.wTup, Mi.wLst, Mi.wNext, Mi.wSeq, Mi.wFreeze, Mi.wForget, Mi.wBreak, Mi.wCont, Mi.wRet, Mi.wRetO, Mi.wRetN, Mi.wDrop, Mi.wIf, Mi.wNever, Mi.wAsg, Mi.wSetO, Mi.wPar, Mi.wAug, Mi.wApp, Mi.wSetIx, Mi.wExt, Mi.wItems, Mi.wRng1, Mi.wRng2, Mi.wRng3, Mi.wEnum, Mi.wZip, Mi.wYes, Mi.wCall, Mi.wCallX, Mi.wB2, Mi.wMin3, Mi.wIsi, Mi.wGuard, Mi.wGuardD, Mi.wRaise]
              have : areD A B (.lst xs) = false := he
              rw [this] at h
              exact h
      · rintro δ' ⟨c3, i, j, rfl, he⟩
        rw [List.drop_of_length_le (Nat.le_refl _), areL] at he
        exact ⟨_, i, j, rfl, he⟩
    · rintro δ' ⟨c3, i, j, rfl, he⟩
      simp only [e_qI, e_qIC, e_add1, e_add2, e_add3, e_add4, e_catL, e_aug1, e_aug2, e_mul1, e_mul2, e_rep, e_div, e_mod, e_neg, e_ord1, e_ord2, e_isn, e_nin, e_non1, e_non2, e_non3, e_non4, e_non5, e_non6, e_tru1, e_tru2, e_tru3, e_tru4, e_tru5, e_tru6, e_tru7, e_sl1, e_sl2, e_sl3, e_sl4, e_rev, e_it1, e_it2, e_it3, e_len1, e_len2, e_len3, e_len4, e_int1, e_int2, e_int3, e_min, e_max, e_min3, e_lst1, e_lst2, e_tup1, e_tup2, e_str, e_abs, e_lenS, e_ixS, Mi.qLt, Mi.qLe, Mi.qGt, Mi.qGe, List.map_cons, List.map_nil, List.length_map, true_and, and_true, Bool.false_eq_true, if_false, if_true, Bool.not_true, Bool.not_false, qEq_int, qEq_str, qEq_bl, qNe_int, qNe_str, qNe_bl, line0, line1, line2, line3, line4, line6, line7, line10, isi_list_lst, isi_list_tup, isi_list_non, isi_list_str, isi_list_int, isi_tup_tup, isi_bool_bl, isi_bool_int, isi_int_int, isi_int_bl, isi_int_non, isi_int_str, isi_str_str, isi_str_non, isi_str_int, startE_c, startE_n, startE_e, wFor_e, wLc_e, wipeE, wgName, wgTup, wgCons, wgNil, List.getElem?_cons_zero, List.getElem?_cons_succ, List.set_cons_zero, List.set_cons_succ, List.length_cons, List.length_nil, Mi.wC, Mi.wVar, Mi.wVarO, Mi.wOp, Mi.wUn, Mi.wCmp, Mi.wCmpT, Mi.wChainT, Mi.wChain, Mi.wTru, Mi.wAndT, Mi.wOrT, Mi.wNotT, Mi.wAnd, Mi.wOr, Mi.wNot, Mi.wIfE, Mi.wNoPart, Mi.wPart, Mi.wSl, Mi.wNil, Mi.wCons, Mi.wTup, Mi.wLst, Mi.wNext, Mi.wSeq, Mi.wFreeze, Mi.wForget, Mi.wBreak, Mi.wCont, Mi.wRet, Mi.wRetO, Mi.wRetN, Mi.wDrop, Mi.wIf, Mi.wNever, Mi.wAsg, Mi.wSetO, Mi.wPar, Mi.wAug, Mi.wApp, Mi.wSetIx, Mi.wExt, Mi.wItems, Mi.wRng1, Mi.wRng2, Mi.wRng3, Mi.wEnum, Mi.wZip, Mi.wYes, Mi.wCall, Mi.wCallX, Mi.wB2, Mi.wMin3, Mi.wIsi, Mi.wGuard, Mi.wGuardD, Mi.wRaise]
      have : areD A B (.lst xs) = _ := he
      rw [this] at h
      refine ite_i (fun e => ?_) fun e => ?_
      · have e := of_decide_eq_true e
        have e' : i = A.length := by omega
        rw [e', decide_eq_true rfl, Bool.true_and] at h
        have : decide ((j : Int) = (B.length : Int)) = decide (j = B.length) := by congr 1; rw [eq_iff_iff]; omega
        rw [this]
        exact h
      · have e' : ¬ i = A.length := by have := of_decide_eq_false e; omega
        rw [decide_eq_false e', Bool.false_and] at h
        rw [e]
        exact h
  · simp only [e_qI, e_qIC, e_add1, e_add2, e_add3, e_add4, e_catL, e_aug1, e_aug2, e_mul1, e_mul2, e_rep, e_div, e_mod, e_neg, e_ord1, e_ord2, e_isn, e_nin, e_non1, e_non2, e_non3, e_non4, e_non5, e_non6, e_tru1, e_tru2, e_tru3, e_tru4, e_tru5, e_tru6, e_tru7, e_sl1, e_sl2, e_sl3, e_sl4, e_rev, e_it1, e_it2, e_it3, e_len1, e_len2, e_len3, e_len4, e_int1, e_int2, e_int3, e_min, e_max, e_min3, e_lst1, e_lst2, e_tup1, e_tup2, e_str, e_abs, e_lenS, e_ixS, Mi.qLt, Mi.qLe, Mi.qGt, Mi.qGe, List.map_cons, List.map_nil, List.length_map, true_and, and_true, Bool.false_eq_true, if_false, if_true, Bool.not_true, Bool.not_false, qEq_int, qEq_str, qEq_bl, qNe_int, qNe_str, qNe_bl, line0, line1, line2, line3, line4, line6, line7, line10, isi_list_lst, isi_list_tup, isi_list_non, isi_list_str, isi_list_int, isi_tup_tup, isi_bool_bl, isi_bool_int, isi_int_int, isi_int_bl, isi_int_non, isi_int_str, isi_str_str, isi_str_non, isi_str_int, startE_c, startE_n, startE_e, wFor_e, wLc_e, wipeE, wgName, wgTup, wgCons, wgNil, List.getElem?_cons_zero, List.getElem?_cons_succ, List.set_cons_zero, List.set_cons_succ, List.length_cons, List.length_nil, Mi.wC, Mi.wVar, Mi.wVarO, Mi.wOp, Mi.wUn, Mi.wCmp, Mi.wCmpT, Mi.wChainT, Mi.wChain, Mi.wTru, Mi.wAndT, Mi.wOrT, Mi.wNotT, Mi.wAnd, Mi.wOr, Mi.wNot, Mi.wIfE, Mi.wNoPart, Mi.wPart, Mi.wSl, Mi.wNil, Mi.wCons, Mi.wTup, Mi.wLst, Mi.wNext, Mi.wSeq, Mi.wFreeze, Mi.wForget, Mi.wBreak, Mi.wCont, Mi.wRet, Mi.wRetO, Mi.wRetN, Mi.wDrop, Mi.wIf, Mi.wNever, Mi.wAsg, Mi.wSetO, Mi.wPar, Mi.wAug, Mi.wApp, Mi.wSetIx, Mi.wExt, Mi.wItems, Mi.wRng1, Mi.wRng2, Mi.wRng3, Mi.wEnum, Mi.wZip, Mi.wYes, Mi.wCall, Mi.wCallX, Mi.wB2, Mi.wMin3, Mi.wIsi, Mi.wGuard, Mi.wGuardD, Mi.wRaise]; exact h
  · simp only [e_qI, e_qIC, e_add1, e_add2, e_add3, e_add4, e_catL, e_aug1, e_aug2, e_mul1, e_mul2, e_rep, e_div, e_mod, e_neg, e_ord1, e_ord2, e_isn, e_nin, e_non1, e_non2, e_non3, e_non4, e_non5, e_non6, e_tru1, e_tru2, e_tru3, e_tru4, e_tru5, e_tru6, e_tru7, e_sl1, e_sl2, e_sl3, e_sl4, e_rev, e_it1, e_it2, e_it3, e_len1, e_len2, e_len3, e_len4, e_int1, e_int2, e_int3, e_min, e_max, e_min3, e_lst1, e_lst2, e_tup1, e_tup2, e_str, e_abs, e_lenS, e_ixS, Mi.qLt, Mi.qLe, Mi.qGt, Mi.qGe, List.map_cons, List.map_nil, List.length_map, true_and, and_true, Bool.false_eq_true, if_false, if_true, Bool.not_true, Bool.not_false, qEq_int, qEq_str, qEq_bl, qNe_int, qNe_str, qNe_bl, line0, line1, line2, line3, line4, line6, line7, line10, isi_list_lst, isi_list_tup, isi_list_non, isi_list_str, isi_list_int, isi_tup_tup, isi_bool_bl, isi_bool_int, isi_int_int, isi_int_bl, isi_int_non, isi_int_str, isi_str_str, isi_str_non, isi_str_int, startE_c, startE_n, startE_e, wFor_e, wLc_e, wipeE, wgName, wgTup, wgCons, wgNil, List.getElem?_cons_zero, List.getElem?_cons_succ, List.set_cons_zero, List.set_cons_succ, List.length_cons, List.length_nil, Mi.wC, Mi.wVar, Mi.wVarO, Mi.wOp, Mi.wUn, Mi.wCmp, Mi.wCmpT, Mi.wChainT, Mi.wChain, Mi.wTru, Mi.wAndT, Mi.wOrT, Mi.wNotT, Mi.wAnd, Mi.wOr, Mi.wNot, Mi.wIfE, Mi.wNoPart, Mi.wPart, Mi.wSl, Mi.wNil, Mi.wCons, Mi.wTup, Mi.wLst, Mi.wNext, Mi.wSeq, Mi.wFreeze, Mi.wForget, Mi.wBreak, Mi.wCont, Mi.wRet, Mi.wRetO, Mi.wRetN, Mi.wDrop, Mi.wIf, Mi.wNever, Mi.wAsg, Mi.wSetO, Mi.wPar, Mi.wAug, Mi.wApp, Mi.wSetIx, Mi.wExt, Mi.wItems, Mi.wRng1, Mi.wRng2, Mi.wRng3, Mi.wEnum, Mi.wZip, Mi.wYes, Mi.wCall, Mi.wCallX, Mi.wB2, Mi.wMin3, Mi.wIsi, Mi.wGuard, Mi.wGuardD, Mi.wRaise]; exact h
  · simp only [e_qI, e_qIC, e_add1, e_add2, e_add3, e_add4, e_catL, e_aug1, e_aug2, e_mul1, e_mul2, e_rep, e_div, e_mod, e_neg, e_ord1, e_ord2, e_isn, e_nin, e_non1, e_non2, e_non3, e_non4, e_non5, e_non6, e_tru1, e_tru2, e_tru3, e_tru4, e_tru5, e_tru6, e_tru7, e_sl1, e_sl2, e_sl3, e_sl4, e_rev, e_it1, e_it2, e_it3, e_len1, e_len2, e_len3, e_len4, e_int1, e_int2, e_int3, e_min, e_max, e_min3, e_lst1, e_lst2, e_tup1, e_tup2, e_str, e_abs, e_lenS, e_ixS, Mi.qLt, Mi.qLe, Mi.qGt, Mi.qGe, List.map_cons, List.map_nil, List.length_map, true_and, and_true, Bool.false_eq_true, if_false, if_true, Bool.not_true, Bool.not_false, qEq_int, qEq_str, qEq_bl, qNe_int, qNe_str, qNe_bl, line0, line1, line2, line3, line4, line6, line7, line10, isi_list_lst, isi_list_tup, isi_list_non, isi_list_str, isi_list_int, isi_tup_tup, isi_bool_bl, isi_bool_int, isi_int_int, isi_int_bl, isi_int_non, isi_int_str, isi_str_str, isi_str_non, isi_str_int, startE_c, startE_n, startE_e, wFor_e, wLc_e, wipeE, wgName, wgTup, wgCons, wgNil, List.getElem?_cons_zero, List.getElem?_cons_succ, List.set_cons_zero, List.set_cons_succ, List.length_cons, List.length_nil, Mi.wC, Mi.wVar, Mi.wVarO, Mi.wOp, Mi.wUn, Mi.wCmp, Mi.wCmpT, Mi.wChainT, Mi.wChain, Mi.wTru, Mi.wAndT, Mi.wOrT, Mi.wNotT, Mi.wAnd, Mi.wOr, Mi.wNot, Mi.wIfE, Mi.wNoPart, Mi.wPart, Mi.wSl, Mi.wNil, Mi.wCons, Mi.wTup, Mi.wLst, Mi.wNext, Mi.wSeq, Mi.wFreeze, Mi.wForget, Mi.wBreak, Mi.wCont, Mi.wRet, Mi.wRetO, Mi.wRetN, Mi.wDrop, Mi.wIf, Mi.wNever, Mi.wAsg, Mi.wSetO, Mi.wPar, Mi.wAug, Mi.wApp, Mi.wSetIx, Mi.wExt, Mi.wItems, Mi.wRng1, Mi.wRng2, Mi.wRng3, Mi.wEnum, Mi.wZip, Mi.wYes, Mi.wCall, Mi.wCallX, Mi.wB2, Mi.wMin3, Mi.wIsi, Mi.wGuard, Mi.wGuardD, Mi.wRaise]; exact h
  · simp only [e_qI, e_qIC, e_add1, e_add2, e_add3, e_add4, e_catL, e_aug1, e_aug2, e_mul1, e_mul2, e_rep, e_div, e_mod, e_neg, e_ord1, e_ord2, e_isn, e_nin, e_non1, e_non2, e_non3, e_non4, e_non5, e_non6, e_tru1, e_tru2, e_tru3, e_tru4, e_tru5, e_tru6, e_tru7, e_sl1, e_sl2, e_sl3, e_sl4, e_rev, e_it1, e_it2, e_it3, e_len1, e_len2, e_len3, e_len4, e_int1, e_int2, e_int3, e_min, e_max, e_min3, e_lst1, e_lst2, e_tup1, e_tup2, e_str, e_abs, e_lenS, e_ixS, Mi.qLt, Mi.qLe, Mi.qGt, Mi.qGe, List.map_cons, List.map_nil, List.length_map, true_and, and_true, Bool.false_eq_true, if_false, if_true, Bool.not_true, Bool.not_false, qEq_int, qEq_str, qEq_bl, qNe_int, qNe_str, qNe_bl, line0, line1, line2, line3, line4, line6, line7, line10, isi_list_lst, isi_list_tup, isi_list_non, isi_list_str, isi_list_int, isi_tup_tup, isi_bool_bl, isi_bool_int, isi_int_int, isi_int_bl, isi_int_non, isi_int_str, isi_str_str, isi_str_non, isi_str_int, startE_c, startE_n, startE_e, wFor_e, wLc_e, wipeE, wgName, wgTup, wgCons, wgNil, List.getElem?_cons_zero, List.getElem?_cons_succ, List.set_cons_zero, List.set_cons_succ, List.length_cons, List.length_nil, Mi.wC, Mi.wVar, Mi.wVarO, Mi.wOp, Mi.wUn, Mi.wCmp, Mi.wCmpT, Mi.wChainT, Mi.wChain, Mi.wTru, Mi.wAndT, Mi.wOrT, Mi.wNotT, Mi.wAnd, Mi.wOr, Mi.wNot, Mi.wIfE, Mi.wNoPart, Mi.wPart, Mi.wSl, Mi.wNil, Mi.wCons, Mi.wTup, Mi.wLst, Mi.wNext, Mi.wSeq, Mi.wFreeze, Mi.wForget, Mi.wBreak, Mi.wCont, Mi.wRet, Mi.wRetO, Mi.wRetN, Mi.wDrop, Mi.wIf, Mi.wNever, Mi.wAsg, Mi.wSetO, Mi.wPar, Mi.wAug, Mi.wApp, Mi.wSetIx, Mi.wExt, Mi.wItems, Mi.wRng1, Mi.wRng2, Mi.wRng3, Mi.wEnum, Mi.wZip, Mi.wYes, Mi.wCall, Mi.wCallX, Mi.wB2, Mi.wMin3, Mi.wIsi, Mi.wGuard, Mi.wGuardD, Mi.wRaise]; exact h

end
end K86
namespace K86
open PySem L2 Evl Mi
section
variable {P : Program} {w : World} {K : PySem.W.Frag} {mg : Str → Option Value} {base : Heap} {g : G}
def rowL (A B : List Str) (i : Nat) : List D := (List.range (B.length + 1)).map fun j => .int (lv A B i j : Nat)
def rowsL (A B : List Str) : List D := (List.range (A.length + 1)).map fun i => .lst (rowL A B i)
theorem rows_get {A B : List Str} {i : Nat} (h : i ≤ A.length) : (rowsL A B)[i]? = some (.lst (rowL A B i)) := by
  unfold rowsL; rw [List.getElem?_map, List.getElem?_range (by omega)]; rfl
theorem row_get {A B : List Str} {i j : Nat} (h : j ≤ B.length) : (rowL A B i)[j]? = some (.int (lv A B i j : Nat)) := by
  unfold rowL; rw [List.getElem?_map, List.getElem?_range (by omega)]; rfl
def c_least : CT := fun ds EX P => ∃ A B, ds = [SS A, SS B] ∧ A.length ≤ 100 ∧ B.length ≤ 100 ∧ P (.lst (rowsL A B))
def c_due : CT := fun ds EX P => ∃ A B T, ds = [SS A, SS B] ∧ A.length ≤ 100 ∧ B.length ≤ 100 ∧ IsT A B T ∧ P (.lst (dueL A B T))
theorem due_succ (A B : List Str) (t : Nat) : dueL A B (t + 1) = dueL A B t ++ [(chg A B (at_ A B t)).d] := by
  unfold dueL; rw [List.range_succ, List.map_append]; rfl
abbrev s_law_due : Stmt := topS 23
abbrev N_law_due : List Str := ["first", "second", "rows", "found", "turn", "i", "j"]
theorem sc_law_due : FnScope N_law_due ["first", "second"] (defScope s_law_due) := ⟨rfl, rfl, rfl, by decide +kernel, rfl, by decide +kernel, by decide +kernel⟩
theorem ok_law_due {f : Addr} {fd : FuncData} (F : Fun K "_law_due" "_law_due" s_law_due f fd) (T : Txt mg) (Z1 : Cal P w K mg base g false "_law_least" 2 c_least) : FnOk P w K mg base CX0 (2 + 1) f fd ["first", "second"] (spD K g false c_due) := by
  refine Mi.Fun.data F sc_law_due (fun ds EX Q ⟨_, _, _, h, _⟩ => by rw [h]; rfl) (fun cdv A outer s H E S0 H0 hr => (ms_cons (ms_set 2 sc_law_due.nd (me_call Z1 hr rfl (ma_cons (me_var 0) (ma_cons (me_var 1) ma_nil))))
  (ms_cons (ms_asg (vs := [5, 6]) (me_tup (ma_cons me_int (ma_cons me_int ma_nil))) (mg_tup 2 rfl (mgs_cons (mg_name 5 sc_law_due.nd) (mgs_cons (mg_name 6 sc_law_due.nd) mgs_nil)) rfl rfl (fun _ _ _ h => wgCons_len (fun _ _ _ h => wgCons_len (fun _ _ _ h => wgNil_len h) wgName_ex h) wgName_ex h)))
  (ms_cons (ms_setO 3 sc_law_due.nd (mf_lst ma_nil))
  (ms_cut (ms_for (vs := [4]) PassesOwn.never rfl (mi_range1 rfl T.range (mo_of (me_add (mo_of (me_len T.len rfl (mo_var 0))) (mo_of (me_len T.len rfl (mo_var 1)))))) (mg_name 4 sc_law_due.nd)
  (ms_one (ms_ifD (mt_w (mw_or (mt_lt (mo_var 5) (mo_of (me_len T.len rfl (mo_var 0)))) (mw_or1 (mt_lt (mo_var 6) (mo_of (me_len T.len rfl (mo_var 1)))))))
  (ms_one (ms_ifD (mt_w (mw_and (mt_lt (mo_var 6) (mo_of (me_len T.len rfl (mo_var 1)))) (mw_and1 (mt_eq hr.units (mo_of (me_ix hr.units (mo_of (me_ix hr.units (mo_var 2) (mo_var 5))) (mo_var 6))) (mo_of (me_add (mo_of me_int) (mo_of (me_ix hr.units (mo_of (me_ix hr.units (mo_var 2) (mo_var 5))) (mo_of (me_add (mo_var 6) (mo_of me_int)))))))))))
  (ms_cons (ms_app 3 (me_tup (ma_cons me_str (ma_cons (me_var 6) ma_nil))))
  (ms_one (ms_set 6 sc_law_due.nd (me_add (mo_var 6) (mo_of me_int)))))
  (ms_one (ms_ifD (mt_w (mw_and (mt_lt (mo_var 5) (mo_of (me_len T.len rfl (mo_var 0)))) (mw_and1 (mt_eq hr.units (mo_of (me_ix hr.units (mo_of (me_ix hr.units (mo_var 2) (mo_var 5))) (mo_var 6))) (mo_of (me_add (mo_of me_int) (mo_of (me_ix hr.units (mo_of (me_ix hr.units (mo_var 2) (mo_of (me_add (mo_var 5) (mo_of me_int))))) (mo_var 6)))))))))
  (ms_cons (ms_app 3 (me_tup (ma_cons me_str (ma_cons (me_var 5) ma_nil))))
  (ms_one (ms_set 5 sc_law_due.nd (me_add (mo_var 5) (mo_of me_int)))))
  (ms_cons (ms_app 3 (me_tup (ma_cons me_str (ma_cons (me_var 5) (ma_cons (me_var 6) ma_nil)))))
  (ms_one (ms_par 5 6 rfl sc_law_due.nd (me_add (mo_var 5) (mo_of me_int)) (me_add (mo_var 6) (mo_of me_int)))))))))
  ms_nil)))
  (ms_freeze 3 (ms_one (ms_ret rfl (me_var 3))))))))) (fun ds Q h => ?_) (fun ds EX Q h => h)
  obtain ⟨A, B, T', rfl, hA, hB, hT, h⟩ := h
  have hTl := isT_le hT
  simp only [e_qI, e_qIC, e_add1, e_add2, e_add3, e_add4, e_catL, e_aug1, e_aug2, e_mul1, e_mul2, e_rep, e_div, e_mod, e_neg, e_ord1, e_ord2, e_isn, e_nin, e_non1, e_non2, e_non3, e_non4, e_non5, e_non6, e_tru1, e_tru2, e_tru3, e_tru4, e_tru5, e_tru6, e_tru7, e_sl1, e_sl2, e_sl3, e_sl4, e_rev, e_it1, e_it2, e_it3, e_len1, e_len2, e_len3, e_len4, e_int1, e_int2, e_int3, e_min, e_max, e_min3, e_lst1, e_lst2, e_tup1, e_tup2, e_str, e_abs, e_lenS, e_ixS, Mi.qLt, Mi.qLe, Mi.qGt, Mi.qGe, List.map_cons, List.map_nil, List.length_map, true_and, and_true, Bool.false_eq_true, if_false, if_true, Bool.not_true, Bool.not_false, qEq_int, qEq_str, qEq_bl, qNe_int, qNe_str, qNe_bl, line0, line1, line2, line3, line4, line6, line7, line10, isi_list_lst, isi_list_tup, isi_list_non, isi_list_str, isi_list_int, isi_tup_tup, isi_bool_bl, isi_bool_int, isi_int_int, isi_int_bl, isi_int_non, isi_int_str, isi_str_str, isi_str_non, isi_str_int, startE_c, startE_n, startE_e, wFor_e, wLc_e, wipeE, wgName, wgTup, wgCons, wgNil, List.getElem?_cons_zero, List.getElem?_cons_succ, List.set_cons_zero, List.set_cons_succ, List.length_cons, List.length_nil, Mi.wC, Mi.wVar, Mi.wVarO, Mi.wOp, Mi.wUn, Mi.wCmp, Mi.wCmpT, Mi.wChainT, Mi.wChain, Mi.wTru, Mi.wAndT, Mi.wOrT, Mi.wNotT, Mi.wAnd, Mi.wOr, Mi.wNot, Mi.wIfE, Mi.wNoPart, Mi.wPart, Mi.wSl, Mi.wNil, Mi.wCons, Mi.wTup, Mi.wLst, Mi.wNext, Mi.wSeq, Mi.wFreeze, Mi.wForget, Mi.wBreak, Mi.wCont, Mi.wRet, Mi.wRetO, Mi.wRetN, Mi.wDrop, Mi.wIf, Mi.wNever, Mi.wAsg, Mi.wSetO, Mi.wPar, Mi.wAug, Mi.wApp, Mi.wSetIx, Mi.wExt, Mi.wItems, Mi.wRng1, Mi.wRng2, Mi.wRng3, Mi.wEnum, Mi.wZip, Mi.wYes, Mi.wCall, Mi.wCallX, Mi.wB2, Mi.wMin3, Mi.wIsi, Mi.wGuard, Mi.wGuardD, Mi.wRaise]
  refine ⟨A, B, rfl, hA, hB, ?_⟩
  simp only [e_qI, e_qIC, e_add1, e_add2, e_add3, e_add4, e_catL, e_aug1, e_aug2, e_mul1, e_mul2, e_rep, e_div, e_mod, e_neg, e_ord1, e_ord2, e_isn, e_nin, e_non1, e_non2, e_non3, e_non4, e_non5, e_non6, e_tru1, e_tru2, e_tru3, e_tru4, e_tru5, e_tru6, e_tru7, e_sl1, e_sl2, e_sl3, e_sl4, e_rev, e_it1, e_it2, e_it3, e_len1, e_len2, e_len3, e_len4, e_int1, e_int2, e_int3, e_min, e_max, e_min3, e_lst1, e_lst2, e_tup1, e_tup2, e_str, e_abs, e_lenS, e_ixS, Mi.qLt, Mi.qLe, Mi.qGt, Mi.qGe, List.map_cons, List.map_nil, List.length_map, true_and, and_true, Bool.false_eq_true, if_false, if_true, Bool.not_true, Bool.not_false, qEq_int, qEq_str, qEq_bl, qNe_int, qNe_str, qNe_bl, line0, line1, line2, line3, line4, line6, line7, line10, isi_list_lst, isi_list_tup, isi_list_non, isi_list_str, isi_list_int, isi_tup_tup, isi_bool_bl, isi_bool_int, isi_int_int, isi_int_bl, isi_int_non, isi_int_str, isi_str_str, isi_str_non, isi_str_int, startE_c, startE_n, startE_e, wFor_e, wLc_e, wipeE, wgName, wgTup, wgCons, wgNil, List.getElem?_cons_zero, List.getElem?_cons_succ, List.set_cons_zero, List.set_cons_succ, List.length_cons, List.length_nil, Mi.wC, Mi.wVar, Mi.wVarO, Mi.wOp, Mi.wUn, Mi.wCmp, Mi.wCmpT, Mi.wChainT, Mi.wChain, Mi.wTru, Mi.wAndT, Mi.wOrT, Mi.wNotT, Mi.wAnd, Mi.wOr, Mi.wNot, Mi.wIfE, Mi.wNoPart, Mi.wPart, Mi.wSl, Mi.wNil, Mi.wCons, Mi.wTup, Mi.wLst, Mi.wNext, Mi.wSeq, Mi.wFreeze, Mi.wForget, Mi.wBreak, Mi.wCont, Mi.wRet, Mi.wRetO, Mi.wRetN, Mi.wDrop, Mi.wIf, Mi.wNever, Mi.wAsg, Mi.wSetO, Mi.wPar, Mi.wAug, Mi.wApp, Mi.wSetIx, Mi.wExt, Mi.wItems, Mi.wRng1, Mi.wRng2, Mi.wRng3, Mi.wEnum, Mi.wZip, Mi.wYes, Mi.wCall, Mi.wCallX, Mi.wB2, Mi.wMin3, Mi.wIsi, Mi.wGuard, Mi.wGuardD, Mi.wRaise]
  refine cut_i (fun δ' => ∃ c4 c5 c6, δ' = [st (SS A), st (SS B), st (.lst (rowsL A B)), ow (.lst (dueL A B T')), c4, c5, c6]) ?_ ?_
  · simp only [e_qI, e_qIC, e_add1, e_add2, e_add3, e_add4, e_catL, e_aug1, e_aug2, e_mul1, e_mul2, e_rep, e_div, e_mod, e_neg, e_ord1, e_ord2, e_isn, e_nin, e_non1, e_non2, e_non3, e_non4, e_non5, e_non6, e_tru1, e_tru2, e_tru3, e_tru4, e_tru5, e_tru6, e_tru7, e_sl1, e_sl2, e_sl3, e_sl4, e_rev, e_it1, e_it2, e_it3, e_len1, e_len2, e_len3, e_len4, e_int1, e_int2, e_int3, e_min, e_max, e_min3, e_lst1, e_lst2, e_tup1, e_tup2, e_str, e_abs, e_lenS, e_ixS, Mi.qLt, Mi.qLe, Mi.qGt, Mi.qGe, List.map_cons, List.map_nil, List.length_map, true_and, and_true, Bool.false_eq_true, if_false, if_true, Bool.not_true, Bool.not_false, qEq_int, qEq_str, qEq_bl, qNe_int, qNe_str, qNe_bl, line0, line1, line2, line3, line4, line6, line7, line10, isi_list_lst, isi_list_tup, isi_list_non, isi_list_str, isi_list_int, isi_tup_tup, isi_bool_bl, isi_bool_int, isi_int_int, isi_int_bl, isi_int_non, isi_int_str, isi_str_str, isi_str_non, isi_str_int, startE_c, startE_n, startE_e, wFor_e, wLc_e, wipeE, wgName, wgTup, wgCons, wgNil, List.getElem?_cons_zero, List.getElem?_cons_succ, List.set_cons_zero, List.set_cons_succ, List.length_cons, List.length_nil, Mi.wC, Mi.wVar, Mi.wVarO, Mi.wOp, Mi.wUn, Mi.wCmp, Mi.wCmpT, Mi.wChainT, Mi.wChain, Mi.wTru, Mi.wAndT, Mi.wOrT, Mi.wNotT, Mi.wAnd, Mi.wOr, Mi.wNot, Mi.wIfE, Mi.wNoPart, Mi.wPart, Mi.wSl, Mi.wNil, Mi.wCons, Mi.wTup, Mi.wLst, Mi.wNext, Mi.wSeq, Mi.wFreeze, Mi.wForget, Mi.wBreak, Mi.wCont, Mi.wRet, Mi.wRetO, Mi.wRetN, Mi.wDrop, Mi.wIf, Mi.wNever, Mi.wAsg, Mi.wSetO, Mi.wPar, Mi.wAug, Mi.wApp, Mi.wSetIx, Mi.wExt, Mi.wItems, Mi.wRng1, Mi.wRng2, Mi.wRng3, Mi.wEnum, Mi.wZip, Mi.wYes, Mi.wCall, Mi.wCallX, Mi.wB2, Mi.wMin3, Mi.wIsi, Mi.wGuard, Mi.wGuardD, Mi.wRaise]
    refine ⟨by omega, by omega, ?_⟩
    have en : ((A.length : Int) + (B.length : Int)).toNat = A.length + B.length := by omega
    rw [en]
    refine for_i (fun k δ' => ∃ c4, δ' = [st (SS A), st (SS B), st (.lst (rowsL A B)), ow (.lst (dueL A B (min k T'))), c4, st (.int (at_ A B k).1), st (.int (at_ A B k).2)]) ⟨none, by rw [Nat.zero_min]; rfl⟩ ?_ ?_
    · rintro k d δ' hk ⟨c4, rfl⟩
      obtain ⟨hk, rfl⟩ := rangeD_of hk
      obtain ⟨h1, h2⟩ := at_le A B k
      have e1 : at_ A B (k + 1) = if more A B (at_ A B k) then nxt A B (at_ A B k) else at_ A B k := rfl
      rw [e1]
      simp only [e_qI, e_qIC, e_add1, e_add2, e_add3, e_add4, e_catL, e_aug1, e_aug2, e_mul1, e_mul2, e_rep, e_div, e_mod, e_neg, e_ord1, e_ord2, e_isn, e_nin, e_non1, e_non2, e_non3, e_non4, e_non5, e_non6, e_tru1, e_tru2, e_tru3, e_tru4, e_tru5, e_tru6, e_tru7, e_sl1, e_sl2, e_sl3, e_sl4, e_rev, e_it1, e_it2, e_it3, e_len1, e_len2, e_len3, e_len4, e_int1, e_int2, e_int3, e_min, e_max, e_min3, e_lst1, e_lst2, e_tup1, e_tup2, e_str, e_abs, e_lenS, e_ixS, Mi.qLt, Mi.qLe, Mi.qGt, Mi.qGe, List.map_cons, List.map_nil, List.length_map, true_and, and_true, Bool.false_eq_true, if_false, if_true, Bool.not_true, Bool.not_false, qEq_int, qEq_str, qEq_bl, qNe_int, qNe_str, qNe_bl, line0, line1, line2, line3, line4, line6, line7, line10, isi_list_lst, isi_list_tup, isi_list_non, isi_list_str, isi_list_int, isi_tup_tup, isi_bool_bl, isi_bool_int, isi_int_int, isi_int_bl, isi_int_non, isi_int_str, isi_str_str, isi_str_non, isi_str_int, startE_c, startE_n, startE_e, wFor_e, wLc_e, wipeE, wgName, wgTup, wgCons, wgNil, List.getElem?_cons_zero, List.getElem?_cons_succ, List.set_cons_zero, List.set_cons_succ, List.length_cons, List.length_nil, Mi.wC, Mi.wVar, Mi.wVarO, Mi.wOp, Mi.wUn, Mi.wCmp, Mi.wCmpT, Mi.wChainT, Mi.wChain, Mi.wTru, Mi.wAndT, Mi.wOrT, Mi.wNotT, Mi.wAnd, Mi.wOr, Mi.wNot, Mi.wIfE, Mi.wNoPart, Mi.wPart, Mi.wSl, Mi.wNil, Mi.wCons, Mi.wTup, Mi.wLst, Mi.wNext, Mi.wSeq, Mi.wFreeze, Mi.wForget, Mi.wBreak, Mi.wCont, Mi.wRet, Mi.wRetO, Mi.wRetN, Mi.wDrop, Mi.wIf, Mi.wNever, Mi.wAsg, Mi.wSetO, Mi.wPar, Mi.wAug, Mi.wApp, Mi.wSetIx, Mi.wExt, Mi.wItems, Mi.wRng1, Mi.wRng2, Mi.wRng3, Mi.wEnum, Mi.wZip, Mi.wYes, Mi.wCall, Mi.wCallX, Mi.wB2, Mi.wMin3, Mi.wIsi, Mi.wGuard, Mi.wGuardD, Mi.wRaise]
      refine ifD_i (more A B (at_ A B k)) ?_ (fun hm => ?_) fun hm => ?_
      · simp only [e_qI, e_qIC, e_add1, e_add2, e_add3, e_add4, e_catL, e_aug1, e_aug2, e_mul1, e_mul2, e_rep, e_div, e_mod, e_neg, e_ord1, e_ord2, e_isn, e_nin, e_non1, e_non2, e_non3, e_non4, e_non5, e_non6, e_tru1, e_tru2, e_tru3, e_tru4, e_tru5, e_tru6, e_tru7, e_sl1, e_sl2, e_sl3, e_sl4, e_rev, e_it1, e_it2, e_it3, e_len1, e_len2, e_len3, e_len4, e_int1, e_int2, e_int3, e_min, e_max, e_min3, e_lst1, e_lst2, e_tup1, e_tup2, e_str, e_abs, e_lenS, e_ixS, Mi.qLt, Mi.qLe, Mi.qGt, Mi.qGe, List.map_cons, List.map_nil, List.length_map, true_and, and_true, Bool.false_eq_true, if_false, if_true, Bool.not_true, Bool.not_false, qEq_int, qEq_str, qEq_bl, qNe_int, qNe_str, qNe_bl, line0, line1, line2, line3, line4, line6, line7, line10, isi_list_lst, isi_list_tup, isi_list_non, isi_list_str, isi_list_int, isi_tup_tup, isi_bool_bl, isi_bool_int, isi_int_int, isi_int_bl, isi_int_non, isi_int_str, isi_str_str, isi_str_non, isi_str_int, startE_c, startE_n, startE_e, wFor_e, wLc_e, wipeE, wgName, wgTup, wgCons, wgNil, List.getElem?_cons_zero, List.getElem?_cons_succ, List.set_cons_zero, List.set_cons_succ, List.length_cons, List.length_nil, Mi.wC, Mi.wVar, Mi.wVarO, Mi.wOp, Mi.wUn, Mi.wCmp, Mi.wCmpT, Mi.wChainT, Mi.wChain, Mi.wTru, Mi.wAndT, Mi.wOrT, Mi.wNotT, Mi.wAnd, Mi.wOr, Mi.wNot, Mi.wIfE, Mi.wNoPart, Mi.wPart, Mi.wSl, Mi.wNil, Mi.wCons, Mi.wTup, Mi.wLst, Mi.wNext, Mi.wSeq, Mi.wFreeze, Mi.wForget, Mi.wBreak, Mi.wCont, Mi.wRet, Mi.wRetO, Mi.wRetN, Mi.wDrop, Mi.wIf, Mi.wNever, Mi.wAsg, Mi.wSetO, Mi.wPar, Mi.wAug, Mi.wApp, Mi.wSetIx, Mi.wExt, Mi.wItems, Mi.wRng1, Mi.wRng2, Mi.wRng3, Mi.wEnum, Mi.wZip, Mi.wYes, Mi.wCall, Mi.wCallX, Mi.wB2, Mi.wMin3, Mi.wIsi, Mi.wGuard, Mi.wGuardD, Mi.wRaise]
        unfold more
        refine ite_i (fun e => ?_) fun e => ?_
        · have e := of_decide_eq_true e
          exact (decide_eq_true (.inl (by omega))).symm
        · have e := of_decide_eq_false e
          congr 1
          rw [eq_iff_iff]
          omega
      · have hkT : k < T' := by
          by_cases c : k < T'
          · exact c
          · have := at_past hT (k - T')
            rw [show T' + (k - T') = k by omega] at this
            rw [this, hT.fin] at hm
            cases hm
        rw [if_pos hm, Nat.min_eq_left (by omega), Nat.min_eq_left (show k + 1 ≤ T' from hkT), due_succ]
        have hlen : (dueL A B k).length < Line := ltL (by rw [due_len]; omega)
        refine ifD_i (come A B (at_ A B k)) ?_ (fun hc => ?_) fun hc => ?_
        · simp only [e_qI, e_qIC, e_add1, e_add2, e_add3, e_add4, e_catL, e_aug1, e_aug2, e_mul1, e_mul2, e_rep, e_div, e_mod, e_neg, e_ord1, e_ord2, e_isn, e_nin, e_non1, e_non2, e_non3, e_non4, e_non5, e_non6, e_tru1, e_tru2, e_tru3, e_tru4, e_tru5, e_tru6, e_tru7, e_sl1, e_sl2, e_sl3, e_sl4, e_rev, e_it1, e_it2, e_it3, e_len1, e_len2, e_len3, e_len4, e_int1, e_int2, e_int3, e_min, e_max, e_min3, e_lst1, e_lst2, e_tup1, e_tup2, e_str, e_abs, e_lenS, e_ixS, Mi.qLt, Mi.qLe, Mi.qGt, Mi.qGe, List.map_cons, List.map_nil, List.length_map, true_and, and_true, Bool.false_eq_true, if_false, if_true, Bool.not_true, Bool.not_false, qEq_int, qEq_str, qEq_bl, qNe_int, qNe_str, qNe_bl, line0, line1, line2, line3, line4, line6, line7, line10, isi_list_lst, isi_list_tup, isi_list_non, isi_list_str, isi_list_int, isi_tup_tup, isi_bool_bl, isi_bool_int, isi_int_int, isi_int_bl, isi_int_non, isi_int_str, isi_str_str, isi_str_non, isi_str_int, startE_c, startE_n, startE_e, wFor_e, wLc_e, wipeE, wgName, wgTup, wgCons, wgNil, List.getElem?_cons_zero, List.getElem?_cons_succ, List.set_cons_zero, List.set_cons_succ, List.length_cons, List.length_nil, Mi.wC, Mi.wVar, Mi.wVarO, Mi.wOp, Mi.wUn, Mi.wCmp, Mi.wCmpT, Mi.wChainT, Mi.wChain, Mi.wTru, Mi.wAndT, Mi.wOrT, Mi.wNotT, Mi.wAnd, Mi.wOr, Mi.wNot, Mi.wIfE, Mi.wNoPart, Mi.wPart, Mi.wSl, Mi.wNil, Mi.wCons, Mi.wTup, Mi.wLst, Mi.wNext, Mi.wSeq, Mi.wFreeze, Mi.wForget, Mi.wBreak, Mi.wCont, Mi.wRet, Mi.wRetO, Mi.wRetN, Mi.wDrop, Mi.wIf, Mi.wNever, Mi.wAsg, Mi.wSetO, Mi.wPar, Mi.wAug, Mi.wApp, Mi.wSetIx, Mi.wExt, Mi.wItems, Mi.wRng1, Mi.wRng2, Mi.wRng3, Mi.wEnum, Mi.wZip, Mi.wYes, Mi.wCall, Mi.wCallX, Mi.wB2, Mi.wMin3, Mi.wIsi, Mi.wGuard, Mi.wGuardD, Mi.wRaise]
          unfold come
          refine ite_i (fun e => ?_) fun e => ?_
          · have e := of_decide_eq_true e
            have hj : (at_ A B k).2 < B.length := by omega
            refine qIx_lst (rows_get h1) (qIx_lst (row_get h2) ?_)
            refine qIx_lst (rows_get h1) ?_
            refine qIx_lst (i := (at_ A B k).2 + 1) (row_get hj) ?_
            simp only [e_qI, e_qIC, e_add1, e_add2, e_add3, e_add4, e_catL, e_aug1, e_aug2, e_mul1, e_mul2, e_rep, e_div, e_mod, e_neg, e_ord1, e_ord2, e_isn, e_nin, e_non1, e_non2, e_non3, e_non4, e_non5, e_non6, e_tru1, e_tru2, e_tru3, e_tru4, e_tru5, e_tru6, e_tru7, e_sl1, e_sl2, e_sl3, e_sl4, e_rev, e_it1, e_it2, e_it3, e_len1, e_len2, e_len3, e_len4, e_int1, e_int2, e_int3, e_min, e_max, e_min3, e_lst1, e_lst2, e_tup1, e_tup2, e_str, e_abs, e_lenS, e_ixS, Mi.qLt, Mi.qLe, Mi.qGt, Mi.qGe, List.map_cons, List.map_nil, List.length_map, true_and, and_true, Bool.false_eq_true, if_false, if_true, Bool.not_true, Bool.not_false, qEq_int, qEq_str, qEq_bl, qNe_int, qNe_str, qNe_bl, line0, line1, line2, line3, line4, line6, line7, line10, isi_list_lst, isi_list_tup, isi_list_non, isi_list_str, isi_list_int, isi_tup_tup, isi_bool_bl, isi_bool_int, isi_int_int, isi_int_bl, isi_int_non, isi_int_str, isi_str_str, isi_str_non, isi_str_int, startE_c, startE_n, startE_e, wFor_e, wLc_e, wipeE, wgName, wgTup, wgCons, wgNil, List.getElem?_cons_zero, List.getElem?_cons_succ, List.set_cons_zero, List.set_cons_succ, List.length_cons, List.length_nil, Mi.wC, Mi.wVar, Mi.wVarO, Mi.wOp, Mi.wUn, Mi.wCmp, Mi.wCmpT, Mi.wChainT, Mi.wChain, Mi.wTru, Mi.wAndT, Mi.wOrT, Mi.wNotT, Mi.wAnd, Mi.wOr, Mi.wNot, Mi.wIfE, Mi.wNoPart, Mi.wPart, Mi.wSl, Mi.wNil, Mi.wCons, Mi.wTup, Mi.wLst, Mi.wNext, Mi.wSeq, Mi.wFreeze, Mi.wForget, Mi.wBreak, Mi.wCont, Mi.wRet, Mi.wRetO, Mi.wRetN, Mi.wDrop, Mi.wIf, Mi.wNever, Mi.wAsg, Mi.wSetO, Mi.wPar, Mi.wAug, Mi.wApp, Mi.wSetIx, Mi.wExt, Mi.wItems, Mi.wRng1, Mi.wRng2, Mi.wRng3, Mi.wEnum, Mi.wZip, Mi.wYes, Mi.wCall, Mi.wCallX, Mi.wB2, Mi.wMin3, Mi.wIsi, Mi.wGuard, Mi.wGuardD, Mi.wRaise]
            congr 1
            rw [eq_iff_iff]
            omega
          · have e := of_decide_eq_false e
            exact (decide_eq_false fun z => by omega).symm
        · unfold chg nxt
          rw [if_pos hc, if_pos hc]
          simp only [e_qI, e_qIC, e_add1, e_add2, e_add3, e_add4, e_catL, e_aug1, e_aug2, e_mul1, e_mul2, e_rep, e_div, e_mod, e_neg, e_ord1, e_ord2, e_isn, e_nin, e_non1, e_non2, e_non3, e_non4, e_non5, e_non6, e_tru1, e_tru2, e_tru3, e_tru4, e_tru5, e_tru6, e_tru7, e_sl1, e_sl2, e_sl3, e_sl4, e_rev, e_it1, e_it2, e_it3, e_len1, e_len2, e_len3, e_len4, e_int1, e_int2, e_int3, e_min, e_max, e_min3, e_lst1, e_lst2, e_tup1, e_tup2, e_str, e_abs, e_lenS, e_ixS, Mi.qLt, Mi.qLe, Mi.qGt, Mi.qGe, List.map_cons, List.map_nil, List.length_map, true_and, and_true, Bool.false_eq_true, if_false, if_true, Bool.not_true, Bool.not_false, qEq_int, qEq_str, qEq_bl, qNe_int, qNe_str, qNe_bl, line0, line1, line2, line3, line4, line6, line7, line10, isi_list_lst, isi_list_tup, isi_list_non, isi_list_str, isi_list_int, isi_tup_tup, isi_bool_bl, isi_bool_int, isi_int_int, isi_int_bl, isi_int_non, isi_int_str, isi_str_str, isi_str_non, isi_str_int, startE_c, startE_n, startE_e, wFor_e, wLc_e, wipeE, wgName, wgTup, wgCons, wgNil, List.getElem?_cons_zero, List.getElem?_cons_succ, List.set_cons_zero, List.set_cons_succ, List.length_cons, List.length_nil, Mi.wC, Mi.wVar, Mi.wVarO, Mi.wOp, Mi.wUn, Mi.wCmp, Mi.wCmpT, Mi.wChainT, Mi.wChain, Mi.wTru, Mi.wAndT, Mi.wOrT, Mi.wNotT, Mi.wAnd, Mi.wOr, Mi.wNot, Mi.wIfE, Mi.wNoPart, Mi.wPart, Mi.wSl, Mi.wNil, Mi.wCons, Mi.wTup, Mi.wLst, Mi.wNext, Mi.wSeq, Mi.wFreeze, Mi.wForget, Mi.wBreak, Mi.wCont, Mi.wRet, Mi.wRetO, Mi.wRetN, Mi.wDrop, Mi.wIf, Mi.wNever, Mi.wAsg, Mi.wSetO, Mi.wPar, Mi.wAug, Mi.wApp, Mi.wSetIx, Mi.wExt, Mi.wItems, Mi.wRng1, Mi.wRng2, Mi.wRng3, Mi.wEnum, Mi.wZip, Mi.wYes, Mi.wCall, Mi.wCallX, Mi.wB2, Mi.wMin3, Mi.wIsi, Mi.wGuard, Mi.wGuardD, Mi.wRaise, Ch.d]
          exact ⟨hlen, _, rfl⟩
        · refine ifD_i (goes A B (at_ A B k)) ?_ (fun hg => ?_) fun hg => ?_
          · simp only [e_qI, e_qIC, e_add1, e_add2, e_add3, e_add4, e_catL, e_aug1, e_aug2, e_mul1, e_mul2, e_rep, e_div, e_mod, e_neg, e_ord1, e_ord2, e_isn, e_nin, e_non1, e_non2, e_non3, e_non4, e_non5, e_non6, e_tru1, e_tru2, e_tru3, e_tru4, e_tru5, e_tru6, e_tru7, e_sl1, e_sl2, e_sl3, e_sl4, e_rev, e_it1, e_it2, e_it3, e_len1, e_len2, e_len3, e_len4, e_int1, e_int2, e_int3, e_min, e_max, e_min3, e_lst1, e_lst2, e_tup1, e_tup2, e_str, e_abs, e_lenS, e_ixS, Mi.qLt, Mi.qLe, Mi.qGt, Mi.qGe, List.map_cons, List.map_nil, List.length_map, true_and, and_true, Bool.false_eq_true, if_false, if_true, Bool.not_true, Bool.not_false, qEq_int, qEq_str, qEq_bl, qNe_int, qNe_str, qNe_bl, line0, line1, line2, line3, line4, line6, line7, line10, isi_list_lst, isi_list_tup, isi_list_non, isi_list_str, isi_list_int, isi_tup_tup, isi_bool_bl, isi_bool_int, isi_int_int, isi_int_bl, isi_int_non, isi_int_str, isi_str_str, isi_str_non, isi_str_int, startE_c, startE_n, startE_e, wFor_e, wLc_e, wipeE, wgName, wgTup, wgCons, wgNil, List.getElem?_cons_zero, List.getElem?_cons_succ, List.set_cons_zero, List.set_cons_succ, List.length_cons, List.length_nil, Mi.wC, Mi.wVar, Mi.wVarO, Mi.wOp, Mi.wUn, Mi.wCmp, Mi.wCmpT, Mi.wChainT, Mi.wChain, Mi.wTru, Mi.wAndT, Mi.wOrT, Mi.wNotT, Mi.wAnd, Mi.wOr, Mi.wNot, Mi.wIfE, Mi.wNoPart, Mi.wPart, Mi.wSl, Mi.wNil, Mi.wCons, Mi.wTup, Mi.wLst, Mi.wNext, Mi.wSeq, Mi.wFreeze, Mi.wForget, Mi.wBreak, Mi.wCont, Mi.wRet, Mi.wRetO, Mi.wRetN, Mi.wDrop, Mi.wIf, Mi.wNever, Mi.wAsg, Mi.wSetO, Mi.wPar, Mi.wAug, Mi.wApp, Mi.wSetIx, Mi.wExt, Mi.wItems, Mi.wRng1, Mi.wRng2, Mi.wRng3, Mi.wEnum, Mi.wZip, Mi.wYes, Mi.wCall, Mi.wCallX, Mi.wB2, Mi.wMin3, Mi.wIsi, Mi.wGuard, Mi.wGuardD, Mi.wRaise]
            unfold goes
            refine ite_i (fun e => ?_) fun e => ?_
            · have e := of_decide_eq_true e
              have hi : (at_ A B k).1 < A.length := by omega
              refine qIx_lst (rows_get h1) (qIx_lst (row_get h2) ?_)
              refine qIx_lst (i := (at_ A B k).1 + 1) (rows_get hi) ?_
              refine qIx_lst (row_get h2) ?_
              simp only [e_qI, e_qIC, e_add1, e_add2, e_add3, e_add4, e_catL, e_aug1, e_aug2, e_mul1, e_mul2, e_rep, e_div, e_mod, e_neg, e_ord1, e_ord2, e_isn, e_nin, e_non1, e_non2, e_non3, e_non4, e_non5, e_non6, e_tru1, e_tru2, e_tru3, e_tru4, e_tru5, e_tru6, e_tru7, e_sl1, e_sl2, e_sl3, e_sl4, e_rev, e_it1, e_it2, e_it3, e_len1, e_len2, e_len3, e_len4, e_int1, e_int2, e_int3, e_min, e_max, e_min3, e_lst1, e_lst2, e_tup1, e_tup2, e_str, e_abs, e_lenS, e_ixS, Mi.qLt, Mi.qLe, Mi.qGt, Mi.qGe, List.map_cons, List.map_nil, List.length_map, true_and, and_true, Bool.false_eq_true, if_false, if_true, Bool.not_true, Bool.not_false, qEq_int, qEq_str, qEq_bl, qNe_int, qNe_str, qNe_bl, line0, line1, line2, line3, line4, line6, line7, line10, isi_list_lst, isi_list_tup, isi_list_non, isi_list_str, isi_list_int, isi_tup_tup, isi_bool_bl, isi_bool_int, isi_int_int, isi_int_bl, isi_int_non, isi_int_str, isi_str_str, isi_str_non, isi_str_int, startE_c, startE_n, startE_e, wFor_e, wLc_e, wipeE, wgName, wgTup, wgCons, wgNil, List.getElem?_cons_zero, List.getElem?_cons_succ, List.set_cons_zero, List.set_cons_succ, List.length_cons, List.length_nil, Mi.wC, Mi.wVar, Mi.wVarO, Mi.wOp, Mi.wUn, Mi.wCmp, Mi.wCmpT, Mi.wChainT, Mi.wChain, Mi.wTru, Mi.wAndT, Mi.wOrT, Mi.wNotT, Mi.wAnd, Mi.wOr, Mi.wNot, Mi.wIfE, Mi.wNoPart, Mi.wPart, Mi.wSl, Mi.wNil, Mi.wCons, Mi.wTup, Mi.wLst, Mi.wNext, Mi.wSeq, Mi.wFreeze, Mi.wForget, Mi.wBreak, Mi.wCont, Mi.wRet, Mi.wRetO, Mi.wRetN, Mi.wDrop, Mi.wIf, Mi.wNever, Mi.wAsg, Mi.wSetO, Mi.wPar, Mi.wAug, Mi.wApp, Mi.wSetIx, Mi.wExt, Mi.wItems, Mi.wRng1, Mi.wRng2, Mi.wRng3, Mi.wEnum, Mi.wZip, Mi.wYes, Mi.wCall, Mi.wCallX, Mi.wB2, Mi.wMin3, Mi.wIsi, Mi.wGuard, Mi.wGuardD, Mi.wRaise]
              congr 1
              rw [eq_iff_iff]
              omega
            · have e := of_decide_eq_false e
              exact (decide_eq_false fun z => by omega).symm
          · unfold chg nxt
            rw [hc, hg, if_neg Bool.false_ne_true, if_neg Bool.false_ne_true, if_pos rfl, if_pos rfl]
            simp only [e_qI, e_qIC, e_add1, e_add2, e_add3, e_add4, e_catL, e_aug1, e_aug2, e_mul1, e_mul2, e_rep, e_div, e_mod, e_neg, e_ord1, e_ord2, e_isn, e_nin, e_non1, e_non2, e_non3, e_non4, e_non5, e_non6, e_tru1, e_tru2, e_tru3, e_tru4, e_tru5, e_tru6, e_tru7, e_sl1, e_sl2, e_sl3, e_sl4, e_rev, e_it1, e_it2, e_it3, e_len1, e_len2, e_len3, e_len4, e_int1, e_int2, e_int3, e_min, e_max, e_min3, e_lst1, e_lst2, e_tup1, e_tup2, e_str, e_abs, e_lenS, e_ixS, Mi.qLt, Mi.qLe, Mi.qGt, Mi.qGe, List.map_cons, List.map_nil, List.length_map, true_and, and_true, Bool.false_eq_true, if_false, if_true, Bool.not_true, Bool.not_false, qEq_int, qEq_str, qEq_bl, qNe_int, qNe_str, qNe_bl, line0, line1, line2, line3, line4, line6, line7, line10, isi_list_lst, isi_list_tup, isi_list_non, isi_list_str, isi_list_int, isi_tup_tup, isi_bool_bl, isi_bool_int, isi_int_int, isi_int_bl, isi_int_non, isi_int_str, isi_str_str, isi_str_non, isi_str_int, startE_c, startE_n, startE_e, wFor_e, wLc_e, wipeE, wgName, wgTup, wgCons, wgNil, List.getElem?_cons_zero, List.getElem?_cons_succ, List.set_cons_zero, List.set_cons_succ, List.length_cons, List.length_nil, Mi.wC, Mi.wVar, Mi.wVarO, Mi.wOp, Mi.wUn, Mi.wCmp, Mi.wCmpT, Mi.wChainT, Mi.wChain, Mi.wTru, Mi.wAndT, Mi.wOrT, Mi.wNotT, Mi.wAnd, Mi.wOr, Mi.wNot, Mi.wIfE, Mi.wNoPart, Mi.wPart, Mi.wSl, Mi.wNil, Mi.wCons, Mi.wTup, Mi.wLst, Mi.wNext, Mi.wSeq, Mi.wFreeze, Mi.wForget, Mi.wBreak, Mi.wCont, Mi.wRet, Mi.wRetO, Mi.wRetN, Mi.wDrop, Mi.wIf, Mi.wNever, Mi.wAsg, Mi.wSetO, Mi.wPar, Mi.wAug, Mi.wApp, Mi.wSetIx, Mi.wExt, Mi.wItems, Mi.wRng1, Mi.wRng2, Mi.wRng3, Mi.wEnum, Mi.wZip, Mi.wYes, Mi.wCall, Mi.wCallX, Mi.wB2, Mi.wMin3, Mi.wIsi, Mi.wGuard, Mi.wGuardD, Mi.wRaise, Ch.d]
            exact ⟨hlen, _, rfl⟩
          · unfold chg nxt
            rw [hc, hg, if_neg Bool.false_ne_true, if_neg Bool.false_ne_true, if_neg Bool.false_ne_true, if_neg Bool.false_ne_true]
            simp only [e_qI, e_qIC, e_add1, e_add2, e_add3, e_add4, e_catL, e_aug1, e_aug2, e_mul1, e_mul2, e_rep, e_div, e_mod, e_neg, e_ord1, e_ord2, e_isn, e_nin, e_non1, e_non2, e_non3, e_non4, e_non5, e_non6, e_tru1, e_tru2, e_tru3, e_tru4, e_tru5, e_tru6, e_tru7, e_sl1, e_sl2, e_sl3, e_sl4, e_rev, e_it1, e_it2, e_it3, e_len1, e_len2, e_len3, e_len4, e_int1, e_int2, e_int3, e_min, e_max, e_min3, e_lst1, e_lst2, e_tup1, e_tup2, e_str, e_abs, e_lenS, e_ixS, Mi.qLt, Mi.qLe, Mi.qGt, Mi.qGe, List.map_cons, List.map_nil, List.length_map, true_and, and_true, Bool.false_eq_true, if_false, if_true, Bool.not_true, Bool.not_false, qEq_int, qEq_str, qEq_bl, qNe_int, qNe_str, qNe_bl, line0, line1, line2, line3, line4, line6, line7, line10, isi_list_lst, isi_list_tup, isi_list_non, isi_list_str, isi_list_int, isi_tup_tup, isi_bool_bl, isi_bool_int, isi_int_int, isi_int_bl, isi_int_non, isi_int_str, isi_str_str, isi_str_non, isi_str_int, startE_c, startE_n, startE_e, wFor_e, wLc_e, wipeE, wgName, wgTup, wgCons, wgNil, List.getElem?_cons_zero, List.getElem?_cons_succ, List.set_cons_zero, List.set_cons_succ, List.length_cons, List.length_nil, Mi.wC, Mi.wVar, Mi.wVarO, Mi.wOp, Mi.wUn, Mi.wCmp, Mi.wCmpT, Mi.wChainT, Mi.wChain, Mi.wTru, Mi.wAndT, Mi.wOrT, Mi.wNotT, Mi.wAnd, Mi.wOr, Mi.wNot, Mi.wIfE, Mi.wNoPart, Mi.wPart, Mi.wSl, Mi.wNil, Mi.wCons, Mi.wTup, Mi.wLst, Mi.wNext, Mi.wSeq, Mi.wFreeze, Mi.wForget, Mi.wBreak, Mi.wCont, Mi.wRet, Mi.wRetO, Mi.wRetN, Mi.wDrop, Mi.wIf, Mi.wNever, Mi.wAsg, Mi.wSetO, Mi.wPar, Mi.wAug, Mi.wApp, Mi.wSetIx, Mi.wExt, Mi.wItems, Mi.wRng1, Mi.wRng2, Mi.wRng3, Mi.wEnum, Mi.wZip, Mi.wYes, Mi.wCall, Mi.wCallX, Mi.wB2, Mi.wMin3, Mi.wIsi, Mi.wGuard, Mi.wGuardD, Mi.wRaise, Ch.d]
            exact ⟨hlen, _, rfl⟩
      · have hkT : T' ≤ k := by
          by_cases c : k < T'
          · rw [hT.bef k c] at hm; cases hm
          · omega
        rw [hm, if_neg Bool.false_ne_true, Nat.min_eq_right hkT, Nat.min_eq_right (by omega)]
        simp only [e_qI, e_qIC, e_add1, e_add2, e_add3, e_add4, e_catL, e_aug1, e_aug2, e_mul1, e_mul2, e_rep, e_div, e_mod, e_neg, e_ord1, e_ord2, e_isn, e_nin, e_non1, e_non2, e_non3, e_non4, e_non5, e_non6, e_tru1, e_tru2, e_tru3, e_tru4, e_tru5, e_tru6, e_tru7, e_sl1, e_sl2, e_sl3, e_sl4, e_rev, e_it1, e_it2, e_it3, e_len1, e_len2, e_len3, e_len4, e_int1, e_int2, e_int3, e_min, e_max, e_min3, e_lst1, e_lst2, e_tup1, e_tup2, e_str, e_abs, e_lenS, e_ixS, Mi.qLt, Mi.qLe, Mi.qGt, Mi.qGe, List.map_cons, List.map_nil, List.length_map, true_and, and_true, Bool.false_eq_true, if_false, if_true, Bool.not_true, Bool.not_false, qEq_int, qEq_str, qEq_bl, qNe_int, qNe_str, qNe_bl, line0, line1, line2, line3, line4, line6, line7, line10, isi_list_lst, isi_list_tup, isi_list_non, isi_list_str, isi_list_int, isi_tup_tup, isi_bool_bl, isi_bool_int, isi_int_int, isi_int_bl, isi_int_non, isi_int_str, isi_str_str, isi_str_non, isi_str_int, startE_c, startE_n, startE_e, wFor_e, wLc_e, wipeE, wgName, wgTup, wgCons, wgNil, List.getElem?_cons_zero, List.getElem?_cons_succ, List.set_cons_zero, List.set_cons_succ, List.length_cons, List.length_nil, Mi.wC, Mi.wVar, Mi.wVarO, Mi.wOp, Mi.wUn, Mi.wCmp, Mi.wCmpT, Mi.wChainT, Mi.wChain, Mi.wTru, Mi.wAndT, Mi.wOrT, Mi.wNotT, Mi.wAnd, Mi.wOr, Mi.wNot, Mi.wIfE, Mi.wNoPart, Mi.wPart, Mi.wSl, Mi.wNil, Mi.wCons, Mi.wTup, Mi.wLst, Mi.wNext, Mi.wSeq, Mi.wFreeze, Mi.wForget, Mi.wBreak, Mi.wCont, Mi.wRet, Mi.wRetO, Mi.wRetN, Mi.wDrop, Mi.wIf, Mi.wNever, Mi.wAsg, Mi.wSetO, Mi.wPar, Mi.wAug, Mi.wApp, Mi.wSetIx, Mi.wExt, Mi.wItems, Mi.wRng1, Mi.wRng2, Mi.wRng3, Mi.wEnum, Mi.wZip, Mi.wYes, Mi.wCall, Mi.wCallX, Mi.wB2, Mi.wMin3, Mi.wIsi, Mi.wGuard, Mi.wGuardD, Mi.wRaise]
        exact ⟨_, rfl⟩
    · rintro δ' ⟨c4, rfl⟩
      rw [rangeD_len, Nat.min_eq_right hTl]
      exact ⟨_, _, _, rfl⟩
  · rintro δ' ⟨c4, c5, c6, rfl⟩
    simp only [e_qI, e_qIC, e_add1, e_add2, e_add3, e_add4, e_catL, e_aug1, e_aug2, e_mul1, e_mul2, e_rep, e_div, e_mod, e_neg, e_ord1, e_ord2, e_isn, e_nin, e_non1, e_non2, e_non3, e_non4, e_non5, e_non6, e_tru1, e_tru2, e_tru3, e_tru4, e_tru5, e_tru6, e_tru7, e_sl1, e_sl2, e_sl3, e_sl4, e_rev, e_it1, e_it2, e_it3, e_len1, e_len2, e_len3, e_len4, e_int1, e_int2, e_int3, e_min, e_max, e_min3, e_lst1, e_lst2, e_tup1, e_tup2, e_str, e_abs, e_lenS, e_ixS, Mi.qLt, Mi.qLe, Mi.qGt, Mi.qGe, List.map_cons, List.map_nil, List.length_map, true_and, and_true, Bool.false_eq_true, if_false, if_true, Bool.not_true, Bool.not_false, qEq_int, qEq_str, qEq_bl, qNe_int, qNe_str, qNe_bl, line0, line1, line2, line3, line4, line6, line7, line10, isi_list_lst, isi_list_tup, isi_list_non, isi_list_str, isi_list_int, isi_tup_tup, isi_bool_bl, isi_bool_int, isi_int_int, isi_int_bl, isi_int_non, isi_int_str, isi_str_str, isi_str_non, isi_str_int, startE_c, startE_n, startE_e, wFor_e, wLc_e, wipeE, wgName, wgTup, wgCons, wgNil, List.getElem?_cons_zero, List.getElem?_cons_succ, List.set_cons_zero, List.set_cons_succ, List.length_cons, List.length_nil, Mi.wC, Mi.wVar, Mi.wVarO, Mi.wOp, Mi.wUn, Mi.wCmp, Mi.wCmpT, Mi.wChainT, Mi.wChain, Mi.wTru, Mi.wAndT, Mi.wOrT, Mi.wNotT, Mi.wAnd, Mi.wOr, Mi.wNot, Mi.wIfE, Mi.wNoPart, Mi.wPart, Mi.wSl, Mi.wNil, Mi.wCons, Mi.wTup, Mi.wLst, Mi.wNext, Mi.wSeq, Mi.wFreeze, Mi.wForget, Mi.wBreak, Mi.wCont, Mi.wRet, Mi.wRetO, Mi.wRetN, Mi.wDrop, Mi.wIf, Mi.wNever, Mi.wAsg, Mi.wSetO, Mi.wPar, Mi.wAug, Mi.wApp, Mi.wSetIx, Mi.wExt, Mi.wItems, Mi.wRng1, Mi.wRng2, Mi.wRng3, Mi.wEnum, Mi.wZip, Mi.wYes, Mi.wCall, Mi.wCallX, Mi.wB2, Mi.wMin3, Mi.wIsi, Mi.wGuard, Mi.wGuardD, Mi.wRaise]
    exact h

end
end K86
namespace K86
open PySem L2 Evl Mi
section
variable {P : Program} {w : World} {K : PySem.W.Frag} {mg : Str → Option Value} {base : Heap} {g : G}
def c_numbers : CT := fun ds EX P => ∃ (xs : List Int) (at_ cn : Nat), ds = [.ext 0 (.lst (xs.map D.int)), .int at_, .int cn] ∧ at_ ≤ 100000 ∧ cn ≤ 100000 ∧
  ∀ ns : List Int, ns.length = cn → (∀ n ∈ ns, 0 ≤ n ∧ n < 1009) → P (.lst (ns.map D.int))
abbrev s_law_numbers : Stmt := topS 21
abbrev N_law_numbers : List Str := ["script", "at", "count", "cell", "numbers", "k", "mixed"]
theorem sc_law_numbers : FnScope N_law_numbers ["script", "at", "count"] (defScope s_law_numbers) := ⟨rfl, rfl, rfl, by decide +kernel, rfl, by decide +kernel, by decide +kernel⟩
theorem ok_law_numbers {f : Addr} {fd : FuncData} (F : Fun K "_law_numbers" "_law_numbers" s_law_numbers f fd) (T : Txt mg) (hsc : HScr K g) : FnOk P w K mg base CX0 (0 + 1) f fd ["script", "at", "count"] (spD K g false c_numbers) := by
  refine Mi.Fun.data F sc_law_numbers (fun ds EX Q ⟨_, _, _, h, _⟩ => by rw [h]; rfl) (fun cdv A outer s H E S0 H0 hr => (ms_cons (ms_set 3 sc_law_numbers.nd (me_mul (mo_of me_int) (mo_of (me_add (mo_var 1) (mo_of me_int)))))
  (ms_cut (ms_if (mt_lt (mo_var 1) (mo_of (me_lenS hsc T.len rfl (mo_var 0))))
  (ms_one (ms_set 3 sc_law_numbers.nd (me_int1 T.int rfl (mo_of (me_ixS hsc (mo_var 0) (mo_var 1))))))
  ms_nil)
  (ms_cut (ms_if (mt_lt (mo_var 3) (mo_of me_int))
  (ms_one (ms_set 3 sc_law_numbers.nd (me_sub (mo_of me_int) (mo_of (me_mul (mo_of me_int) (mo_var 3))))))
  ms_nil)
  (ms_cons (ms_setO 4 sc_law_numbers.nd (mf_lst ma_nil))
  (ms_cut (ms_for (vs := [5]) PassesOwn.never rfl (mi_range1 rfl T.range (mo_var 2)) (mg_name 5 sc_law_numbers.nd)
  (ms_one (ms_if (mt_ge (mo_var 3) (mo_of (me_pow (mo_of me_int) (mo_of me_int))))
  (ms_cons (ms_app 4 (me_modP (mo_var 3) (mo_of me_int)))
  (ms_one (ms_set 3 sc_law_numbers.nd (me_divP (mo_var 3) (mo_of me_int)))))
  (ms_cons (ms_set 6 sc_law_numbers.nd (me_modP (mo_of (me_add (mo_of (me_add (mo_of (me_mul (mo_var 3) (mo_of me_int))) (mo_of (me_mul (mo_of (me_add (mo_var 5) (mo_of me_int))) (mo_of me_int))))) (mo_of (me_mul (mo_var 1) (mo_of me_int))))) (mo_of me_int)))
  (ms_cons (ms_set 6 sc_law_numbers.nd (me_modP (mo_of (me_add (mo_of (me_mul (mo_var 6) (mo_var 6))) (mo_of (me_mul (mo_of me_int) (mo_of (me_add (mo_var 5) (mo_of me_int))))))) (mo_of me_int)))
  (ms_one (ms_app 4 (me_modP (mo_of (me_divP (mo_var 6) (mo_of me_int))) (mo_of me_int)))))))))
  (ms_freeze 4 (ms_one (ms_ret rfl (me_var 4)))))))))) (fun ds Q h => ?_) (fun ds EX Q h => h)
  obtain ⟨xs, a, cn, rfl, ha, hc, h⟩ := h
  simp only [e_qI, e_qIC, e_add1, e_add2, e_add3, e_add4, e_catL, e_aug1, e_aug2, e_mul1, e_mul2, e_rep, e_div, e_mod, e_neg, e_ord1, e_ord2, e_isn, e_nin, e_non1, e_non2, e_non3, e_non4, e_non5, e_non6, e_tru1, e_tru2, e_tru3, e_tru4, e_tru5, e_tru6, e_tru7, e_sl1, e_sl2, e_sl3, e_sl4, e_rev, e_it1, e_it2, e_it3, e_len1, e_len2, e_len3, e_len4, e_int1, e_int2, e_int3, e_min, e_max, e_min3, e_lst1, e_lst2, e_tup1, e_tup2, e_str, e_abs, e_lenS, e_ixS, Mi.qLt, Mi.qLe, Mi.qGt, Mi.qGe, List.map_cons, List.map_nil, List.length_map, true_and, and_true, Bool.false_eq_true, if_false, if_true, Bool.not_true, Bool.not_false, qEq_int, qEq_str, qEq_bl, qNe_int, qNe_str, qNe_bl, line0, line1, line2, line3, line4, line6, line7, line10, isi_list_lst, isi_list_tup, isi_list_non, isi_list_str, isi_list_int, isi_tup_tup, isi_bool_bl, isi_bool_int, isi_int_int, isi_int_bl, isi_int_non, isi_int_str, isi_str_str, isi_str_non, isi_str_int, startE_c, startE_n, startE_e, wFor_e, wLc_e, wipeE, wgName, wgTup, wgCons, wgNil, List.getElem?_cons_zero, List.getElem?_cons_succ, List.set_cons_zero, List.set_cons_succ, List.length_cons, List.length_nil, Mi.wC, Mi.wVar, Mi.wVarO, Mi.wOp, Mi.wUn, Mi.wCmp, Mi.wCmpT, Mi.wChainT, Mi.wChain, Mi.wTru, Mi.wAndT, Mi.wOrT, Mi.wNotT, Mi.wAnd, Mi.wOr, Mi.wNot, Mi.wIfE, Mi.wNoPart, Mi.wPart, Mi.wSl, Mi.wNil, Mi.wCons, Mi.wTup, Mi.wLst, Mi.wNext, Mi.wSeq, Mi.wFreeze, Mi.wForget, Mi.wBreak, Mi.wCont, Mi.wRet, Mi.wRetO, Mi.wRetN, Mi.wDrop, Mi.wIf, Mi.wNever, Mi.wAsg, Mi.wSetO, Mi.wPar, Mi.wAug, Mi.wApp, Mi.wSetIx, Mi.wExt, Mi.wItems, Mi.wRng1, Mi.wRng2, Mi.wRng3, Mi.wEnum, Mi.wZip, Mi.wYes, Mi.wCall, Mi.wCallX, Mi.wB2, Mi.wMin3, Mi.wIsi, Mi.wGuard, Mi.wGuardD, Mi.wRaise]
  refine ⟨.inl (.inl ⟨by omega, by omega⟩), ?_⟩
  refine cut_i (fun δ' => ∃ cell : Int, δ' = [st (.ext 0 (.lst (xs.map D.int))), st (.int a), st (.int cn), st (.int cell), none, none, none]) ?_ ?_
  · simp only [e_qI, e_qIC, e_add1, e_add2, e_add3, e_add4, e_catL, e_aug1, e_aug2, e_mul1, e_mul2, e_rep, e_div, e_mod, e_neg, e_ord1, e_ord2, e_isn, e_nin, e_non1, e_non2, e_non3, e_non4, e_non5, e_non6, e_tru1, e_tru2, e_tru3, e_tru4, e_tru5, e_tru6, e_tru7, e_sl1, e_sl2, e_sl3, e_sl4, e_rev, e_it1, e_it2, e_it3, e_len1, e_len2, e_len3, e_len4, e_int1, e_int2, e_int3, e_min, e_max, e_min3, e_lst1, e_lst2, e_tup1, e_tup2, e_str, e_abs, e_lenS, e_ixS, Mi.qLt, Mi.qLe, Mi.qGt, Mi.qGe, List.map_cons, List.map_nil, List.length_map, true_and, and_true, Bool.false_eq_true, if_false, if_true, Bool.not_true, Bool.not_false, qEq_int, qEq_str, qEq_bl, qNe_int, qNe_str, qNe_bl, line0, line1, line2, line3, line4, line6, line7, line10, isi_list_lst, isi_list_tup, isi_list_non, isi_list_str, isi_list_int, isi_tup_tup, isi_bool_bl, isi_bool_int, isi_int_int, isi_int_bl, isi_int_non, isi_int_str, isi_str_str, isi_str_non, isi_str_int, startE_c, startE_n, startE_e, wFor_e, wLc_e, wipeE, wgName, wgTup, wgCons, wgNil, List.getElem?_cons_zero, List.getElem?_cons_succ, List.set_cons_zero, List.set_cons_succ, List.length_cons, List.length_nil, Mi.wC, Mi.wVar, Mi.wVarO, Mi.wOp, Mi.wUn, Mi.wCmp, Mi.wCmpT, Mi.wChainT, Mi.wChain, Mi.wTru, Mi.wAndT, Mi.wOrT, Mi.wNotT, Mi.wAnd, Mi.wOr, Mi.wNot, Mi.wIfE, Mi.wNoPart, Mi.wPart, Mi.wSl, Mi.wNil, Mi.wCons, Mi.wTup, Mi.wLst, Mi.wNext, Mi.wSeq, Mi.wFreeze, Mi.wForget, Mi.wBreak, Mi.wCont, Mi.wRet, Mi.wRetO, Mi.wRetN, Mi.wDrop, Mi.wIf, Mi.wNever, Mi.wAsg, Mi.wSetO, Mi.wPar, Mi.wAug, Mi.wApp, Mi.wSetIx, Mi.wExt, Mi.wItems, Mi.wRng1, Mi.wRng2, Mi.wRng3, Mi.wEnum, Mi.wZip, Mi.wYes, Mi.wCall, Mi.wCallX, Mi.wB2, Mi.wMin3, Mi.wIsi, Mi.wGuard, Mi.wGuardD, Mi.wRaise]
    refine ite_i (fun e => ?_) fun e => ⟨_, rfl⟩
    have e := of_decide_eq_true e
    have hl : a < xs.length := by omega
    refine ⟨.int xs[a], Mi.atI_nat (by simp [hl]), fun n hn => ⟨n, rfl⟩⟩
  · rintro δ' ⟨cell, rfl⟩
    refine cut_i (fun δ' => ∃ cell : Int, δ' = [st (.ext 0 (.lst (xs.map D.int))), st (.int a), st (.int cn), st (.int cell), none, none, none]) ?_ ?_
    · simp only [e_qI, e_qIC, e_add1, e_add2, e_add3, e_add4, e_catL, e_aug1, e_aug2, e_mul1, e_mul2, e_rep, e_div, e_mod, e_neg, e_ord1, e_ord2, e_isn, e_nin, e_non1, e_non2, e_non3, e_non4, e_non5, e_non6, e_tru1, e_tru2, e_tru3, e_tru4, e_tru5, e_tru6, e_tru7, e_sl1, e_sl2, e_sl3, e_sl4, e_rev, e_it1, e_it2, e_it3, e_len1, e_len2, e_len3, e_len4, e_int1, e_int2, e_int3, e_min, e_max, e_min3, e_lst1, e_lst2, e_tup1, e_tup2, e_str, e_abs, e_lenS, e_ixS, Mi.qLt, Mi.qLe, Mi.qGt, Mi.qGe, List.map_cons, List.map_nil, List.length_map, true_and, and_true, Bool.false_eq_true, if_false, if_true, Bool.not_true, Bool.not_false, qEq_int, qEq_str, qEq_bl, qNe_int, qNe_str, qNe_bl, line0, line1, line2, line3, line4, line6, line7, line10, isi_list_lst, isi_list_tup, isi_list_non, isi_list_str, isi_list_int, isi_tup_tup, isi_bool_bl, isi_bool_int, isi_int_int, isi_int_bl, isi_int_non, isi_int_str, isi_str_str, isi_str_non, isi_str_int, startE_c, startE_n, startE_e, wFor_e, wLc_e, wipeE, wgName, wgTup, wgCons, wgNil, List.getElem?_cons_zero, List.getElem?_cons_succ, List.set_cons_zero, List.set_cons_succ, List.length_cons, List.length_nil, Mi.wC, Mi.wVar, Mi.wVarO, Mi.wOp, Mi.wUn, Mi.wCmp, Mi.wCmpT, Mi.wChainT, Mi.wChain, Mi.wTru, Mi.wAndT, Mi.wOrT, Mi.wNotT, Mi.wAnd, Mi.wOr, Mi.wNot, Mi.wIfE, Mi.wNoPart, Mi.wPart, Mi.wSl, Mi.wNil, Mi.wCons, Mi.wTup, Mi.wLst, Mi.wNext, Mi.wSeq, Mi.wFreeze, Mi.wForget, Mi.wBreak, Mi.wCont, Mi.wRet, Mi.wRetO, Mi.wRetN, Mi.wDrop, Mi.wIf, Mi.wNever, Mi.wAsg, Mi.wSetO, Mi.wPar, Mi.wAug, Mi.wApp, Mi.wSetIx, Mi.wExt, Mi.wItems, Mi.wRng1, Mi.wRng2, Mi.wRng3, Mi.wEnum, Mi.wZip, Mi.wYes, Mi.wCall, Mi.wCallX, Mi.wB2, Mi.wMin3, Mi.wIsi, Mi.wGuard, Mi.wGuardD, Mi.wRaise]
      exact ite_i (fun e => ⟨.inl (.inl ⟨by omega, by omega⟩), _, rfl⟩) fun e => ⟨_, rfl⟩
    · rintro δ' ⟨cell, rfl⟩
      simp only [e_qI, e_qIC, e_add1, e_add2, e_add3, e_add4, e_catL, e_aug1, e_aug2, e_mul1, e_mul2, e_rep, e_div, e_mod, e_neg, e_ord1, e_ord2, e_isn, e_nin, e_non1, e_non2, e_non3, e_non4, e_non5, e_non6, e_tru1, e_tru2, e_tru3, e_tru4, e_tru5, e_tru6, e_tru7, e_sl1, e_sl2, e_sl3, e_sl4, e_rev, e_it1, e_it2, e_it3, e_len1, e_len2, e_len3, e_len4, e_int1, e_int2, e_int3, e_min, e_max, e_min3, e_lst1, e_lst2, e_tup1, e_tup2, e_str, e_abs, e_lenS, e_ixS, Mi.qLt, Mi.qLe, Mi.qGt, Mi.qGe, List.map_cons, List.map_nil, List.length_map, true_and, and_true, Bool.false_eq_true, if_false, if_true, Bool.not_true, Bool.not_false, qEq_int, qEq_str, qEq_bl, qNe_int, qNe_str, qNe_bl, line0, line1, line2, line3, line4, line6, line7, line10, isi_list_lst, isi_list_tup, isi_list_non, isi_list_str, isi_list_int, isi_tup_tup, isi_bool_bl, isi_bool_int, isi_int_int, isi_int_bl, isi_int_non, isi_int_str, isi_str_str, isi_str_non, isi_str_int, startE_c, startE_n, startE_e, wFor_e, wLc_e, wipeE, wgName, wgTup, wgCons, wgNil, List.getElem?_cons_zero, List.getElem?_cons_succ, List.set_cons_zero, List.set_cons_succ, List.length_cons, List.length_nil, Mi.wC, Mi.wVar, Mi.wVarO, Mi.wOp, Mi.wUn, Mi.wCmp, Mi.wCmpT, Mi.wChainT, Mi.wChain, Mi.wTru, Mi.wAndT, Mi.wOrT, Mi.wNotT, Mi.wAnd, Mi.wOr, Mi.wNot, Mi.wIfE, Mi.wNoPart, Mi.wPart, Mi.wSl, Mi.wNil, Mi.wCons, Mi.wTup, Mi.wLst, Mi.wNext, Mi.wSeq, Mi.wFreeze, Mi.wForget, Mi.wBreak, Mi.wCont, Mi.wRet, Mi.wRetO, Mi.wRetN, Mi.wDrop, Mi.wIf, Mi.wNever, Mi.wAsg, Mi.wSetO, Mi.wPar, Mi.wAug, Mi.wApp, Mi.wSetIx, Mi.wExt, Mi.wItems, Mi.wRng1, Mi.wRng2, Mi.wRng3, Mi.wEnum, Mi.wZip, Mi.wYes, Mi.wCall, Mi.wCallX, Mi.wB2, Mi.wMin3, Mi.wIsi, Mi.wGuard, Mi.wGuardD, Mi.wRaise]
      refine cut_i (fun δ' => ∃ (ns : List Int) (c3 c5 c6 : Option Cell), δ' = [st (.ext 0 (.lst (xs.map D.int))), st (.int a), st (.int cn), c3, ow (.lst (ns.map D.int)), c5, c6] ∧ ns.length = cn ∧ ∀ n ∈ ns, 0 ≤ n ∧ n < 1009) ?_ ?_
      · simp only [e_qI, e_qIC, e_add1, e_add2, e_add3, e_add4, e_catL, e_aug1, e_aug2, e_mul1, e_mul2, e_rep, e_div, e_mod, e_neg, e_ord1, e_ord2, e_isn, e_nin, e_non1, e_non2, e_non3, e_non4, e_non5, e_non6, e_tru1, e_tru2, e_tru3, e_tru4, e_tru5, e_tru6, e_tru7, e_sl1, e_sl2, e_sl3, e_sl4, e_rev, e_it1, e_it2, e_it3, e_len1, e_len2, e_len3, e_len4, e_int1, e_int2, e_int3, e_min, e_max, e_min3, e_lst1, e_lst2, e_tup1, e_tup2, e_str, e_abs, e_lenS, e_ixS, Mi.qLt, Mi.qLe, Mi.qGt, Mi.qGe, List.map_cons, List.map_nil, List.length_map, true_and, and_true, Bool.false_eq_true, if_false, if_true, Bool.not_true, Bool.not_false, qEq_int, qEq_str, qEq_bl, qNe_int, qNe_str, qNe_bl, line0, line1, line2, line3, line4, line6, line7, line10, isi_list_lst, isi_list_tup, isi_list_non, isi_list_str, isi_list_int, isi_tup_tup, isi_bool_bl, isi_bool_int, isi_int_int, isi_int_bl, isi_int_non, isi_int_str, isi_str_str, isi_str_non, isi_str_int, startE_c, startE_n, startE_e, wFor_e, wLc_e, wipeE, wgName, wgTup, wgCons, wgNil, List.getElem?_cons_zero, List.getElem?_cons_succ, List.set_cons_zero, List.set_cons_succ, List.length_cons, List.length_nil, Mi.wC, Mi.wVar, Mi.wVarO, Mi.wOp, Mi.wUn, Mi.wCmp, Mi.wCmpT, Mi.wChainT, Mi.wChain, Mi.wTru, Mi.wAndT, Mi.wOrT, Mi.wNotT, Mi.wAnd, Mi.wOr, Mi.wNot, Mi.wIfE, Mi.wNoPart, Mi.wPart, Mi.wSl, Mi.wNil, Mi.wCons, Mi.wTup, Mi.wLst, Mi.wNext, Mi.wSeq, Mi.wFreeze, Mi.wForget, Mi.wBreak, Mi.wCont, Mi.wRet, Mi.wRetO, Mi.wRetN, Mi.wDrop, Mi.wIf, Mi.wNever, Mi.wAsg, Mi.wSetO, Mi.wPar, Mi.wAug, Mi.wApp, Mi.wSetIx, Mi.wExt, Mi.wItems, Mi.wRng1, Mi.wRng2, Mi.wRng3, Mi.wEnum, Mi.wZip, Mi.wYes, Mi.wCall, Mi.wCallX, Mi.wB2, Mi.wMin3, Mi.wIsi, Mi.wGuard, Mi.wGuardD, Mi.wRaise]
        refine ⟨by omega, by omega, ?_⟩
        rw [Int.toNat_natCast]
        refine for_i (fun k δ' => ∃ (ns : List Int) (cell : Int) (c5 c6 : Option Cell), δ' = [st (.ext 0 (.lst (xs.map D.int))), st (.int a), st (.int cn), st (.int cell), ow (.lst (ns.map D.int)), c5, c6] ∧ ns.length = k ∧ ∀ n ∈ ns, 0 ≤ n ∧ n < 1009) ⟨[], _, _, _, rfl, rfl, fun n hn => by cases hn⟩ ?_ ?_
        · rintro k d δ' hk ⟨ns, cell, c5, c6, rfl, hl, hb⟩
          obtain ⟨hk, rfl⟩ := rangeD_of hk
          have snoc : ∀ n : Int, 0 ≤ n → n < 1009 → ∀ m ∈ ns ++ [n], 0 ≤ m ∧ m < 1009 := fun n h1 h2 m hm => by
            rcases List.mem_append.mp hm with hm | hm
            · exact hb m hm
            · cases List.mem_singleton.mp hm; exact ⟨h1, h2⟩
          have hll : ns.length < Line := ltL (by omega)
          simp only [e_qI, e_qIC, e_add1, e_add2, e_add3, e_add4, e_catL, e_aug1, e_aug2, e_mul1, e_mul2, e_rep, e_div, e_mod, e_neg, e_ord1, e_ord2, e_isn, e_nin, e_non1, e_non2, e_non3, e_non4, e_non5, e_non6, e_tru1, e_tru2, e_tru3, e_tru4, e_tru5, e_tru6, e_tru7, e_sl1, e_sl2, e_sl3, e_sl4, e_rev, e_it1, e_it2, e_it3, e_len1, e_len2, e_len3, e_len4, e_int1, e_int2, e_int3, e_min, e_max, e_min3, e_lst1, e_lst2, e_tup1, e_tup2, e_str, e_abs, e_lenS, e_ixS, Mi.qLt, Mi.qLe, Mi.qGt, Mi.qGe, List.map_cons, List.map_nil, List.length_map, true_and, and_true, Bool.false_eq_true, if_false, if_true, Bool.not_true, Bool.not_false, qEq_int, qEq_str, qEq_bl, qNe_int, qNe_str, qNe_bl, line0, line1, line2, line3, line4, line6, line7, line10, isi_list_lst, isi_list_tup, isi_list_non, isi_list_str, isi_list_int, isi_tup_tup, isi_bool_bl, isi_bool_int, isi_int_int, isi_int_bl, isi_int_non, isi_int_str, isi_str_str, isi_str_non, isi_str_int, startE_c, startE_n, startE_e, wFor_e, wLc_e, wipeE, wgName, wgTup, wgCons, wgNil, List.getElem?_cons_zero, List.getElem?_cons_succ, List.set_cons_zero, List.set_cons_succ, List.length_cons, List.length_nil, Mi.wC, Mi.wVar, Mi.wVarO, Mi.wOp, Mi.wUn, Mi.wCmp, Mi.wCmpT, Mi.wChainT, Mi.wChain, Mi.wTru, Mi.wAndT, Mi.wOrT, Mi.wNotT, Mi.wAnd, Mi.wOr, Mi.wNot, Mi.wIfE, Mi.wNoPart, Mi.wPart, Mi.wSl, Mi.wNil, Mi.wCons, Mi.wTup, Mi.wLst, Mi.wNext, Mi.wSeq, Mi.wFreeze, Mi.wForget, Mi.wBreak, Mi.wCont, Mi.wRet, Mi.wRetO, Mi.wRetN, Mi.wDrop, Mi.wIf, Mi.wNever, Mi.wAsg, Mi.wSetO, Mi.wPar, Mi.wAug, Mi.wApp, Mi.wSetIx, Mi.wExt, Mi.wItems, Mi.wRng1, Mi.wRng2, Mi.wRng3, Mi.wEnum, Mi.wZip, Mi.wYes, Mi.wCall, Mi.wCallX, Mi.wB2, Mi.wMin3, Mi.wIsi, Mi.wGuard, Mi.wGuardD, Mi.wRaise, Int.zero_add]
          refine ⟨(by unfold CPow; decide), ite_i (fun e => ?_) fun e => ?_⟩
          · refine ⟨by omega, hll, by omega, by omega, ns ++ [cell % 1009], _, _, _, by rw [List.map_append]; rfl, by rw [List.length_append, hl]; rfl, snoc _ (Int.emod_nonneg _ (by omega)) (Int.emod_lt_of_pos _ (by omega))⟩
          · have e := of_decide_eq_false e
            have q1 : 0 ≤ (cell * 48271 + ((k : Int) + 1) * 69621 + (a : Int) * 4001) % 2147483647 := Int.emod_nonneg _ (by omega)
            have q2 : (cell * 48271 + ((k : Int) + 1) * 69621 + (a : Int) * 4001) % 2147483647 < 2147483647 := Int.emod_lt_of_pos _ (by omega)
            generalize (cell * 48271 + ((k : Int) + 1) * 69621 + (a : Int) * 4001) % 2147483647 = mx at *
            refine ⟨.inl (.inr ⟨by omega, by omega⟩), .inl (.inr ⟨by omega, by omega⟩), .inl (.inr ⟨by omega, by omega⟩), by omega, .inl (.inr ⟨by omega, by omega⟩), .inl (.inl ⟨by omega, by omega⟩), by omega, by omega, by omega, by omega, hll,
              ns ++ [(mx * mx + 16807 * ((k : Int) + 3)) % 2147483629 / 7 % 1009], _, _, _, by rw [List.map_append]; rfl, by rw [List.length_append, hl]; rfl, snoc _ (Int.emod_nonneg _ (by omega)) (Int.emod_lt_of_pos _ (by omega))⟩
        · rintro δ' ⟨ns, cell, c5, c6, rfl, hl, hb⟩
          rw [rangeD_len] at hl
          exact ⟨ns, _, _, _, rfl, hl, hb⟩
      · rintro δ' ⟨ns, c3, c5, c6, rfl, hl, hb⟩
        simp only [e_qI, e_qIC, e_add1, e_add2, e_add3, e_add4, e_catL, e_aug1, e_aug2, e_mul1, e_mul2, e_rep, e_div, e_mod, e_neg, e_ord1, e_ord2, e_isn, e_nin, e_non1, e_non2, e_non3, e_non4, e_non5, e_non6, e_tru1, e_tru2, e_tru3, e_tru4, e_tru5, e_tru6, e_tru7, e_sl1, e_sl2, e_sl3, e_sl4, e_rev, e_it1, e_it2, e_it3, e_len1, e_len2, e_len3, e_len4, e_int1, e_int2, e_int3, e_min, e_max, e_min3, e_lst1, e_lst2, e_tup1, e_tup2, e_str, e_abs, e_lenS, e_ixS, Mi.qLt, Mi.qLe, Mi.qGt, Mi.qGe, List.map_cons, List.map_nil, List.length_map, true_and, and_true, Bool.false_eq_true, if_false, if_true, Bool.not_true, Bool.not_false, qEq_int, qEq_str, qEq_bl, qNe_int, qNe_str, qNe_bl, line0, line1, line2, line3, line4, line6, line7, line10, isi_list_lst, isi_list_tup, isi_list_non, isi_list_str, isi_list_int, isi_tup_tup, isi_bool_bl, isi_bool_int, isi_int_int, isi_int_bl, isi_int_non, isi_int_str, isi_str_str, isi_str_non, isi_str_int, startE_c, startE_n, startE_e, wFor_e, wLc_e, wipeE, wgName, wgTup, wgCons, wgNil, List.getElem?_cons_zero, List.getElem?_cons_succ, List.set_cons_zero, List.set_cons_succ, List.length_cons, List.length_nil, Mi.wC, Mi.wVar, Mi.wVarO, Mi.wOp, Mi.wUn, Mi.wCmp, Mi.wCmpT, Mi.wChainT, Mi.wChain, Mi.wTru, Mi.wAndT, Mi.wOrT, Mi.wNotT, Mi.wAnd, Mi.wOr, Mi.wNot, Mi.wIfE, Mi.wNoPart, Mi.wPart, Mi.wSl, Mi.wNil, Mi.wCons, Mi.wTup, Mi.wLst, Mi.wNext, Mi.wSeq, Mi.wFreeze, Mi.wForget, Mi.wBreak, Mi.wCont, Mi.wRet, Mi.wRetO, Mi.wRetN, Mi.wDrop, Mi.wIf, Mi.wNever, Mi.wAsg, Mi.wSetO, Mi.wPar, Mi.wAug, Mi.wApp, Mi.wSetIx, Mi.wExt, Mi.wItems, Mi.wRng1, Mi.wRng2, Mi.wRng3, Mi.wEnum, Mi.wZip, Mi.wYes, Mi.wCall, Mi.wCallX, Mi.wB2, Mi.wMin3, Mi.wIsi, Mi.wGuard, Mi.wGuardD, Mi.wRaise]
        exact h ns hl hb

end
end K86
namespace K86
open PySem L2 Evl Mi
section
variable {P : Program} {w : World} {K : PySem.W.Frag} {mg : Str → Option Value} {base : Heap} {g : G}
theorem mem_cut {α : Type} {xs : List α} {l r : Option Int} {x : α} (h : x ∈ cutD xs l r) : x ∈ xs := by
  unfold cutD at h
  exact List.mem_of_mem_drop (List.mem_of_mem_take h)
theorem cut_len {α : Type} (xs : List α) (l r : Option Int) : (cutD xs l r).length ≤ xs.length := by
  unfold cutD
  rw [List.length_take, List.length_drop]; omega
theorem qNe_lst {xs ys : List D} {P : Bool → Prop} (h1 : okD (.lst xs)) (h2 : okD (.lst ys)) (p : P (!eqD (.lst xs) (.lst ys))) : qNe (.lst xs) (.lst ys) P := ⟨h1, h2, p⟩
theorem qIx_any {xs : List D} {i : Int} {P : D → Prop} (h0 : 0 ≤ i) (h1 : i < xs.length) (h : ∀ d ∈ xs, P d) : qIx (.lst xs) (.int i) P := by
  obtain ⟨k, rfl⟩ := Int.eq_ofNat_of_zero_le h0
  have hk : k < xs.length := by omega
  exact qIx_lst (List.getElem?_eq_getElem hk) (h _ (List.getElem_mem hk))
def c_bent : CT := fun ds EX P => ∃ (told : List D) (ns : List Int), ds = [.lst told, .lst (ns.map D.int)] ∧ told.length ≤ 5000 ∧ (∀ x ∈ told, Sh 1 x) ∧ 13 ≤ ns.length ∧ (∀ n ∈ ns, 0 ≤ n ∧ n < 1009) ∧
  ∀ vs : List D, vs.length ≤ 100 → (∀ v ∈ vs, vgood v) → P (.lst vs)
abbrev s_law_bent : Stmt := topS 25
abbrev N_law_bent : List Str := ["told", "numbers", "found", "k", "at", "other"]
theorem sc_law_bent : FnScope N_law_bent ["told", "numbers"] (defScope s_law_bent) := ⟨rfl, rfl, rfl, by decide +kernel, rfl, by decide +kernel, by decide +kernel⟩
theorem ok_law_bent {f : Addr} {fd : FuncData} (F : Fun K "_law_bent" "_law_bent" s_law_bent f fd) (T : Txt mg)  : FnOk P w K mg base CX0 (0 + 1) f fd ["told", "numbers"] (spD K g false c_bent) := by
  refine Mi.Fun.data F sc_law_bent (fun ds EX Q ⟨_, _, h, _⟩ => by rw [h]; rfl) (fun cdv A outer s H E S0 H0 hr => (ms_cons (ms_setO 2 sc_law_bent.nd (mf_lst (ma_cons (me_var 0) (ma_cons (me_tuple T.tuple rfl (mo_var 0)) (ma_cons me_non (ma_cons (me_lst ma_nil) (ma_cons (me_add (mo_var 0) (mo_of (me_lst (ma_cons (me_tup (ma_cons me_str (ma_cons me_int ma_nil))) ma_nil)))) (ma_cons (me_sl (mo_var 0) (mp_some (mo_of me_int)) mp_none) (ma_cons (me_sl (mo_var 0) mp_none (mp_some (mo_of (me_neg (mo_of me_int))))) (ma_cons (me_ofF (mf_rev (mo_var 0))) (ma_cons me_str (ma_cons me_int ma_nil))))))))))))
  (ms_cut (ms_for (vs := [3]) PassesOwn.never rfl (mi_range1 rfl T.range (mo_of me_int)) (mg_name 3 sc_law_bent.nd)
  (ms_one (ms_if (mt_ne hr.units (mo_var 0) (mo_of (me_lst ma_nil)))
  (ms_cons (ms_set 4 sc_law_bent.nd (me_modP (mo_of (me_ix hr.units (mo_var 1) (mo_var 3))) (mo_of (me_len T.len rfl (mo_var 0)))))
  (ms_cons (ms_set 5 sc_law_bent.nd (me_lst (ma_cons (me_tup (ma_cons me_str (ma_cons (me_modP (mo_of (me_ix hr.units (mo_var 1) (mo_of (me_add (mo_var 3) (mo_of me_int))))) (mo_of me_int)) ma_nil))) (ma_cons (me_tup (ma_cons me_str (ma_cons (me_modP (mo_of (me_ix hr.units (mo_var 1) (mo_of (me_add (mo_var 3) (mo_of me_int))))) (mo_of me_int)) ma_nil))) (ma_cons (me_tup (ma_cons me_str (ma_cons (me_modP (mo_of (me_ix hr.units (mo_var 1) (mo_of (me_add (mo_var 3) (mo_of me_int))))) (mo_of me_int)) (ma_cons (me_modP (mo_of (me_ix hr.units (mo_var 1) (mo_of (me_add (mo_var 3) (mo_of me_int))))) (mo_of me_int)) ma_nil)))) (ma_cons me_non (ma_cons (me_tup (ma_cons me_str ma_nil)) (ma_cons (me_lst (ma_cons me_str (ma_cons me_int ma_nil))) ma_nil))))))))
  (ms_cons (ms_app 2 (me_add (mo_of (me_add (mo_of (me_sl (mo_var 0) mp_none (mp_some (mo_var 4)))) (mo_of (me_lst (ma_cons (me_ix hr.units (mo_var 5) (mo_of (me_modP (mo_of (me_ix hr.units (mo_var 1) (mo_of (me_add (mo_var 3) (mo_of me_int))))) (mo_of me_int)))) ma_nil))))) (mo_of (me_sl (mo_var 0) (mp_some (mo_of (me_add (mo_var 4) (mo_of me_int)))) mp_none))))
  (ms_cons (ms_app 2 (me_add (mo_of (me_add (mo_of (me_sl (mo_var 0) mp_none (mp_some (mo_var 4)))) (mo_of (me_ofF (mf_rev (mo_of (me_sl (mo_var 0) (mp_some (mo_var 4)) (mp_some (mo_of (me_add (mo_var 4) (mo_of me_int))))))))))) (mo_of (me_sl (mo_var 0) (mp_some (mo_of (me_add (mo_var 4) (mo_of me_int)))) mp_none))))
  (ms_one (ms_app 2 (me_add (mo_of (me_add (mo_of (me_sl (mo_var 0) mp_none (mp_some (mo_var 4)))) (mo_of (me_sl (mo_var 0) (mp_some (mo_var 4)) (mp_some (mo_of (me_add (mo_var 4) (mo_of me_int)))))))) (mo_of (me_sl (mo_var 0) (mp_some (mo_var 4)) mp_none)))))))))
  ms_nil)))
  (ms_freeze 2 (ms_one (ms_ret rfl (me_var 2))))))) (fun ds Q h => ?_) (fun ds EX Q h => h)
  obtain ⟨told, ns, rfl, hl, hsh, hn, hns, h⟩ := h
  simp only [wSetO, wLst, startE_c, startE_n, startE_e]
  simp only [e_qI, e_qIC, e_add1, e_add2, e_add3, e_add4, e_catL, e_aug1, e_aug2, e_mul1, e_mul2, e_rep, e_div, e_mod, e_neg, e_ord1, e_ord2, e_isn, e_nin, e_non1, e_non2, e_non3, e_non4, e_non5, e_non6, e_tru1, e_tru2, e_tru3, e_tru4, e_tru5, e_tru6, e_tru7, e_sl1, e_sl2, e_sl3, e_sl4, e_rev, e_it1, e_it2, e_it3, e_len1, e_len2, e_len3, e_len4, e_int1, e_int2, e_int3, e_min, e_max, e_min3, e_lst1, e_lst2, e_tup1, e_tup2, e_str, e_abs, e_lenS, e_ixS, Mi.qLt, Mi.qLe, Mi.qGt, Mi.qGe, List.map_cons, List.map_nil, List.length_map, true_and, and_true, Bool.false_eq_true, if_false, if_true, Bool.not_true, Bool.not_false, qEq_int, qEq_str, qEq_bl, qNe_int, qNe_str, qNe_bl, line0, line1, line2, line3, line4, line6, line7, line10, isi_list_lst, isi_list_tup, isi_list_non, isi_list_str, isi_list_int, isi_tup_tup, isi_bool_bl, isi_bool_int, isi_int_int, isi_int_bl, isi_int_non, isi_int_str, isi_str_str, isi_str_non, isi_str_int, startE_c, startE_n, startE_e, wFor_e, wLc_e, wipeE, wgName, wgTup, wgCons, wgNil, List.getElem?_cons_zero, List.getElem?_cons_succ, List.set_cons_zero, List.set_cons_succ, List.length_cons, List.length_nil, Mi.wC, Mi.wVar, Mi.wVarO, Mi.wOp, Mi.wUn, Mi.wCmp, Mi.wCmpT, Mi.wChainT, Mi.wChain, Mi.wTru, Mi.wAndT, Mi.wOrT, Mi.wNotT, Mi.wAnd, Mi.wOr, Mi.wNot, Mi.wIfE, Mi.wNoPart, Mi.wPart, Mi.wSl, Mi.wNil, Mi.wCons, Mi.wTup, Mi.wLst, Mi.wNext, Mi.wSeq, Mi.wFreeze, Mi.wForget, Mi.wBreak, Mi.wCont, Mi.wRet, Mi.wRetO, Mi.wRetN, Mi.wDrop, Mi.wIf, Mi.wNever, Mi.wAsg, Mi.wSetO, Mi.wPar, Mi.wAug, Mi.wApp, Mi.wSetIx, Mi.wExt, Mi.wItems, Mi.wRng1, Mi.wRng2, Mi.wRng3, Mi.wEnum, Mi.wZip, Mi.wYes, Mi.wCall, Mi.wCallX, Mi.wB2, Mi.wMin3, Mi.wIsi, Mi.wGuard, Mi.wGuardD, Mi.wRaise]
  refine ⟨leL (by omega), ?_⟩
  have gl : ∀ xs : List D, (∀ x ∈ xs, Sh 1 x) → vgood (.lst xs) := fun xs hx => .inl ⟨xs, rfl, fun x hm => (hx x hm).ok⟩
  have hcut : ∀ l r, ∀ x ∈ cutD told l r, Sh 1 x := fun l r x hx => hsh x (mem_cut hx)
  have hclen : ∀ l r, (cutD told l r).length ≤ 5000 := fun l r => Nat.le_trans (cut_len _ _ _) hl
  have nget : ∀ i : Nat, i < 13 → ∃ n : Int, (ns.map D.int)[i]? = some (.int n) ∧ 0 ≤ n ∧ n < 1009 := fun i hi => by
    have hi2 : i < ns.length := by omega
    exact ⟨ns[i], by simp [hi2], hns _ (List.getElem_mem hi2)⟩
  have sapp : ∀ {xs ys : List D}, (∀ x ∈ xs, Sh 1 x) → (∀ x ∈ ys, Sh 1 x) → ∀ x ∈ xs ++ ys, Sh 1 x := fun h1 h2 x hx => (List.mem_append.mp hx).elim (h1 x) (h2 x)
  have sone : ∀ {y : D}, Sh 1 y → ∀ x ∈ [y], Sh 1 x := fun h x hx => by cases List.mem_singleton.mp hx; exact h
  refine cut_i (fun δ' => ∃ (F : List D) (c3 c4 c5 : Option Cell), δ' = [st (.lst told), st (.lst (ns.map D.int)), ow (.lst F), c3, c4, c5] ∧ F.length ≤ 100 ∧ ∀ v ∈ F, vgood v) ?_ ?_
  · simp only [e_qI, e_qIC, e_add1, e_add2, e_add3, e_add4, e_catL, e_aug1, e_aug2, e_mul1, e_mul2, e_rep, e_div, e_mod, e_neg, e_ord1, e_ord2, e_isn, e_nin, e_non1, e_non2, e_non3, e_non4, e_non5, e_non6, e_tru1, e_tru2, e_tru3, e_tru4, e_tru5, e_tru6, e_tru7, e_sl1, e_sl2, e_sl3, e_sl4, e_rev, e_it1, e_it2, e_it3, e_len1, e_len2, e_len3, e_len4, e_int1, e_int2, e_int3, e_min, e_max, e_min3, e_lst1, e_lst2, e_tup1, e_tup2, e_str, e_abs, e_lenS, e_ixS, Mi.qLt, Mi.qLe, Mi.qGt, Mi.qGe, List.map_cons, List.map_nil, List.length_map, true_and, and_true, Bool.false_eq_true, if_false, if_true, Bool.not_true, Bool.not_false, qEq_int, qEq_str, qEq_bl, qNe_int, qNe_str, qNe_bl, line0, line1, line2, line3, line4, line6, line7, line10, isi_list_lst, isi_list_tup, isi_list_non, isi_list_str, isi_list_int, isi_tup_tup, isi_bool_bl, isi_bool_int, isi_int_int, isi_int_bl, isi_int_non, isi_int_str, isi_str_str, isi_str_non, isi_str_int, startE_c, startE_n, startE_e, wFor_e, wLc_e, wipeE, wgName, wgTup, wgCons, wgNil, List.getElem?_cons_zero, List.getElem?_cons_succ, List.set_cons_zero, List.set_cons_succ, List.length_cons, List.length_nil, Mi.wC, Mi.wVar, Mi.wVarO, Mi.wOp, Mi.wUn, Mi.wCmp, Mi.wCmpT, Mi.wChainT, Mi.wChain, Mi.wTru, Mi.wAndT, Mi.wOrT, Mi.wNotT, Mi.wAnd, Mi.wOr, Mi.wNot, Mi.wIfE, Mi.wNoPart, Mi.wPart, Mi.wSl, Mi.wNil, Mi.wCons, Mi.wTup, Mi.wLst, Mi.wNext, Mi.wSeq, Mi.wFreeze, Mi.wForget, Mi.wBreak, Mi.wCont, Mi.wRet, Mi.wRetO, Mi.wRetN, Mi.wDrop, Mi.wIf, Mi.wNever, Mi.wAsg, Mi.wSetO, Mi.wPar, Mi.wAug, Mi.wApp, Mi.wSetIx, Mi.wExt, Mi.wItems, Mi.wRng1, Mi.wRng2, Mi.wRng3, Mi.wEnum, Mi.wZip, Mi.wYes, Mi.wCall, Mi.wCallX, Mi.wB2, Mi.wMin3, Mi.wIsi, Mi.wGuard, Mi.wGuardD, Mi.wRaise]
    refine ⟨by omega, by omega, ?_⟩
    refine for_i (fun k δ' => ∃ (F : List D) (c3 c4 c5 : Option Cell), δ' = [st (.lst told), st (.lst (ns.map D.int)), ow (.lst F), c3, c4, c5] ∧ F.length ≤ 10 + 3 * k ∧ ∀ v ∈ F, vgood v) ⟨_, _, _, _, rfl, Nat.le_refl _, ?_⟩ ?_ ?_
    · intro v hv
      simp only [List.mem_cons, List.not_mem_nil, or_false] at hv
      rcases hv with rfl | rfl | rfl | rfl | rfl | rfl | rfl | rfl | rfl | rfl
      · exact gl _ hsh
      · exact .inr (.inl ⟨_, rfl⟩)
      · exact .inr (.inr (.inl rfl))
      · exact gl _ fun x hx => by cases hx
      · exact gl _ (sapp hsh (sone (sh_tup (n := 0) fun x hx => by
          simp only [List.mem_cons, List.not_mem_nil, or_false] at hx
          rcases hx with rfl | rfl
          · exact sh_str (by decide +kernel)
          · exact sh_int)))
      · exact gl _ (hcut _ _)
      · exact gl _ (hcut _ _)
      · exact gl _ fun x hx => hsh x (List.mem_reverse.mp hx)
      · exact .inr (.inr (.inr (.inl ⟨_, rfl⟩)))
      · exact .inr (.inr (.inr (.inr ⟨_, rfl⟩)))
    · rintro k d δ' hk ⟨F, c3, c4, c5, rfl, hF, hg⟩
      obtain ⟨hk, rfl⟩ := rangeD_of hk
      have hk4 : k < 4 := by assumption
      simp only [e_qI, e_qIC, e_add1, e_add2, e_add3, e_add4, e_catL, e_aug1, e_aug2, e_mul1, e_mul2, e_rep, e_div, e_mod, e_neg, e_ord1, e_ord2, e_isn, e_nin, e_non1, e_non2, e_non3, e_non4, e_non5, e_non6, e_tru1, e_tru2, e_tru3, e_tru4, e_tru5, e_tru6, e_tru7, e_sl1, e_sl2, e_sl3, e_sl4, e_rev, e_it1, e_it2, e_it3, e_len1, e_len2, e_len3, e_len4, e_int1, e_int2, e_int3, e_min, e_max, e_min3, e_lst1, e_lst2, e_tup1, e_tup2, e_str, e_abs, e_lenS, e_ixS, Mi.qLt, Mi.qLe, Mi.qGt, Mi.qGe, List.map_cons, List.map_nil, List.length_map, true_and, and_true, Bool.false_eq_true, if_false, if_true, Bool.not_true, Bool.not_false, qEq_int, qEq_str, qEq_bl, qNe_int, qNe_str, qNe_bl, line0, line1, line2, line3, line4, line6, line7, line10, isi_list_lst, isi_list_tup, isi_list_non, isi_list_str, isi_list_int, isi_tup_tup, isi_bool_bl, isi_bool_int, isi_int_int, isi_int_bl, isi_int_non, isi_int_str, isi_str_str, isi_str_non, isi_str_int, startE_c, startE_n, startE_e, wFor_e, wLc_e, wipeE, wgName, wgTup, wgCons, wgNil, List.getElem?_cons_zero, List.getElem?_cons_succ, List.set_cons_zero, List.set_cons_succ, List.length_cons, List.length_nil, Mi.wC, Mi.wVar, Mi.wVarO, Mi.wOp, Mi.wUn, Mi.wCmp, Mi.wCmpT, Mi.wChainT, Mi.wChain, Mi.wTru, Mi.wAndT, Mi.wOrT, Mi.wNotT, Mi.wAnd, Mi.wOr, Mi.wNot, Mi.wIfE, Mi.wNoPart, Mi.wPart, Mi.wSl, Mi.wNil, Mi.wCons, Mi.wTup, Mi.wLst, Mi.wNext, Mi.wSeq, Mi.wFreeze, Mi.wForget, Mi.wBreak, Mi.wCont, Mi.wRet, Mi.wRetO, Mi.wRetN, Mi.wDrop, Mi.wIf, Mi.wNever, Mi.wAsg, Mi.wSetO, Mi.wPar, Mi.wAug, Mi.wApp, Mi.wSetIx, Mi.wExt, Mi.wItems, Mi.wRng1, Mi.wRng2, Mi.wRng3, Mi.wEnum, Mi.wZip, Mi.wYes, Mi.wCall, Mi.wCallX, Mi.wB2, Mi.wMin3, Mi.wIsi, Mi.wGuard, Mi.wGuardD, Mi.wRaise, Int.zero_add]
      refine qNe_lst (sh_lst hsh).ok (sh_lst (n := 0) (xs := []) fun x hx => by cases hx).ok ?_
      refine ite_i (fun e => ?_) fun e => ?_
      · have hpos : 0 < told.length := by
          cases told with
          | nil => cases e
          | cons x xs => exact Nat.succ_pos _
        obtain ⟨n0, g0, _, _⟩ := nget k (by omega)
        obtain ⟨n4, g4, _, _⟩ := nget (k + 4) (by omega)
        obtain ⟨n5, g5, _, _⟩ := nget (k + 5) (by omega)
        obtain ⟨n9, g9, _, _⟩ := nget (k + 9) (by omega)
        refine qIx_lst g0 ?_
        simp only [e_qI, e_qIC, e_add1, e_add2, e_add3, e_add4, e_catL, e_aug1, e_aug2, e_mul1, e_mul2, e_rep, e_div, e_mod, e_neg, e_ord1, e_ord2, e_isn, e_nin, e_non1, e_non2, e_non3, e_non4, e_non5, e_non6, e_tru1, e_tru2, e_tru3, e_tru4, e_tru5, e_tru6, e_tru7, e_sl1, e_sl2, e_sl3, e_sl4, e_rev, e_it1, e_it2, e_it3, e_len1, e_len2, e_len3, e_len4, e_int1, e_int2, e_int3, e_min, e_max, e_min3, e_lst1, e_lst2, e_tup1, e_tup2, e_str, e_abs, e_lenS, e_ixS, Mi.qLt, Mi.qLe, Mi.qGt, Mi.qGe, List.map_cons, List.map_nil, List.length_map, true_and, and_true, Bool.false_eq_true, if_false, if_true, Bool.not_true, Bool.not_false, qEq_int, qEq_str, qEq_bl, qNe_int, qNe_str, qNe_bl, line0, line1, line2, line3, line4, line6, line7, line10, isi_list_lst, isi_list_tup, isi_list_non, isi_list_str, isi_list_int, isi_tup_tup, isi_bool_bl, isi_bool_int, isi_int_int, isi_int_bl, isi_int_non, isi_int_str, isi_str_str, isi_str_non, isi_str_int, startE_c, startE_n, startE_e, wFor_e, wLc_e, wipeE, wgName, wgTup, wgCons, wgNil, List.getElem?_cons_zero, List.getElem?_cons_succ, List.set_cons_zero, List.set_cons_succ, List.length_cons, List.length_nil, Mi.wC, Mi.wVar, Mi.wVarO, Mi.wOp, Mi.wUn, Mi.wCmp, Mi.wCmpT, Mi.wChainT, Mi.wChain, Mi.wTru, Mi.wAndT, Mi.wOrT, Mi.wNotT, Mi.wAnd, Mi.wOr, Mi.wNot, Mi.wIfE, Mi.wNoPart, Mi.wPart, Mi.wSl, Mi.wNil, Mi.wCons, Mi.wTup, Mi.wLst, Mi.wNext, Mi.wSeq, Mi.wFreeze, Mi.wForget, Mi.wBreak, Mi.wCont, Mi.wRet, Mi.wRetO, Mi.wRetN, Mi.wDrop, Mi.wIf, Mi.wNever, Mi.wAsg, Mi.wSetO, Mi.wPar, Mi.wAug, Mi.wApp, Mi.wSetIx, Mi.wExt, Mi.wItems, Mi.wRng1, Mi.wRng2, Mi.wRng3, Mi.wEnum, Mi.wZip, Mi.wYes, Mi.wCall, Mi.wCallX, Mi.wB2, Mi.wMin3, Mi.wIsi, Mi.wGuard, Mi.wGuardD, Mi.wRaise]
        refine ⟨by omega, ?_⟩
        refine qIx_lst (i := k + 4) g4 ?_
        simp only [e_qI, e_qIC, e_add1, e_add2, e_add3, e_add4, e_catL, e_aug1, e_aug2, e_mul1, e_mul2, e_rep, e_div, e_mod, e_neg, e_ord1, e_ord2, e_isn, e_nin, e_non1, e_non2, e_non3, e_non4, e_non5, e_non6, e_tru1, e_tru2, e_tru3, e_tru4, e_tru5, e_tru6, e_tru7, e_sl1, e_sl2, e_sl3, e_sl4, e_rev, e_it1, e_it2, e_it3, e_len1, e_len2, e_len3, e_len4, e_int1, e_int2, e_int3, e_min, e_max, e_min3, e_lst1, e_lst2, e_tup1, e_tup2, e_str, e_abs, e_lenS, e_ixS, Mi.qLt, Mi.qLe, Mi.qGt, Mi.qGe, List.map_cons, List.map_nil, List.length_map, true_and, and_true, Bool.false_eq_true, if_false, if_true, Bool.not_true, Bool.not_false, qEq_int, qEq_str, qEq_bl, qNe_int, qNe_str, qNe_bl, line0, line1, line2, line3, line4, line6, line7, line10, isi_list_lst, isi_list_tup, isi_list_non, isi_list_str, isi_list_int, isi_tup_tup, isi_bool_bl, isi_bool_int, isi_int_int, isi_int_bl, isi_int_non, isi_int_str, isi_str_str, isi_str_non, isi_str_int, startE_c, startE_n, startE_e, wFor_e, wLc_e, wipeE, wgName, wgTup, wgCons, wgNil, List.getElem?_cons_zero, List.getElem?_cons_succ, List.set_cons_zero, List.set_cons_succ, List.length_cons, List.length_nil, Mi.wC, Mi.wVar, Mi.wVarO, Mi.wOp, Mi.wUn, Mi.wCmp, Mi.wCmpT, Mi.wChainT, Mi.wChain, Mi.wTru, Mi.wAndT, Mi.wOrT, Mi.wNotT, Mi.wAnd, Mi.wOr, Mi.wNot, Mi.wIfE, Mi.wNoPart, Mi.wPart, Mi.wSl, Mi.wNil, Mi.wCons, Mi.wTup, Mi.wLst, Mi.wNext, Mi.wSeq, Mi.wFreeze, Mi.wForget, Mi.wBreak, Mi.wCont, Mi.wRet, Mi.wRetO, Mi.wRetN, Mi.wDrop, Mi.wIf, Mi.wNever, Mi.wAsg, Mi.wSetO, Mi.wPar, Mi.wAug, Mi.wApp, Mi.wSetIx, Mi.wExt, Mi.wItems, Mi.wRng1, Mi.wRng2, Mi.wRng3, Mi.wEnum, Mi.wZip, Mi.wYes, Mi.wCall, Mi.wCallX, Mi.wB2, Mi.wMin3, Mi.wIsi, Mi.wGuard, Mi.wGuardD, Mi.wRaise]
        refine ⟨by omega, ?_⟩
        refine qIx_lst (i := k + 4) g4 ?_
        simp only [e_qI, e_qIC, e_add1, e_add2, e_add3, e_add4, e_catL, e_aug1, e_aug2, e_mul1, e_mul2, e_rep, e_div, e_mod, e_neg, e_ord1, e_ord2, e_isn, e_nin, e_non1, e_non2, e_non3, e_non4, e_non5, e_non6, e_tru1, e_tru2, e_tru3, e_tru4, e_tru5, e_tru6, e_tru7, e_sl1, e_sl2, e_sl3, e_sl4, e_rev, e_it1, e_it2, e_it3, e_len1, e_len2, e_len3, e_len4, e_int1, e_int2, e_int3, e_min, e_max, e_min3, e_lst1, e_lst2, e_tup1, e_tup2, e_str, e_abs, e_lenS, e_ixS, Mi.qLt, Mi.qLe, Mi.qGt, Mi.qGe, List.map_cons, List.map_nil, List.length_map, true_and, and_true, Bool.false_eq_true, if_false, if_true, Bool.not_true, Bool.not_false, qEq_int, qEq_str, qEq_bl, qNe_int, qNe_str, qNe_bl, line0, line1, line2, line3, line4, line6, line7, line10, isi_list_lst, isi_list_tup, isi_list_non, isi_list_str, isi_list_int, isi_tup_tup, isi_bool_bl, isi_bool_int, isi_int_int, isi_int_bl, isi_int_non, isi_int_str, isi_str_str, isi_str_non, isi_str_int, startE_c, startE_n, startE_e, wFor_e, wLc_e, wipeE, wgName, wgTup, wgCons, wgNil, List.getElem?_cons_zero, List.getElem?_cons_succ, List.set_cons_zero, List.set_cons_succ, List.length_cons, List.length_nil, Mi.wC, Mi.wVar, Mi.wVarO, Mi.wOp, Mi.wUn, Mi.wCmp, Mi.wCmpT, Mi.wChainT, Mi.wChain, Mi.wTru, Mi.wAndT, Mi.wOrT, Mi.wNotT, Mi.wAnd, Mi.wOr, Mi.wNot, Mi.wIfE, Mi.wNoPart, Mi.wPart, Mi.wSl, Mi.wNil, Mi.wCons, Mi.wTup, Mi.wLst, Mi.wNext, Mi.wSeq, Mi.wFreeze, Mi.wForget, Mi.wBreak, Mi.wCont, Mi.wRet, Mi.wRetO, Mi.wRetN, Mi.wDrop, Mi.wIf, Mi.wNever, Mi.wAsg, Mi.wSetO, Mi.wPar, Mi.wAug, Mi.wApp, Mi.wSetIx, Mi.wExt, Mi.wItems, Mi.wRng1, Mi.wRng2, Mi.wRng3, Mi.wEnum, Mi.wZip, Mi.wYes, Mi.wCall, Mi.wCallX, Mi.wB2, Mi.wMin3, Mi.wIsi, Mi.wGuard, Mi.wGuardD, Mi.wRaise]
        refine ⟨by omega, ?_⟩
        refine qIx_lst (i := k + 4) g4 ?_
        simp only [e_qI, e_qIC, e_add1, e_add2, e_add3, e_add4, e_catL, e_aug1, e_aug2, e_mul1, e_mul2, e_rep, e_div, e_mod, e_neg, e_ord1, e_ord2, e_isn, e_nin, e_non1, e_non2, e_non3, e_non4, e_non5, e_non6, e_tru1, e_tru2, e_tru3, e_tru4, e_tru5, e_tru6, e_tru7, e_sl1, e_sl2, e_sl3, e_sl4, e_rev, e_it1, e_it2, e_it3, e_len1, e_len2, e_len3, e_len4, e_int1, e_int2, e_int3, e_min, e_max, e_min3, e_lst1, e_lst2, e_tup1, e_tup2, e_str, e_abs, e_lenS, e_ixS, Mi.qLt, Mi.qLe, Mi.qGt, Mi.qGe, List.map_cons, List.map_nil, List.length_map, true_and, and_true, Bool.false_eq_true, if_false, if_true, Bool.not_true, Bool.not_false, qEq_int, qEq_str, qEq_bl, qNe_int, qNe_str, qNe_bl, line0, line1, line2, line3, line4, line6, line7, line10, isi_list_lst, isi_list_tup, isi_list_non, isi_list_str, isi_list_int, isi_tup_tup, isi_bool_bl, isi_bool_int, isi_int_int, isi_int_bl, isi_int_non, isi_int_str, isi_str_str, isi_str_non, isi_str_int, startE_c, startE_n, startE_e, wFor_e, wLc_e, wipeE, wgName, wgTup, wgCons, wgNil, List.getElem?_cons_zero, List.getElem?_cons_succ, List.set_cons_zero, List.set_cons_succ, List.length_cons, List.length_nil, Mi.wC, Mi.wVar, Mi.wVarO, Mi.wOp, Mi.wUn, Mi.wCmp, Mi.wCmpT, Mi.wChainT, Mi.wChain, Mi.wTru, Mi.wAndT, Mi.wOrT, Mi.wNotT, Mi.wAnd, Mi.wOr, Mi.wNot, Mi.wIfE, Mi.wNoPart, Mi.wPart, Mi.wSl, Mi.wNil, Mi.wCons, Mi.wTup, Mi.wLst, Mi.wNext, Mi.wSeq, Mi.wFreeze, Mi.wForget, Mi.wBreak, Mi.wCont, Mi.wRet, Mi.wRetO, Mi.wRetN, Mi.wDrop, Mi.wIf, Mi.wNever, Mi.wAsg, Mi.wSetO, Mi.wPar, Mi.wAug, Mi.wApp, Mi.wSetIx, Mi.wExt, Mi.wItems, Mi.wRng1, Mi.wRng2, Mi.wRng3, Mi.wEnum, Mi.wZip, Mi.wYes, Mi.wCall, Mi.wCallX, Mi.wB2, Mi.wMin3, Mi.wIsi, Mi.wGuard, Mi.wGuardD, Mi.wRaise]
        refine ⟨by omega, ?_⟩
        refine qIx_lst (i := k + 5) g5 ?_
        simp only [e_qI, e_qIC, e_add1, e_add2, e_add3, e_add4, e_catL, e_aug1, e_aug2, e_mul1, e_mul2, e_rep, e_div, e_mod, e_neg, e_ord1, e_ord2, e_isn, e_nin, e_non1, e_non2, e_non3, e_non4, e_non5, e_non6, e_tru1, e_tru2, e_tru3, e_tru4, e_tru5, e_tru6, e_tru7, e_sl1, e_sl2, e_sl3, e_sl4, e_rev, e_it1, e_it2, e_it3, e_len1, e_len2, e_len3, e_len4, e_int1, e_int2, e_int3, e_min, e_max, e_min3, e_lst1, e_lst2, e_tup1, e_tup2, e_str, e_abs, e_lenS, e_ixS, Mi.qLt, Mi.qLe, Mi.qGt, Mi.qGe, List.map_cons, List.map_nil, List.length_map, true_and, and_true, Bool.false_eq_true, if_false, if_true, Bool.not_true, Bool.not_false, qEq_int, qEq_str, qEq_bl, qNe_int, qNe_str, qNe_bl, line0, line1, line2, line3, line4, line6, line7, line10, isi_list_lst, isi_list_tup, isi_list_non, isi_list_str, isi_list_int, isi_tup_tup, isi_bool_bl, isi_bool_int, isi_int_int, isi_int_bl, isi_int_non, isi_int_str, isi_str_str, isi_str_non, isi_str_int, startE_c, startE_n, startE_e, wFor_e, wLc_e, wipeE, wgName, wgTup, wgCons, wgNil, List.getElem?_cons_zero, List.getElem?_cons_succ, List.set_cons_zero, List.set_cons_succ, List.length_cons, List.length_nil, Mi.wC, Mi.wVar, Mi.wVarO, Mi.wOp, Mi.wUn, Mi.wCmp, Mi.wCmpT, Mi.wChainT, Mi.wChain, Mi.wTru, Mi.wAndT, Mi.wOrT, Mi.wNotT, Mi.wAnd, Mi.wOr, Mi.wNot, Mi.wIfE, Mi.wNoPart, Mi.wPart, Mi.wSl, Mi.wNil, Mi.wCons, Mi.wTup, Mi.wLst, Mi.wNext, Mi.wSeq, Mi.wFreeze, Mi.wForget, Mi.wBreak, Mi.wCont, Mi.wRet, Mi.wRetO, Mi.wRetN, Mi.wDrop, Mi.wIf, Mi.wNever, Mi.wAsg, Mi.wSetO, Mi.wPar, Mi.wAug, Mi.wApp, Mi.wSetIx, Mi.wExt, Mi.wItems, Mi.wRng1, Mi.wRng2, Mi.wRng3, Mi.wEnum, Mi.wZip, Mi.wYes, Mi.wCall, Mi.wCallX, Mi.wB2, Mi.wMin3, Mi.wIsi, Mi.wGuard, Mi.wGuardD, Mi.wRaise]
        refine ⟨by omega, ?_⟩
        refine qIx_lst (i := k + 9) g9 ?_
        simp only [e_qI, e_qIC, e_add1, e_add2, e_add3, e_add4, e_catL, e_aug1, e_aug2, e_mul1, e_mul2, e_rep, e_div, e_mod, e_neg, e_ord1, e_ord2, e_isn, e_nin, e_non1, e_non2, e_non3, e_non4, e_non5, e_non6, e_tru1, e_tru2, e_tru3, e_tru4, e_tru5, e_tru6, e_tru7, e_sl1, e_sl2, e_sl3, e_sl4, e_rev, e_it1, e_it2, e_it3, e_len1, e_len2, e_len3, e_len4, e_int1, e_int2, e_int3, e_min, e_max, e_min3, e_lst1, e_lst2, e_tup1, e_tup2, e_str, e_abs, e_lenS, e_ixS, Mi.qLt, Mi.qLe, Mi.qGt, Mi.qGe, List.map_cons, List.map_nil, List.length_map, true_and, and_true, Bool.false_eq_true, if_false, if_true, Bool.not_true, Bool.not_false, qEq_int, qEq_str, qEq_bl, qNe_int, qNe_str, qNe_bl, line0, line1, line2, line3, line4, line6, line7, line10, isi_list_lst, isi_list_tup, isi_list_non, isi_list_str, isi_list_int, isi_tup_tup, isi_bool_bl, isi_bool_int, isi_int_int, isi_int_bl, isi_int_non, isi_int_str, isi_str_str, isi_str_non, isi_str_int, startE_c, startE_n, startE_e, wFor_e, wLc_e, wipeE, wgName, wgTup, wgCons, wgNil, List.getElem?_cons_zero, List.getElem?_cons_succ, List.set_cons_zero, List.set_cons_succ, List.length_cons, List.length_nil, Mi.wC, Mi.wVar, Mi.wVarO, Mi.wOp, Mi.wUn, Mi.wCmp, Mi.wCmpT, Mi.wChainT, Mi.wChain, Mi.wTru, Mi.wAndT, Mi.wOrT, Mi.wNotT, Mi.wAnd, Mi.wOr, Mi.wNot, Mi.wIfE, Mi.wNoPart, Mi.wPart, Mi.wSl, Mi.wNil, Mi.wCons, Mi.wTup, Mi.wLst, Mi.wNext, Mi.wSeq, Mi.wFreeze, Mi.wForget, Mi.wBreak, Mi.wCont, Mi.wRet, Mi.wRetO, Mi.wRetN, Mi.wDrop, Mi.wIf, Mi.wNever, Mi.wAsg, Mi.wSetO, Mi.wPar, Mi.wAug, Mi.wApp, Mi.wSetIx, Mi.wExt, Mi.wItems, Mi.wRng1, Mi.wRng2, Mi.wRng3, Mi.wEnum, Mi.wZip, Mi.wYes, Mi.wCall, Mi.wCallX, Mi.wB2, Mi.wMin3, Mi.wIsi, Mi.wGuard, Mi.wGuardD, Mi.wRaise]
        refine ⟨by omega, ?_⟩
        generalize n0 % (told.length : Int) = q
        have tup1 : ∀ (s : Str) (xs : List D), PySem.PyData.strOk s = true → (∀ x ∈ xs, Sh 0 x) → Sh 1 (.tup (.str s :: xs)) := fun s xs hs hx => sh_tup (n := 0) fun x hm => by
          rcases List.mem_cons.mp hm with rfl | hm
          · exact sh_str hs
          · exact hx x hm
        have i1 : ∀ a : Int, ∀ x ∈ [D.int a], Sh 0 x := fun a x hx => by cases List.mem_singleton.mp hx; exact sh_int
        have i2 : ∀ a b : Int, ∀ x ∈ [D.int a, D.int b], Sh 0 x := fun a b x hx => by
          simp only [List.mem_cons, List.not_mem_nil, or_false] at hx
          rcases hx with rfl | rfl
          · exact sh_int
          · exact sh_int
        refine qIx_any (Int.emod_nonneg _ (by omega)) (Int.emod_lt_of_pos _ (by omega)) fun o ho => ?_
        have hso : Sh 1 o := by
          simp only [List.mem_cons, List.not_mem_nil, or_false] at ho
          rcases ho with rfl | rfl | rfl | rfl | rfl | rfl
          · exact tup1 _ _ (by decide +kernel) (i1 _)
          · exact tup1 _ _ (by decide +kernel) (i1 _)
          · exact tup1 _ _ (by decide +kernel) (i2 _ _)
          · exact sh_non
          · exact tup1 _ _ (by decide +kernel) (fun x hx => by cases hx)
          · exact sh_lst (n := 0) fun x hx => by
              simp only [List.mem_cons, List.not_mem_nil, or_false] at hx
              rcases hx with rfl | rfl
              · exact sh_str (by decide +kernel)
              · exact sh_int
        have la : ∀ l r, (cutD told l r).length ≤ 5000 := hclen
        have hF2 : F.length < 1000 := by omega
        simp only [e_qI, e_qIC, e_add1, e_add2, e_add3, e_add4, e_catL, e_aug1, e_aug2, e_mul1, e_mul2, e_rep, e_div, e_mod, e_neg, e_ord1, e_ord2, e_isn, e_nin, e_non1, e_non2, e_non3, e_non4, e_non5, e_non6, e_tru1, e_tru2, e_tru3, e_tru4, e_tru5, e_tru6, e_tru7, e_sl1, e_sl2, e_sl3, e_sl4, e_rev, e_it1, e_it2, e_it3, e_len1, e_len2, e_len3, e_len4, e_int1, e_int2, e_int3, e_min, e_max, e_min3, e_lst1, e_lst2, e_tup1, e_tup2, e_str, e_abs, e_lenS, e_ixS, Mi.qLt, Mi.qLe, Mi.qGt, Mi.qGe, List.map_cons, List.map_nil, List.length_map, true_and, and_true, Bool.false_eq_true, if_false, if_true, Bool.not_true, Bool.not_false, qEq_int, qEq_str, qEq_bl, qNe_int, qNe_str, qNe_bl, line0, line1, line2, line3, line4, line6, line7, line10, isi_list_lst, isi_list_tup, isi_list_non, isi_list_str, isi_list_int, isi_tup_tup, isi_bool_bl, isi_bool_int, isi_int_int, isi_int_bl, isi_int_non, isi_int_str, isi_str_str, isi_str_non, isi_str_int, startE_c, startE_n, startE_e, wFor_e, wLc_e, wipeE, wgName, wgTup, wgCons, wgNil, List.getElem?_cons_zero, List.getElem?_cons_succ, List.set_cons_zero, List.set_cons_succ, List.length_cons, List.length_nil, Mi.wC, Mi.wVar, Mi.wVarO, Mi.wOp, Mi.wUn, Mi.wCmp, Mi.wCmpT, Mi.wChainT, Mi.wChain, Mi.wTru, Mi.wAndT, Mi.wOrT, Mi.wNotT, Mi.wAnd, Mi.wOr, Mi.wNot, Mi.wIfE, Mi.wNoPart, Mi.wPart, Mi.wSl, Mi.wNil, Mi.wCons, Mi.wTup, Mi.wLst, Mi.wNext, Mi.wSeq, Mi.wFreeze, Mi.wForget, Mi.wBreak, Mi.wCont, Mi.wRet, Mi.wRetO, Mi.wRetN, Mi.wDrop, Mi.wIf, Mi.wNever, Mi.wAsg, Mi.wSetO, Mi.wPar, Mi.wAug, Mi.wApp, Mi.wSetIx, Mi.wExt, Mi.wItems, Mi.wRng1, Mi.wRng2, Mi.wRng3, Mi.wEnum, Mi.wZip, Mi.wYes, Mi.wCall, Mi.wCallX, Mi.wB2, Mi.wMin3, Mi.wIsi, Mi.wGuard, Mi.wGuardD, Mi.wRaise, List.length_append, List.length_reverse]
        refine ⟨leL (by have := la none (some q); omega), leL (by have := la none (some q); have := la (some (q + 1)) none; omega), ltL (by omega), leL (by have := la none (some q); have := la (some q) (some (q + 2)); omega),
          leL (by have := la none (some q); have := la (some q) (some (q + 2)); have := la (some (q + 2)) none; omega), ltL (by omega), leL (by have := la none (some q); have := la (some q) (some (q + 1)); omega),
          leL (by have := la none (some q); have := la (some q) (some (q + 1)); have := la (some q) none; omega), ltL (by omega), _, _, _, _, rfl, ?_, ?_⟩
        · rw [List.length_append, List.length_append, List.length_append]
          simp only [List.length_cons, List.length_nil]
          omega
        · intro v hv
          rcases List.mem_append.mp hv with hv | hv
          · rcases List.mem_append.mp hv with hv | hv
            · rcases List.mem_append.mp hv with hv | hv
              · exact hg v hv
              · cases List.mem_singleton.mp hv
                exact gl _ (sapp (sapp (hcut _ _) (sone hso)) (hcut _ _))
            · cases List.mem_singleton.mp hv
              exact gl _ (sapp (sapp (hcut _ _) fun x hx => hcut _ _ x (List.mem_reverse.mp hx)) (hcut _ _))
          · cases List.mem_singleton.mp hv
            exact gl _ (sapp (sapp (hcut _ _) (hcut _ _)) (hcut _ _))
      · exact ⟨F, _, _, _, rfl, by omega, hg⟩
    · rintro δ' ⟨F, c3, c4, c5, rfl, hF, hg⟩
      have : F.length ≤ 10 + 3 * 4 := hF
      exact ⟨F, _, _, _, rfl, by omega, hg⟩
  · rintro δ' ⟨F, c3, c4, c5, rfl, hF, hg⟩
    simp only [e_qI, e_qIC, e_add1, e_add2, e_add3, e_add4, e_catL, e_aug1, e_aug2, e_mul1, e_mul2, e_rep, e_div, e_mod, e_neg, e_ord1, e_ord2, e_isn, e_nin, e_non1, e_non2, e_non3, e_non4, e_non5, e_non6, e_tru1, e_tru2, e_tru3, e_tru4, e_tru5, e_tru6, e_tru7, e_sl1, e_sl2, e_sl3, e_sl4, e_rev, e_it1, e_it2, e_it3, e_len1, e_len2, e_len3, e_len4, e_int1, e_int2, e_int3, e_min, e_max, e_min3, e_lst1, e_lst2, e_tup1, e_tup2, e_str, e_abs, e_lenS, e_ixS, Mi.qLt, Mi.qLe, Mi.qGt, Mi.qGe, List.map_cons, List.map_nil, List.length_map, true_and, and_true, Bool.false_eq_true, if_false, if_true, Bool.not_true, Bool.not_false, qEq_int, qEq_str, qEq_bl, qNe_int, qNe_str, qNe_bl, line0, line1, line2, line3, line4, line6, line7, line10, isi_list_lst, isi_list_tup, isi_list_non, isi_list_str, isi_list_int, isi_tup_tup, isi_bool_bl, isi_bool_int, isi_int_int, isi_int_bl, isi_int_non, isi_int_str, isi_str_str, isi_str_non, isi_str_int, startE_c, startE_n, startE_e, wFor_e, wLc_e, wipeE, wgName, wgTup, wgCons, wgNil, List.getElem?_cons_zero, List.getElem?_cons_succ, List.set_cons_zero, List.set_cons_succ, List.length_cons, List.length_nil, Mi.wC, Mi.wVar, Mi.wVarO, Mi.wOp, Mi.wUn, Mi.wCmp, Mi.wCmpT, Mi.wChainT, Mi.wChain, Mi.wTru, Mi.wAndT, Mi.wOrT, Mi.wNotT, Mi.wAnd, Mi.wOr, Mi.wNot, Mi.wIfE, Mi.wNoPart, Mi.wPart, Mi.wSl, Mi.wNil, Mi.wCons, Mi.wTup, Mi.wLst, Mi.wNext, Mi.wSeq, Mi.wFreeze, Mi.wForget, Mi.wBreak, Mi.wCont, Mi.wRet, Mi.wRetO, Mi.wRetN, Mi.wDrop, Mi.wIf, Mi.wNever, Mi.wAsg, Mi.wSetO, Mi.wPar, Mi.wAug, Mi.wApp, Mi.wSetIx, Mi.wExt, Mi.wItems, Mi.wRng1, Mi.wRng2, Mi.wRng3, Mi.wEnum, Mi.wZip, Mi.wYes, Mi.wCall, Mi.wCallX, Mi.wB2, Mi.wMin3, Mi.wIsi, Mi.wGuard, Mi.wGuardD, Mi.wRaise]
    exact h F hF hg

end
end K86
namespace K86
open PySem L2 Evl Mi
section
variable {P : Program} {w : World} {K : PySem.W.Frag} {mg : Str → Option Value} {base : Heap} {g : G}
def c_refused : CT := fun ds EX P => ∃ A B T wh, ds = [SS A, SS B, .int wh] ∧ A.length ≤ 5000 ∧ B.length ≤ 5000 ∧ IsT A B T ∧ (Few A B → P .non) ∧ (¬ Few A B → P (.int 1900))
abbrev s_law_refused : Stmt := topS 26
abbrev N_law_refused : List Str := ["first", "second", "which", "e"]
theorem sc_law_refused : FnScope N_law_refused ["first", "second", "which"] (defScope s_law_refused) := ⟨rfl, rfl, rfl, by decide +kernel, rfl, by decide +kernel, by decide +kernel⟩
theorem ok_law_refused {f : Addr} {fd : FuncData} (F : Fun K "_law_refused" "_law_refused" s_law_refused f fd) (T : Txt mg) {CTM CBN : Addr} (Z1 : CalX P w K mg base g true "changes" 4 (c_changes CTM)) (Z2 : CalX P w K mg base g false "change_count" 5 (c_count CTM)) (TT : ExcTwo K CTM CBN) (hno : PySem.W.findIn K (.ref CTM) "limit" = some none) (hmb : mg "BadNumber" = some (.ref CBN)) (hmt : mg "TooMany" = some (.ref CTM)) : FnOk P w K mg base CX0 (5 + 1) f fd ["first", "second", "which"] (spD K g false c_refused) := by
  refine Mi.Fun.data F sc_law_refused (fun ds EX Q ⟨_, _, _, _, h, _⟩ => by rw [h]; rfl) (fun cdv A outer s H E S0 H0 hr => (ms_cons (ms_tryMixed rfl 3 TT hno T.isinstance hmb hmt sc_law_refused.nd (fun pn xe EX2 tk2 po2 =>
  (ms_one (ms_if (mt_eq hr.units (mo_var 2) (mo_of me_int))
  (ms_one (ms_expr (me_ofF (mf_callX Z1 tk2 (hr.mono (by decide)) rfl (ma_cons (me_var 0) (ma_cons (me_var 1) ma_nil))))))
  (ms_one (ms_expr (me_callX Z2 tk2 (hr.mono (by decide)) rfl (ma_cons (me_var 0) (ma_cons (me_var 1) ma_nil)))))))))
  (ms_one (ms_ret rfl me_non)))) (fun ds Q h => ?_) (fun ds EX Q h => h)
  obtain ⟨A, B, T', wh, rfl, hA, hB, hT, h1, h2⟩ := h
  simp only [e_qI, e_qIC, e_add1, e_add2, e_add3, e_add4, e_catL, e_aug1, e_aug2, e_mul1, e_mul2, e_rep, e_div, e_mod, e_neg, e_ord1, e_ord2, e_isn, e_nin, e_non1, e_non2, e_non3, e_non4, e_non5, e_non6, e_tru1, e_tru2, e_tru3, e_tru4, e_tru5, e_tru6, e_tru7, e_sl1, e_sl2, e_sl3, e_sl4, e_rev, e_it1, e_it2, e_it3, e_len1, e_len2, e_len3, e_len4, e_int1, e_int2, e_int3, e_min, e_max, e_min3, e_lst1, e_lst2, e_tup1, e_tup2, e_str, e_abs, e_lenS, e_ixS, Mi.qLt, Mi.qLe, Mi.qGt, Mi.qGe, List.map_cons, List.map_nil, List.length_map, true_and, and_true, Bool.false_eq_true, if_false, if_true, Bool.not_true, Bool.not_false, qEq_int, qEq_str, qEq_bl, qNe_int, qNe_str, qNe_bl, line0, line1, line2, line3, line4, line6, line7, line10, isi_list_lst, isi_list_tup, isi_list_non, isi_list_str, isi_list_int, isi_tup_tup, isi_bool_bl, isi_bool_int, isi_int_int, isi_int_bl, isi_int_non, isi_int_str, isi_str_str, isi_str_non, isi_str_int, startE_c, startE_n, startE_e, wFor_e, wLc_e, wipeE, wgName, wgTup, wgCons, wgNil, List.getElem?_cons_zero, List.getElem?_cons_succ, List.set_cons_zero, List.set_cons_succ, List.length_cons, List.length_nil, Mi.wC, Mi.wVar, Mi.wVarO, Mi.wOp, Mi.wUn, Mi.wCmp, Mi.wCmpT, Mi.wChainT, Mi.wChain, Mi.wTru, Mi.wAndT, Mi.wOrT, Mi.wNotT, Mi.wAnd, Mi.wOr, Mi.wNot, Mi.wIfE, Mi.wNoPart, Mi.wPart, Mi.wSl, Mi.wNil, Mi.wCons, Mi.wTup, Mi.wLst, Mi.wNext, Mi.wSeq, Mi.wFreeze, Mi.wForget, Mi.wBreak, Mi.wCont, Mi.wRet, Mi.wRetO, Mi.wRetN, Mi.wDrop, Mi.wIf, Mi.wNever, Mi.wAsg, Mi.wSetO, Mi.wPar, Mi.wAug, Mi.wApp, Mi.wSetIx, Mi.wExt, Mi.wItems, Mi.wRng1, Mi.wRng2, Mi.wRng3, Mi.wEnum, Mi.wZip, Mi.wYes, Mi.wCall, Mi.wCallX, Mi.wB2, Mi.wMin3, Mi.wIsi, Mi.wGuard, Mi.wGuardD, Mi.wRaise]
  intro EX' hE
  have hX : ¬ Few A B → ∀ z : Exc, z.cls = CTM → z.bare = false → z.fs = [(("limit" : Str), D.int 1900)] → EX' z := fun nf z z1 z2 z3 => hE z z1 z2 (.int 1900) (by rw [z3]; rfl) (h2 nf)
  simp only [e_qI, e_qIC, e_add1, e_add2, e_add3, e_add4, e_catL, e_aug1, e_aug2, e_mul1, e_mul2, e_rep, e_div, e_mod, e_neg, e_ord1, e_ord2, e_isn, e_nin, e_non1, e_non2, e_non3, e_non4, e_non5, e_non6, e_tru1, e_tru2, e_tru3, e_tru4, e_tru5, e_tru6, e_tru7, e_sl1, e_sl2, e_sl3, e_sl4, e_rev, e_it1, e_it2, e_it3, e_len1, e_len2, e_len3, e_len4, e_int1, e_int2, e_int3, e_min, e_max, e_min3, e_lst1, e_lst2, e_tup1, e_tup2, e_str, e_abs, e_lenS, e_ixS, Mi.qLt, Mi.qLe, Mi.qGt, Mi.qGe, List.map_cons, List.map_nil, List.length_map, true_and, and_true, Bool.false_eq_true, if_false, if_true, Bool.not_true, Bool.not_false, qEq_int, qEq_str, qEq_bl, qNe_int, qNe_str, qNe_bl, line0, line1, line2, line3, line4, line6, line7, line10, isi_list_lst, isi_list_tup, isi_list_non, isi_list_str, isi_list_int, isi_tup_tup, isi_bool_bl, isi_bool_int, isi_int_int, isi_int_bl, isi_int_non, isi_int_str, isi_str_str, isi_str_non, isi_str_int, startE_c, startE_n, startE_e, wFor_e, wLc_e, wipeE, wgName, wgTup, wgCons, wgNil, List.getElem?_cons_zero, List.getElem?_cons_succ, List.set_cons_zero, List.set_cons_succ, List.length_cons, List.length_nil, Mi.wC, Mi.wVar, Mi.wVarO, Mi.wOp, Mi.wUn, Mi.wCmp, Mi.wCmpT, Mi.wChainT, Mi.wChain, Mi.wTru, Mi.wAndT, Mi.wOrT, Mi.wNotT, Mi.wAnd, Mi.wOr, Mi.wNot, Mi.wIfE, Mi.wNoPart, Mi.wPart, Mi.wSl, Mi.wNil, Mi.wCons, Mi.wTup, Mi.wLst, Mi.wNext, Mi.wSeq, Mi.wFreeze, Mi.wForget, Mi.wBreak, Mi.wCont, Mi.wRet, Mi.wRetO, Mi.wRetN, Mi.wDrop, Mi.wIf, Mi.wNever, Mi.wAsg, Mi.wSetO, Mi.wPar, Mi.wAug, Mi.wApp, Mi.wSetIx, Mi.wExt, Mi.wItems, Mi.wRng1, Mi.wRng2, Mi.wRng3, Mi.wEnum, Mi.wZip, Mi.wYes, Mi.wCall, Mi.wCallX, Mi.wB2, Mi.wMin3, Mi.wIsi, Mi.wGuard, Mi.wGuardD, Mi.wRaise]
  refine ite_i (fun e => ?_) fun e => ?_
  · exact ⟨A, B, T', rfl, hA, hB, hT, hX, fun hf => h1 hf⟩
  · exact ⟨A, B, T', rfl, hA, hB, hT, hX, fun hf => h1 hf⟩

end
end K86
namespace K86
open PySem L2 Evl Mi
section
variable {P : Program} {w : World} {K : PySem.W.Frag} {mg : Str → Option Value} {base : Heap} {g : G}
def c_law : CT := fun ds EX P => ∃ xs : List Int, ds = [.ext 0 (.lst (xs.map D.int))] ∧ P (.bl true)
theorem cut_map {α β : Type} (f : α → β) (xs : List α) (l r : Option Int) : cutD (xs.map f) l r = (cutD xs l r).map f := by
  unfold cutD; rw [List.length_map, ← List.map_drop, ← List.map_take]
theorem cut_le {α : Type} (xs : List α) (lo hi : Nat) : (cutD xs (some (lo : Int)) (some (hi : Int))).length ≤ hi - lo := by
  unfold cutD
  rw [HT.sIx_nat, HT.sIx_nat, List.length_take]
  omega
theorem cut_eq {α : Type} (xs : List α) (lo hi : Nat) (h : hi ≤ xs.length) : (cutD xs (some (lo : Int)) (some (hi : Int))).length = hi - lo := by
  unfold cutD
  rw [HT.sIx_nat, HT.sIx_nat, List.length_take, List.length_drop]
  omega
/-- a list of words, not long -/
structure Ws (n : Nat) (A : List Str) : Prop where
  len : A.length ≤ n
  ok : ∀ s ∈ A, PySem.PyData.strOk s = true
theorem Ws.sh {n : Nat} {A : List Str} (h : Ws n A) : Sh 1 (SS A) := sh_lst (n := 0) fun x hx => by
  obtain ⟨s, hs, rfl⟩ := List.mem_map.mp hx
  exact sh_str (h.ok s hs)
theorem Ws.few {A B : List Str} (h1 : Ws 14 A) (h2 : Ws 14 B) : Few A B := by
  unfold Few
  have := Nat.mul_le_mul (Nat.add_le_add_right h1.len 1) (Nat.add_le_add_right h2.len 1)
  omega
theorem sh_tup2 {s : Str} {i : Int} (h : PySem.PyData.strOk s = true) : Sh 1 (.tup [.str s, .int i]) := sh_tup (n := 0) fun x hx => by
  simp only [List.mem_cons, List.not_mem_nil, or_false] at hx
  rcases hx with rfl | rfl
  · exact sh_str h
  · exact sh_int
theorem sh_tup3 {s : Str} {i j : Int} (h : PySem.PyData.strOk s = true) : Sh 1 (.tup [.str s, .int i, .int j]) := sh_tup (n := 0) fun x hx => by
  simp only [List.mem_cons, List.not_mem_nil, or_false] at hx
  rcases hx with rfl | rfl | rfl
  · exact sh_str h
  · exact sh_int
  · exact sh_int
theorem ch_sh (c : Ch) : Sh 1 c.d := by
  cases c with
  | stay i j => exact sh_tup3 (by decide +kernel)
  | come j => exact sh_tup2 (by decide +kernel)
  | go j => exact sh_tup2 (by decide +kernel)
theorem due_sh (A B : List Str) (T : Nat) : ∀ x ∈ dueL A B T, Sh 1 x := fun x hx => by
  obtain ⟨t, _, rfl⟩ := List.mem_map.mp hx
  exact ch_sh _
theorem rep_SS (n : Nat) : D.lst (List.replicate n [D.str "a"]).flatten = SS (List.replicate n "a") := by
  rw [rep_flat, ← List.map_replicate]
/-- the words of a drawn row -/
theorem lc_words {items : List D} {δ : Mi.Env} {P : D → Prop} {we : WE} {i : Nat} (hlen : items.length ≤ 12) (hs : ∀ d ∈ items, ∃ n : Int, d = .int n ∧ 0 ≤ n ∧ n < 1009)
    (hw : ∀ (n : Int) (R : D → Prop), 0 ≤ n → n < 1009 → (∀ s : Str, PySem.PyData.strOk s = true → R (.str s)) → we (δ.set i (st (.int n))) (fun _ => False) R)
    (hP : ∀ A : List Str, Ws 12 A → P (SS A)) : lcD items (wgName i) wYes we δ P := by
  refine lc_i (fun k acc => ∃ A : List Str, acc = A.map D.str ∧ A.length = k ∧ ∀ s ∈ A, PySem.PyData.strOk s = true) (leL (by omega)) ⟨[], rfl, rfl, fun s hs => by cases hs⟩ ?_ ?_
  · rintro k d acc hk ⟨A, rfl, hA, ho⟩ _
    obtain ⟨n, rfl, h0, h1⟩ := hs d (List.mem_of_getElem? hk)
    simp only [wgName, wYes, if_true]
    refine hw n _ h0 h1 fun s hs2 => ⟨A ++ [s], by rw [List.map_append]; rfl, by rw [List.length_append, hA]; rfl, fun t ht => ?_⟩
    rcases List.mem_append.mp ht with ht | ht
    · exact ho t ht
    · cases List.mem_singleton.mp ht; exact hs2
  · rintro acc ⟨A, rfl, hA, ho⟩
    exact hP A ⟨by omega, ho⟩
abbrev s_law : Stmt := topS 27
abbrev N_law : List Str := ["script", "at", "some", "which", "numbers", "first", "second", "pairs", "one", "other", "due", "turn", "value", "number", "told", "left", "right", "change"]
theorem sc_law : FnScope N_law ["script"] (defScope s_law) := ⟨rfl, rfl, rfl, by decide +kernel, rfl, by decide +kernel, by decide +kernel⟩
theorem ok_law {f : Addr} {fd : FuncData} (F : Fun K "law" "law" s_law f fd) (T : Txt mg) {CTM : Addr} (hsc : HScr K g) (Zn : Cal P w K mg base g false "_law_numbers" 1 c_numbers) (Zd : Cal P w K mg base g false "_law_due" 3 c_due) (Zc : CalX P w K mg base g true "changes" 4 (c_changes CTM)) (Zo : Cal P w K mg base g false "done" 1 c_done)
    (Zk : CalX P w K mg base g false "change_count" 5 (c_count CTM)) (Zb : Cal P w K mg base g false "_law_bent" 1 c_bent) (Za : Cal P w K mg base g false "are_changes" 1 c_are) (Zr : Cal P w K mg base g false "_law_right" 1 c_are) (Zf : Cal P w K mg base g false "_law_refused" 6 c_refused) : FnOk P w K mg base CX0 (6 + 1) f fd ["script"] (spD K g false c_law) := by
  refine Mi.Fun.data F sc_law (fun ds EX Q ⟨_, h, _⟩ => by rw [h]; rfl) (fun cdv A outer s H E S0 H0 hr => (ms_cut (ms_for (vs := [1]) PassesOwn.never rfl (mi_range1 rfl T.range (mo_of me_int)) (mg_name 1 sc_law.nd)
  (ms_cons (ms_set 4 sc_law.nd (me_call Zn (hr.mono (by decide)) rfl (ma_cons (me_var 0) (ma_cons (me_var 1) (ma_cons me_int ma_nil)))))
  (ms_cons (ms_setLc 5 (own := [("number", 13)]) rfl sc_law.nd (mi_any (me_sl (mo_var 4) (mp_some (mo_of me_int)) (mp_some (mo_of (me_add (mo_of me_int) (mo_of (me_modP (mo_of (me_ix hr.units (mo_var 4) (mo_of me_int))) (mo_of me_int)))))))) (blkOk_by (N := N_law) (sc := defScope s_law) (by decide +kernel)) (fun _ _ _ _ _ => (mg_name 13 sc_law.nd)) (fun _ _ _ _ _ => mts_nil) (fun _ _ _ _ _ => (me_ix hr.units (mo_of (me_lst (ma_cons me_str (ma_cons me_str (ma_cons me_str ma_nil))))) (mo_of (me_modP (mo_var 13) (mo_of (me_add (mo_of me_int) (mo_of (me_modP (mo_of (me_ix hr.units (mo_var 4) (mo_of me_int))) (mo_of me_int))))))))))
  (ms_cons (ms_setLc 6 (own := [("number", 13)]) rfl sc_law.nd (mi_any (me_sl (mo_var 4) (mp_some (mo_of me_int)) (mp_some (mo_of (me_add (mo_of me_int) (mo_of (me_modP (mo_of (me_ix hr.units (mo_var 4) (mo_of me_int))) (mo_of me_int)))))))) (blkOk_by (N := N_law) (sc := defScope s_law) (by decide +kernel)) (fun _ _ _ _ _ => (mg_name 13 sc_law.nd)) (fun _ _ _ _ _ => mts_nil) (fun _ _ _ _ _ => (me_ix hr.units (mo_of (me_lst (ma_cons me_str (ma_cons me_str (ma_cons me_str ma_nil))))) (mo_of (me_modP (mo_var 13) (mo_of (me_add (mo_of me_int) (mo_of (me_modP (mo_of (me_ix hr.units (mo_var 4) (mo_of me_int))) (mo_of me_int))))))))))
  (ms_cons (ms_set 7 sc_law.nd (me_lst (ma_cons (me_tup (ma_cons (me_var 5) (ma_cons (me_var 6) ma_nil))) (ma_cons (me_tup (ma_cons (me_var 6) (ma_cons (me_var 5) ma_nil))) (ma_cons (me_tup (ma_cons (me_var 5) (ma_cons (me_ofF (mf_list T.list rfl (mo_var 5))) ma_nil))) (ma_cons (me_tup (ma_cons (me_lst ma_nil) (ma_cons (me_var 6) ma_nil))) (ma_cons (me_tup (ma_cons (me_var 5) (ma_cons (me_lst ma_nil) ma_nil))) (ma_cons (me_tup (ma_cons (me_var 5) (ma_cons (me_add (mo_of (me_sl (mo_var 5) (mp_some (mo_of (me_modP (mo_of (me_ix hr.units (mo_var 4) (mo_of me_int))) (mo_of me_int)))) mp_none)) (mo_of (me_sl (mo_var 6) mp_none (mp_some (mo_of me_int))))) ma_nil))) (ma_cons (me_tup (ma_cons (me_lst ma_nil) (ma_cons (me_lst ma_nil) ma_nil))) ma_nil)))))))))
  (ms_one (ms_for (vs := [8, 9]) PassesOwn.never rfl (mi_any (me_var 7)) (mg_tup 2 rfl (mgs_cons (mg_name 8 sc_law.nd) (mgs_cons (mg_name 9 sc_law.nd) mgs_nil)) rfl rfl (fun _ _ _ h => wgCons_len (fun _ _ _ h => wgCons_len (fun _ _ _ h => wgNil_len h) wgName_ex h) wgName_ex h))
  (ms_cons (ms_set 10 sc_law.nd (me_call Zd (hr.mono (by decide)) rfl (ma_cons (me_var 8) (ma_cons (me_var 9) ma_nil))))
  (ms_cut (ms_for (vs := [11]) PassesOwn.never rfl (mi_range1 rfl T.range (mo_of me_int)) (mg_name 11 sc_law.nd)
  (ms_cons (ms_par 15 16 rfl sc_law.nd (me_ofF (mf_list T.list rfl (mo_var 8))) (me_ofF (mf_list T.list rfl (mo_var 9))))
  (ms_cons (ms_setO 14 sc_law.nd (mf_callX Zc (takes_never (fun _ h => h) rfl) (hr.mono (by decide)) rfl (ma_cons (me_var 15) (ma_cons (me_var 16) ma_nil))))
  (ms_cons (ms_ifD (mt_w (mw_or (mt_not (mt_tru (mo_of (me_isi (T := "list") T.isinstance rfl rfl T.list boot_list'' (mo_var 14))))) (mw_or (mt_ne hr.units (mo_var 14) (mo_var 10)) (mw_or (mt_ne hr.units (mo_var 15) (mo_var 8)) (mw_or1 (mt_ne hr.units (mo_var 16) (mo_var 9)))))))
  (ms_one (ms_ret rfl me_bl))
  ms_nil)
  (ms_cons (ms_guardD 14 (mt_w (mw_or (mt_ne hr.units (mo_of (me_ofF (mf_lc (own := [("change", 17)]) rfl sc_law.nd (mi_any (me_var 14)) (blkOk_by (N := N_law) (sc := defScope s_law) (by decide +kernel)) (fun _ _ _ _ _ => (mg_name 17 sc_law.nd)) (fun _ _ _ _ _ => (mts_one (mt_not (mt_tru (mo_of (me_isi (T := "tuple") T.isinstance rfl rfl T.tuple boot_tuple'' (mo_var 17))))))) (fun _ _ _ _ _ => (me_var 17))))) (mo_of (me_lst ma_nil))) (mw_or1 (mt_ne hr.units (mo_of (me_call Zo (hr.mono (by decide)) rfl (ma_cons (me_var 15) (ma_cons (me_var 16) (ma_cons (me_var 14) ma_nil))))) (mo_var 9)))))
  (ms_one (ms_ret rfl me_bl)))
  (ms_one (ms_app 14 me_int)))))))
  (ms_cons (ms_if (mt_ne hr.units (mo_of (me_callX Zk (takes_never (fun _ h => h) rfl) (hr.mono (by decide)) rfl (ma_cons (me_var 8) (ma_cons (me_var 9) ma_nil)))) (mo_of (me_len T.len rfl (mo_of (me_ofF (mf_lc (own := [("change", 17)]) rfl sc_law.nd (mi_any (me_var 10)) (blkOk_by (N := N_law) (sc := defScope s_law) (by decide +kernel)) (fun _ _ _ _ _ => (mg_name 17 sc_law.nd)) (fun _ _ _ _ _ => (mts_one (mt_ne hr.units (mo_of (me_ix hr.units (mo_var 17) (mo_of me_int))) (mo_of me_str)))) (fun _ _ _ _ _ => (me_var 17))))))))
  (ms_one (ms_ret rfl me_bl))
  ms_nil)
  (ms_one (ms_for (vs := [12]) PassesOwn.never rfl (mi_any (me_call Zb (hr.mono (by decide)) rfl (ma_cons (me_var 10) (ma_cons (me_sl (mo_var 4) (mp_some (mo_of me_int)) (mp_some (mo_of me_int))) ma_nil)))) (mg_name 12 sc_law.nd)
  (ms_cons (ms_set 14 sc_law.nd (me_call Za (hr.mono (by decide)) rfl (ma_cons (me_var 8) (ma_cons (me_var 9) (ma_cons (me_var 12) ma_nil)))))
  (ms_one (ms_ifD (mt_w (mw_or (mt_not (mt_tru (mo_of (me_isi (T := "bool") T.isinstance rfl rfl T.bool boot_bool'' (mo_var 14))))) (mw_or1 (mt_ne hr.units (mo_var 14) (mo_of (me_call Zr (hr.mono (by decide)) rfl (ma_cons (me_var 8) (ma_cons (me_var 9) (ma_cons (me_var 12) ma_nil)))))))))
  (ms_one (ms_ret rfl me_bl))
  ms_nil)))))))))))))))
  (ms_cons (ms_set 2 sc_law.nd (me_modP (mo_of (me_ix hr.units (mo_of (me_call Zn (hr.mono (by decide)) rfl (ma_cons (me_var 0) (ma_cons me_int (ma_cons me_int ma_nil))))) (mo_of me_int))) (mo_of me_int)))
  (ms_cons (ms_ifD (mt_w (mw_and (mt_eq hr.units (mo_var 2) (mo_of me_int)) (mw_and1 (mt_isnot (mo_of (me_call Zf (hr.mono (by decide)) rfl (ma_cons (me_lst ma_nil) (ma_cons (me_mul (mo_of (me_lst (ma_cons me_str ma_nil))) (mo_of me_int)) (ma_cons me_int ma_nil))))) (mo_of me_non)))))
  (ms_one (ms_ret rfl me_bl))
  ms_nil)
  (ms_cut (ms_for (vs := [3]) PassesOwn.never rfl (mi_range1 rfl T.range (mo_of me_int)) (mg_name 3 sc_law.nd)
  (ms_one (ms_ifD (mt_w (mw_or (mt_w (mw_and (mt_eq hr.units (mo_var 2) (mo_var 3)) (mw_and1 (mt_isnot (mo_of (me_call Zf (hr.mono (by decide)) rfl (ma_cons (me_mul (mo_of (me_lst (ma_cons me_str ma_nil))) (mo_of me_int)) (ma_cons (me_mul (mo_of (me_lst (ma_cons me_str ma_nil))) (mo_of me_int)) (ma_cons (me_var 3) ma_nil))))) (mo_of me_non))))) (mw_or1 (mt_ne hr.units (mo_of (me_call Zf (hr.mono (by decide)) rfl (ma_cons (me_mul (mo_of (me_lst (ma_cons me_str ma_nil))) (mo_of me_int)) (ma_cons (me_mul (mo_of (me_lst (ma_cons me_str ma_nil))) (mo_of me_int)) (ma_cons (me_var 3) ma_nil))))) (mo_of me_int)))))
  (ms_one (ms_ret rfl me_bl))
  ms_nil)))
  (ms_one (ms_ret rfl (me_eq hr.units (mo_of (me_call Zf (hr.mono (by decide)) rfl (ma_cons (me_mul (mo_of (me_lst (ma_cons me_str ma_nil))) (mo_of me_int)) (ma_cons (me_lst ma_nil) (ma_cons me_int ma_nil))))) (mo_of me_int))))))))) (fun ds Q h => ?_) (fun ds EX Q h => h)
  obtain ⟨xs, rfl, h⟩ := h
  simp only [e_qI, e_qIC, e_add1, e_add2, e_add3, e_add4, e_catL, e_aug1, e_aug2, e_mul1, e_mul2, e_rep, e_div, e_mod, e_neg, e_ord1, e_ord2, e_isn, e_nin, e_non1, e_non2, e_non3, e_non4, e_non5, e_non6, e_tru1, e_tru2, e_tru3, e_tru4, e_tru5, e_tru6, e_tru7, e_sl1, e_sl2, e_sl3, e_sl4, e_rev, e_it1, e_it2, e_it3, e_len1, e_len2, e_len3, e_len4, e_int1, e_int2, e_int3, e_min, e_max, e_min3, e_lst1, e_lst2, e_tup1, e_tup2, e_str, e_abs, e_lenS, e_ixS, Mi.qLt, Mi.qLe, Mi.qGt, Mi.qGe, List.map_cons, List.map_nil, List.length_map, true_and, and_true, Bool.false_eq_true, if_false, if_true, Bool.not_true, Bool.not_false, qEq_int, qEq_str, qEq_bl, qNe_int, qNe_str, qNe_bl, line0, line1, line2, line3, line4, line6, line7, line10, isi_list_lst, isi_list_tup, isi_list_non, isi_list_str, isi_list_int, isi_tup_tup, isi_bool_bl, isi_bool_int, isi_int_int, isi_int_bl, isi_int_non, isi_int_str, isi_str_str, isi_str_non, isi_str_int, startE_c, startE_n, startE_e, wFor_e, wLc_e, wipeE, wgName, wgTup, wgCons, wgNil, List.getElem?_cons_zero, List.getElem?_cons_succ, List.set_cons_zero, List.set_cons_succ, List.length_cons, List.length_nil, Mi.wC, Mi.wVar, Mi.wVarO, Mi.wOp, Mi.wUn, Mi.wCmp, Mi.wCmpT, Mi.wChainT, Mi.wChain, Mi.wTru, Mi.wAndT, Mi.wOrT, Mi.wNotT, Mi.wAnd, Mi.wOr, Mi.wNot, Mi.wIfE, Mi.wNoPart, Mi.wPart, Mi.wSl, Mi.wNil, Mi.wCons, Mi.wTup, Mi.wLst, Mi.wNext, Mi.wSeq, Mi.wFreeze, Mi.wForget, Mi.wBreak, Mi.wCont, Mi.wRet, Mi.wRetO, Mi.wRetN, Mi.wDrop, Mi.wIf, Mi.wNever, Mi.wAsg, Mi.wSetO, Mi.wPar, Mi.wAug, Mi.wApp, Mi.wSetIx, Mi.wExt, Mi.wItems, Mi.wRng1, Mi.wRng2, Mi.wRng3, Mi.wEnum, Mi.wZip, Mi.wYes, Mi.wCall, Mi.wCallX, Mi.wB2, Mi.wMin3, Mi.wIsi, Mi.wGuard, Mi.wGuardD, Mi.wRaise]
  refine cut_i (fun δ' => ∃ (c1 c2 c3 c4 c5 c6 c7 c8 c9 c10 c11 c12 c13 c14 c15 c16 c17 : Option Cell), δ' = [st (.ext 0 (.lst (xs.map D.int))), c1, c2, c3, c4, c5, c6, c7, c8, c9, c10, c11, c12, c13, c14, c15, c16, c17]) ?_ ?_
  · simp only [e_qI, e_qIC, e_add1, e_add2, e_add3, e_add4, e_catL, e_aug1, e_aug2, e_mul1, e_mul2, e_rep, e_div, e_mod, e_neg, e_ord1, e_ord2, e_isn, e_nin, e_non1, e_non2, e_non3, e_non4, e_non5, e_non6, e_tru1, e_tru2, e_tru3, e_tru4, e_tru5, e_tru6, e_tru7, e_sl1, e_sl2, e_sl3, e_sl4, e_rev, e_it1, e_it2, e_it3, e_len1, e_len2, e_len3, e_len4, e_int1, e_int2, e_int3, e_min, e_max, e_min3, e_lst1, e_lst2, e_tup1, e_tup2, e_str, e_abs, e_lenS, e_ixS, Mi.qLt, Mi.qLe, Mi.qGt, Mi.qGe, List.map_cons, List.map_nil, List.length_map, true_and, and_true, Bool.false_eq_true, if_false, if_true, Bool.not_true, Bool.not_false, qEq_int, qEq_str, qEq_bl, qNe_int, qNe_str, qNe_bl, line0, line1, line2, line3, line4, line6, line7, line10, isi_list_lst, isi_list_tup, isi_list_non, isi_list_str, isi_list_int, isi_tup_tup, isi_bool_bl, isi_bool_int, isi_int_int, isi_int_bl, isi_int_non, isi_int_str, isi_str_str, isi_str_non, isi_str_int, startE_c, startE_n, startE_e, wFor_e, wLc_e, wipeE, wgName, wgTup, wgCons, wgNil, List.getElem?_cons_zero, List.getElem?_cons_succ, List.set_cons_zero, List.set_cons_succ, List.length_cons, List.length_nil, Mi.wC, Mi.wVar, Mi.wVarO, Mi.wOp, Mi.wUn, Mi.wCmp, Mi.wCmpT, Mi.wChainT, Mi.wChain, Mi.wTru, Mi.wAndT, Mi.wOrT, Mi.wNotT, Mi.wAnd, Mi.wOr, Mi.wNot, Mi.wIfE, Mi.wNoPart, Mi.wPart, Mi.wSl, Mi.wNil, Mi.wCons, Mi.wTup, Mi.wLst, Mi.wNext, Mi.wSeq, Mi.wFreeze, Mi.wForget, Mi.wBreak, Mi.wCont, Mi.wRet, Mi.wRetO, Mi.wRetN, Mi.wDrop, Mi.wIf, Mi.wNever, Mi.wAsg, Mi.wSetO, Mi.wPar, Mi.wAug, Mi.wApp, Mi.wSetIx, Mi.wExt, Mi.wItems, Mi.wRng1, Mi.wRng2, Mi.wRng3, Mi.wEnum, Mi.wZip, Mi.wYes, Mi.wCall, Mi.wCallX, Mi.wB2, Mi.wMin3, Mi.wIsi, Mi.wGuard, Mi.wGuardD, Mi.wRaise]
    refine ⟨by omega, by omega, ?_⟩
    refine for_i (fun k δ' => ∃ (c1 c2 c3 c4 c5 c6 c7 c8 c9 c10 c11 c12 c13 c14 c15 c16 c17 : Option Cell), δ' = [st (.ext 0 (.lst (xs.map D.int))), c1, c2, c3, c4, c5, c6, c7, c8, c9, c10, c11, c12, c13, c14, c15, c16, c17]) ⟨_, _, _, _, _, _, _, _, _, _, _, _, _, _, _, _, _, rfl⟩ ?_ fun δ' h => h
    rintro k d δ' hk ⟨c1, c2, c3, c4, c5, c6, c7, c8, c9, c10, c11, c12, c13, c14, c15, c16, c17, rfl⟩
    obtain ⟨hk, rfl⟩ := rangeD_of hk
    have hk : k < 3 := by assumption
    simp only [e_qI, e_qIC, e_add1, e_add2, e_add3, e_add4, e_catL, e_aug1, e_aug2, e_mul1, e_mul2, e_rep, e_div, e_mod, e_neg, e_ord1, e_ord2, e_isn, e_nin, e_non1, e_non2, e_non3, e_non4, e_non5, e_non6, e_tru1, e_tru2, e_tru3, e_tru4, e_tru5, e_tru6, e_tru7, e_sl1, e_sl2, e_sl3, e_sl4, e_rev, e_it1, e_it2, e_it3, e_len1, e_len2, e_len3, e_len4, e_int1, e_int2, e_int3, e_min, e_max, e_min3, e_lst1, e_lst2, e_tup1, e_tup2, e_str, e_abs, e_lenS, e_ixS, Mi.qLt, Mi.qLe, Mi.qGt, Mi.qGe, List.map_cons, List.map_nil, List.length_map, true_and, and_true, Bool.false_eq_true, if_false, if_true, Bool.not_true, Bool.not_false, qEq_int, qEq_str, qEq_bl, qNe_int, qNe_str, qNe_bl, line0, line1, line2, line3, line4, line6, line7, line10, isi_list_lst, isi_list_tup, isi_list_non, isi_list_str, isi_list_int, isi_tup_tup, isi_bool_bl, isi_bool_int, isi_int_int, isi_int_bl, isi_int_non, isi_int_str, isi_str_str, isi_str_non, isi_str_int, startE_c, startE_n, startE_e, wFor_e, wLc_e, wipeE, wgName, wgTup, wgCons, wgNil, List.getElem?_cons_zero, List.getElem?_cons_succ, List.set_cons_zero, List.set_cons_succ, List.length_cons, List.length_nil, Mi.wC, Mi.wVar, Mi.wVarO, Mi.wOp, Mi.wUn, Mi.wCmp, Mi.wCmpT, Mi.wChainT, Mi.wChain, Mi.wTru, Mi.wAndT, Mi.wOrT, Mi.wNotT, Mi.wAnd, Mi.wOr, Mi.wNot, Mi.wIfE, Mi.wNoPart, Mi.wPart, Mi.wSl, Mi.wNil, Mi.wCons, Mi.wTup, Mi.wLst, Mi.wNext, Mi.wSeq, Mi.wFreeze, Mi.wForget, Mi.wBreak, Mi.wCont, Mi.wRet, Mi.wRetO, Mi.wRetN, Mi.wDrop, Mi.wIf, Mi.wNever, Mi.wAsg, Mi.wSetO, Mi.wPar, Mi.wAug, Mi.wApp, Mi.wSetIx, Mi.wExt, Mi.wItems, Mi.wRng1, Mi.wRng2, Mi.wRng3, Mi.wEnum, Mi.wZip, Mi.wYes, Mi.wCall, Mi.wCallX, Mi.wB2, Mi.wMin3, Mi.wIsi, Mi.wGuard, Mi.wGuardD, Mi.wRaise, Int.zero_add]
    refine ⟨xs, k, 60, rfl, by omega, by omega, fun ns hns hb => ?_⟩
    have nget : ∀ i : Nat, i < 60 → ∃ n : Int, (ns.map D.int)[i]? = some (.int n) ∧ 0 ≤ n ∧ n < 1009 := fun i hi => by
      have hi2 : i < ns.length := by omega
      exact ⟨ns[i], by simp [hi2], hb _ (List.getElem_mem hi2)⟩
    have hcut : ∀ l r, ∀ x ∈ cutD (ns.map D.int) l r, ∃ n : Int, x = .int n ∧ 0 ≤ n ∧ n < 1009 := fun l r x hx => by
      obtain ⟨n, hn, rfl⟩ := List.mem_map.mp (mem_cut hx)
      exact ⟨n, rfl, hb n hn⟩
    obtain ⟨n0, g0, a0, b0⟩ := nget 0 (by omega)
    obtain ⟨n1, g1, a1, b1⟩ := nget 1 (by omega)
    obtain ⟨n3, g3, a3, b3⟩ := nget 3 (by omega)
    obtain ⟨n40, g40, a40, b40⟩ := nget 40 (by omega)
    simp only [e_qI, e_qIC, e_add1, e_add2, e_add3, e_add4, e_catL, e_aug1, e_aug2, e_mul1, e_mul2, e_rep, e_div, e_mod, e_neg, e_ord1, e_ord2, e_isn, e_nin, e_non1, e_non2, e_non3, e_non4, e_non5, e_non6, e_tru1, e_tru2, e_tru3, e_tru4, e_tru5, e_tru6, e_tru7, e_sl1, e_sl2, e_sl3, e_sl4, e_rev, e_it1, e_it2, e_it3, e_len1, e_len2, e_len3, e_len4, e_int1, e_int2, e_int3, e_min, e_max, e_min3, e_lst1, e_lst2, e_tup1, e_tup2, e_str, e_abs, e_lenS, e_ixS, Mi.qLt, Mi.qLe, Mi.qGt, Mi.qGe, List.map_cons, List.map_nil, List.length_map, true_and, and_true, Bool.false_eq_true, if_false, if_true, Bool.not_true, Bool.not_false, qEq_int, qEq_str, qEq_bl, qNe_int, qNe_str, qNe_bl, line0, line1, line2, line3, line4, line6, line7, line10, isi_list_lst, isi_list_tup, isi_list_non, isi_list_str, isi_list_int, isi_tup_tup, isi_bool_bl, isi_bool_int, isi_int_int, isi_int_bl, isi_int_non, isi_int_str, isi_str_str, isi_str_non, isi_str_int, startE_c, startE_n, startE_e, wFor_e, wLc_e, wipeE, wgName, wgTup, wgCons, wgNil, List.getElem?_cons_zero, List.getElem?_cons_succ, List.set_cons_zero, List.set_cons_succ, List.length_cons, List.length_nil, Mi.wC, Mi.wVar, Mi.wVarO, Mi.wOp, Mi.wUn, Mi.wCmp, Mi.wCmpT, Mi.wChainT, Mi.wChain, Mi.wTru, Mi.wAndT, Mi.wOrT, Mi.wNotT, Mi.wAnd, Mi.wOr, Mi.wNot, Mi.wIfE, Mi.wNoPart, Mi.wPart, Mi.wSl, Mi.wNil, Mi.wCons, Mi.wTup, Mi.wLst, Mi.wNext, Mi.wSeq, Mi.wFreeze, Mi.wForget, Mi.wBreak, Mi.wCont, Mi.wRet, Mi.wRetO, Mi.wRetN, Mi.wDrop, Mi.wIf, Mi.wNever, Mi.wAsg, Mi.wSetO, Mi.wPar, Mi.wAug, Mi.wApp, Mi.wSetIx, Mi.wExt, Mi.wItems, Mi.wRng1, Mi.wRng2, Mi.wRng3, Mi.wEnum, Mi.wZip, Mi.wYes, Mi.wCall, Mi.wCallX, Mi.wB2, Mi.wMin3, Mi.wIsi, Mi.wGuard, Mi.wGuardD, Mi.wRaise]
    refine qIx_lst (i := 1) g1 ?_
    simp only [e_qI, e_qIC, e_add1, e_add2, e_add3, e_add4, e_catL, e_aug1, e_aug2, e_mul1, e_mul2, e_rep, e_div, e_mod, e_neg, e_ord1, e_ord2, e_isn, e_nin, e_non1, e_non2, e_non3, e_non4, e_non5, e_non6, e_tru1, e_tru2, e_tru3, e_tru4, e_tru5, e_tru6, e_tru7, e_sl1, e_sl2, e_sl3, e_sl4, e_rev, e_it1, e_it2, e_it3, e_len1, e_len2, e_len3, e_len4, e_int1, e_int2, e_int3, e_min, e_max, e_min3, e_lst1, e_lst2, e_tup1, e_tup2, e_str, e_abs, e_lenS, e_ixS, Mi.qLt, Mi.qLe, Mi.qGt, Mi.qGe, List.map_cons, List.map_nil, List.length_map, true_and, and_true, Bool.false_eq_true, if_false, if_true, Bool.not_true, Bool.not_false, qEq_int, qEq_str, qEq_bl, qNe_int, qNe_str, qNe_bl, line0, line1, line2, line3, line4, line6, line7, line10, isi_list_lst, isi_list_tup, isi_list_non, isi_list_str, isi_list_int, isi_tup_tup, isi_bool_bl, isi_bool_int, isi_int_int, isi_int_bl, isi_int_non, isi_int_str, isi_str_str, isi_str_non, isi_str_int, startE_c, startE_n, startE_e, wFor_e, wLc_e, wipeE, wgName, wgTup, wgCons, wgNil, List.getElem?_cons_zero, List.getElem?_cons_succ, List.set_cons_zero, List.set_cons_succ, List.length_cons, List.length_nil, Mi.wC, Mi.wVar, Mi.wVarO, Mi.wOp, Mi.wUn, Mi.wCmp, Mi.wCmpT, Mi.wChainT, Mi.wChain, Mi.wTru, Mi.wAndT, Mi.wOrT, Mi.wNotT, Mi.wAnd, Mi.wOr, Mi.wNot, Mi.wIfE, Mi.wNoPart, Mi.wPart, Mi.wSl, Mi.wNil, Mi.wCons, Mi.wTup, Mi.wLst, Mi.wNext, Mi.wSeq, Mi.wFreeze, Mi.wForget, Mi.wBreak, Mi.wCont, Mi.wRet, Mi.wRetO, Mi.wRetN, Mi.wDrop, Mi.wIf, Mi.wNever, Mi.wAsg, Mi.wSetO, Mi.wPar, Mi.wAug, Mi.wApp, Mi.wSetIx, Mi.wExt, Mi.wItems, Mi.wRng1, Mi.wRng2, Mi.wRng3, Mi.wEnum, Mi.wZip, Mi.wYes, Mi.wCall, Mi.wCallX, Mi.wB2, Mi.wMin3, Mi.wIsi, Mi.wGuard, Mi.wGuardD, Mi.wRaise]
    refine ⟨by omega, ?_⟩
    have word : ∀ (n : Int) (R : D → Prop), 0 ≤ n → n < 1009 → (∀ s : Str, PySem.PyData.strOk s = true → R (.str s)) → qIx (.lst [.str "a", .str "b", .str "c"]) (.int (n % (1 + n0 % 3))) R := fun n R h0 h1 hR => by
      have q1 : 0 < 1 + n0 % 3 := by omega
      have q2 := Int.emod_lt_of_pos n q1
      refine qIx_any (Int.emod_nonneg _ (by omega)) (by simp only [List.length_cons, List.length_nil]; omega) fun d hd => ?_
      simp only [List.mem_cons, List.not_mem_nil, or_false] at hd
      rcases hd with rfl | rfl | rfl
      · exact hR _ (by decide +kernel)
      · exact hR _ (by decide +kernel)
      · exact hR _ (by decide +kernel)
    have e13 : (2 : Int) + n1 % 13 = ((2 + (n1 % 13).toNat : Nat) : Int) := by omega
    rw [e13]
    refine lc_words (Nat.le_trans (cut_le _ 2 _) (by omega)) (hcut _ _) (fun n R h0 h1 hR => ?_) fun A hA => ?_
    · simp only [e_qI, e_qIC, e_add1, e_add2, e_add3, e_add4, e_catL, e_aug1, e_aug2, e_mul1, e_mul2, e_rep, e_div, e_mod, e_neg, e_ord1, e_ord2, e_isn, e_nin, e_non1, e_non2, e_non3, e_non4, e_non5, e_non6, e_tru1, e_tru2, e_tru3, e_tru4, e_tru5, e_tru6, e_tru7, e_sl1, e_sl2, e_sl3, e_sl4, e_rev, e_it1, e_it2, e_it3, e_len1, e_len2, e_len3, e_len4, e_int1, e_int2, e_int3, e_min, e_max, e_min3, e_lst1, e_lst2, e_tup1, e_tup2, e_str, e_abs, e_lenS, e_ixS, Mi.qLt, Mi.qLe, Mi.qGt, Mi.qGe, List.map_cons, List.map_nil, List.length_map, true_and, and_true, Bool.false_eq_true, if_false, if_true, Bool.not_true, Bool.not_false, qEq_int, qEq_str, qEq_bl, qNe_int, qNe_str, qNe_bl, line0, line1, line2, line3, line4, line6, line7, line10, isi_list_lst, isi_list_tup, isi_list_non, isi_list_str, isi_list_int, isi_tup_tup, isi_bool_bl, isi_bool_int, isi_int_int, isi_int_bl, isi_int_non, isi_int_str, isi_str_str, isi_str_non, isi_str_int, startE_c, startE_n, startE_e, wFor_e, wLc_e, wipeE, wgName, wgTup, wgCons, wgNil, List.getElem?_cons_zero, List.getElem?_cons_succ, List.set_cons_zero, List.set_cons_succ, List.length_cons, List.length_nil, Mi.wC, Mi.wVar, Mi.wVarO, Mi.wOp, Mi.wUn, Mi.wCmp, Mi.wCmpT, Mi.wChainT, Mi.wChain, Mi.wTru, Mi.wAndT, Mi.wOrT, Mi.wNotT, Mi.wAnd, Mi.wOr, Mi.wNot, Mi.wIfE, Mi.wNoPart, Mi.wPart, Mi.wSl, Mi.wNil, Mi.wCons, Mi.wTup, Mi.wLst, Mi.wNext, Mi.wSeq, Mi.wFreeze, Mi.wForget, Mi.wBreak, Mi.wCont, Mi.wRet, Mi.wRetO, Mi.wRetN, Mi.wDrop, Mi.wIf, Mi.wNever, Mi.wAsg, Mi.wSetO, Mi.wPar, Mi.wAug, Mi.wApp, Mi.wSetIx, Mi.wExt, Mi.wItems, Mi.wRng1, Mi.wRng2, Mi.wRng3, Mi.wEnum, Mi.wZip, Mi.wYes, Mi.wCall, Mi.wCallX, Mi.wB2, Mi.wMin3, Mi.wIsi, Mi.wGuard, Mi.wGuardD, Mi.wRaise]
      refine qIx_lst (i := 0) g0 ?_
      simp only [e_qI, e_qIC, e_add1, e_add2, e_add3, e_add4, e_catL, e_aug1, e_aug2, e_mul1, e_mul2, e_rep, e_div, e_mod, e_neg, e_ord1, e_ord2, e_isn, e_nin, e_non1, e_non2, e_non3, e_non4, e_non5, e_non6, e_tru1, e_tru2, e_tru3, e_tru4, e_tru5, e_tru6, e_tru7, e_sl1, e_sl2, e_sl3, e_sl4, e_rev, e_it1, e_it2, e_it3, e_len1, e_len2, e_len3, e_len4, e_int1, e_int2, e_int3, e_min, e_max, e_min3, e_lst1, e_lst2, e_tup1, e_tup2, e_str, e_abs, e_lenS, e_ixS, Mi.qLt, Mi.qLe, Mi.qGt, Mi.qGe, List.map_cons, List.map_nil, List.length_map, true_and, and_true, Bool.false_eq_true, if_false, if_true, Bool.not_true, Bool.not_false, qEq_int, qEq_str, qEq_bl, qNe_int, qNe_str, qNe_bl, line0, line1, line2, line3, line4, line6, line7, line10, isi_list_lst, isi_list_tup, isi_list_non, isi_list_str, isi_list_int, isi_tup_tup, isi_bool_bl, isi_bool_int, isi_int_int, isi_int_bl, isi_int_non, isi_int_str, isi_str_str, isi_str_non, isi_str_int, startE_c, startE_n, startE_e, wFor_e, wLc_e, wipeE, wgName, wgTup, wgCons, wgNil, List.getElem?_cons_zero, List.getElem?_cons_succ, List.set_cons_zero, List.set_cons_succ, List.length_cons, List.length_nil, Mi.wC, Mi.wVar, Mi.wVarO, Mi.wOp, Mi.wUn, Mi.wCmp, Mi.wCmpT, Mi.wChainT, Mi.wChain, Mi.wTru, Mi.wAndT, Mi.wOrT, Mi.wNotT, Mi.wAnd, Mi.wOr, Mi.wNot, Mi.wIfE, Mi.wNoPart, Mi.wPart, Mi.wSl, Mi.wNil, Mi.wCons, Mi.wTup, Mi.wLst, Mi.wNext, Mi.wSeq, Mi.wFreeze, Mi.wForget, Mi.wBreak, Mi.wCont, Mi.wRet, Mi.wRetO, Mi.wRetN, Mi.wDrop, Mi.wIf, Mi.wNever, Mi.wAsg, Mi.wSetO, Mi.wPar, Mi.wAug, Mi.wApp, Mi.wSetIx, Mi.wExt, Mi.wItems, Mi.wRng1, Mi.wRng2, Mi.wRng3, Mi.wEnum, Mi.wZip, Mi.wYes, Mi.wCall, Mi.wCallX, Mi.wB2, Mi.wMin3, Mi.wIsi, Mi.wGuard, Mi.wGuardD, Mi.wRaise]
      exact ⟨by omega, by omega, word n R h0 h1 hR⟩
    simp only [e_qI, e_qIC, e_add1, e_add2, e_add3, e_add4, e_catL, e_aug1, e_aug2, e_mul1, e_mul2, e_rep, e_div, e_mod, e_neg, e_ord1, e_ord2, e_isn, e_nin, e_non1, e_non2, e_non3, e_non4, e_non5, e_non6, e_tru1, e_tru2, e_tru3, e_tru4, e_tru5, e_tru6, e_tru7, e_sl1, e_sl2, e_sl3, e_sl4, e_rev, e_it1, e_it2, e_it3, e_len1, e_len2, e_len3, e_len4, e_int1, e_int2, e_int3, e_min, e_max, e_min3, e_lst1, e_lst2, e_tup1, e_tup2, e_str, e_abs, e_lenS, e_ixS, Mi.qLt, Mi.qLe, Mi.qGt, Mi.qGe, List.map_cons, List.map_nil, List.length_map, true_and, and_true, Bool.false_eq_true, if_false, if_true, Bool.not_true, Bool.not_false, qEq_int, qEq_str, qEq_bl, qNe_int, qNe_str, qNe_bl, line0, line1, line2, line3, line4, line6, line7, line10, isi_list_lst, isi_list_tup, isi_list_non, isi_list_str, isi_list_int, isi_tup_tup, isi_bool_bl, isi_bool_int, isi_int_int, isi_int_bl, isi_int_non, isi_int_str, isi_str_str, isi_str_non, isi_str_int, startE_c, startE_n, startE_e, wFor_e, wLc_e, wipeE, wgName, wgTup, wgCons, wgNil, List.getElem?_cons_zero, List.getElem?_cons_succ, List.set_cons_zero, List.set_cons_succ, List.length_cons, List.length_nil, Mi.wC, Mi.wVar, Mi.wVarO, Mi.wOp, Mi.wUn, Mi.wCmp, Mi.wCmpT, Mi.wChainT, Mi.wChain, Mi.wTru, Mi.wAndT, Mi.wOrT, Mi.wNotT, Mi.wAnd, Mi.wOr, Mi.wNot, Mi.wIfE, Mi.wNoPart, Mi.wPart, Mi.wSl, Mi.wNil, Mi.wCons, Mi.wTup, Mi.wLst, Mi.wNext, Mi.wSeq, Mi.wFreeze, Mi.wForget, Mi.wBreak, Mi.wCont, Mi.wRet, Mi.wRetO, Mi.wRetN, Mi.wDrop, Mi.wIf, Mi.wNever, Mi.wAsg, Mi.wSetO, Mi.wPar, Mi.wAug, Mi.wApp, Mi.wSetIx, Mi.wExt, Mi.wItems, Mi.wRng1, Mi.wRng2, Mi.wRng3, Mi.wEnum, Mi.wZip, Mi.wYes, Mi.wCall, Mi.wCallX, Mi.wB2, Mi.wMin3, Mi.wIsi, Mi.wGuard, Mi.wGuardD, Mi.wRaise]
    refine qIx_lst (i := 3) g3 ?_
    simp only [e_qI, e_qIC, e_add1, e_add2, e_add3, e_add4, e_catL, e_aug1, e_aug2, e_mul1, e_mul2, e_rep, e_div, e_mod, e_neg, e_ord1, e_ord2, e_isn, e_nin, e_non1, e_non2, e_non3, e_non4, e_non5, e_non6, e_tru1, e_tru2, e_tru3, e_tru4, e_tru5, e_tru6, e_tru7, e_sl1, e_sl2, e_sl3, e_sl4, e_rev, e_it1, e_it2, e_it3, e_len1, e_len2, e_len3, e_len4, e_int1, e_int2, e_int3, e_min, e_max, e_min3, e_lst1, e_lst2, e_tup1, e_tup2, e_str, e_abs, e_lenS, e_ixS, Mi.qLt, Mi.qLe, Mi.qGt, Mi.qGe, List.map_cons, List.map_nil, List.length_map, true_and, and_true, Bool.false_eq_true, if_false, if_true, Bool.not_true, Bool.not_false, qEq_int, qEq_str, qEq_bl, qNe_int, qNe_str, qNe_bl, line0, line1, line2, line3, line4, line6, line7, line10, isi_list_lst, isi_list_tup, isi_list_non, isi_list_str, isi_list_int, isi_tup_tup, isi_bool_bl, isi_bool_int, isi_int_int, isi_int_bl, isi_int_non, isi_int_str, isi_str_str, isi_str_non, isi_str_int, startE_c, startE_n, startE_e, wFor_e, wLc_e, wipeE, wgName, wgTup, wgCons, wgNil, List.getElem?_cons_zero, List.getElem?_cons_succ, List.set_cons_zero, List.set_cons_succ, List.length_cons, List.length_nil, Mi.wC, Mi.wVar, Mi.wVarO, Mi.wOp, Mi.wUn, Mi.wCmp, Mi.wCmpT, Mi.wChainT, Mi.wChain, Mi.wTru, Mi.wAndT, Mi.wOrT, Mi.wNotT, Mi.wAnd, Mi.wOr, Mi.wNot, Mi.wIfE, Mi.wNoPart, Mi.wPart, Mi.wSl, Mi.wNil, Mi.wCons, Mi.wTup, Mi.wLst, Mi.wNext, Mi.wSeq, Mi.wFreeze, Mi.wForget, Mi.wBreak, Mi.wCont, Mi.wRet, Mi.wRetO, Mi.wRetN, Mi.wDrop, Mi.wIf, Mi.wNever, Mi.wAsg, Mi.wSetO, Mi.wPar, Mi.wAug, Mi.wApp, Mi.wSetIx, Mi.wExt, Mi.wItems, Mi.wRng1, Mi.wRng2, Mi.wRng3, Mi.wEnum, Mi.wZip, Mi.wYes, Mi.wCall, Mi.wCallX, Mi.wB2, Mi.wMin3, Mi.wIsi, Mi.wGuard, Mi.wGuardD, Mi.wRaise]
    refine ⟨by omega, ?_⟩
    have e133 : (20 : Int) + n3 % 13 = ((20 + (n3 % 13).toNat : Nat) : Int) := by omega
    rw [e133]
    refine lc_words (Nat.le_trans (cut_le _ 20 _) (by omega)) (hcut _ _) (fun n R h0 h1 hR => ?_) fun B hB => ?_
    · simp only [e_qI, e_qIC, e_add1, e_add2, e_add3, e_add4, e_catL, e_aug1, e_aug2, e_mul1, e_mul2, e_rep, e_div, e_mod, e_neg, e_ord1, e_ord2, e_isn, e_nin, e_non1, e_non2, e_non3, e_non4, e_non5, e_non6, e_tru1, e_tru2, e_tru3, e_tru4, e_tru5, e_tru6, e_tru7, e_sl1, e_sl2, e_sl3, e_sl4, e_rev, e_it1, e_it2, e_it3, e_len1, e_len2, e_len3, e_len4, e_int1, e_int2, e_int3, e_min, e_max, e_min3, e_lst1, e_lst2, e_tup1, e_tup2, e_str, e_abs, e_lenS, e_ixS, Mi.qLt, Mi.qLe, Mi.qGt, Mi.qGe, List.map_cons, List.map_nil, List.length_map, true_and, and_true, Bool.false_eq_true, if_false, if_true, Bool.not_true, Bool.not_false, qEq_int, qEq_str, qEq_bl, qNe_int, qNe_str, qNe_bl, line0, line1, line2, line3, line4, line6, line7, line10, isi_list_lst, isi_list_tup, isi_list_non, isi_list_str, isi_list_int, isi_tup_tup, isi_bool_bl, isi_bool_int, isi_int_int, isi_int_bl, isi_int_non, isi_int_str, isi_str_str, isi_str_non, isi_str_int, startE_c, startE_n, startE_e, wFor_e, wLc_e, wipeE, wgName, wgTup, wgCons, wgNil, List.getElem?_cons_zero, List.getElem?_cons_succ, List.set_cons_zero, List.set_cons_succ, List.length_cons, List.length_nil, Mi.wC, Mi.wVar, Mi.wVarO, Mi.wOp, Mi.wUn, Mi.wCmp, Mi.wCmpT, Mi.wChainT, Mi.wChain, Mi.wTru, Mi.wAndT, Mi.wOrT, Mi.wNotT, Mi.wAnd, Mi.wOr, Mi.wNot, Mi.wIfE, Mi.wNoPart, Mi.wPart, Mi.wSl, Mi.wNil, Mi.wCons, Mi.wTup, Mi.wLst, Mi.wNext, Mi.wSeq, Mi.wFreeze, Mi.wForget, Mi.wBreak, Mi.wCont, Mi.wRet, Mi.wRetO, Mi.wRetN, Mi.wDrop, Mi.wIf, Mi.wNever, Mi.wAsg, Mi.wSetO, Mi.wPar, Mi.wAug, Mi.wApp, Mi.wSetIx, Mi.wExt, Mi.wItems, Mi.wRng1, Mi.wRng2, Mi.wRng3, Mi.wEnum, Mi.wZip, Mi.wYes, Mi.wCall, Mi.wCallX, Mi.wB2, Mi.wMin3, Mi.wIsi, Mi.wGuard, Mi.wGuardD, Mi.wRaise]
      refine qIx_lst (i := 0) g0 ?_
      simp only [e_qI, e_qIC, e_add1, e_add2, e_add3, e_add4, e_catL, e_aug1, e_aug2, e_mul1, e_mul2, e_rep, e_div, e_mod, e_neg, e_ord1, e_ord2, e_isn, e_nin, e_non1, e_non2, e_non3, e_non4, e_non5, e_non6, e_tru1, e_tru2, e_tru3, e_tru4, e_tru5, e_tru6, e_tru7, e_sl1, e_sl2, e_sl3, e_sl4, e_rev, e_it1, e_it2, e_it3, e_len1, e_len2, e_len3, e_len4, e_int1, e_int2, e_int3, e_min, e_max, e_min3, e_lst1, e_lst2, e_tup1, e_tup2, e_str, e_abs, e_lenS, e_ixS, Mi.qLt, Mi.qLe, Mi.qGt, Mi.qGe, List.map_cons, List.map_nil, List.length_map, true_and, and_true, Bool.false_eq_true, if_false, if_true, Bool.not_true, Bool.not_false, qEq_int, qEq_str, qEq_bl, qNe_int, qNe_str, qNe_bl, line0, line1, line2, line3, line4, line6, line7, line10, isi_list_lst, isi_list_tup, isi_list_non, isi_list_str, isi_list_int, isi_tup_tup, isi_bool_bl, isi_bool_int, isi_int_int, isi_int_bl, isi_int_non, isi_int_str, isi_str_str, isi_str_non, isi_str_int, startE_c, startE_n, startE_e, wFor_e, wLc_e, wipeE, wgName, wgTup, wgCons, wgNil, List.getElem?_cons_zero, List.getElem?_cons_succ, List.set_cons_zero, List.set_cons_succ, List.length_cons, List.length_nil, Mi.wC, Mi.wVar, Mi.wVarO, Mi.wOp, Mi.wUn, Mi.wCmp, Mi.wCmpT, Mi.wChainT, Mi.wChain, Mi.wTru, Mi.wAndT, Mi.wOrT, Mi.wNotT, Mi.wAnd, Mi.wOr, Mi.wNot, Mi.wIfE, Mi.wNoPart, Mi.wPart, Mi.wSl, Mi.wNil, Mi.wCons, Mi.wTup, Mi.wLst, Mi.wNext, Mi.wSeq, Mi.wFreeze, Mi.wForget, Mi.wBreak, Mi.wCont, Mi.wRet, Mi.wRetO, Mi.wRetN, Mi.wDrop, Mi.wIf, Mi.wNever, Mi.wAsg, Mi.wSetO, Mi.wPar, Mi.wAug, Mi.wApp, Mi.wSetIx, Mi.wExt, Mi.wItems, Mi.wRng1, Mi.wRng2, Mi.wRng3, Mi.wEnum, Mi.wZip, Mi.wYes, Mi.wCall, Mi.wCallX, Mi.wB2, Mi.wMin3, Mi.wIsi, Mi.wGuard, Mi.wGuardD, Mi.wRaise]
      exact ⟨by omega, by omega, word n R h0 h1 hR⟩
    simp only [e_qI, e_qIC, e_add1, e_add2, e_add3, e_add4, e_catL, e_aug1, e_aug2, e_mul1, e_mul2, e_rep, e_div, e_mod, e_neg, e_ord1, e_ord2, e_isn, e_nin, e_non1, e_non2, e_non3, e_non4, e_non5, e_non6, e_tru1, e_tru2, e_tru3, e_tru4, e_tru5, e_tru6, e_tru7, e_sl1, e_sl2, e_sl3, e_sl4, e_rev, e_it1, e_it2, e_it3, e_len1, e_len2, e_len3, e_len4, e_int1, e_int2, e_int3, e_min, e_max, e_min3, e_lst1, e_lst2, e_tup1, e_tup2, e_str, e_abs, e_lenS, e_ixS, Mi.qLt, Mi.qLe, Mi.qGt, Mi.qGe, List.map_cons, List.map_nil, List.length_map, true_and, and_true, Bool.false_eq_true, if_false, if_true, Bool.not_true, Bool.not_false, qEq_int, qEq_str, qEq_bl, qNe_int, qNe_str, qNe_bl, line0, line1, line2, line3, line4, line6, line7, line10, isi_list_lst, isi_list_tup, isi_list_non, isi_list_str, isi_list_int, isi_tup_tup, isi_bool_bl, isi_bool_int, isi_int_int, isi_int_bl, isi_int_non, isi_int_str, isi_str_str, isi_str_non, isi_str_int, startE_c, startE_n, startE_e, wFor_e, wLc_e, wipeE, wgName, wgTup, wgCons, wgNil, List.getElem?_cons_zero, List.getElem?_cons_succ, List.set_cons_zero, List.set_cons_succ, List.length_cons, List.length_nil, Mi.wC, Mi.wVar, Mi.wVarO, Mi.wOp, Mi.wUn, Mi.wCmp, Mi.wCmpT, Mi.wChainT, Mi.wChain, Mi.wTru, Mi.wAndT, Mi.wOrT, Mi.wNotT, Mi.wAnd, Mi.wOr, Mi.wNot, Mi.wIfE, Mi.wNoPart, Mi.wPart, Mi.wSl, Mi.wNil, Mi.wCons, Mi.wTup, Mi.wLst, Mi.wNext, Mi.wSeq, Mi.wFreeze, Mi.wForget, Mi.wBreak, Mi.wCont, Mi.wRet, Mi.wRetO, Mi.wRetN, Mi.wDrop, Mi.wIf, Mi.wNever, Mi.wAsg, Mi.wSetO, Mi.wPar, Mi.wAug, Mi.wApp, Mi.wSetIx, Mi.wExt, Mi.wItems, Mi.wRng1, Mi.wRng2, Mi.wRng3, Mi.wEnum, Mi.wZip, Mi.wYes, Mi.wCall, Mi.wCallX, Mi.wB2, Mi.wMin3, Mi.wIsi, Mi.wGuard, Mi.wGuardD, Mi.wRaise]
    refine qIx_lst (i := 40) g40 ?_
    simp only [e_qI, e_qIC, e_add1, e_add2, e_add3, e_add4, e_catL, e_aug1, e_aug2, e_mul1, e_mul2, e_rep, e_div, e_mod, e_neg, e_ord1, e_ord2, e_isn, e_nin, e_non1, e_non2, e_non3, e_non4, e_non5, e_non6, e_tru1, e_tru2, e_tru3, e_tru4, e_tru5, e_tru6, e_tru7, e_sl1, e_sl2, e_sl3, e_sl4, e_rev, e_it1, e_it2, e_it3, e_len1, e_len2, e_len3, e_len4, e_int1, e_int2, e_int3, e_min, e_max, e_min3, e_lst1, e_lst2, e_tup1, e_tup2, e_str, e_abs, e_lenS, e_ixS, Mi.qLt, Mi.qLe, Mi.qGt, Mi.qGe, List.map_cons, List.map_nil, List.length_map, true_and, and_true, Bool.false_eq_true, if_false, if_true, Bool.not_true, Bool.not_false, qEq_int, qEq_str, qEq_bl, qNe_int, qNe_str, qNe_bl, line0, line1, line2, line3, line4, line6, line7, line10, isi_list_lst, isi_list_tup, isi_list_non, isi_list_str, isi_list_int, isi_tup_tup, isi_bool_bl, isi_bool_int, isi_int_int, isi_int_bl, isi_int_non, isi_int_str, isi_str_str, isi_str_non, isi_str_int, startE_c, startE_n, startE_e, wFor_e, wLc_e, wipeE, wgName, wgTup, wgCons, wgNil, List.getElem?_cons_zero, List.getElem?_cons_succ, List.set_cons_zero, List.set_cons_succ, List.length_cons, List.length_nil, Mi.wC, Mi.wVar, Mi.wVarO, Mi.wOp, Mi.wUn, Mi.wCmp, Mi.wCmpT, Mi.wChainT, Mi.wChain, Mi.wTru, Mi.wAndT, Mi.wOrT, Mi.wNotT, Mi.wAnd, Mi.wOr, Mi.wNot, Mi.wIfE, Mi.wNoPart, Mi.wPart, Mi.wSl, Mi.wNil, Mi.wCons, Mi.wTup, Mi.wLst, Mi.wNext, Mi.wSeq, Mi.wFreeze, Mi.wForget, Mi.wBreak, Mi.wCont, Mi.wRet, Mi.wRetO, Mi.wRetN, Mi.wDrop, Mi.wIf, Mi.wNever, Mi.wAsg, Mi.wSetO, Mi.wPar, Mi.wAug, Mi.wApp, Mi.wSetIx, Mi.wExt, Mi.wItems, Mi.wRng1, Mi.wRng2, Mi.wRng3, Mi.wEnum, Mi.wZip, Mi.wYes, Mi.wCall, Mi.wCallX, Mi.wB2, Mi.wMin3, Mi.wIsi, Mi.wGuard, Mi.wGuardD, Mi.wRaise]
    have wA : Ws 14 A := ⟨Nat.le_trans hA.len (by omega), hA.ok⟩
    have wB : Ws 14 B := ⟨Nat.le_trans hB.len (by omega), hB.ok⟩
    have w0 : Ws 14 ([] : List Str) := ⟨Nat.zero_le _, fun s hs => by cases hs⟩
    have la := cut_len (A.map D.str) (some (n40 % 3)) none
    have lb : (cutD (B.map D.str) none (some 2)).length ≤ 2 := by
      have := cut_to (B.map D.str) 2
      rw [show ((2 : Nat) : Int) = 2 from rfl] at this
      rw [this, List.length_take]; omega
    rw [List.length_map] at la
    have hA12 := hA.len
    refine ⟨by omega, leL (by omega), ?_⟩
    have wAB : Ws 14 (cutD A (some (n40 % 3)) none ++ cutD B none (some 2)) := by
      rw [cut_map, List.length_map] at la lb
      refine ⟨by rw [List.length_append]; omega, fun s hs => ?_⟩
      rcases List.mem_append.mp hs with hs | hs
      · exact hA.ok s (mem_cut hs)
      · exact hB.ok s (mem_cut hs)
    rw [cut_map, cut_map, ← List.map_append]
    generalize cutD A (some (n40 % 3)) none ++ cutD B none (some 2) = AB at *
    have hpairs : ∀ d ∈ [D.tup [SS A, SS B], D.tup [SS B, SS A], D.tup [SS A, SS A], D.tup [D.lst [], SS B], D.tup [SS A, D.lst []], D.tup [SS A, SS AB], D.tup [D.lst [], D.lst []]], ∃ X Y, d = .tup [SS X, SS Y] ∧ Ws 14 X ∧ Ws 14 Y := fun d hd => by
      simp only [List.mem_cons, List.not_mem_nil, or_false] at hd
      rcases hd with rfl | rfl | rfl | rfl | rfl | rfl | rfl
      · exact ⟨A, B, rfl, wA, wB⟩
      · exact ⟨B, A, rfl, wB, wA⟩
      · exact ⟨A, A, rfl, wA, wA⟩
      · exact ⟨[], B, rfl, w0, wB⟩
      · exact ⟨A, [], rfl, wA, w0⟩
      · exact ⟨A, AB, rfl, wA, wAB⟩
      · exact ⟨[], [], rfl, w0, w0⟩
    refine for_i (fun k δ' => ∃ (c1 c2 c3 c5 c6 c7 c8 c9 c10 c11 c12 c13 c14 c15 c16 c17 : Option Cell), δ' = [st (.ext 0 (.lst (xs.map D.int))), c1, c2, c3, st (.lst (ns.map D.int)), c5, c6, c7, c8, c9, c10, c11, c12, c13, c14, c15, c16, c17]) ⟨_, _, _, _, _, _, _, _, _, _, _, _, _, _, _, _, rfl⟩ ?_ ?_
    · rintro k2 d δ' hk2 ⟨c1, c2, c3, c5, c6, c7, c8, c9, c10, c11, c12, c13, c14, c15, c16, c17, rfl⟩
      obtain ⟨X, Y, rfl, wX, wY⟩ := hpairs d (List.mem_of_getElem? hk2)
      obtain ⟨T2, hT⟩ := isT_ex X Y
      have hTl := isT_le hT
      have lX := wX.len
      have lY := wY.len
      have hfew : Few X Y := wX.few wY
      simp only [e_qI, e_qIC, e_add1, e_add2, e_add3, e_add4, e_catL, e_aug1, e_aug2, e_mul1, e_mul2, e_rep, e_div, e_mod, e_neg, e_ord1, e_ord2, e_isn, e_nin, e_non1, e_non2, e_non3, e_non4, e_non5, e_non6, e_tru1, e_tru2, e_tru3, e_tru4, e_tru5, e_tru6, e_tru7, e_sl1, e_sl2, e_sl3, e_sl4, e_rev, e_it1, e_it2, e_it3, e_len1, e_len2, e_len3, e_len4, e_int1, e_int2, e_int3, e_min, e_max, e_min3, e_lst1, e_lst2, e_tup1, e_tup2, e_str, e_abs, e_lenS, e_ixS, Mi.qLt, Mi.qLe, Mi.qGt, Mi.qGe, List.map_cons, List.map_nil, List.length_map, true_and, and_true, Bool.false_eq_true, if_false, if_true, Bool.not_true, Bool.not_false, qEq_int, qEq_str, qEq_bl, qNe_int, qNe_str, qNe_bl, line0, line1, line2, line3, line4, line6, line7, line10, isi_list_lst, isi_list_tup, isi_list_non, isi_list_str, isi_list_int, isi_tup_tup, isi_bool_bl, isi_bool_int, isi_int_int, isi_int_bl, isi_int_non, isi_int_str, isi_str_str, isi_str_non, isi_str_int, startE_c, startE_n, startE_e, wFor_e, wLc_e, wipeE, wgName, wgTup, wgCons, wgNil, List.getElem?_cons_zero, List.getElem?_cons_succ, List.set_cons_zero, List.set_cons_succ, List.length_cons, List.length_nil, Mi.wC, Mi.wVar, Mi.wVarO, Mi.wOp, Mi.wUn, Mi.wCmp, Mi.wCmpT, Mi.wChainT, Mi.wChain, Mi.wTru, Mi.wAndT, Mi.wOrT, Mi.wNotT, Mi.wAnd, Mi.wOr, Mi.wNot, Mi.wIfE, Mi.wNoPart, Mi.wPart, Mi.wSl, Mi.wNil, Mi.wCons, Mi.wTup, Mi.wLst, Mi.wNext, Mi.wSeq, Mi.wFreeze, Mi.wForget, Mi.wBreak, Mi.wCont, Mi.wRet, Mi.wRetO, Mi.wRetN, Mi.wDrop, Mi.wIf, Mi.wNever, Mi.wAsg, Mi.wSetO, Mi.wPar, Mi.wAug, Mi.wApp, Mi.wSetIx, Mi.wExt, Mi.wItems, Mi.wRng1, Mi.wRng2, Mi.wRng3, Mi.wEnum, Mi.wZip, Mi.wYes, Mi.wCall, Mi.wCallX, Mi.wB2, Mi.wMin3, Mi.wIsi, Mi.wGuard, Mi.wGuardD, Mi.wRaise]
      refine ⟨X, Y, T2, rfl, by omega, by omega, hT, ?_⟩
      refine cut_i (fun δ' => ∃ (c1 c2 c3 c5 c6 c7 c11 c12 c13 c14 c15 c16 c17 : Option Cell), δ' = [st (.ext 0 (.lst (xs.map D.int))), c1, c2, c3, st (.lst (ns.map D.int)), c5, c6, c7, st (SS X), st (SS Y), st (.lst (dueL X Y T2)), c11, c12, c13, c14, c15, c16, c17]) ?_ ?_
      · simp only [e_qI, e_qIC, e_add1, e_add2, e_add3, e_add4, e_catL, e_aug1, e_aug2, e_mul1, e_mul2, e_rep, e_div, e_mod, e_neg, e_ord1, e_ord2, e_isn, e_nin, e_non1, e_non2, e_non3, e_non4, e_non5, e_non6, e_tru1, e_tru2, e_tru3, e_tru4, e_tru5, e_tru6, e_tru7, e_sl1, e_sl2, e_sl3, e_sl4, e_rev, e_it1, e_it2, e_it3, e_len1, e_len2, e_len3, e_len4, e_int1, e_int2, e_int3, e_min, e_max, e_min3, e_lst1, e_lst2, e_tup1, e_tup2, e_str, e_abs, e_lenS, e_ixS, Mi.qLt, Mi.qLe, Mi.qGt, Mi.qGe, List.map_cons, List.map_nil, List.length_map, true_and, and_true, Bool.false_eq_true, if_false, if_true, Bool.not_true, Bool.not_false, qEq_int, qEq_str, qEq_bl, qNe_int, qNe_str, qNe_bl, line0, line1, line2, line3, line4, line6, line7, line10, isi_list_lst, isi_list_tup, isi_list_non, isi_list_str, isi_list_int, isi_tup_tup, isi_bool_bl, isi_bool_int, isi_int_int, isi_int_bl, isi_int_non, isi_int_str, isi_str_str, isi_str_non, isi_str_int, startE_c, startE_n, startE_e, wFor_e, wLc_e, wipeE, wgName, wgTup, wgCons, wgNil, List.getElem?_cons_zero, List.getElem?_cons_succ, List.set_cons_zero, List.set_cons_succ, List.length_cons, List.length_nil, Mi.wC, Mi.wVar, Mi.wVarO, Mi.wOp, Mi.wUn, Mi.wCmp, Mi.wCmpT, Mi.wChainT, Mi.wChain, Mi.wTru, Mi.wAndT, Mi.wOrT, Mi.wNotT, Mi.wAnd, Mi.wOr, Mi.wNot, Mi.wIfE, Mi.wNoPart, Mi.wPart, Mi.wSl, Mi.wNil, Mi.wCons, Mi.wTup, Mi.wLst, Mi.wNext, Mi.wSeq, Mi.wFreeze, Mi.wForget, Mi.wBreak, Mi.wCont, Mi.wRet, Mi.wRetO, Mi.wRetN, Mi.wDrop, Mi.wIf, Mi.wNever, Mi.wAsg, Mi.wSetO, Mi.wPar, Mi.wAug, Mi.wApp, Mi.wSetIx, Mi.wExt, Mi.wItems, Mi.wRng1, Mi.wRng2, Mi.wRng3, Mi.wEnum, Mi.wZip, Mi.wYes, Mi.wCall, Mi.wCallX, Mi.wB2, Mi.wMin3, Mi.wIsi, Mi.wGuard, Mi.wGuardD, Mi.wRaise]
        refine ⟨by omega, by omega, ?_⟩
        refine for_i (fun k δ' => ∃ (c1 c2 c3 c5 c6 c7 c11 c12 c13 c14 c15 c16 c17 : Option Cell), δ' = [st (.ext 0 (.lst (xs.map D.int))), c1, c2, c3, st (.lst (ns.map D.int)), c5, c6, c7, st (SS X), st (SS Y), st (.lst (dueL X Y T2)), c11, c12, c13, c14, c15, c16, c17]) ⟨_, _, _, _, _, _, _, _, _, _, _, _, _, rfl⟩ ?_ fun δ' h => h
        rintro k3 d δ' hk3 ⟨c1, c2, c3, c5, c6, c7, c11, c12, c13, c14, c15, c16, c17, rfl⟩
        obtain ⟨_, rfl⟩ := rangeD_of hk3
        simp only [e_qI, e_qIC, e_add1, e_add2, e_add3, e_add4, e_catL, e_aug1, e_aug2, e_mul1, e_mul2, e_rep, e_div, e_mod, e_neg, e_ord1, e_ord2, e_isn, e_nin, e_non1, e_non2, e_non3, e_non4, e_non5, e_non6, e_tru1, e_tru2, e_tru3, e_tru4, e_tru5, e_tru6, e_tru7, e_sl1, e_sl2, e_sl3, e_sl4, e_rev, e_it1, e_it2, e_it3, e_len1, e_len2, e_len3, e_len4, e_int1, e_int2, e_int3, e_min, e_max, e_min3, e_lst1, e_lst2, e_tup1, e_tup2, e_str, e_abs, e_lenS, e_ixS, Mi.qLt, Mi.qLe, Mi.qGt, Mi.qGe, List.map_cons, List.map_nil, List.length_map, true_and, and_true, Bool.false_eq_true, if_false, if_true, Bool.not_true, Bool.not_false, qEq_int, qEq_str, qEq_bl, qNe_int, qNe_str, qNe_bl, line0, line1, line2, line3, line4, line6, line7, line10, isi_list_lst, isi_list_tup, isi_list_non, isi_list_str, isi_list_int, isi_tup_tup, isi_bool_bl, isi_bool_int, isi_int_int, isi_int_bl, isi_int_non, isi_int_str, isi_str_str, isi_str_non, isi_str_int, startE_c, startE_n, startE_e, wFor_e, wLc_e, wipeE, wgName, wgTup, wgCons, wgNil, List.getElem?_cons_zero, List.getElem?_cons_succ, List.set_cons_zero, List.set_cons_succ, List.length_cons, List.length_nil, Mi.wC, Mi.wVar, Mi.wVarO, Mi.wOp, Mi.wUn, Mi.wCmp, Mi.wCmpT, Mi.wChainT, Mi.wChain, Mi.wTru, Mi.wAndT, Mi.wOrT, Mi.wNotT, Mi.wAnd, Mi.wOr, Mi.wNot, Mi.wIfE, Mi.wNoPart, Mi.wPart, Mi.wSl, Mi.wNil, Mi.wCons, Mi.wTup, Mi.wLst, Mi.wNext, Mi.wSeq, Mi.wFreeze, Mi.wForget, Mi.wBreak, Mi.wCont, Mi.wRet, Mi.wRetO, Mi.wRetN, Mi.wDrop, Mi.wIf, Mi.wNever, Mi.wAsg, Mi.wSetO, Mi.wPar, Mi.wAug, Mi.wApp, Mi.wSetIx, Mi.wExt, Mi.wItems, Mi.wRng1, Mi.wRng2, Mi.wRng3, Mi.wEnum, Mi.wZip, Mi.wYes, Mi.wCall, Mi.wCallX, Mi.wB2, Mi.wMin3, Mi.wIsi, Mi.wGuard, Mi.wGuardD, Mi.wRaise]
        refine ⟨X, Y, T2, rfl, by omega, by omega, hT, fun nf => absurd hfew nf, fun _ => ?_⟩
        refine ifD_i false ?_ (fun e => by cases e) fun _ => ?_
        · simp only [e_qI, e_qIC, e_add1, e_add2, e_add3, e_add4, e_catL, e_aug1, e_aug2, e_mul1, e_mul2, e_rep, e_div, e_mod, e_neg, e_ord1, e_ord2, e_isn, e_nin, e_non1, e_non2, e_non3, e_non4, e_non5, e_non6, e_tru1, e_tru2, e_tru3, e_tru4, e_tru5, e_tru6, e_tru7, e_sl1, e_sl2, e_sl3, e_sl4, e_rev, e_it1, e_it2, e_it3, e_len1, e_len2, e_len3, e_len4, e_int1, e_int2, e_int3, e_min, e_max, e_min3, e_lst1, e_lst2, e_tup1, e_tup2, e_str, e_abs, e_lenS, e_ixS, Mi.qLt, Mi.qLe, Mi.qGt, Mi.qGe, List.map_cons, List.map_nil, List.length_map, true_and, and_true, Bool.false_eq_true, if_false, if_true, Bool.not_true, Bool.not_false, qEq_int, qEq_str, qEq_bl, qNe_int, qNe_str, qNe_bl, line0, line1, line2, line3, line4, line6, line7, line10, isi_list_lst, isi_list_tup, isi_list_non, isi_list_str, isi_list_int, isi_tup_tup, isi_bool_bl, isi_bool_int, isi_int_int, isi_int_bl, isi_int_non, isi_int_str, isi_str_str, isi_str_non, isi_str_int, startE_c, startE_n, startE_e, wFor_e, wLc_e, wipeE, wgName, wgTup, wgCons, wgNil, List.getElem?_cons_zero, List.getElem?_cons_succ, List.set_cons_zero, List.set_cons_succ, List.length_cons, List.length_nil, Mi.wC, Mi.wVar, Mi.wVarO, Mi.wOp, Mi.wUn, Mi.wCmp, Mi.wCmpT, Mi.wChainT, Mi.wChain, Mi.wTru, Mi.wAndT, Mi.wOrT, Mi.wNotT, Mi.wAnd, Mi.wOr, Mi.wNot, Mi.wIfE, Mi.wNoPart, Mi.wPart, Mi.wSl, Mi.wNil, Mi.wCons, Mi.wTup, Mi.wLst, Mi.wNext, Mi.wSeq, Mi.wFreeze, Mi.wForget, Mi.wBreak, Mi.wCont, Mi.wRet, Mi.wRetO, Mi.wRetN, Mi.wDrop, Mi.wIf, Mi.wNever, Mi.wAsg, Mi.wSetO, Mi.wPar, Mi.wAug, Mi.wApp, Mi.wSetIx, Mi.wExt, Mi.wItems, Mi.wRng1, Mi.wRng2, Mi.wRng3, Mi.wEnum, Mi.wZip, Mi.wYes, Mi.wCall, Mi.wCallX, Mi.wB2, Mi.wMin3, Mi.wIsi, Mi.wGuard, Mi.wGuardD, Mi.wRaise]
          refine qNe_self (sh_lst (due_sh X Y T2)) (by decide) ?_
          simp only [e_qI, e_qIC, e_add1, e_add2, e_add3, e_add4, e_catL, e_aug1, e_aug2, e_mul1, e_mul2, e_rep, e_div, e_mod, e_neg, e_ord1, e_ord2, e_isn, e_nin, e_non1, e_non2, e_non3, e_non4, e_non5, e_non6, e_tru1, e_tru2, e_tru3, e_tru4, e_tru5, e_tru6, e_tru7, e_sl1, e_sl2, e_sl3, e_sl4, e_rev, e_it1, e_it2, e_it3, e_len1, e_len2, e_len3, e_len4, e_int1, e_int2, e_int3, e_min, e_max, e_min3, e_lst1, e_lst2, e_tup1, e_tup2, e_str, e_abs, e_lenS, e_ixS, Mi.qLt, Mi.qLe, Mi.qGt, Mi.qGe, List.map_cons, List.map_nil, List.length_map, true_and, and_true, Bool.false_eq_true, if_false, if_true, Bool.not_true, Bool.not_false, qEq_int, qEq_str, qEq_bl, qNe_int, qNe_str, qNe_bl, line0, line1, line2, line3, line4, line6, line7, line10, isi_list_lst, isi_list_tup, isi_list_non, isi_list_str, isi_list_int, isi_tup_tup, isi_bool_bl, isi_bool_int, isi_int_int, isi_int_bl, isi_int_non, isi_int_str, isi_str_str, isi_str_non, isi_str_int, startE_c, startE_n, startE_e, wFor_e, wLc_e, wipeE, wgName, wgTup, wgCons, wgNil, List.getElem?_cons_zero, List.getElem?_cons_succ, List.set_cons_zero, List.set_cons_succ, List.length_cons, List.length_nil, Mi.wC, Mi.wVar, Mi.wVarO, Mi.wOp, Mi.wUn, Mi.wCmp, Mi.wCmpT, Mi.wChainT, Mi.wChain, Mi.wTru, Mi.wAndT, Mi.wOrT, Mi.wNotT, Mi.wAnd, Mi.wOr, Mi.wNot, Mi.wIfE, Mi.wNoPart, Mi.wPart, Mi.wSl, Mi.wNil, Mi.wCons, Mi.wTup, Mi.wLst, Mi.wNext, Mi.wSeq, Mi.wFreeze, Mi.wForget, Mi.wBreak, Mi.wCont, Mi.wRet, Mi.wRetO, Mi.wRetN, Mi.wDrop, Mi.wIf, Mi.wNever, Mi.wAsg, Mi.wSetO, Mi.wPar, Mi.wAug, Mi.wApp, Mi.wSetIx, Mi.wExt, Mi.wItems, Mi.wRng1, Mi.wRng2, Mi.wRng3, Mi.wEnum, Mi.wZip, Mi.wYes, Mi.wCall, Mi.wCallX, Mi.wB2, Mi.wMin3, Mi.wIsi, Mi.wGuard, Mi.wGuardD, Mi.wRaise]
          refine qNe_self wX.sh (by decide) ?_
          simp only [e_qI, e_qIC, e_add1, e_add2, e_add3, e_add4, e_catL, e_aug1, e_aug2, e_mul1, e_mul2, e_rep, e_div, e_mod, e_neg, e_ord1, e_ord2, e_isn, e_nin, e_non1, e_non2, e_non3, e_non4, e_non5, e_non6, e_tru1, e_tru2, e_tru3, e_tru4, e_tru5, e_tru6, e_tru7, e_sl1, e_sl2, e_sl3, e_sl4, e_rev, e_it1, e_it2, e_it3, e_len1, e_len2, e_len3, e_len4, e_int1, e_int2, e_int3, e_min, e_max, e_min3, e_lst1, e_lst2, e_tup1, e_tup2, e_str, e_abs, e_lenS, e_ixS, Mi.qLt, Mi.qLe, Mi.qGt, Mi.qGe, List.map_cons, List.map_nil, List.length_map, true_and, and_true, Bool.false_eq_true, if_false, if_true, Bool.not_true, Bool.not_false, qEq_int, qEq_str, qEq_bl, qNe_int, qNe_str, qNe_bl, line0, line1, line2, line3, line4, line6, line7, line10, isi_list_lst, isi_list_tup, isi_list_non, isi_list_str, isi_list_int, isi_tup_tup, isi_bool_bl, isi_bool_int, isi_int_int, isi_int_bl, isi_int_non, isi_int_str, isi_str_str, isi_str_non, isi_str_int, startE_c, startE_n, startE_e, wFor_e, wLc_e, wipeE, wgName, wgTup, wgCons, wgNil, List.getElem?_cons_zero, List.getElem?_cons_succ, List.set_cons_zero, List.set_cons_succ, List.length_cons, List.length_nil, Mi.wC, Mi.wVar, Mi.wVarO, Mi.wOp, Mi.wUn, Mi.wCmp, Mi.wCmpT, Mi.wChainT, Mi.wChain, Mi.wTru, Mi.wAndT, Mi.wOrT, Mi.wNotT, Mi.wAnd, Mi.wOr, Mi.wNot, Mi.wIfE, Mi.wNoPart, Mi.wPart, Mi.wSl, Mi.wNil, Mi.wCons, Mi.wTup, Mi.wLst, Mi.wNext, Mi.wSeq, Mi.wFreeze, Mi.wForget, Mi.wBreak, Mi.wCont, Mi.wRet, Mi.wRetO, Mi.wRetN, Mi.wDrop, Mi.wIf, Mi.wNever, Mi.wAsg, Mi.wSetO, Mi.wPar, Mi.wAug, Mi.wApp, Mi.wSetIx, Mi.wExt, Mi.wItems, Mi.wRng1, Mi.wRng2, Mi.wRng3, Mi.wEnum, Mi.wZip, Mi.wYes, Mi.wCall, Mi.wCallX, Mi.wB2, Mi.wMin3, Mi.wIsi, Mi.wGuard, Mi.wGuardD, Mi.wRaise]
          refine qNe_self wY.sh (by decide) ?_
          rfl
        · simp only [e_qI, e_qIC, e_add1, e_add2, e_add3, e_add4, e_catL, e_aug1, e_aug2, e_mul1, e_mul2, e_rep, e_div, e_mod, e_neg, e_ord1, e_ord2, e_isn, e_nin, e_non1, e_non2, e_non3, e_non4, e_non5, e_non6, e_tru1, e_tru2, e_tru3, e_tru4, e_tru5, e_tru6, e_tru7, e_sl1, e_sl2, e_sl3, e_sl4, e_rev, e_it1, e_it2, e_it3, e_len1, e_len2, e_len3, e_len4, e_int1, e_int2, e_int3, e_min, e_max, e_min3, e_lst1, e_lst2, e_tup1, e_tup2, e_str, e_abs, e_lenS, e_ixS, Mi.qLt, Mi.qLe, Mi.qGt, Mi.qGe, List.map_cons, List.map_nil, List.length_map, true_and, and_true, Bool.false_eq_true, if_false, if_true, Bool.not_true, Bool.not_false, qEq_int, qEq_str, qEq_bl, qNe_int, qNe_str, qNe_bl, line0, line1, line2, line3, line4, line6, line7, line10, isi_list_lst, isi_list_tup, isi_list_non, isi_list_str, isi_list_int, isi_tup_tup, isi_bool_bl, isi_bool_int, isi_int_int, isi_int_bl, isi_int_non, isi_int_str, isi_str_str, isi_str_non, isi_str_int, startE_c, startE_n, startE_e, wFor_e, wLc_e, wipeE, wgName, wgTup, wgCons, wgNil, List.getElem?_cons_zero, List.getElem?_cons_succ, List.set_cons_zero, List.set_cons_succ, List.length_cons, List.length_nil, Mi.wC, Mi.wVar, Mi.wVarO, Mi.wOp, Mi.wUn, Mi.wCmp, Mi.wCmpT, Mi.wChainT, Mi.wChain, Mi.wTru, Mi.wAndT, Mi.wOrT, Mi.wNotT, Mi.wAnd, Mi.wOr, Mi.wNot, Mi.wIfE, Mi.wNoPart, Mi.wPart, Mi.wSl, Mi.wNil, Mi.wCons, Mi.wTup, Mi.wLst, Mi.wNext, Mi.wSeq, Mi.wFreeze, Mi.wForget, Mi.wBreak, Mi.wCont, Mi.wRet, Mi.wRetO, Mi.wRetN, Mi.wDrop, Mi.wIf, Mi.wNever, Mi.wAsg, Mi.wSetO, Mi.wPar, Mi.wAug, Mi.wApp, Mi.wSetIx, Mi.wExt, Mi.wItems, Mi.wRng1, Mi.wRng2, Mi.wRng3, Mi.wEnum, Mi.wZip, Mi.wYes, Mi.wCall, Mi.wCallX, Mi.wB2, Mi.wMin3, Mi.wIsi, Mi.wGuard, Mi.wGuardD, Mi.wRaise]
          refine ⟨false, ?_, ?_⟩
          · refine lc_filter (fun _ => false) (fun _ => .non) (by rw [due_len]; exact leL (by omega)) (fun k d R N hk h1 h2 => ?_) ?_
            · obtain ⟨_, rfl⟩ := due_get hk
              generalize chg X Y (at_ X Y k) = c
              cases c with
              | stay i j => simp only [e_qI, e_qIC, e_add1, e_add2, e_add3, e_add4, e_catL, e_aug1, e_aug2, e_mul1, e_mul2, e_rep, e_div, e_mod, e_neg, e_ord1, e_ord2, e_isn, e_nin, e_non1, e_non2, e_non3, e_non4, e_non5, e_non6, e_tru1, e_tru2, e_tru3, e_tru4, e_tru5, e_tru6, e_tru7, e_sl1, e_sl2, e_sl3, e_sl4, e_rev, e_it1, e_it2, e_it3, e_len1, e_len2, e_len3, e_len4, e_int1, e_int2, e_int3, e_min, e_max, e_min3, e_lst1, e_lst2, e_tup1, e_tup2, e_str, e_abs, e_lenS, e_ixS, Mi.qLt, Mi.qLe, Mi.qGt, Mi.qGe, List.map_cons, List.map_nil, List.length_map, true_and, and_true, Bool.false_eq_true, if_false, if_true, Bool.not_true, Bool.not_false, qEq_int, qEq_str, qEq_bl, qNe_int, qNe_str, qNe_bl, line0, line1, line2, line3, line4, line6, line7, line10, isi_list_lst, isi_list_tup, isi_list_non, isi_list_str, isi_list_int, isi_tup_tup, isi_bool_bl, isi_bool_int, isi_int_int, isi_int_bl, isi_int_non, isi_int_str, isi_str_str, isi_str_non, isi_str_int, startE_c, startE_n, startE_e, wFor_e, wLc_e, wipeE, wgName, wgTup, wgCons, wgNil, List.getElem?_cons_zero, List.getElem?_cons_succ, List.set_cons_zero, List.set_cons_succ, List.length_cons, List.length_nil, Mi.wC, Mi.wVar, Mi.wVarO, Mi.wOp, Mi.wUn, Mi.wCmp, Mi.wCmpT, Mi.wChainT, Mi.wChain, Mi.wTru, Mi.wAndT, Mi.wOrT, Mi.wNotT, Mi.wAnd, Mi.wOr, Mi.wNot, Mi.wIfE, Mi.wNoPart, Mi.wPart, Mi.wSl, Mi.wNil, Mi.wCons, Mi.wTup, Mi.wLst, Mi.wNext, Mi.wSeq, Mi.wFreeze, Mi.wForget, Mi.wBreak, Mi.wCont, Mi.wRet, Mi.wRetO, Mi.wRetN, Mi.wDrop, Mi.wIf, Mi.wNever, Mi.wAsg, Mi.wSetO, Mi.wPar, Mi.wAug, Mi.wApp, Mi.wSetIx, Mi.wExt, Mi.wItems, Mi.wRng1, Mi.wRng2, Mi.wRng3, Mi.wEnum, Mi.wZip, Mi.wYes, Mi.wCall, Mi.wCallX, Mi.wB2, Mi.wMin3, Mi.wIsi, Mi.wGuard, Mi.wGuardD, Mi.wRaise, Ch.d]; exact h2 rfl
              | come j => simp only [e_qI, e_qIC, e_add1, e_add2, e_add3, e_add4, e_catL, e_aug1, e_aug2, e_mul1, e_mul2, e_rep, e_div, e_mod, e_neg, e_ord1, e_ord2, e_isn, e_nin, e_non1, e_non2, e_non3, e_non4, e_non5, e_non6, e_tru1, e_tru2, e_tru3, e_tru4, e_tru5, e_tru6, e_tru7, e_sl1, e_sl2, e_sl3, e_sl4, e_rev, e_it1, e_it2, e_it3, e_len1, e_len2, e_len3, e_len4, e_int1, e_int2, e_int3, e_min, e_max, e_min3, e_lst1, e_lst2, e_tup1, e_tup2, e_str, e_abs, e_lenS, e_ixS, Mi.qLt, Mi.qLe, Mi.qGt, Mi.qGe, List.map_cons, List.map_nil, List.length_map, true_and, and_true, Bool.false_eq_true, if_false, if_true, Bool.not_true, Bool.not_false, qEq_int, qEq_str, qEq_bl, qNe_int, qNe_str, qNe_bl, line0, line1, line2, line3, line4, line6, line7, line10, isi_list_lst, isi_list_tup, isi_list_non, isi_list_str, isi_list_int, isi_tup_tup, isi_bool_bl, isi_bool_int, isi_int_int, isi_int_bl, isi_int_non, isi_int_str, isi_str_str, isi_str_non, isi_str_int, startE_c, startE_n, startE_e, wFor_e, wLc_e, wipeE, wgName, wgTup, wgCons, wgNil, List.getElem?_cons_zero, List.getElem?_cons_succ, List.set_cons_zero, List.set_cons_succ, List.length_cons, List.length_nil, Mi.wC, Mi.wVar, Mi.wVarO, Mi.wOp, Mi.wUn, Mi.wCmp, Mi.wCmpT, Mi.wChainT, Mi.wChain, Mi.wTru, Mi.wAndT, Mi.wOrT, Mi.wNotT, Mi.wAnd, Mi.wOr, Mi.wNot, Mi.wIfE, Mi.wNoPart, Mi.wPart, Mi.wSl, Mi.wNil, Mi.wCons, Mi.wTup, Mi.wLst, Mi.wNext, Mi.wSeq, Mi.wFreeze, Mi.wForget, Mi.wBreak, Mi.wCont, Mi.wRet, Mi.wRetO, Mi.wRetN, Mi.wDrop, Mi.wIf, Mi.wNever, Mi.wAsg, Mi.wSetO, Mi.wPar, Mi.wAug, Mi.wApp, Mi.wSetIx, Mi.wExt, Mi.wItems, Mi.wRng1, Mi.wRng2, Mi.wRng3, Mi.wEnum, Mi.wZip, Mi.wYes, Mi.wCall, Mi.wCallX, Mi.wB2, Mi.wMin3, Mi.wIsi, Mi.wGuard, Mi.wGuardD, Mi.wRaise, Ch.d]; exact h2 rfl
              | go j => simp only [e_qI, e_qIC, e_add1, e_add2, e_add3, e_add4, e_catL, e_aug1, e_aug2, e_mul1, e_mul2, e_rep, e_div, e_mod, e_neg, e_ord1, e_ord2, e_isn, e_nin, e_non1, e_non2, e_non3, e_non4, e_non5, e_non6, e_tru1, e_tru2, e_tru3, e_tru4, e_tru5, e_tru6, e_tru7, e_sl1, e_sl2, e_sl3, e_sl4, e_rev, e_it1, e_it2, e_it3, e_len1, e_len2, e_len3, e_len4, e_int1, e_int2, e_int3, e_min, e_max, e_min3, e_lst1, e_lst2, e_tup1, e_tup2, e_str, e_abs, e_lenS, e_ixS, Mi.qLt, Mi.qLe, Mi.qGt, Mi.qGe, List.map_cons, List.map_nil, List.length_map, true_and, and_true, Bool.false_eq_true, if_false, if_true, Bool.not_true, Bool.not_false, qEq_int, qEq_str, qEq_bl, qNe_int, qNe_str, qNe_bl, line0, line1, line2, line3, line4, line6, line7, line10, isi_list_lst, isi_list_tup, isi_list_non, isi_list_str, isi_list_int, isi_tup_tup, isi_bool_bl, isi_bool_int, isi_int_int, isi_int_bl, isi_int_non, isi_int_str, isi_str_str, isi_str_non, isi_str_int, startE_c, startE_n, startE_e, wFor_e, wLc_e, wipeE, wgName, wgTup, wgCons, wgNil, List.getElem?_cons_zero, List.getElem?_cons_succ, List.set_cons_zero, List.set_cons_succ, List.length_cons, List.length_nil, Mi.wC, Mi.wVar, Mi.wVarO, Mi.wOp, Mi.wUn, Mi.wCmp, Mi.wCmpT, Mi.wChainT, Mi.wChain, Mi.wTru, Mi.wAndT, Mi.wOrT, Mi.wNotT, Mi.wAnd, Mi.wOr, Mi.wNot, Mi.wIfE, Mi.wNoPart, Mi.wPart, Mi.wSl, Mi.wNil, Mi.wCons, Mi.wTup, Mi.wLst, Mi.wNext, Mi.wSeq, Mi.wFreeze, Mi.wForget, Mi.wBreak, Mi.wCont, Mi.wRet, Mi.wRetO, Mi.wRetN, Mi.wDrop, Mi.wIf, Mi.wNever, Mi.wAsg, Mi.wSetO, Mi.wPar, Mi.wAug, Mi.wApp, Mi.wSetIx, Mi.wExt, Mi.wItems, Mi.wRng1, Mi.wRng2, Mi.wRng3, Mi.wEnum, Mi.wZip, Mi.wYes, Mi.wCall, Mi.wCallX, Mi.wB2, Mi.wMin3, Mi.wIsi, Mi.wGuard, Mi.wGuardD, Mi.wRaise, Ch.d]; exact h2 rfl
            · have e0 : ∀ n : Nat, (List.range n).filter (fun _ => false) = [] := fun n => by simp
              rw [e0]
              refine qNe_self (sh_lst (n := 0) fun x hx => by cases hx) (by decide) ?_
              simp only [e_qI, e_qIC, e_add1, e_add2, e_add3, e_add4, e_catL, e_aug1, e_aug2, e_mul1, e_mul2, e_rep, e_div, e_mod, e_neg, e_ord1, e_ord2, e_isn, e_nin, e_non1, e_non2, e_non3, e_non4, e_non5, e_non6, e_tru1, e_tru2, e_tru3, e_tru4, e_tru5, e_tru6, e_tru7, e_sl1, e_sl2, e_sl3, e_sl4, e_rev, e_it1, e_it2, e_it3, e_len1, e_len2, e_len3, e_len4, e_int1, e_int2, e_int3, e_min, e_max, e_min3, e_lst1, e_lst2, e_tup1, e_tup2, e_str, e_abs, e_lenS, e_ixS, Mi.qLt, Mi.qLe, Mi.qGt, Mi.qGe, List.map_cons, List.map_nil, List.length_map, true_and, and_true, Bool.false_eq_true, if_false, if_true, Bool.not_true, Bool.not_false, qEq_int, qEq_str, qEq_bl, qNe_int, qNe_str, qNe_bl, line0, line1, line2, line3, line4, line6, line7, line10, isi_list_lst, isi_list_tup, isi_list_non, isi_list_str, isi_list_int, isi_tup_tup, isi_bool_bl, isi_bool_int, isi_int_int, isi_int_bl, isi_int_non, isi_int_str, isi_str_str, isi_str_non, isi_str_int, startE_c, startE_n, startE_e, wFor_e, wLc_e, wipeE, wgName, wgTup, wgCons, wgNil, List.getElem?_cons_zero, List.getElem?_cons_succ, List.set_cons_zero, List.set_cons_succ, List.length_cons, List.length_nil, Mi.wC, Mi.wVar, Mi.wVarO, Mi.wOp, Mi.wUn, Mi.wCmp, Mi.wCmpT, Mi.wChainT, Mi.wChain, Mi.wTru, Mi.wAndT, Mi.wOrT, Mi.wNotT, Mi.wAnd, Mi.wOr, Mi.wNot, Mi.wIfE, Mi.wNoPart, Mi.wPart, Mi.wSl, Mi.wNil, Mi.wCons, Mi.wTup, Mi.wLst, Mi.wNext, Mi.wSeq, Mi.wFreeze, Mi.wForget, Mi.wBreak, Mi.wCont, Mi.wRet, Mi.wRetO, Mi.wRetN, Mi.wDrop, Mi.wIf, Mi.wNever, Mi.wAsg, Mi.wSetO, Mi.wPar, Mi.wAug, Mi.wApp, Mi.wSetIx, Mi.wExt, Mi.wItems, Mi.wRng1, Mi.wRng2, Mi.wRng3, Mi.wEnum, Mi.wZip, Mi.wYes, Mi.wCall, Mi.wCallX, Mi.wB2, Mi.wMin3, Mi.wIsi, Mi.wGuard, Mi.wGuardD, Mi.wRaise]
              refine ⟨X, Y, T2, rfl, by omega, by omega, hT, ?_⟩
              refine qNe_self wY.sh (by decide) rfl
          · rw [if_neg Bool.false_ne_true]
            exact ⟨ltL (by rw [due_len]; omega), _, _, _, _, _, _, _, _, _, _, _, _, _, rfl⟩
      · rintro δ' ⟨c1, c2, c3, c5, c6, c7, c11, c12, c13, c14, c15, c16, c17, rfl⟩
        simp only [e_qI, e_qIC, e_add1, e_add2, e_add3, e_add4, e_catL, e_aug1, e_aug2, e_mul1, e_mul2, e_rep, e_div, e_mod, e_neg, e_ord1, e_ord2, e_isn, e_nin, e_non1, e_non2, e_non3, e_non4, e_non5, e_non6, e_tru1, e_tru2, e_tru3, e_tru4, e_tru5, e_tru6, e_tru7, e_sl1, e_sl2, e_sl3, e_sl4, e_rev, e_it1, e_it2, e_it3, e_len1, e_len2, e_len3, e_len4, e_int1, e_int2, e_int3, e_min, e_max, e_min3, e_lst1, e_lst2, e_tup1, e_tup2, e_str, e_abs, e_lenS, e_ixS, Mi.qLt, Mi.qLe, Mi.qGt, Mi.qGe, List.map_cons, List.map_nil, List.length_map, true_and, and_true, Bool.false_eq_true, if_false, if_true, Bool.not_true, Bool.not_false, qEq_int, qEq_str, qEq_bl, qNe_int, qNe_str, qNe_bl, line0, line1, line2, line3, line4, line6, line7, line10, isi_list_lst, isi_list_tup, isi_list_non, isi_list_str, isi_list_int, isi_tup_tup, isi_bool_bl, isi_bool_int, isi_int_int, isi_int_bl, isi_int_non, isi_int_str, isi_str_str, isi_str_non, isi_str_int, startE_c, startE_n, startE_e, wFor_e, wLc_e, wipeE, wgName, wgTup, wgCons, wgNil, List.getElem?_cons_zero, List.getElem?_cons_succ, List.set_cons_zero, List.set_cons_succ, List.length_cons, List.length_nil, Mi.wC, Mi.wVar, Mi.wVarO, Mi.wOp, Mi.wUn, Mi.wCmp, Mi.wCmpT, Mi.wChainT, Mi.wChain, Mi.wTru, Mi.wAndT, Mi.wOrT, Mi.wNotT, Mi.wAnd, Mi.wOr, Mi.wNot, Mi.wIfE, Mi.wNoPart, Mi.wPart, Mi.wSl, Mi.wNil, Mi.wCons, Mi.wTup, Mi.wLst, Mi.wNext, Mi.wSeq, Mi.wFreeze, Mi.wForget, Mi.wBreak, Mi.wCont, Mi.wRet, Mi.wRetO, Mi.wRetN, Mi.wDrop, Mi.wIf, Mi.wNever, Mi.wAsg, Mi.wSetO, Mi.wPar, Mi.wAug, Mi.wApp, Mi.wSetIx, Mi.wExt, Mi.wItems, Mi.wRng1, Mi.wRng2, Mi.wRng3, Mi.wEnum, Mi.wZip, Mi.wYes, Mi.wCall, Mi.wCallX, Mi.wB2, Mi.wMin3, Mi.wIsi, Mi.wGuard, Mi.wGuardD, Mi.wRaise]
        refine ⟨X, Y, T2, rfl, by omega, by omega, hT, fun nf => absurd hfew nf, fun _ => ?_⟩
        refine lc_cnt (s0 := none) (s1 := none) (by omega) ?_ fun c R N h1 h2 => ?_
        · simp only [e_qI, e_qIC, e_add1, e_add2, e_add3, e_add4, e_catL, e_aug1, e_aug2, e_mul1, e_mul2, e_rep, e_div, e_mod, e_neg, e_ord1, e_ord2, e_isn, e_nin, e_non1, e_non2, e_non3, e_non4, e_non5, e_non6, e_tru1, e_tru2, e_tru3, e_tru4, e_tru5, e_tru6, e_tru7, e_sl1, e_sl2, e_sl3, e_sl4, e_rev, e_it1, e_it2, e_it3, e_len1, e_len2, e_len3, e_len4, e_int1, e_int2, e_int3, e_min, e_max, e_min3, e_lst1, e_lst2, e_tup1, e_tup2, e_str, e_abs, e_lenS, e_ixS, Mi.qLt, Mi.qLe, Mi.qGt, Mi.qGe, List.map_cons, List.map_nil, List.length_map, true_and, and_true, Bool.false_eq_true, if_false, if_true, Bool.not_true, Bool.not_false, qEq_int, qEq_str, qEq_bl, qNe_int, qNe_str, qNe_bl, line0, line1, line2, line3, line4, line6, line7, line10, isi_list_lst, isi_list_tup, isi_list_non, isi_list_str, isi_list_int, isi_tup_tup, isi_bool_bl, isi_bool_int, isi_int_int, isi_int_bl, isi_int_non, isi_int_str, isi_str_str, isi_str_non, isi_str_int, startE_c, startE_n, startE_e, wFor_e, wLc_e, wipeE, wgName, wgTup, wgCons, wgNil, List.getElem?_cons_zero, List.getElem?_cons_succ, List.set_cons_zero, List.set_cons_succ, List.length_cons, List.length_nil, Mi.wC, Mi.wVar, Mi.wVarO, Mi.wOp, Mi.wUn, Mi.wCmp, Mi.wCmpT, Mi.wChainT, Mi.wChain, Mi.wTru, Mi.wAndT, Mi.wOrT, Mi.wNotT, Mi.wAnd, Mi.wOr, Mi.wNot, Mi.wIfE, Mi.wNoPart, Mi.wPart, Mi.wSl, Mi.wNil, Mi.wCons, Mi.wTup, Mi.wLst, Mi.wNext, Mi.wSeq, Mi.wFreeze, Mi.wForget, Mi.wBreak, Mi.wCont, Mi.wRet, Mi.wRetO, Mi.wRetN, Mi.wDrop, Mi.wIf, Mi.wNever, Mi.wAsg, Mi.wSetO, Mi.wPar, Mi.wAug, Mi.wApp, Mi.wSetIx, Mi.wExt, Mi.wItems, Mi.wRng1, Mi.wRng2, Mi.wRng3, Mi.wEnum, Mi.wZip, Mi.wYes, Mi.wCall, Mi.wCallX, Mi.wB2, Mi.wMin3, Mi.wIsi, Mi.wGuard, Mi.wGuardD, Mi.wRaise, decide_true]
          have hcutm : cutD (ns.map D.int) (some 41) (some 56) = (cutD ns (some 41) (some 56)).map D.int := cut_map _ _ _ _
          rw [hcutm]
          refine ⟨dueL X Y T2, cutD ns (some 41) (some 56), rfl, by rw [due_len]; omega, due_sh X Y T2, by have := cut_eq ns 41 56 (by omega); rw [show (cutD ns (some 41) (some 56)).length = 15 from this]; omega, fun n hn => hb n (mem_cut hn), fun vs hvl hvg => ?_⟩
          simp only [e_qI, e_qIC, e_add1, e_add2, e_add3, e_add4, e_catL, e_aug1, e_aug2, e_mul1, e_mul2, e_rep, e_div, e_mod, e_neg, e_ord1, e_ord2, e_isn, e_nin, e_non1, e_non2, e_non3, e_non4, e_non5, e_non6, e_tru1, e_tru2, e_tru3, e_tru4, e_tru5, e_tru6, e_tru7, e_sl1, e_sl2, e_sl3, e_sl4, e_rev, e_it1, e_it2, e_it3, e_len1, e_len2, e_len3, e_len4, e_int1, e_int2, e_int3, e_min, e_max, e_min3, e_lst1, e_lst2, e_tup1, e_tup2, e_str, e_abs, e_lenS, e_ixS, Mi.qLt, Mi.qLe, Mi.qGt, Mi.qGe, List.map_cons, List.map_nil, List.length_map, true_and, and_true, Bool.false_eq_true, if_false, if_true, Bool.not_true, Bool.not_false, qEq_int, qEq_str, qEq_bl, qNe_int, qNe_str, qNe_bl, line0, line1, line2, line3, line4, line6, line7, line10, isi_list_lst, isi_list_tup, isi_list_non, isi_list_str, isi_list_int, isi_tup_tup, isi_bool_bl, isi_bool_int, isi_int_int, isi_int_bl, isi_int_non, isi_int_str, isi_str_str, isi_str_non, isi_str_int, startE_c, startE_n, startE_e, wFor_e, wLc_e, wipeE, wgName, wgTup, wgCons, wgNil, List.getElem?_cons_zero, List.getElem?_cons_succ, List.set_cons_zero, List.set_cons_succ, List.length_cons, List.length_nil, Mi.wC, Mi.wVar, Mi.wVarO, Mi.wOp, Mi.wUn, Mi.wCmp, Mi.wCmpT, Mi.wChainT, Mi.wChain, Mi.wTru, Mi.wAndT, Mi.wOrT, Mi.wNotT, Mi.wAnd, Mi.wOr, Mi.wNot, Mi.wIfE, Mi.wNoPart, Mi.wPart, Mi.wSl, Mi.wNil, Mi.wCons, Mi.wTup, Mi.wLst, Mi.wNext, Mi.wSeq, Mi.wFreeze, Mi.wForget, Mi.wBreak, Mi.wCont, Mi.wRet, Mi.wRetO, Mi.wRetN, Mi.wDrop, Mi.wIf, Mi.wNever, Mi.wAsg, Mi.wSetO, Mi.wPar, Mi.wAug, Mi.wApp, Mi.wSetIx, Mi.wExt, Mi.wItems, Mi.wRng1, Mi.wRng2, Mi.wRng3, Mi.wEnum, Mi.wZip, Mi.wYes, Mi.wCall, Mi.wCallX, Mi.wB2, Mi.wMin3, Mi.wIsi, Mi.wGuard, Mi.wGuardD, Mi.wRaise]
          refine for_i (fun k δ' => ∃ (c1 c2 c3 c5 c6 c7 c11 c12 c13 c14 c15 c16 c17 : Option Cell), δ' = [st (.ext 0 (.lst (xs.map D.int))), c1, c2, c3, st (.lst (ns.map D.int)), c5, c6, c7, st (SS X), st (SS Y), st (.lst (dueL X Y T2)), c11, c12, c13, c14, c15, c16, c17]) ⟨_, _, _, _, _, _, _, _, _, _, _, _, _, rfl⟩ ?_ fun δ' ⟨c1, c2, c3, c5, c6, c7, c11, c12, c13, c14, c15, c16, c17, e⟩ => ⟨_, _, _, _, _, _, _, _, _, _, _, _, _, _, _, _, e⟩
          rintro k3 v δ' hk3 ⟨c1, c2, c3, c5, c6, c7, c11, c12, c13, c14, c15, c16, c17, rfl⟩
          have hv := hvg v (List.mem_of_getElem? hk3)
          simp only [e_qI, e_qIC, e_add1, e_add2, e_add3, e_add4, e_catL, e_aug1, e_aug2, e_mul1, e_mul2, e_rep, e_div, e_mod, e_neg, e_ord1, e_ord2, e_isn, e_nin, e_non1, e_non2, e_non3, e_non4, e_non5, e_non6, e_tru1, e_tru2, e_tru3, e_tru4, e_tru5, e_tru6, e_tru7, e_sl1, e_sl2, e_sl3, e_sl4, e_rev, e_it1, e_it2, e_it3, e_len1, e_len2, e_len3, e_len4, e_int1, e_int2, e_int3, e_min, e_max, e_min3, e_lst1, e_lst2, e_tup1, e_tup2, e_str, e_abs, e_lenS, e_ixS, Mi.qLt, Mi.qLe, Mi.qGt, Mi.qGe, List.map_cons, List.map_nil, List.length_map, true_and, and_true, Bool.false_eq_true, if_false, if_true, Bool.not_true, Bool.not_false, qEq_int, qEq_str, qEq_bl, qNe_int, qNe_str, qNe_bl, line0, line1, line2, line3, line4, line6, line7, line10, isi_list_lst, isi_list_tup, isi_list_non, isi_list_str, isi_list_int, isi_tup_tup, isi_bool_bl, isi_bool_int, isi_int_int, isi_int_bl, isi_int_non, isi_int_str, isi_str_str, isi_str_non, isi_str_int, startE_c, startE_n, startE_e, wFor_e, wLc_e, wipeE, wgName, wgTup, wgCons, wgNil, List.getElem?_cons_zero, List.getElem?_cons_succ, List.set_cons_zero, List.set_cons_succ, List.length_cons, List.length_nil, Mi.wC, Mi.wVar, Mi.wVarO, Mi.wOp, Mi.wUn, Mi.wCmp, Mi.wCmpT, Mi.wChainT, Mi.wChain, Mi.wTru, Mi.wAndT, Mi.wOrT, Mi.wNotT, Mi.wAnd, Mi.wOr, Mi.wNot, Mi.wIfE, Mi.wNoPart, Mi.wPart, Mi.wSl, Mi.wNil, Mi.wCons, Mi.wTup, Mi.wLst, Mi.wNext, Mi.wSeq, Mi.wFreeze, Mi.wForget, Mi.wBreak, Mi.wCont, Mi.wRet, Mi.wRetO, Mi.wRetN, Mi.wDrop, Mi.wIf, Mi.wNever, Mi.wAsg, Mi.wSetO, Mi.wPar, Mi.wAug, Mi.wApp, Mi.wSetIx, Mi.wExt, Mi.wItems, Mi.wRng1, Mi.wRng2, Mi.wRng3, Mi.wEnum, Mi.wZip, Mi.wYes, Mi.wCall, Mi.wCallX, Mi.wB2, Mi.wMin3, Mi.wIsi, Mi.wGuard, Mi.wGuardD, Mi.wRaise]
          refine ⟨X, Y, v, rfl, hv, ?_⟩
          refine ifD_i false ?_ (fun e => by cases e) fun _ => ?_
          · simp only [e_qI, e_qIC, e_add1, e_add2, e_add3, e_add4, e_catL, e_aug1, e_aug2, e_mul1, e_mul2, e_rep, e_div, e_mod, e_neg, e_ord1, e_ord2, e_isn, e_nin, e_non1, e_non2, e_non3, e_non4, e_non5, e_non6, e_tru1, e_tru2, e_tru3, e_tru4, e_tru5, e_tru6, e_tru7, e_sl1, e_sl2, e_sl3, e_sl4, e_rev, e_it1, e_it2, e_it3, e_len1, e_len2, e_len3, e_len4, e_int1, e_int2, e_int3, e_min, e_max, e_min3, e_lst1, e_lst2, e_tup1, e_tup2, e_str, e_abs, e_lenS, e_ixS, Mi.qLt, Mi.qLe, Mi.qGt, Mi.qGe, List.map_cons, List.map_nil, List.length_map, true_and, and_true, Bool.false_eq_true, if_false, if_true, Bool.not_true, Bool.not_false, qEq_int, qEq_str, qEq_bl, qNe_int, qNe_str, qNe_bl, line0, line1, line2, line3, line4, line6, line7, line10, isi_list_lst, isi_list_tup, isi_list_non, isi_list_str, isi_list_int, isi_tup_tup, isi_bool_bl, isi_bool_int, isi_int_int, isi_int_bl, isi_int_non, isi_int_str, isi_str_str, isi_str_non, isi_str_int, startE_c, startE_n, startE_e, wFor_e, wLc_e, wipeE, wgName, wgTup, wgCons, wgNil, List.getElem?_cons_zero, List.getElem?_cons_succ, List.set_cons_zero, List.set_cons_succ, List.length_cons, List.length_nil, Mi.wC, Mi.wVar, Mi.wVarO, Mi.wOp, Mi.wUn, Mi.wCmp, Mi.wCmpT, Mi.wChainT, Mi.wChain, Mi.wTru, Mi.wAndT, Mi.wOrT, Mi.wNotT, Mi.wAnd, Mi.wOr, Mi.wNot, Mi.wIfE, Mi.wNoPart, Mi.wPart, Mi.wSl, Mi.wNil, Mi.wCons, Mi.wTup, Mi.wLst, Mi.wNext, Mi.wSeq, Mi.wFreeze, Mi.wForget, Mi.wBreak, Mi.wCont, Mi.wRet, Mi.wRetO, Mi.wRetN, Mi.wDrop, Mi.wIf, Mi.wNever, Mi.wAsg, Mi.wSetO, Mi.wPar, Mi.wAug, Mi.wApp, Mi.wSetIx, Mi.wExt, Mi.wItems, Mi.wRng1, Mi.wRng2, Mi.wRng3, Mi.wEnum, Mi.wZip, Mi.wYes, Mi.wCall, Mi.wCallX, Mi.wB2, Mi.wMin3, Mi.wIsi, Mi.wGuard, Mi.wGuardD, Mi.wRaise]
            refine ⟨X, Y, v, rfl, hv, ?_⟩
            simp only [e_qI, e_qIC, e_add1, e_add2, e_add3, e_add4, e_catL, e_aug1, e_aug2, e_mul1, e_mul2, e_rep, e_div, e_mod, e_neg, e_ord1, e_ord2, e_isn, e_nin, e_non1, e_non2, e_non3, e_non4, e_non5, e_non6, e_tru1, e_tru2, e_tru3, e_tru4, e_tru5, e_tru6, e_tru7, e_sl1, e_sl2, e_sl3, e_sl4, e_rev, e_it1, e_it2, e_it3, e_len1, e_len2, e_len3, e_len4, e_int1, e_int2, e_int3, e_min, e_max, e_min3, e_lst1, e_lst2, e_tup1, e_tup2, e_str, e_abs, e_lenS, e_ixS, Mi.qLt, Mi.qLe, Mi.qGt, Mi.qGe, List.map_cons, List.map_nil, List.length_map, true_and, and_true, Bool.false_eq_true, if_false, if_true, Bool.not_true, Bool.not_false, qEq_int, qEq_str, qEq_bl, qNe_int, qNe_str, qNe_bl, line0, line1, line2, line3, line4, line6, line7, line10, isi_list_lst, isi_list_tup, isi_list_non, isi_list_str, isi_list_int, isi_tup_tup, isi_bool_bl, isi_bool_int, isi_int_int, isi_int_bl, isi_int_non, isi_int_str, isi_str_str, isi_str_non, isi_str_int, startE_c, startE_n, startE_e, wFor_e, wLc_e, wipeE, wgName, wgTup, wgCons, wgNil, List.getElem?_cons_zero, List.getElem?_cons_succ, List.set_cons_zero, List.set_cons_succ, List.length_cons, List.length_nil, Mi.wC, Mi.wVar, Mi.wVarO, Mi.wOp, Mi.wUn, Mi.wCmp, Mi.wCmpT, Mi.wChainT, Mi.wChain, Mi.wTru, Mi.wAndT, Mi.wOrT, Mi.wNotT, Mi.wAnd, Mi.wOr, Mi.wNot, Mi.wIfE, Mi.wNoPart, Mi.wPart, Mi.wSl, Mi.wNil, Mi.wCons, Mi.wTup, Mi.wLst, Mi.wNext, Mi.wSeq, Mi.wFreeze, Mi.wForget, Mi.wBreak, Mi.wCont, Mi.wRet, Mi.wRetO, Mi.wRetN, Mi.wDrop, Mi.wIf, Mi.wNever, Mi.wAsg, Mi.wSetO, Mi.wPar, Mi.wAug, Mi.wApp, Mi.wSetIx, Mi.wExt, Mi.wItems, Mi.wRng1, Mi.wRng2, Mi.wRng3, Mi.wEnum, Mi.wZip, Mi.wYes, Mi.wCall, Mi.wCallX, Mi.wB2, Mi.wMin3, Mi.wIsi, Mi.wGuard, Mi.wGuardD, Mi.wRaise, decide_true]
          · simp only [e_qI, e_qIC, e_add1, e_add2, e_add3, e_add4, e_catL, e_aug1, e_aug2, e_mul1, e_mul2, e_rep, e_div, e_mod, e_neg, e_ord1, e_ord2, e_isn, e_nin, e_non1, e_non2, e_non3, e_non4, e_non5, e_non6, e_tru1, e_tru2, e_tru3, e_tru4, e_tru5, e_tru6, e_tru7, e_sl1, e_sl2, e_sl3, e_sl4, e_rev, e_it1, e_it2, e_it3, e_len1, e_len2, e_len3, e_len4, e_int1, e_int2, e_int3, e_min, e_max, e_min3, e_lst1, e_lst2, e_tup1, e_tup2, e_str, e_abs, e_lenS, e_ixS, Mi.qLt, Mi.qLe, Mi.qGt, Mi.qGe, List.map_cons, List.map_nil, List.length_map, true_and, and_true, Bool.false_eq_true, if_false, if_true, Bool.not_true, Bool.not_false, qEq_int, qEq_str, qEq_bl, qNe_int, qNe_str, qNe_bl, line0, line1, line2, line3, line4, line6, line7, line10, isi_list_lst, isi_list_tup, isi_list_non, isi_list_str, isi_list_int, isi_tup_tup, isi_bool_bl, isi_bool_int, isi_int_int, isi_int_bl, isi_int_non, isi_int_str, isi_str_str, isi_str_non, isi_str_int, startE_c, startE_n, startE_e, wFor_e, wLc_e, wipeE, wgName, wgTup, wgCons, wgNil, List.getElem?_cons_zero, List.getElem?_cons_succ, List.set_cons_zero, List.set_cons_succ, List.length_cons, List.length_nil, Mi.wC, Mi.wVar, Mi.wVarO, Mi.wOp, Mi.wUn, Mi.wCmp, Mi.wCmpT, Mi.wChainT, Mi.wChain, Mi.wTru, Mi.wAndT, Mi.wOrT, Mi.wNotT, Mi.wAnd, Mi.wOr, Mi.wNot, Mi.wIfE, Mi.wNoPart, Mi.wPart, Mi.wSl, Mi.wNil, Mi.wCons, Mi.wTup, Mi.wLst, Mi.wNext, Mi.wSeq, Mi.wFreeze, Mi.wForget, Mi.wBreak, Mi.wCont, Mi.wRet, Mi.wRetO, Mi.wRetN, Mi.wDrop, Mi.wIf, Mi.wNever, Mi.wAsg, Mi.wSetO, Mi.wPar, Mi.wAug, Mi.wApp, Mi.wSetIx, Mi.wExt, Mi.wItems, Mi.wRng1, Mi.wRng2, Mi.wRng3, Mi.wEnum, Mi.wZip, Mi.wYes, Mi.wCall, Mi.wCallX, Mi.wB2, Mi.wMin3, Mi.wIsi, Mi.wGuard, Mi.wGuardD, Mi.wRaise]
            exact ⟨_, _, _, _, _, _, _, _, _, _, _, _, _, rfl⟩
        · cases c with
          | stay i j =>
            simp only [e_qI, e_qIC, e_add1, e_add2, e_add3, e_add4, e_catL, e_aug1, e_aug2, e_mul1, e_mul2, e_rep, e_div, e_mod, e_neg, e_ord1, e_ord2, e_isn, e_nin, e_non1, e_non2, e_non3, e_non4, e_non5, e_non6, e_tru1, e_tru2, e_tru3, e_tru4, e_tru5, e_tru6, e_tru7, e_sl1, e_sl2, e_sl3, e_sl4, e_rev, e_it1, e_it2, e_it3, e_len1, e_len2, e_len3, e_len4, e_int1, e_int2, e_int3, e_min, e_max, e_min3, e_lst1, e_lst2, e_tup1, e_tup2, e_str, e_abs, e_lenS, e_ixS, Mi.qLt, Mi.qLe, Mi.qGt, Mi.qGe, List.map_cons, List.map_nil, List.length_map, true_and, and_true, Bool.false_eq_true, if_false, if_true, Bool.not_true, Bool.not_false, qEq_int, qEq_str, qEq_bl, qNe_int, qNe_str, qNe_bl, line0, line1, line2, line3, line4, line6, line7, line10, isi_list_lst, isi_list_tup, isi_list_non, isi_list_str, isi_list_int, isi_tup_tup, isi_bool_bl, isi_bool_int, isi_int_int, isi_int_bl, isi_int_non, isi_int_str, isi_str_str, isi_str_non, isi_str_int, startE_c, startE_n, startE_e, wFor_e, wLc_e, wipeE, wgName, wgTup, wgCons, wgNil, List.getElem?_cons_zero, List.getElem?_cons_succ, List.set_cons_zero, List.set_cons_succ, List.length_cons, List.length_nil, Mi.wC, Mi.wVar, Mi.wVarO, Mi.wOp, Mi.wUn, Mi.wCmp, Mi.wCmpT, Mi.wChainT, Mi.wChain, Mi.wTru, Mi.wAndT, Mi.wOrT, Mi.wNotT, Mi.wAnd, Mi.wOr, Mi.wNot, Mi.wIfE, Mi.wNoPart, Mi.wPart, Mi.wSl, Mi.wNil, Mi.wCons, Mi.wTup, Mi.wLst, Mi.wNext, Mi.wSeq, Mi.wFreeze, Mi.wForget, Mi.wBreak, Mi.wCont, Mi.wRet, Mi.wRetO, Mi.wRetN, Mi.wDrop, Mi.wIf, Mi.wNever, Mi.wAsg, Mi.wSetO, Mi.wPar, Mi.wAug, Mi.wApp, Mi.wSetIx, Mi.wExt, Mi.wItems, Mi.wRng1, Mi.wRng2, Mi.wRng3, Mi.wEnum, Mi.wZip, Mi.wYes, Mi.wCall, Mi.wCallX, Mi.wB2, Mi.wMin3, Mi.wIsi, Mi.wGuard, Mi.wGuardD, Mi.wRaise, Ch.d]
            refine qIx_tup (i := 0) rfl ?_
            simp only [e_qI, e_qIC, e_add1, e_add2, e_add3, e_add4, e_catL, e_aug1, e_aug2, e_mul1, e_mul2, e_rep, e_div, e_mod, e_neg, e_ord1, e_ord2, e_isn, e_nin, e_non1, e_non2, e_non3, e_non4, e_non5, e_non6, e_tru1, e_tru2, e_tru3, e_tru4, e_tru5, e_tru6, e_tru7, e_sl1, e_sl2, e_sl3, e_sl4, e_rev, e_it1, e_it2, e_it3, e_len1, e_len2, e_len3, e_len4, e_int1, e_int2, e_int3, e_min, e_max, e_min3, e_lst1, e_lst2, e_tup1, e_tup2, e_str, e_abs, e_lenS, e_ixS, Mi.qLt, Mi.qLe, Mi.qGt, Mi.qGe, List.map_cons, List.map_nil, List.length_map, true_and, and_true, Bool.false_eq_true, if_false, if_true, Bool.not_true, Bool.not_false, qEq_int, qEq_str, qEq_bl, qNe_int, qNe_str, qNe_bl, line0, line1, line2, line3, line4, line6, line7, line10, isi_list_lst, isi_list_tup, isi_list_non, isi_list_str, isi_list_int, isi_tup_tup, isi_bool_bl, isi_bool_int, isi_int_int, isi_int_bl, isi_int_non, isi_int_str, isi_str_str, isi_str_non, isi_str_int, startE_c, startE_n, startE_e, wFor_e, wLc_e, wipeE, wgName, wgTup, wgCons, wgNil, List.getElem?_cons_zero, List.getElem?_cons_succ, List.set_cons_zero, List.set_cons_succ, List.length_cons, List.length_nil, Mi.wC, Mi.wVar, Mi.wVarO, Mi.wOp, Mi.wUn, Mi.wCmp, Mi.wCmpT, Mi.wChainT, Mi.wChain, Mi.wTru, Mi.wAndT, Mi.wOrT, Mi.wNotT, Mi.wAnd, Mi.wOr, Mi.wNot, Mi.wIfE, Mi.wNoPart, Mi.wPart, Mi.wSl, Mi.wNil, Mi.wCons, Mi.wTup, Mi.wLst, Mi.wNext, Mi.wSeq, Mi.wFreeze, Mi.wForget, Mi.wBreak, Mi.wCont, Mi.wRet, Mi.wRetO, Mi.wRetN, Mi.wDrop, Mi.wIf, Mi.wNever, Mi.wAsg, Mi.wSetO, Mi.wPar, Mi.wAug, Mi.wApp, Mi.wSetIx, Mi.wExt, Mi.wItems, Mi.wRng1, Mi.wRng2, Mi.wRng3, Mi.wEnum, Mi.wZip, Mi.wYes, Mi.wCall, Mi.wCallX, Mi.wB2, Mi.wMin3, Mi.wIsi, Mi.wGuard, Mi.wGuardD, Mi.wRaise]
            rw [if_neg (by decide +kernel)]
            exact h2 rfl
          | come j =>
            simp only [e_qI, e_qIC, e_add1, e_add2, e_add3, e_add4, e_catL, e_aug1, e_aug2, e_mul1, e_mul2, e_rep, e_div, e_mod, e_neg, e_ord1, e_ord2, e_isn, e_nin, e_non1, e_non2, e_non3, e_non4, e_non5, e_non6, e_tru1, e_tru2, e_tru3, e_tru4, e_tru5, e_tru6, e_tru7, e_sl1, e_sl2, e_sl3, e_sl4, e_rev, e_it1, e_it2, e_it3, e_len1, e_len2, e_len3, e_len4, e_int1, e_int2, e_int3, e_min, e_max, e_min3, e_lst1, e_lst2, e_tup1, e_tup2, e_str, e_abs, e_lenS, e_ixS, Mi.qLt, Mi.qLe, Mi.qGt, Mi.qGe, List.map_cons, List.map_nil, List.length_map, true_and, and_true, Bool.false_eq_true, if_false, if_true, Bool.not_true, Bool.not_false, qEq_int, qEq_str, qEq_bl, qNe_int, qNe_str, qNe_bl, line0, line1, line2, line3, line4, line6, line7, line10, isi_list_lst, isi_list_tup, isi_list_non, isi_list_str, isi_list_int, isi_tup_tup, isi_bool_bl, isi_bool_int, isi_int_int, isi_int_bl, isi_int_non, isi_int_str, isi_str_str, isi_str_non, isi_str_int, startE_c, startE_n, startE_e, wFor_e, wLc_e, wipeE, wgName, wgTup, wgCons, wgNil, List.getElem?_cons_zero, List.getElem?_cons_succ, List.set_cons_zero, List.set_cons_succ, List.length_cons, List.length_nil, Mi.wC, Mi.wVar, Mi.wVarO, Mi.wOp, Mi.wUn, Mi.wCmp, Mi.wCmpT, Mi.wChainT, Mi.wChain, Mi.wTru, Mi.wAndT, Mi.wOrT, Mi.wNotT, Mi.wAnd, Mi.wOr, Mi.wNot, Mi.wIfE, Mi.wNoPart, Mi.wPart, Mi.wSl, Mi.wNil, Mi.wCons, Mi.wTup, Mi.wLst, Mi.wNext, Mi.wSeq, Mi.wFreeze, Mi.wForget, Mi.wBreak, Mi.wCont, Mi.wRet, Mi.wRetO, Mi.wRetN, Mi.wDrop, Mi.wIf, Mi.wNever, Mi.wAsg, Mi.wSetO, Mi.wPar, Mi.wAug, Mi.wApp, Mi.wSetIx, Mi.wExt, Mi.wItems, Mi.wRng1, Mi.wRng2, Mi.wRng3, Mi.wEnum, Mi.wZip, Mi.wYes, Mi.wCall, Mi.wCallX, Mi.wB2, Mi.wMin3, Mi.wIsi, Mi.wGuard, Mi.wGuardD, Mi.wRaise, Ch.d]
            refine qIx_tup (i := 0) rfl ?_
            simp only [e_qI, e_qIC, e_add1, e_add2, e_add3, e_add4, e_catL, e_aug1, e_aug2, e_mul1, e_mul2, e_rep, e_div, e_mod, e_neg, e_ord1, e_ord2, e_isn, e_nin, e_non1, e_non2, e_non3, e_non4, e_non5, e_non6, e_tru1, e_tru2, e_tru3, e_tru4, e_tru5, e_tru6, e_tru7, e_sl1, e_sl2, e_sl3, e_sl4, e_rev, e_it1, e_it2, e_it3, e_len1, e_len2, e_len3, e_len4, e_int1, e_int2, e_int3, e_min, e_max, e_min3, e_lst1, e_lst2, e_tup1, e_tup2, e_str, e_abs, e_lenS, e_ixS, Mi.qLt, Mi.qLe, Mi.qGt, Mi.qGe, List.map_cons, List.map_nil, List.length_map, true_and, and_true, Bool.false_eq_true, if_false, if_true, Bool.not_true, Bool.not_false, qEq_int, qEq_str, qEq_bl, qNe_int, qNe_str, qNe_bl, line0, line1, line2, line3, line4, line6, line7, line10, isi_list_lst, isi_list_tup, isi_list_non, isi_list_str, isi_list_int, isi_tup_tup, isi_bool_bl, isi_bool_int, isi_int_int, isi_int_bl, isi_int_non, isi_int_str, isi_str_str, isi_str_non, isi_str_int, startE_c, startE_n, startE_e, wFor_e, wLc_e, wipeE, wgName, wgTup, wgCons, wgNil, List.getElem?_cons_zero, List.getElem?_cons_succ, List.set_cons_zero, List.set_cons_succ, List.length_cons, List.length_nil, Mi.wC, Mi.wVar, Mi.wVarO, Mi.wOp, Mi.wUn, Mi.wCmp, Mi.wCmpT, Mi.wChainT, Mi.wChain, Mi.wTru, Mi.wAndT, Mi.wOrT, Mi.wNotT, Mi.wAnd, Mi.wOr, Mi.wNot, Mi.wIfE, Mi.wNoPart, Mi.wPart, Mi.wSl, Mi.wNil, Mi.wCons, Mi.wTup, Mi.wLst, Mi.wNext, Mi.wSeq, Mi.wFreeze, Mi.wForget, Mi.wBreak, Mi.wCont, Mi.wRet, Mi.wRetO, Mi.wRetN, Mi.wDrop, Mi.wIf, Mi.wNever, Mi.wAsg, Mi.wSetO, Mi.wPar, Mi.wAug, Mi.wApp, Mi.wSetIx, Mi.wExt, Mi.wItems, Mi.wRng1, Mi.wRng2, Mi.wRng3, Mi.wEnum, Mi.wZip, Mi.wYes, Mi.wCall, Mi.wCallX, Mi.wB2, Mi.wMin3, Mi.wIsi, Mi.wGuard, Mi.wGuardD, Mi.wRaise]
            rw [if_pos (by decide +kernel)]
            exact h1 rfl
          | go j =>
            simp only [e_qI, e_qIC, e_add1, e_add2, e_add3, e_add4, e_catL, e_aug1, e_aug2, e_mul1, e_mul2, e_rep, e_div, e_mod, e_neg, e_ord1, e_ord2, e_isn, e_nin, e_non1, e_non2, e_non3, e_non4, e_non5, e_non6, e_tru1, e_tru2, e_tru3, e_tru4, e_tru5, e_tru6, e_tru7, e_sl1, e_sl2, e_sl3, e_sl4, e_rev, e_it1, e_it2, e_it3, e_len1, e_len2, e_len3, e_len4, e_int1, e_int2, e_int3, e_min, e_max, e_min3, e_lst1, e_lst2, e_tup1, e_tup2, e_str, e_abs, e_lenS, e_ixS, Mi.qLt, Mi.qLe, Mi.qGt, Mi.qGe, List.map_cons, List.map_nil, List.length_map, true_and, and_true, Bool.false_eq_true, if_false, if_true, Bool.not_true, Bool.not_false, qEq_int, qEq_str, qEq_bl, qNe_int, qNe_str, qNe_bl, line0, line1, line2, line3, line4, line6, line7, line10, isi_list_lst, isi_list_tup, isi_list_non, isi_list_str, isi_list_int, isi_tup_tup, isi_bool_bl, isi_bool_int, isi_int_int, isi_int_bl, isi_int_non, isi_int_str, isi_str_str, isi_str_non, isi_str_int, startE_c, startE_n, startE_e, wFor_e, wLc_e, wipeE, wgName, wgTup, wgCons, wgNil, List.getElem?_cons_zero, List.getElem?_cons_succ, List.set_cons_zero, List.set_cons_succ, List.length_cons, List.length_nil, Mi.wC, Mi.wVar, Mi.wVarO, Mi.wOp, Mi.wUn, Mi.wCmp, Mi.wCmpT, Mi.wChainT, Mi.wChain, Mi.wTru, Mi.wAndT, Mi.wOrT, Mi.wNotT, Mi.wAnd, Mi.wOr, Mi.wNot, Mi.wIfE, Mi.wNoPart, Mi.wPart, Mi.wSl, Mi.wNil, Mi.wCons, Mi.wTup, Mi.wLst, Mi.wNext, Mi.wSeq, Mi.wFreeze, Mi.wForget, Mi.wBreak, Mi.wCont, Mi.wRet, Mi.wRetO, Mi.wRetN, Mi.wDrop, Mi.wIf, Mi.wNever, Mi.wAsg, Mi.wSetO, Mi.wPar, Mi.wAug, Mi.wApp, Mi.wSetIx, Mi.wExt, Mi.wItems, Mi.wRng1, Mi.wRng2, Mi.wRng3, Mi.wEnum, Mi.wZip, Mi.wYes, Mi.wCall, Mi.wCallX, Mi.wB2, Mi.wMin3, Mi.wIsi, Mi.wGuard, Mi.wGuardD, Mi.wRaise, Ch.d]
            refine qIx_tup (i := 0) rfl ?_
            simp only [e_qI, e_qIC, e_add1, e_add2, e_add3, e_add4, e_catL, e_aug1, e_aug2, e_mul1, e_mul2, e_rep, e_div, e_mod, e_neg, e_ord1, e_ord2, e_isn, e_nin, e_non1, e_non2, e_non3, e_non4, e_non5, e_non6, e_tru1, e_tru2, e_tru3, e_tru4, e_tru5, e_tru6, e_tru7, e_sl1, e_sl2, e_sl3, e_sl4, e_rev, e_it1, e_it2, e_it3, e_len1, e_len2, e_len3, e_len4, e_int1, e_int2, e_int3, e_min, e_max, e_min3, e_lst1, e_lst2, e_tup1, e_tup2, e_str, e_abs, e_lenS, e_ixS, Mi.qLt, Mi.qLe, Mi.qGt, Mi.qGe, List.map_cons, List.map_nil, List.length_map, true_and, and_true, Bool.false_eq_true, if_false, if_true, Bool.not_true, Bool.not_false, qEq_int, qEq_str, qEq_bl, qNe_int, qNe_str, qNe_bl, line0, line1, line2, line3, line4, line6, line7, line10, isi_list_lst, isi_list_tup, isi_list_non, isi_list_str, isi_list_int, isi_tup_tup, isi_bool_bl, isi_bool_int, isi_int_int, isi_int_bl, isi_int_non, isi_int_str, isi_str_str, isi_str_non, isi_str_int, startE_c, startE_n, startE_e, wFor_e, wLc_e, wipeE, wgName, wgTup, wgCons, wgNil, List.getElem?_cons_zero, List.getElem?_cons_succ, List.set_cons_zero, List.set_cons_succ, List.length_cons, List.length_nil, Mi.wC, Mi.wVar, Mi.wVarO, Mi.wOp, Mi.wUn, Mi.wCmp, Mi.wCmpT, Mi.wChainT, Mi.wChain, Mi.wTru, Mi.wAndT, Mi.wOrT, Mi.wNotT, Mi.wAnd, Mi.wOr, Mi.wNot, Mi.wIfE, Mi.wNoPart, Mi.wPart, Mi.wSl, Mi.wNil, Mi.wCons, Mi.wTup, Mi.wLst, Mi.wNext, Mi.wSeq, Mi.wFreeze, Mi.wForget, Mi.wBreak, Mi.wCont, Mi.wRet, Mi.wRetO, Mi.wRetN, Mi.wDrop, Mi.wIf, Mi.wNever, Mi.wAsg, Mi.wSetO, Mi.wPar, Mi.wAug, Mi.wApp, Mi.wSetIx, Mi.wExt, Mi.wItems, Mi.wRng1, Mi.wRng2, Mi.wRng3, Mi.wEnum, Mi.wZip, Mi.wYes, Mi.wCall, Mi.wCallX, Mi.wB2, Mi.wMin3, Mi.wIsi, Mi.wGuard, Mi.wGuardD, Mi.wRaise]
            rw [if_pos (by decide +kernel)]
            exact h1 rfl
    · rintro δ' ⟨c1, c2, c3, c5, c6, c7, c8, c9, c10, c11, c12, c13, c14, c15, c16, c17, rfl⟩
      exact ⟨_, _, _, _, _, _, _, _, _, _, _, _, _, _, _, _, _, rfl⟩
  · rintro δ' ⟨c1, c2, c3, c4, c5, c6, c7, c8, c9, c10, c11, c12, c13, c14, c15, c16, c17, rfl⟩
    simp only [e_qI, e_qIC, e_add1, e_add2, e_add3, e_add4, e_catL, e_aug1, e_aug2, e_mul1, e_mul2, e_rep, e_div, e_mod, e_neg, e_ord1, e_ord2, e_isn, e_nin, e_non1, e_non2, e_non3, e_non4, e_non5, e_non6, e_tru1, e_tru2, e_tru3, e_tru4, e_tru5, e_tru6, e_tru7, e_sl1, e_sl2, e_sl3, e_sl4, e_rev, e_it1, e_it2, e_it3, e_len1, e_len2, e_len3, e_len4, e_int1, e_int2, e_int3, e_min, e_max, e_min3, e_lst1, e_lst2, e_tup1, e_tup2, e_str, e_abs, e_lenS, e_ixS, Mi.qLt, Mi.qLe, Mi.qGt, Mi.qGe, List.map_cons, List.map_nil, List.length_map, true_and, and_true, Bool.false_eq_true, if_false, if_true, Bool.not_true, Bool.not_false, qEq_int, qEq_str, qEq_bl, qNe_int, qNe_str, qNe_bl, line0, line1, line2, line3, line4, line6, line7, line10, isi_list_lst, isi_list_tup, isi_list_non, isi_list_str, isi_list_int, isi_tup_tup, isi_bool_bl, isi_bool_int, isi_int_int, isi_int_bl, isi_int_non, isi_int_str, isi_str_str, isi_str_non, isi_str_int, startE_c, startE_n, startE_e, wFor_e, wLc_e, wipeE, wgName, wgTup, wgCons, wgNil, List.getElem?_cons_zero, List.getElem?_cons_succ, List.set_cons_zero, List.set_cons_succ, List.length_cons, List.length_nil, Mi.wC, Mi.wVar, Mi.wVarO, Mi.wOp, Mi.wUn, Mi.wCmp, Mi.wCmpT, Mi.wChainT, Mi.wChain, Mi.wTru, Mi.wAndT, Mi.wOrT, Mi.wNotT, Mi.wAnd, Mi.wOr, Mi.wNot, Mi.wIfE, Mi.wNoPart, Mi.wPart, Mi.wSl, Mi.wNil, Mi.wCons, Mi.wTup, Mi.wLst, Mi.wNext, Mi.wSeq, Mi.wFreeze, Mi.wForget, Mi.wBreak, Mi.wCont, Mi.wRet, Mi.wRetO, Mi.wRetN, Mi.wDrop, Mi.wIf, Mi.wNever, Mi.wAsg, Mi.wSetO, Mi.wPar, Mi.wAug, Mi.wApp, Mi.wSetIx, Mi.wExt, Mi.wItems, Mi.wRng1, Mi.wRng2, Mi.wRng3, Mi.wEnum, Mi.wZip, Mi.wYes, Mi.wCall, Mi.wCallX, Mi.wB2, Mi.wMin3, Mi.wIsi, Mi.wGuard, Mi.wGuardD, Mi.wRaise]
    refine ⟨xs, 3, 1, rfl, by omega, by omega, fun ns hns hb => ?_⟩
    have hs1 : 0 < ns.length := by omega
    simp only [e_qI, e_qIC, e_add1, e_add2, e_add3, e_add4, e_catL, e_aug1, e_aug2, e_mul1, e_mul2, e_rep, e_div, e_mod, e_neg, e_ord1, e_ord2, e_isn, e_nin, e_non1, e_non2, e_non3, e_non4, e_non5, e_non6, e_tru1, e_tru2, e_tru3, e_tru4, e_tru5, e_tru6, e_tru7, e_sl1, e_sl2, e_sl3, e_sl4, e_rev, e_it1, e_it2, e_it3, e_len1, e_len2, e_len3, e_len4, e_int1, e_int2, e_int3, e_min, e_max, e_min3, e_lst1, e_lst2, e_tup1, e_tup2, e_str, e_abs, e_lenS, e_ixS, Mi.qLt, Mi.qLe, Mi.qGt, Mi.qGe, List.map_cons, List.map_nil, List.length_map, true_and, and_true, Bool.false_eq_true, if_false, if_true, Bool.not_true, Bool.not_false, qEq_int, qEq_str, qEq_bl, qNe_int, qNe_str, qNe_bl, line0, line1, line2, line3, line4, line6, line7, line10, isi_list_lst, isi_list_tup, isi_list_non, isi_list_str, isi_list_int, isi_tup_tup, isi_bool_bl, isi_bool_int, isi_int_int, isi_int_bl, isi_int_non, isi_int_str, isi_str_str, isi_str_non, isi_str_int, startE_c, startE_n, startE_e, wFor_e, wLc_e, wipeE, wgName, wgTup, wgCons, wgNil, List.getElem?_cons_zero, List.getElem?_cons_succ, List.set_cons_zero, List.set_cons_succ, List.length_cons, List.length_nil, Mi.wC, Mi.wVar, Mi.wVarO, Mi.wOp, Mi.wUn, Mi.wCmp, Mi.wCmpT, Mi.wChainT, Mi.wChain, Mi.wTru, Mi.wAndT, Mi.wOrT, Mi.wNotT, Mi.wAnd, Mi.wOr, Mi.wNot, Mi.wIfE, Mi.wNoPart, Mi.wPart, Mi.wSl, Mi.wNil, Mi.wCons, Mi.wTup, Mi.wLst, Mi.wNext, Mi.wSeq, Mi.wFreeze, Mi.wForget, Mi.wBreak, Mi.wCont, Mi.wRet, Mi.wRetO, Mi.wRetN, Mi.wDrop, Mi.wIf, Mi.wNever, Mi.wAsg, Mi.wSetO, Mi.wPar, Mi.wAug, Mi.wApp, Mi.wSetIx, Mi.wExt, Mi.wItems, Mi.wRng1, Mi.wRng2, Mi.wRng3, Mi.wEnum, Mi.wZip, Mi.wYes, Mi.wCall, Mi.wCallX, Mi.wB2, Mi.wMin3, Mi.wIsi, Mi.wGuard, Mi.wGuardD, Mi.wRaise]
    refine qIx_lst (i := 0) (d := .int ns[0]) (by simp [hs1]) ?_
    simp only [e_qI, e_qIC, e_add1, e_add2, e_add3, e_add4, e_catL, e_aug1, e_aug2, e_mul1, e_mul2, e_rep, e_div, e_mod, e_neg, e_ord1, e_ord2, e_isn, e_nin, e_non1, e_non2, e_non3, e_non4, e_non5, e_non6, e_tru1, e_tru2, e_tru3, e_tru4, e_tru5, e_tru6, e_tru7, e_sl1, e_sl2, e_sl3, e_sl4, e_rev, e_it1, e_it2, e_it3, e_len1, e_len2, e_len3, e_len4, e_int1, e_int2, e_int3, e_min, e_max, e_min3, e_lst1, e_lst2, e_tup1, e_tup2, e_str, e_abs, e_lenS, e_ixS, Mi.qLt, Mi.qLe, Mi.qGt, Mi.qGe, List.map_cons, List.map_nil, List.length_map, true_and, and_true, Bool.false_eq_true, if_false, if_true, Bool.not_true, Bool.not_false, qEq_int, qEq_str, qEq_bl, qNe_int, qNe_str, qNe_bl, line0, line1, line2, line3, line4, line6, line7, line10, isi_list_lst, isi_list_tup, isi_list_non, isi_list_str, isi_list_int, isi_tup_tup, isi_bool_bl, isi_bool_int, isi_int_int, isi_int_bl, isi_int_non, isi_int_str, isi_str_str, isi_str_non, isi_str_int, startE_c, startE_n, startE_e, wFor_e, wLc_e, wipeE, wgName, wgTup, wgCons, wgNil, List.getElem?_cons_zero, List.getElem?_cons_succ, List.set_cons_zero, List.set_cons_succ, List.length_cons, List.length_nil, Mi.wC, Mi.wVar, Mi.wVarO, Mi.wOp, Mi.wUn, Mi.wCmp, Mi.wCmpT, Mi.wChainT, Mi.wChain, Mi.wTru, Mi.wAndT, Mi.wOrT, Mi.wNotT, Mi.wAnd, Mi.wOr, Mi.wNot, Mi.wIfE, Mi.wNoPart, Mi.wPart, Mi.wSl, Mi.wNil, Mi.wCons, Mi.wTup, Mi.wLst, Mi.wNext, Mi.wSeq, Mi.wFreeze, Mi.wForget, Mi.wBreak, Mi.wCont, Mi.wRet, Mi.wRetO, Mi.wRetN, Mi.wDrop, Mi.wIf, Mi.wNever, Mi.wAsg, Mi.wSetO, Mi.wPar, Mi.wAug, Mi.wApp, Mi.wSetIx, Mi.wExt, Mi.wItems, Mi.wRng1, Mi.wRng2, Mi.wRng3, Mi.wEnum, Mi.wZip, Mi.wYes, Mi.wCall, Mi.wCallX, Mi.wB2, Mi.wMin3, Mi.wIsi, Mi.wGuard, Mi.wGuardD, Mi.wRaise]
    refine ⟨by omega, ?_⟩
    have aw : ∀ n, n ≤ 5000 → ∀ P' : List Str → Prop, P' (List.replicate n "a") → P' (List.replicate n "a") := fun _ _ _ h => h
    have few1 : Few [] (List.replicate 1899 ("a" : Str)) := by unfold Few; rw [List.length_replicate]; decide
    have few2 : Few (List.replicate 18 ("a" : Str)) (List.replicate 99 ("a" : Str)) := by unfold Few; rw [List.length_replicate, List.length_replicate]; decide
    have few3 : ¬ Few (List.replicate 19 ("a" : Str)) (List.replicate 95 ("a" : Str)) := by unfold Few; rw [List.length_replicate, List.length_replicate]; decide
    have few4 : ¬ Few (List.replicate 1900 ("a" : Str)) [] := by unfold Few; rw [List.length_replicate]; decide
    have ll : ∀ n : Nat, n ≤ 5000 → (List.replicate n ("a" : Str)).length ≤ 5000 := fun n h => by rw [List.length_replicate]; exact h
    obtain ⟨t1, ht1⟩ := isT_ex [] (List.replicate 1899 ("a" : Str))
    obtain ⟨t2, ht2⟩ := isT_ex (List.replicate 18 ("a" : Str)) (List.replicate 99 ("a" : Str))
    obtain ⟨t3, ht3⟩ := isT_ex (List.replicate 19 ("a" : Str)) (List.replicate 95 ("a" : Str))
    obtain ⟨t4, ht4⟩ := isT_ex (List.replicate 1900 ("a" : Str)) []
    refine ifD_i false ?_ (fun e => by cases e) fun _ => ?_
    · simp only [e_qI, e_qIC, e_add1, e_add2, e_add3, e_add4, e_catL, e_aug1, e_aug2, e_mul1, e_mul2, e_rep, e_div, e_mod, e_neg, e_ord1, e_ord2, e_isn, e_nin, e_non1, e_non2, e_non3, e_non4, e_non5, e_non6, e_tru1, e_tru2, e_tru3, e_tru4, e_tru5, e_tru6, e_tru7, e_sl1, e_sl2, e_sl3, e_sl4, e_rev, e_it1, e_it2, e_it3, e_len1, e_len2, e_len3, e_len4, e_int1, e_int2, e_int3, e_min, e_max, e_min3, e_lst1, e_lst2, e_tup1, e_tup2, e_str, e_abs, e_lenS, e_ixS, Mi.qLt, Mi.qLe, Mi.qGt, Mi.qGe, List.map_cons, List.map_nil, List.length_map, true_and, and_true, Bool.false_eq_true, if_false, if_true, Bool.not_true, Bool.not_false, qEq_int, qEq_str, qEq_bl, qNe_int, qNe_str, qNe_bl, line0, line1, line2, line3, line4, line6, line7, line10, isi_list_lst, isi_list_tup, isi_list_non, isi_list_str, isi_list_int, isi_tup_tup, isi_bool_bl, isi_bool_int, isi_int_int, isi_int_bl, isi_int_non, isi_int_str, isi_str_str, isi_str_non, isi_str_int, startE_c, startE_n, startE_e, wFor_e, wLc_e, wipeE, wgName, wgTup, wgCons, wgNil, List.getElem?_cons_zero, List.getElem?_cons_succ, List.set_cons_zero, List.set_cons_succ, List.length_cons, List.length_nil, Mi.wC, Mi.wVar, Mi.wVarO, Mi.wOp, Mi.wUn, Mi.wCmp, Mi.wCmpT, Mi.wChainT, Mi.wChain, Mi.wTru, Mi.wAndT, Mi.wOrT, Mi.wNotT, Mi.wAnd, Mi.wOr, Mi.wNot, Mi.wIfE, Mi.wNoPart, Mi.wPart, Mi.wSl, Mi.wNil, Mi.wCons, Mi.wTup, Mi.wLst, Mi.wNext, Mi.wSeq, Mi.wFreeze, Mi.wForget, Mi.wBreak, Mi.wCont, Mi.wRet, Mi.wRetO, Mi.wRetN, Mi.wDrop, Mi.wIf, Mi.wNever, Mi.wAsg, Mi.wSetO, Mi.wPar, Mi.wAug, Mi.wApp, Mi.wSetIx, Mi.wExt, Mi.wItems, Mi.wRng1, Mi.wRng2, Mi.wRng3, Mi.wEnum, Mi.wZip, Mi.wYes, Mi.wCall, Mi.wCallX, Mi.wB2, Mi.wMin3, Mi.wIsi, Mi.wGuard, Mi.wGuardD, Mi.wRaise]
      refine ite_i (fun _ => ?_) fun _ => by first | rfl | trivial
      refine ⟨by decide, by decide, leL (by decide), ?_⟩
      refine ⟨[], List.replicate 1899 "a", t1, 0, by rw [← rep_SS]; rfl, Nat.zero_le _, ll _ (by decide), ht1, fun _ => ?_, fun nf => absurd few1 nf⟩
      simp only [e_qI, e_qIC, e_add1, e_add2, e_add3, e_add4, e_catL, e_aug1, e_aug2, e_mul1, e_mul2, e_rep, e_div, e_mod, e_neg, e_ord1, e_ord2, e_isn, e_nin, e_non1, e_non2, e_non3, e_non4, e_non5, e_non6, e_tru1, e_tru2, e_tru3, e_tru4, e_tru5, e_tru6, e_tru7, e_sl1, e_sl2, e_sl3, e_sl4, e_rev, e_it1, e_it2, e_it3, e_len1, e_len2, e_len3, e_len4, e_int1, e_int2, e_int3, e_min, e_max, e_min3, e_lst1, e_lst2, e_tup1, e_tup2, e_str, e_abs, e_lenS, e_ixS, Mi.qLt, Mi.qLe, Mi.qGt, Mi.qGe, List.map_cons, List.map_nil, List.length_map, true_and, and_true, Bool.false_eq_true, if_false, if_true, Bool.not_true, Bool.not_false, qEq_int, qEq_str, qEq_bl, qNe_int, qNe_str, qNe_bl, line0, line1, line2, line3, line4, line6, line7, line10, isi_list_lst, isi_list_tup, isi_list_non, isi_list_str, isi_list_int, isi_tup_tup, isi_bool_bl, isi_bool_int, isi_int_int, isi_int_bl, isi_int_non, isi_int_str, isi_str_str, isi_str_non, isi_str_int, startE_c, startE_n, startE_e, wFor_e, wLc_e, wipeE, wgName, wgTup, wgCons, wgNil, List.getElem?_cons_zero, List.getElem?_cons_succ, List.set_cons_zero, List.set_cons_succ, List.length_cons, List.length_nil, Mi.wC, Mi.wVar, Mi.wVarO, Mi.wOp, Mi.wUn, Mi.wCmp, Mi.wCmpT, Mi.wChainT, Mi.wChain, Mi.wTru, Mi.wAndT, Mi.wOrT, Mi.wNotT, Mi.wAnd, Mi.wOr, Mi.wNot, Mi.wIfE, Mi.wNoPart, Mi.wPart, Mi.wSl, Mi.wNil, Mi.wCons, Mi.wTup, Mi.wLst, Mi.wNext, Mi.wSeq, Mi.wFreeze, Mi.wForget, Mi.wBreak, Mi.wCont, Mi.wRet, Mi.wRetO, Mi.wRetN, Mi.wDrop, Mi.wIf, Mi.wNever, Mi.wAsg, Mi.wSetO, Mi.wPar, Mi.wAug, Mi.wApp, Mi.wSetIx, Mi.wExt, Mi.wItems, Mi.wRng1, Mi.wRng2, Mi.wRng3, Mi.wEnum, Mi.wZip, Mi.wYes, Mi.wCall, Mi.wCallX, Mi.wB2, Mi.wMin3, Mi.wIsi, Mi.wGuard, Mi.wGuardD, Mi.wRaise]
    · simp only [e_qI, e_qIC, e_add1, e_add2, e_add3, e_add4, e_catL, e_aug1, e_aug2, e_mul1, e_mul2, e_rep, e_div, e_mod, e_neg, e_ord1, e_ord2, e_isn, e_nin, e_non1, e_non2, e_non3, e_non4, e_non5, e_non6, e_tru1, e_tru2, e_tru3, e_tru4, e_tru5, e_tru6, e_tru7, e_sl1, e_sl2, e_sl3, e_sl4, e_rev, e_it1, e_it2, e_it3, e_len1, e_len2, e_len3, e_len4, e_int1, e_int2, e_int3, e_min, e_max, e_min3, e_lst1, e_lst2, e_tup1, e_tup2, e_str, e_abs, e_lenS, e_ixS, Mi.qLt, Mi.qLe, Mi.qGt, Mi.qGe, List.map_cons, List.map_nil, List.length_map, true_and, and_true, Bool.false_eq_true, if_false, if_true, Bool.not_true, Bool.not_false, qEq_int, qEq_str, qEq_bl, qNe_int, qNe_str, qNe_bl, line0, line1, line2, line3, line4, line6, line7, line10, isi_list_lst, isi_list_tup, isi_list_non, isi_list_str, isi_list_int, isi_tup_tup, isi_bool_bl, isi_bool_int, isi_int_int, isi_int_bl, isi_int_non, isi_int_str, isi_str_str, isi_str_non, isi_str_int, startE_c, startE_n, startE_e, wFor_e, wLc_e, wipeE, wgName, wgTup, wgCons, wgNil, List.getElem?_cons_zero, List.getElem?_cons_succ, List.set_cons_zero, List.set_cons_succ, List.length_cons, List.length_nil, Mi.wC, Mi.wVar, Mi.wVarO, Mi.wOp, Mi.wUn, Mi.wCmp, Mi.wCmpT, Mi.wChainT, Mi.wChain, Mi.wTru, Mi.wAndT, Mi.wOrT, Mi.wNotT, Mi.wAnd, Mi.wOr, Mi.wNot, Mi.wIfE, Mi.wNoPart, Mi.wPart, Mi.wSl, Mi.wNil, Mi.wCons, Mi.wTup, Mi.wLst, Mi.wNext, Mi.wSeq, Mi.wFreeze, Mi.wForget, Mi.wBreak, Mi.wCont, Mi.wRet, Mi.wRetO, Mi.wRetN, Mi.wDrop, Mi.wIf, Mi.wNever, Mi.wAsg, Mi.wSetO, Mi.wPar, Mi.wAug, Mi.wApp, Mi.wSetIx, Mi.wExt, Mi.wItems, Mi.wRng1, Mi.wRng2, Mi.wRng3, Mi.wEnum, Mi.wZip, Mi.wYes, Mi.wCall, Mi.wCallX, Mi.wB2, Mi.wMin3, Mi.wIsi, Mi.wGuard, Mi.wGuardD, Mi.wRaise]
      refine cut_i (fun δ' => ∃ (s2 : Int) (c1 c3 c4 c5 c6 c7 c8 c9 c10 c11 c12 c13 c14 c15 c16 c17 : Option Cell), δ' = [st (.ext 0 (.lst (xs.map D.int))), c1, st (.int s2), c3, c4, c5, c6, c7, c8, c9, c10, c11, c12, c13, c14, c15, c16, c17]) ?_ ?_
      · simp only [e_qI, e_qIC, e_add1, e_add2, e_add3, e_add4, e_catL, e_aug1, e_aug2, e_mul1, e_mul2, e_rep, e_div, e_mod, e_neg, e_ord1, e_ord2, e_isn, e_nin, e_non1, e_non2, e_non3, e_non4, e_non5, e_non6, e_tru1, e_tru2, e_tru3, e_tru4, e_tru5, e_tru6, e_tru7, e_sl1, e_sl2, e_sl3, e_sl4, e_rev, e_it1, e_it2, e_it3, e_len1, e_len2, e_len3, e_len4, e_int1, e_int2, e_int3, e_min, e_max, e_min3, e_lst1, e_lst2, e_tup1, e_tup2, e_str, e_abs, e_lenS, e_ixS, Mi.qLt, Mi.qLe, Mi.qGt, Mi.qGe, List.map_cons, List.map_nil, List.length_map, true_and, and_true, Bool.false_eq_true, if_false, if_true, Bool.not_true, Bool.not_false, qEq_int, qEq_str, qEq_bl, qNe_int, qNe_str, qNe_bl, line0, line1, line2, line3, line4, line6, line7, line10, isi_list_lst, isi_list_tup, isi_list_non, isi_list_str, isi_list_int, isi_tup_tup, isi_bool_bl, isi_bool_int, isi_int_int, isi_int_bl, isi_int_non, isi_int_str, isi_str_str, isi_str_non, isi_str_int, startE_c, startE_n, startE_e, wFor_e, wLc_e, wipeE, wgName, wgTup, wgCons, wgNil, List.getElem?_cons_zero, List.getElem?_cons_succ, List.set_cons_zero, List.set_cons_succ, List.length_cons, List.length_nil, Mi.wC, Mi.wVar, Mi.wVarO, Mi.wOp, Mi.wUn, Mi.wCmp, Mi.wCmpT, Mi.wChainT, Mi.wChain, Mi.wTru, Mi.wAndT, Mi.wOrT, Mi.wNotT, Mi.wAnd, Mi.wOr, Mi.wNot, Mi.wIfE, Mi.wNoPart, Mi.wPart, Mi.wSl, Mi.wNil, Mi.wCons, Mi.wTup, Mi.wLst, Mi.wNext, Mi.wSeq, Mi.wFreeze, Mi.wForget, Mi.wBreak, Mi.wCont, Mi.wRet, Mi.wRetO, Mi.wRetN, Mi.wDrop, Mi.wIf, Mi.wNever, Mi.wAsg, Mi.wSetO, Mi.wPar, Mi.wAug, Mi.wApp, Mi.wSetIx, Mi.wExt, Mi.wItems, Mi.wRng1, Mi.wRng2, Mi.wRng3, Mi.wEnum, Mi.wZip, Mi.wYes, Mi.wCall, Mi.wCallX, Mi.wB2, Mi.wMin3, Mi.wIsi, Mi.wGuard, Mi.wGuardD, Mi.wRaise]
        refine ⟨by omega, by omega, ?_⟩
        refine for_i (fun k δ' => ∃ (s2 : Int) (c1 c3 c4 c5 c6 c7 c8 c9 c10 c11 c12 c13 c14 c15 c16 c17 : Option Cell), δ' = [st (.ext 0 (.lst (xs.map D.int))), c1, st (.int s2), c3, c4, c5, c6, c7, c8, c9, c10, c11, c12, c13, c14, c15, c16, c17]) ⟨_, _, _, _, _, _, _, _, _, _, _, _, _, _, _, _, _, rfl⟩ ?_ fun δ' h => h
        rintro k d δ' hk ⟨s2, c1, c3, c4, c5, c6, c7, c8, c9, c10, c11, c12, c13, c14, c15, c16, c17, rfl⟩
        obtain ⟨hk, rfl⟩ := rangeD_of hk
        simp only [e_qI, e_qIC, e_add1, e_add2, e_add3, e_add4, e_catL, e_aug1, e_aug2, e_mul1, e_mul2, e_rep, e_div, e_mod, e_neg, e_ord1, e_ord2, e_isn, e_nin, e_non1, e_non2, e_non3, e_non4, e_non5, e_non6, e_tru1, e_tru2, e_tru3, e_tru4, e_tru5, e_tru6, e_tru7, e_sl1, e_sl2, e_sl3, e_sl4, e_rev, e_it1, e_it2, e_it3, e_len1, e_len2, e_len3, e_len4, e_int1, e_int2, e_int3, e_min, e_max, e_min3, e_lst1, e_lst2, e_tup1, e_tup2, e_str, e_abs, e_lenS, e_ixS, Mi.qLt, Mi.qLe, Mi.qGt, Mi.qGe, List.map_cons, List.map_nil, List.length_map, true_and, and_true, Bool.false_eq_true, if_false, if_true, Bool.not_true, Bool.not_false, qEq_int, qEq_str, qEq_bl, qNe_int, qNe_str, qNe_bl, line0, line1, line2, line3, line4, line6, line7, line10, isi_list_lst, isi_list_tup, isi_list_non, isi_list_str, isi_list_int, isi_tup_tup, isi_bool_bl, isi_bool_int, isi_int_int, isi_int_bl, isi_int_non, isi_int_str, isi_str_str, isi_str_non, isi_str_int, startE_c, startE_n, startE_e, wFor_e, wLc_e, wipeE, wgName, wgTup, wgCons, wgNil, List.getElem?_cons_zero, List.getElem?_cons_succ, List.set_cons_zero, List.set_cons_succ, List.length_cons, List.length_nil, Mi.wC, Mi.wVar, Mi.wVarO, Mi.wOp, Mi.wUn, Mi.wCmp, Mi.wCmpT, Mi.wChainT, Mi.wChain, Mi.wTru, Mi.wAndT, Mi.wOrT, Mi.wNotT, Mi.wAnd, Mi.wOr, Mi.wNot, Mi.wIfE, Mi.wNoPart, Mi.wPart, Mi.wSl, Mi.wNil, Mi.wCons, Mi.wTup, Mi.wLst, Mi.wNext, Mi.wSeq, Mi.wFreeze, Mi.wForget, Mi.wBreak, Mi.wCont, Mi.wRet, Mi.wRetO, Mi.wRetN, Mi.wDrop, Mi.wIf, Mi.wNever, Mi.wAsg, Mi.wSetO, Mi.wPar, Mi.wAug, Mi.wApp, Mi.wSetIx, Mi.wExt, Mi.wItems, Mi.wRng1, Mi.wRng2, Mi.wRng3, Mi.wEnum, Mi.wZip, Mi.wYes, Mi.wCall, Mi.wCallX, Mi.wB2, Mi.wMin3, Mi.wIsi, Mi.wGuard, Mi.wGuardD, Mi.wRaise]
        have third : ∀ R : D → Prop, R (.int 1900) → c_refused [.lst (List.replicate (Int.toNat 19) [D.str "a"]).flatten, .lst (List.replicate (Int.toNat 95) [D.str "a"]).flatten, .int (0 + (k : Int))] (fun _ => False) R := fun R h =>
          ⟨List.replicate 19 "a", List.replicate 95 "a", t3, _, by rw [← rep_SS, ← rep_SS]; rfl, ll _ (by decide), ll _ (by decide), ht3, fun hf => absurd hf few3, fun _ => h⟩
        have second : ∀ R : D → Prop, R .non → c_refused [.lst (List.replicate (Int.toNat 18) [D.str "a"]).flatten, .lst (List.replicate (Int.toNat 99) [D.str "a"]).flatten, .int (0 + (k : Int))] (fun _ => False) R := fun R h =>
          ⟨List.replicate 18 "a", List.replicate 99 "a", t2, _, by rw [← rep_SS, ← rep_SS]; rfl, ll _ (by decide), ll _ (by decide), ht2, fun _ => h, fun nf => absurd few2 nf⟩
        refine ifD_i false ?_ (fun e => by cases e) fun _ => ?_
        · simp only [e_qI, e_qIC, e_add1, e_add2, e_add3, e_add4, e_catL, e_aug1, e_aug2, e_mul1, e_mul2, e_rep, e_div, e_mod, e_neg, e_ord1, e_ord2, e_isn, e_nin, e_non1, e_non2, e_non3, e_non4, e_non5, e_non6, e_tru1, e_tru2, e_tru3, e_tru4, e_tru5, e_tru6, e_tru7, e_sl1, e_sl2, e_sl3, e_sl4, e_rev, e_it1, e_it2, e_it3, e_len1, e_len2, e_len3, e_len4, e_int1, e_int2, e_int3, e_min, e_max, e_min3, e_lst1, e_lst2, e_tup1, e_tup2, e_str, e_abs, e_lenS, e_ixS, Mi.qLt, Mi.qLe, Mi.qGt, Mi.qGe, List.map_cons, List.map_nil, List.length_map, true_and, and_true, Bool.false_eq_true, if_false, if_true, Bool.not_true, Bool.not_false, qEq_int, qEq_str, qEq_bl, qNe_int, qNe_str, qNe_bl, line0, line1, line2, line3, line4, line6, line7, line10, isi_list_lst, isi_list_tup, isi_list_non, isi_list_str, isi_list_int, isi_tup_tup, isi_bool_bl, isi_bool_int, isi_int_int, isi_int_bl, isi_int_non, isi_int_str, isi_str_str, isi_str_non, isi_str_int, startE_c, startE_n, startE_e, wFor_e, wLc_e, wipeE, wgName, wgTup, wgCons, wgNil, List.getElem?_cons_zero, List.getElem?_cons_succ, List.set_cons_zero, List.set_cons_succ, List.length_cons, List.length_nil, Mi.wC, Mi.wVar, Mi.wVarO, Mi.wOp, Mi.wUn, Mi.wCmp, Mi.wCmpT, Mi.wChainT, Mi.wChain, Mi.wTru, Mi.wAndT, Mi.wOrT, Mi.wNotT, Mi.wAnd, Mi.wOr, Mi.wNot, Mi.wIfE, Mi.wNoPart, Mi.wPart, Mi.wSl, Mi.wNil, Mi.wCons, Mi.wTup, Mi.wLst, Mi.wNext, Mi.wSeq, Mi.wFreeze, Mi.wForget, Mi.wBreak, Mi.wCont, Mi.wRet, Mi.wRetO, Mi.wRetN, Mi.wDrop, Mi.wIf, Mi.wNever, Mi.wAsg, Mi.wSetO, Mi.wPar, Mi.wAug, Mi.wApp, Mi.wSetIx, Mi.wExt, Mi.wItems, Mi.wRng1, Mi.wRng2, Mi.wRng3, Mi.wEnum, Mi.wZip, Mi.wYes, Mi.wCall, Mi.wCallX, Mi.wB2, Mi.wMin3, Mi.wIsi, Mi.wGuard, Mi.wGuardD, Mi.wRaise]
          refine ite_i (fun _ => ?_) fun _ => ?_
          · refine ⟨by decide, by decide, leL (by decide), by decide, by decide, leL (by decide), second _ ?_⟩
            simp only [e_qI, e_qIC, e_add1, e_add2, e_add3, e_add4, e_catL, e_aug1, e_aug2, e_mul1, e_mul2, e_rep, e_div, e_mod, e_neg, e_ord1, e_ord2, e_isn, e_nin, e_non1, e_non2, e_non3, e_non4, e_non5, e_non6, e_tru1, e_tru2, e_tru3, e_tru4, e_tru5, e_tru6, e_tru7, e_sl1, e_sl2, e_sl3, e_sl4, e_rev, e_it1, e_it2, e_it3, e_len1, e_len2, e_len3, e_len4, e_int1, e_int2, e_int3, e_min, e_max, e_min3, e_lst1, e_lst2, e_tup1, e_tup2, e_str, e_abs, e_lenS, e_ixS, Mi.qLt, Mi.qLe, Mi.qGt, Mi.qGe, List.map_cons, List.map_nil, List.length_map, true_and, and_true, Bool.false_eq_true, if_false, if_true, Bool.not_true, Bool.not_false, qEq_int, qEq_str, qEq_bl, qNe_int, qNe_str, qNe_bl, line0, line1, line2, line3, line4, line6, line7, line10, isi_list_lst, isi_list_tup, isi_list_non, isi_list_str, isi_list_int, isi_tup_tup, isi_bool_bl, isi_bool_int, isi_int_int, isi_int_bl, isi_int_non, isi_int_str, isi_str_str, isi_str_non, isi_str_int, startE_c, startE_n, startE_e, wFor_e, wLc_e, wipeE, wgName, wgTup, wgCons, wgNil, List.getElem?_cons_zero, List.getElem?_cons_succ, List.set_cons_zero, List.set_cons_succ, List.length_cons, List.length_nil, Mi.wC, Mi.wVar, Mi.wVarO, Mi.wOp, Mi.wUn, Mi.wCmp, Mi.wCmpT, Mi.wChainT, Mi.wChain, Mi.wTru, Mi.wAndT, Mi.wOrT, Mi.wNotT, Mi.wAnd, Mi.wOr, Mi.wNot, Mi.wIfE, Mi.wNoPart, Mi.wPart, Mi.wSl, Mi.wNil, Mi.wCons, Mi.wTup, Mi.wLst, Mi.wNext, Mi.wSeq, Mi.wFreeze, Mi.wForget, Mi.wBreak, Mi.wCont, Mi.wRet, Mi.wRetO, Mi.wRetN, Mi.wDrop, Mi.wIf, Mi.wNever, Mi.wAsg, Mi.wSetO, Mi.wPar, Mi.wAug, Mi.wApp, Mi.wSetIx, Mi.wExt, Mi.wItems, Mi.wRng1, Mi.wRng2, Mi.wRng3, Mi.wEnum, Mi.wZip, Mi.wYes, Mi.wCall, Mi.wCallX, Mi.wB2, Mi.wMin3, Mi.wIsi, Mi.wGuard, Mi.wGuardD, Mi.wRaise]
            refine ⟨by decide, by decide, leL (by decide), by decide, by decide, leL (by decide), third _ ?_⟩
            rfl
          · refine ⟨by decide, by decide, leL (by decide), by decide, by decide, leL (by decide), third _ ?_⟩
            rfl
        · simp only [e_qI, e_qIC, e_add1, e_add2, e_add3, e_add4, e_catL, e_aug1, e_aug2, e_mul1, e_mul2, e_rep, e_div, e_mod, e_neg, e_ord1, e_ord2, e_isn, e_nin, e_non1, e_non2, e_non3, e_non4, e_non5, e_non6, e_tru1, e_tru2, e_tru3, e_tru4, e_tru5, e_tru6, e_tru7, e_sl1, e_sl2, e_sl3, e_sl4, e_rev, e_it1, e_it2, e_it3, e_len1, e_len2, e_len3, e_len4, e_int1, e_int2, e_int3, e_min, e_max, e_min3, e_lst1, e_lst2, e_tup1, e_tup2, e_str, e_abs, e_lenS, e_ixS, Mi.qLt, Mi.qLe, Mi.qGt, Mi.qGe, List.map_cons, List.map_nil, List.length_map, true_and, and_true, Bool.false_eq_true, if_false, if_true, Bool.not_true, Bool.not_false, qEq_int, qEq_str, qEq_bl, qNe_int, qNe_str, qNe_bl, line0, line1, line2, line3, line4, line6, line7, line10, isi_list_lst, isi_list_tup, isi_list_non, isi_list_str, isi_list_int, isi_tup_tup, isi_bool_bl, isi_bool_int, isi_int_int, isi_int_bl, isi_int_non, isi_int_str, isi_str_str, isi_str_non, isi_str_int, startE_c, startE_n, startE_e, wFor_e, wLc_e, wipeE, wgName, wgTup, wgCons, wgNil, List.getElem?_cons_zero, List.getElem?_cons_succ, List.set_cons_zero, List.set_cons_succ, List.length_cons, List.length_nil, Mi.wC, Mi.wVar, Mi.wVarO, Mi.wOp, Mi.wUn, Mi.wCmp, Mi.wCmpT, Mi.wChainT, Mi.wChain, Mi.wTru, Mi.wAndT, Mi.wOrT, Mi.wNotT, Mi.wAnd, Mi.wOr, Mi.wNot, Mi.wIfE, Mi.wNoPart, Mi.wPart, Mi.wSl, Mi.wNil, Mi.wCons, Mi.wTup, Mi.wLst, Mi.wNext, Mi.wSeq, Mi.wFreeze, Mi.wForget, Mi.wBreak, Mi.wCont, Mi.wRet, Mi.wRetO, Mi.wRetN, Mi.wDrop, Mi.wIf, Mi.wNever, Mi.wAsg, Mi.wSetO, Mi.wPar, Mi.wAug, Mi.wApp, Mi.wSetIx, Mi.wExt, Mi.wItems, Mi.wRng1, Mi.wRng2, Mi.wRng3, Mi.wEnum, Mi.wZip, Mi.wYes, Mi.wCall, Mi.wCallX, Mi.wB2, Mi.wMin3, Mi.wIsi, Mi.wGuard, Mi.wGuardD, Mi.wRaise]
          exact ⟨s2, _, _, _, _, _, _, _, _, _, _, _, _, _, _, _, _, rfl⟩
      · rintro δ' ⟨s2, c1, c3, c4, c5, c6, c7, c8, c9, c10, c11, c12, c13, c14, c15, c16, c17, rfl⟩
        simp only [e_qI, e_qIC, e_add1, e_add2, e_add3, e_add4, e_catL, e_aug1, e_aug2, e_mul1, e_mul2, e_rep, e_div, e_mod, e_neg, e_ord1, e_ord2, e_isn, e_nin, e_non1, e_non2, e_non3, e_non4, e_non5, e_non6, e_tru1, e_tru2, e_tru3, e_tru4, e_tru5, e_tru6, e_tru7, e_sl1, e_sl2, e_sl3, e_sl4, e_rev, e_it1, e_it2, e_it3, e_len1, e_len2, e_len3, e_len4, e_int1, e_int2, e_int3, e_min, e_max, e_min3, e_lst1, e_lst2, e_tup1, e_tup2, e_str, e_abs, e_lenS, e_ixS, Mi.qLt, Mi.qLe, Mi.qGt, Mi.qGe, List.map_cons, List.map_nil, List.length_map, true_and, and_true, Bool.false_eq_true, if_false, if_true, Bool.not_true, Bool.not_false, qEq_int, qEq_str, qEq_bl, qNe_int, qNe_str, qNe_bl, line0, line1, line2, line3, line4, line6, line7, line10, isi_list_lst, isi_list_tup, isi_list_non, isi_list_str, isi_list_int, isi_tup_tup, isi_bool_bl, isi_bool_int, isi_int_int, isi_int_bl, isi_int_non, isi_int_str, isi_str_str, isi_str_non, isi_str_int, startE_c, startE_n, startE_e, wFor_e, wLc_e, wipeE, wgName, wgTup, wgCons, wgNil, List.getElem?_cons_zero, List.getElem?_cons_succ, List.set_cons_zero, List.set_cons_succ, List.length_cons, List.length_nil, Mi.wC, Mi.wVar, Mi.wVarO, Mi.wOp, Mi.wUn, Mi.wCmp, Mi.wCmpT, Mi.wChainT, Mi.wChain, Mi.wTru, Mi.wAndT, Mi.wOrT, Mi.wNotT, Mi.wAnd, Mi.wOr, Mi.wNot, Mi.wIfE, Mi.wNoPart, Mi.wPart, Mi.wSl, Mi.wNil, Mi.wCons, Mi.wTup, Mi.wLst, Mi.wNext, Mi.wSeq, Mi.wFreeze, Mi.wForget, Mi.wBreak, Mi.wCont, Mi.wRet, Mi.wRetO, Mi.wRetN, Mi.wDrop, Mi.wIf, Mi.wNever, Mi.wAsg, Mi.wSetO, Mi.wPar, Mi.wAug, Mi.wApp, Mi.wSetIx, Mi.wExt, Mi.wItems, Mi.wRng1, Mi.wRng2, Mi.wRng3, Mi.wEnum, Mi.wZip, Mi.wYes, Mi.wCall, Mi.wCallX, Mi.wB2, Mi.wMin3, Mi.wIsi, Mi.wGuard, Mi.wGuardD, Mi.wRaise]
        refine ⟨by decide, by decide, leL (by decide), ?_⟩
        refine ⟨List.replicate 1900 "a", [], t4, 1, by rw [← rep_SS]; rfl, ll _ (by decide), Nat.zero_le _, ht4, fun hf => absurd hf few4, fun _ => ?_⟩
        exact h

end
end K86
namespace K86
open PySem L2 Evl Mi
section
variable {P : Program} {w : World} {K : PySem.W.Frag} {mg : Str → Option Value} {base : Heap} {g : G}
def rowOf (n : Nat) (f : Nat → Nat → Int) (i : Nat) : List D := (List.range n).map fun j => .int (f i j)
def gOf (m n : Nat) (f : Nat → Nat → Int) : List (List D) := (List.range m).map fun i => rowOf n f i
def upd2 (f : Nat → Nat → Int) (i j : Nat) (v : Int) : Nat → Nat → Int := fun x y => if x = i ∧ y = j then v else f x y
theorem rowOf_get {n j : Nat} {f : Nat → Nat → Int} {i : Nat} (h : j < n) : (rowOf n f i)[j]? = some (.int (f i j)) := by
  unfold rowOf; rw [List.getElem?_map, List.getElem?_range h]; rfl
theorem gOf_get {m n i : Nat} {f : Nat → Nat → Int} (h : i < m) : (gOf m n f)[i]? = some (rowOf n f i) := by
  unfold gOf; rw [List.getElem?_map, List.getElem?_range h]; rfl
theorem gOf_getD {m n i : Nat} {f : Nat → Nat → Int} (h : i < m) : ((gOf m n f).map D.lst)[i]? = some (.lst (rowOf n f i)) := by
  rw [List.getElem?_map, gOf_get h]; rfl
theorem gOf_set {m n i j : Nat} {f : Nat → Nat → Int} {v : Int} (hi : i < m) (hj : j < n) : (gOf m n f).set i ((rowOf n f i).set j (.int v)) = gOf m n (upd2 f i j v) := by
  apply List.ext_getElem?
  intro x
  rw [List.getElem?_set]
  by_cases hx : x < m
  · rw [gOf_get hx]
    by_cases e : i = x
    · subst e
      rw [if_pos rfl, if_pos (by simp [gOf, hi])]
      rw [gOf_get hx]
      congr 1
      apply List.ext_getElem?
      intro y
      rw [List.getElem?_set]
      by_cases hy : y < n
      · rw [rowOf_get hy, rowOf_get hy]
        by_cases e2 : j = y
        · subst e2
          rw [if_pos rfl, if_pos (by simp [rowOf, hy])]
          simp [upd2]
        · rw [if_neg e2]
          simp [upd2, Ne.symm e2]
      · rw [if_neg (by omega), List.getElem?_eq_none (by simp [rowOf]; omega), List.getElem?_eq_none (by simp [rowOf]; omega)]
    · rw [if_neg e, gOf_get hx]
      congr 1
      unfold rowOf
      apply List.map_congr_left
      intro y _
      simp [upd2, Ne.symm e]
  · rw [if_neg (by omega), List.getElem?_eq_none (by simp [gOf]; omega), List.getElem?_eq_none (by simp [gOf]; omega)]
theorem fz7 (a0 a1 a2 a3 a4 a5 a6 : Option Cell) (G : List (List D)) (oi : Option Nat) : Gs.fz ⟨[a0, a1, a2, a3, a4, a5, a6], G, oi⟩ 2 6 = [a0, a1, st (.lst (G.map D.lst)), a3, a4, a5, Gs.row ⟨[a0, a1, a2, a3, a4, a5, a6], G, oi⟩] := rfl
theorem row_of {δ : Mi.Env} {m n i : Nat} {f : Nat → Nat → Int} (h : i < m) : Gs.row ⟨δ, gOf m n f, some i⟩ = st (.lst (rowOf n f i)) := by
  unfold Gs.row; simp only [gOf_get h]
abbrev s_law_least : Stmt := topS 22
abbrev N_law_least : List Str := ["first", "second", "rows", "i", "j", "k", "row"]
theorem sc_law_least : FnScope N_law_least ["first", "second"] (defScope s_law_least) := ⟨rfl, rfl, rfl, by decide +kernel, rfl, by decide +kernel, by decide +kernel⟩
theorem rep_gOf (m n : Nat) : List.replicate m (List.map D.int (List.replicate n 0)) = gOf m n (fun _ _ => 0) := by
  unfold gOf rowOf
  apply List.ext_getElem?
  intro x
  rw [List.getElem?_replicate, List.getElem?_map]
  by_cases h : x < m
  · rw [if_pos h, List.getElem?_range h]
    show _ = some _
    congr 1
    apply List.ext_getElem?
    intro y
    rw [List.getElem?_map, List.getElem?_replicate, List.getElem?_map]
    by_cases h2 : y < n
    · rw [if_pos h2, List.getElem?_range h2]; rfl
    · rw [if_neg h2, List.getElem?_eq_none (by simp; omega)]; rfl
  · rw [if_neg h, List.getElem?_eq_none (by simp; omega)]; rfl
theorem gOf_len (m n : Nat) (f : Nat → Nat → Int) : (gOf m n f).length = m := by simp [gOf]
theorem rowOf_len (n : Nat) (f : Nat → Nat → Int) (i : Nat) : (rowOf n f i).length = n := by simp [rowOf]
theorem gOf_rows {A B : List Str} {f : Nat → Nat → Int} (h : ∀ i, i ≤ A.length → ∀ j, j ≤ B.length → f i j = (lv A B i j : Nat)) : (gOf (A.length + 1) (B.length + 1) f).map D.lst = rowsL A B := by
  unfold gOf rowsL
  rw [List.map_map]
  apply List.map_congr_left
  intro i hi
  have hi := List.mem_range.mp hi
  show D.lst (rowOf _ f i) = D.lst (rowL A B i)
  congr 1
  unfold rowOf rowL
  apply List.map_congr_left
  intro j hj
  have hj := List.mem_range.mp hj
  rw [h i (by omega) j (by omega)]
theorem zSeq_e (u1 u2 : WZ) (z : Gs) (EX : Exc → Prop) (C : CoZ) : zSeq u1 u2 z EX C = u1 z EX { C with nx := fun z' => u2 z' EX C } := rfl
theorem zIf_e (r o : Nat) (t : WT) (u1 u2 : WZ) (z : Gs) (EX : Exc → Prop) (C : CoZ) : zIf r o t u1 u2 z EX C = ∃ c0 : Bool, (t (z.fz r o) EX fun c => c = c0) ∧ if c0 = true then u1 z EX C else u2 z EX C := rfl
theorem zRow_e (r o : Nat) (wi : Mi.WE) (z : Gs) (EX : Exc → Prop) (C : CoZ) : zRow r o wi z EX C = wi (z.fz r o) EX fun y => ∃ i : Nat, y = .int i ∧ i < z.G.length ∧ C.nx { z with oi := some i } := rfl
theorem zSet_e (r o : Nat) (wi wv : Mi.WE) (z : Gs) (EX : Exc → Prop) (C : CoZ) : zSet r o wi wv z EX C = ∃ (i : Nat) (ds : List D), z.oi = some i ∧ z.G[i]? = some ds ∧ wv (z.fz r o) EX fun d => ∃ n, d = .int n ∧ wi (z.fz r o) EX fun y => ∃ (k : Nat), y = .int k ∧ k < ds.length ∧ C.nx { z with G := z.G.set i (ds.set k (.int n)) } := rfl
theorem zRet_e (r o : Nat) (z : Gs) (EX : Exc → Prop) (C : CoZ) : zRet r o z EX C = C.rt (.lst (z.G.map D.lst)) := rfl
theorem zNext_e (z : Gs) (EX : Exc → Prop) (C : CoZ) : zNext z EX C = C.nx z := rfl
abbrev rg (i : Nat) : WI := wRng3 (wUn qLen (wVarO i)) (wUn qNeg (wC (.int 1))) (wUn qNeg (wC (.int 1)))
abbrev up (i : Nat) : Mi.WE := wOp qAdd (wVarO i) (wC (.int 1))
abbrev zM : WZ := zSet 2 6 (wVarO 4) (wB2 qMin (wOp qIx (wVarO 6) (wVarO 4)) (wOp qIx (wOp qIx (wVarO 2) (up 3)) (up 4)))
abbrev zE : WZ := zSeq (zSet 2 6 (wVarO 4) (wOp qAdd (wC (.int 1)) (wB2 qMin (wOp qIx (wOp qIx (wVarO 2) (up 3)) (wVarO 4)) (wOp qIx (wVarO 6) (up 4)))))
  (zIf 2 6 (wCmpT qEq (wOp qIx (wVarO 0) (wVarO 3)) (wOp qIx (wVarO 1) (wVarO 4))) zM zNext)
abbrev zJ : WZ := zSeq (zRow 2 6 (wVarO 3)) (zIf 2 6 (wCmpT qEq (wVarO 3) (wUn qLen (wVarO 0))) (zSet 2 6 (wVarO 4) (wOp (qI fun i j => i - j) (wUn qLen (wVarO 1)) (wVarO 4)))
  (zIf 2 6 (wCmpT qEq (wVarO 4) (wUn qLen (wVarO 1))) (zSet 2 6 (wVarO 4) (wOp (qI fun i j => i - j) (wUn qLen (wVarO 0)) (wVarO 3))) zE))
abbrev zU : WZ := zSeq (zFor (rg 0) 3 (zFor (rg 1) 4 zJ)) (zRet 2 6)
theorem zfor_i {i t : Nat} {u : WZ} {z : Gs} {EX : Exc → Prop} {C : CoZ} {L : List Str} (hi : z.δ[i]? = some (st (SS L))) (hl : L.length ≤ 100) (M : Nat → Gs → Prop) (h0 : M 0 z)
    (hs : ∀ k z', k ≤ L.length → M k z' → u { z' with δ := z'.δ.set t (st (.int ((L.length - k : Nat) : Int))) } EX { C with nx := M (k + 1) }) (he : ∀ z', M (L.length + 1) z' → C.nx z') : zFor (rg i) t u z EX C := by
  unfold zFor rg
  simp only [wRng3, wUn, wC, wVarO, hi, qLen, qNeg, List.length_map]
  refine ⟨L.length + 1, ?_, M, h0, ?_, ?_⟩
  · have := RgC.neg (i := (L.length : Int)) (j := -1) (by omega) (by omega) (by omega) (by omega)
    have e : ((L.length : Int) - -1).toNat = L.length + 1 := by omega
    rw [e] at this
    exact this
  · intro k d z' hk hM
    obtain ⟨hk, rfl⟩ := rangeC_of hk
    have ek : (L.length : Int) + (k : Int) * -1 = ((L.length - k : Nat) : Int) := by omega
    rw [ek]
    exact hs k z' (by omega) hM
  · intro z' hM
    rw [rangeC_len] at hM
    exact he z' hM
theorem wp_least {Q : D → Prop} {A B : List Str} (hA : A.length ≤ 100) (hB : B.length ≤ 100) (h : Q (.lst (rowsL A B))) :
    wInitZ 2 6 (wRng1 (wOp qAdd (wUn qLen (wVarO 0)) (wC (.int 1)))) (wgName 5) (wOp qRep (wLst (wCons (wC (.int 0)) wNil)) (wOp qAdd (wUn qLen (wVarO 1)) (wC (.int 1)))) [5] zU [st (SS A), st (SS B), none, none, none, none, none] (fun _ => False) { nx := fun _ => false = false ∧ Q .non, rt := Q } := by
  simp only [wInitZ]
  simp only [e_qI, e_qIC, e_add1, e_add2, e_add3, e_add4, e_catL, e_aug1, e_aug2, e_mul1, e_mul2, e_rep, e_div, e_mod, e_neg, e_ord1, e_ord2, e_isn, e_nin, e_non1, e_non2, e_non3, e_non4, e_non5, e_non6, e_tru1, e_tru2, e_tru3, e_tru4, e_tru5, e_tru6, e_tru7, e_sl1, e_sl2, e_sl3, e_sl4, e_rev, e_it1, e_it2, e_it3, e_len1, e_len2, e_len3, e_len4, e_int1, e_int2, e_int3, e_min, e_max, e_min3, e_lst1, e_lst2, e_tup1, e_tup2, e_str, e_abs, e_lenS, e_ixS, Mi.qLt, Mi.qLe, Mi.qGt, Mi.qGe, List.map_cons, List.map_nil, List.length_map, true_and, and_true, Bool.false_eq_true, if_false, if_true, Bool.not_true, Bool.not_false, qEq_int, qEq_str, qEq_bl, qNe_int, qNe_str, qNe_bl, line0, line1, line2, line3, line4, line6, line7, line10, isi_list_lst, isi_list_tup, isi_list_non, isi_list_str, isi_list_int, isi_tup_tup, isi_bool_bl, isi_bool_int, isi_int_int, isi_int_bl, isi_int_non, isi_int_str, isi_str_str, isi_str_non, isi_str_int, startE_c, startE_n, startE_e, wFor_e, wLc_e, wipeE, wgName, wgTup, wgCons, wgNil, List.getElem?_cons_zero, List.getElem?_cons_succ, List.set_cons_zero, List.set_cons_succ, List.length_cons, List.length_nil, Mi.wC, Mi.wVar, Mi.wVarO, Mi.wOp, Mi.wUn, Mi.wCmp, Mi.wCmpT, Mi.wChainT, Mi.wChain, Mi.wTru, Mi.wAndT, Mi.wOrT, Mi.wNotT, Mi.wAnd, Mi.wOr, Mi.wNot, Mi.wIfE, Mi.wNoPart, Mi.wPart, Mi.wSl, Mi.wNil, Mi.wCons, Mi.wTup, Mi.wLst, Mi.wNext, Mi.wSeq, Mi.wFreeze, Mi.wForget, Mi.wBreak, Mi.wCont, Mi.wRet, Mi.wRetO, Mi.wRetN, Mi.wDrop, Mi.wIf, Mi.wNever, Mi.wAsg, Mi.wSetO, Mi.wPar, Mi.wAug, Mi.wApp, Mi.wSetIx, Mi.wExt, Mi.wItems, Mi.wRng1, Mi.wRng2, Mi.wRng3, Mi.wEnum, Mi.wZip, Mi.wYes, Mi.wCall, Mi.wCallX, Mi.wB2, Mi.wMin3, Mi.wIsi, Mi.wGuard, Mi.wGuardD, Mi.wRaise]
  have en : ((A.length : Int) + 1).toNat = A.length + 1 := by omega
  have en2 : ((B.length : Int) + 1).toNat = B.length + 1 := by omega
  rw [en, en2, rangeD_len, rep_flat]
  refine ⟨by omega, by omega, by omega, fun i c hi => ?_, by decide, List.replicate (B.length + 1) 0, fun i d R hd hR => ⟨by omega, by omega, leL (by omega), by rw [List.map_replicate] at hR; exact hR⟩, ?_⟩
  · rcases i with _ | _ | _ | _ | _ | _ | _ | i <;> simp at hi <;> (subst hi; rfl)
  rw [rep_gOf]
  unfold zU
  rw [zSeq_e]
  refine zfor_i (L := A) rfl hA (fun k z => ∃ f oi c3 c4, z = ⟨[st (SS A), st (SS B), none, c3, c4, none, none], gOf (A.length + 1) (B.length + 1) f, oi⟩ ∧ ∀ i, i ≤ A.length → A.length < i + k → ∀ j, j ≤ B.length → f i j = (lv A B i j : Nat)) ⟨_, _, _, _, rfl, fun i h1 h2 => by omega⟩ ?_ ?_
  · rintro k z' hk ⟨f, oi, c3, c4, rfl, hf⟩
    generalize ei : A.length - k = i
    refine zfor_i (L := B) rfl hB (fun l z => ∃ f oi c4, z = ⟨[st (SS A), st (SS B), none, st (.int (i : Nat)), c4, none, none], gOf (A.length + 1) (B.length + 1) f, oi⟩ ∧ (∀ i', i' ≤ A.length → i < i' → ∀ j, j ≤ B.length → f i' j = (lv A B i' j : Nat)) ∧ ∀ j, j ≤ B.length → B.length < j + l → f i j = (lv A B i j : Nat)) ⟨_, _, _, rfl, fun i' h1 h2 => hf i' h1 (by omega), fun j h1 h2 => by omega⟩ ?_ ?_
    · rintro l z' hl ⟨f, oi, c4, rfl, hf1, hf2⟩
      generalize ej : B.length - l = j
      have hi : i < A.length + 1 := by omega
      have hj : j < B.length + 1 := by omega
      have step : ∀ f' : Nat → Nat → Int, (∀ x y, ¬ (x = i ∧ y = j) → f' x y = f x y) → f' i j = (lv A B i j : Nat) → ∃ f_1 oi c4, (⟨[st (SS A), st (SS B), none, st (.int (i : Nat)), st (.int (j : Nat)), none, none], gOf (A.length + 1) (B.length + 1) f', some i⟩ : Gs) = ⟨[st (SS A), st (SS B), none, st (.int (i : Nat)), c4, none, none], gOf (A.length + 1) (B.length + 1) f_1, oi⟩ ∧ (∀ i', i' ≤ A.length → i < i' → ∀ j, j ≤ B.length → f_1 i' j = (lv A B i' j : Nat)) ∧ ∀ j, j ≤ B.length → B.length < j + (l + 1) → f_1 i j = (lv A B i j : Nat) := fun f' h1 h2 =>
        ⟨f', some i, _, rfl, fun i' a1 a2 y a3 => by rw [h1 i' y (by omega)]; exact hf1 i' a1 a2 y a3, fun y a1 a2 => by
          by_cases e : y = j
          · rw [e]; exact h2
          · rw [h1 i y (by omega)]; exact hf2 y a1 (by omega)⟩
      unfold zJ
      rw [zSeq_e, zRow_e]
      simp only [List.set_cons_zero, List.set_cons_succ, fz7, wVarO, List.getElem?_cons_zero, List.getElem?_cons_succ]
      refine ⟨i, rfl, by rw [gOf_len]; exact hi, ?_⟩
      rw [zIf_e]
      refine ⟨decide (i = A.length), ?_, ite_i (fun e => ?_) fun e => ?_⟩
      · simp only [fz7, e_qI, e_qIC, e_add1, e_add2, e_add3, e_add4, e_catL, e_aug1, e_aug2, e_mul1, e_mul2, e_rep, e_div, e_mod, e_neg, e_ord1, e_ord2, e_isn, e_nin, e_non1, e_non2, e_non3, e_non4, e_non5, e_non6, e_tru1, e_tru2, e_tru3, e_tru4, e_tru5, e_tru6, e_tru7, e_sl1, e_sl2, e_sl3, e_sl4, e_rev, e_it1, e_it2, e_it3, e_len1, e_len2, e_len3, e_len4, e_int1, e_int2, e_int3, e_min, e_max, e_min3, e_lst1, e_lst2, e_tup1, e_tup2, e_str, e_abs, e_lenS, e_ixS, Mi.qLt, Mi.qLe, Mi.qGt, Mi.qGe, List.map_cons, List.map_nil, List.length_map, true_and, and_true, Bool.false_eq_true, if_false, if_true, Bool.not_true, Bool.not_false, qEq_int, qEq_str, qEq_bl, qNe_int, qNe_str, qNe_bl, line0, line1, line2, line3, line4, line6, line7, line10, isi_list_lst, isi_list_tup, isi_list_non, isi_list_str, isi_list_int, isi_tup_tup, isi_bool_bl, isi_bool_int, isi_int_int, isi_int_bl, isi_int_non, isi_int_str, isi_str_str, isi_str_non, isi_str_int, startE_c, startE_n, startE_e, wFor_e, wLc_e, wipeE, wgName, wgTup, wgCons, wgNil, List.getElem?_cons_zero, List.getElem?_cons_succ, List.set_cons_zero, List.set_cons_succ, List.length_cons, List.length_nil, Mi.wC, Mi.wVar, Mi.wVarO, Mi.wOp, Mi.wUn, Mi.wCmp, Mi.wCmpT, Mi.wChainT, Mi.wChain, Mi.wTru, Mi.wAndT, Mi.wOrT, Mi.wNotT, Mi.wAnd, Mi.wOr, Mi.wNot, Mi.wIfE, Mi.wNoPart, Mi.wPart, Mi.wSl, Mi.wNil, Mi.wCons, Mi.wTup, Mi.wLst, Mi.wNext, Mi.wSeq, Mi.wFreeze, Mi.wForget, Mi.wBreak, Mi.wCont, Mi.wRet, Mi.wRetO, Mi.wRetN, Mi.wDrop, Mi.wIf, Mi.wNever, Mi.wAsg, Mi.wSetO, Mi.wPar, Mi.wAug, Mi.wApp, Mi.wSetIx, Mi.wExt, Mi.wItems, Mi.wRng1, Mi.wRng2, Mi.wRng3, Mi.wEnum, Mi.wZip, Mi.wYes, Mi.wCall, Mi.wCallX, Mi.wB2, Mi.wMin3, Mi.wIsi, Mi.wGuard, Mi.wGuardD, Mi.wRaise]
        congr 1; rw [eq_iff_iff]; omega
      · have e := of_decide_eq_true e
        rw [zSet_e]
        refine ⟨i, rowOf (B.length + 1) f i, rfl, gOf_get hi, ?_⟩
        simp only [fz7, e_qI, e_qIC, e_add1, e_add2, e_add3, e_add4, e_catL, e_aug1, e_aug2, e_mul1, e_mul2, e_rep, e_div, e_mod, e_neg, e_ord1, e_ord2, e_isn, e_nin, e_non1, e_non2, e_non3, e_non4, e_non5, e_non6, e_tru1, e_tru2, e_tru3, e_tru4, e_tru5, e_tru6, e_tru7, e_sl1, e_sl2, e_sl3, e_sl4, e_rev, e_it1, e_it2, e_it3, e_len1, e_len2, e_len3, e_len4, e_int1, e_int2, e_int3, e_min, e_max, e_min3, e_lst1, e_lst2, e_tup1, e_tup2, e_str, e_abs, e_lenS, e_ixS, Mi.qLt, Mi.qLe, Mi.qGt, Mi.qGe, List.map_cons, List.map_nil, List.length_map, true_and, and_true, Bool.false_eq_true, if_false, if_true, Bool.not_true, Bool.not_false, qEq_int, qEq_str, qEq_bl, qNe_int, qNe_str, qNe_bl, line0, line1, line2, line3, line4, line6, line7, line10, isi_list_lst, isi_list_tup, isi_list_non, isi_list_str, isi_list_int, isi_tup_tup, isi_bool_bl, isi_bool_int, isi_int_int, isi_int_bl, isi_int_non, isi_int_str, isi_str_str, isi_str_non, isi_str_int, startE_c, startE_n, startE_e, wFor_e, wLc_e, wipeE, wgName, wgTup, wgCons, wgNil, List.getElem?_cons_zero, List.getElem?_cons_succ, List.set_cons_zero, List.set_cons_succ, List.length_cons, List.length_nil, Mi.wC, Mi.wVar, Mi.wVarO, Mi.wOp, Mi.wUn, Mi.wCmp, Mi.wCmpT, Mi.wChainT, Mi.wChain, Mi.wTru, Mi.wAndT, Mi.wOrT, Mi.wNotT, Mi.wAnd, Mi.wOr, Mi.wNot, Mi.wIfE, Mi.wNoPart, Mi.wPart, Mi.wSl, Mi.wNil, Mi.wCons, Mi.wTup, Mi.wLst, Mi.wNext, Mi.wSeq, Mi.wFreeze, Mi.wForget, Mi.wBreak, Mi.wCont, Mi.wRet, Mi.wRetO, Mi.wRetN, Mi.wDrop, Mi.wIf, Mi.wNever, Mi.wAsg, Mi.wSetO, Mi.wPar, Mi.wAug, Mi.wApp, Mi.wSetIx, Mi.wExt, Mi.wItems, Mi.wRng1, Mi.wRng2, Mi.wRng3, Mi.wEnum, Mi.wZip, Mi.wYes, Mi.wCall, Mi.wCallX, Mi.wB2, Mi.wMin3, Mi.wIsi, Mi.wGuard, Mi.wGuardD, Mi.wRaise]
        refine ⟨(B.length : Int) - (j : Int), rfl, j, rfl, by rw [rowOf_len]; exact hj, ?_⟩
        simp only [gOf_set hi hj]
        refine step _ (fun x y h => if_neg h) ?_
        simp only [upd2, and_self, if_true]
        rw [lv_endA (by omega)]; omega
      · have e := of_decide_eq_false e
        rw [zIf_e]
        refine ⟨decide (j = B.length), ?_, ite_i (fun e2 => ?_) fun e2 => ?_⟩
        · simp only [fz7, e_qI, e_qIC, e_add1, e_add2, e_add3, e_add4, e_catL, e_aug1, e_aug2, e_mul1, e_mul2, e_rep, e_div, e_mod, e_neg, e_ord1, e_ord2, e_isn, e_nin, e_non1, e_non2, e_non3, e_non4, e_non5, e_non6, e_tru1, e_tru2, e_tru3, e_tru4, e_tru5, e_tru6, e_tru7, e_sl1, e_sl2, e_sl3, e_sl4, e_rev, e_it1, e_it2, e_it3, e_len1, e_len2, e_len3, e_len4, e_int1, e_int2, e_int3, e_min, e_max, e_min3, e_lst1, e_lst2, e_tup1, e_tup2, e_str, e_abs, e_lenS, e_ixS, Mi.qLt, Mi.qLe, Mi.qGt, Mi.qGe, List.map_cons, List.map_nil, List.length_map, true_and, and_true, Bool.false_eq_true, if_false, if_true, Bool.not_true, Bool.not_false, qEq_int, qEq_str, qEq_bl, qNe_int, qNe_str, qNe_bl, line0, line1, line2, line3, line4, line6, line7, line10, isi_list_lst, isi_list_tup, isi_list_non, isi_list_str, isi_list_int, isi_tup_tup, isi_bool_bl, isi_bool_int, isi_int_int, isi_int_bl, isi_int_non, isi_int_str, isi_str_str, isi_str_non, isi_str_int, startE_c, startE_n, startE_e, wFor_e, wLc_e, wipeE, wgName, wgTup, wgCons, wgNil, List.getElem?_cons_zero, List.getElem?_cons_succ, List.set_cons_zero, List.set_cons_succ, List.length_cons, List.length_nil, Mi.wC, Mi.wVar, Mi.wVarO, Mi.wOp, Mi.wUn, Mi.wCmp, Mi.wCmpT, Mi.wChainT, Mi.wChain, Mi.wTru, Mi.wAndT, Mi.wOrT, Mi.wNotT, Mi.wAnd, Mi.wOr, Mi.wNot, Mi.wIfE, Mi.wNoPart, Mi.wPart, Mi.wSl, Mi.wNil, Mi.wCons, Mi.wTup, Mi.wLst, Mi.wNext, Mi.wSeq, Mi.wFreeze, Mi.wForget, Mi.wBreak, Mi.wCont, Mi.wRet, Mi.wRetO, Mi.wRetN, Mi.wDrop, Mi.wIf, Mi.wNever, Mi.wAsg, Mi.wSetO, Mi.wPar, Mi.wAug, Mi.wApp, Mi.wSetIx, Mi.wExt, Mi.wItems, Mi.wRng1, Mi.wRng2, Mi.wRng3, Mi.wEnum, Mi.wZip, Mi.wYes, Mi.wCall, Mi.wCallX, Mi.wB2, Mi.wMin3, Mi.wIsi, Mi.wGuard, Mi.wGuardD, Mi.wRaise]
          congr 1; rw [eq_iff_iff]; omega
        · have e2 := of_decide_eq_true e2
          rw [zSet_e]
          refine ⟨i, rowOf (B.length + 1) f i, rfl, gOf_get hi, ?_⟩
          simp only [fz7, e_qI, e_qIC, e_add1, e_add2, e_add3, e_add4, e_catL, e_aug1, e_aug2, e_mul1, e_mul2, e_rep, e_div, e_mod, e_neg, e_ord1, e_ord2, e_isn, e_nin, e_non1, e_non2, e_non3, e_non4, e_non5, e_non6, e_tru1, e_tru2, e_tru3, e_tru4, e_tru5, e_tru6, e_tru7, e_sl1, e_sl2, e_sl3, e_sl4, e_rev, e_it1, e_it2, e_it3, e_len1, e_len2, e_len3, e_len4, e_int1, e_int2, e_int3, e_min, e_max, e_min3, e_lst1, e_lst2, e_tup1, e_tup2, e_str, e_abs, e_lenS, e_ixS, Mi.qLt, Mi.qLe, Mi.qGt, Mi.qGe, List.map_cons, List.map_nil, List.length_map, true_and, and_true, Bool.false_eq_true, if_false, if_true, Bool.not_true, Bool.not_false, qEq_int, qEq_str, qEq_bl, qNe_int, qNe_str, qNe_bl, line0, line1, line2, line3, line4, line6, line7, line10, isi_list_lst, isi_list_tup, isi_list_non, isi_list_str, isi_list_int, isi_tup_tup, isi_bool_bl, isi_bool_int, isi_int_int, isi_int_bl, isi_int_non, isi_int_str, isi_str_str, isi_str_non, isi_str_int, startE_c, startE_n, startE_e, wFor_e, wLc_e, wipeE, wgName, wgTup, wgCons, wgNil, List.getElem?_cons_zero, List.getElem?_cons_succ, List.set_cons_zero, List.set_cons_succ, List.length_cons, List.length_nil, Mi.wC, Mi.wVar, Mi.wVarO, Mi.wOp, Mi.wUn, Mi.wCmp, Mi.wCmpT, Mi.wChainT, Mi.wChain, Mi.wTru, Mi.wAndT, Mi.wOrT, Mi.wNotT, Mi.wAnd, Mi.wOr, Mi.wNot, Mi.wIfE, Mi.wNoPart, Mi.wPart, Mi.wSl, Mi.wNil, Mi.wCons, Mi.wTup, Mi.wLst, Mi.wNext, Mi.wSeq, Mi.wFreeze, Mi.wForget, Mi.wBreak, Mi.wCont, Mi.wRet, Mi.wRetO, Mi.wRetN, Mi.wDrop, Mi.wIf, Mi.wNever, Mi.wAsg, Mi.wSetO, Mi.wPar, Mi.wAug, Mi.wApp, Mi.wSetIx, Mi.wExt, Mi.wItems, Mi.wRng1, Mi.wRng2, Mi.wRng3, Mi.wEnum, Mi.wZip, Mi.wYes, Mi.wCall, Mi.wCallX, Mi.wB2, Mi.wMin3, Mi.wIsi, Mi.wGuard, Mi.wGuardD, Mi.wRaise]
          refine ⟨(A.length : Int) - (i : Int), rfl, j, rfl, by rw [rowOf_len]; exact hj, ?_⟩
          simp only [gOf_set hi hj]
          refine step _ (fun x y h => if_neg h) ?_
          simp only [upd2, and_self, if_true]
          rw [lv_endB (by omega)]; omega
        · have e2 := of_decide_eq_false e2
          have hi2 : i + 1 < A.length + 1 := by omega
          have hj2 : j + 1 < B.length + 1 := by omega
          have h1 := hf1 (i + 1) (by omega) (by omega) j (by omega)
          have h2 := hf2 (j + 1) (by omega) (by omega)
          have h3 := hf1 (i + 1) (by omega) (by omega) (j + 1) (by omega)
          unfold zE
          rw [zSeq_e, zSet_e]
          refine ⟨i, rowOf (B.length + 1) f i, rfl, gOf_get hi, ?_⟩
          simp only [fz7, row_of hi, e_qI, e_qIC, e_add1, e_add2, e_add3, e_add4, e_catL, e_aug1, e_aug2, e_mul1, e_mul2, e_rep, e_div, e_mod, e_neg, e_ord1, e_ord2, e_isn, e_nin, e_non1, e_non2, e_non3, e_non4, e_non5, e_non6, e_tru1, e_tru2, e_tru3, e_tru4, e_tru5, e_tru6, e_tru7, e_sl1, e_sl2, e_sl3, e_sl4, e_rev, e_it1, e_it2, e_it3, e_len1, e_len2, e_len3, e_len4, e_int1, e_int2, e_int3, e_min, e_max, e_min3, e_lst1, e_lst2, e_tup1, e_tup2, e_str, e_abs, e_lenS, e_ixS, Mi.qLt, Mi.qLe, Mi.qGt, Mi.qGe, List.map_cons, List.map_nil, List.length_map, true_and, and_true, Bool.false_eq_true, if_false, if_true, Bool.not_true, Bool.not_false, qEq_int, qEq_str, qEq_bl, qNe_int, qNe_str, qNe_bl, line0, line1, line2, line3, line4, line6, line7, line10, isi_list_lst, isi_list_tup, isi_list_non, isi_list_str, isi_list_int, isi_tup_tup, isi_bool_bl, isi_bool_int, isi_int_int, isi_int_bl, isi_int_non, isi_int_str, isi_str_str, isi_str_non, isi_str_int, startE_c, startE_n, startE_e, wFor_e, wLc_e, wipeE, wgName, wgTup, wgCons, wgNil, List.getElem?_cons_zero, List.getElem?_cons_succ, List.set_cons_zero, List.set_cons_succ, List.length_cons, List.length_nil, Mi.wC, Mi.wVar, Mi.wVarO, Mi.wOp, Mi.wUn, Mi.wCmp, Mi.wCmpT, Mi.wChainT, Mi.wChain, Mi.wTru, Mi.wAndT, Mi.wOrT, Mi.wNotT, Mi.wAnd, Mi.wOr, Mi.wNot, Mi.wIfE, Mi.wNoPart, Mi.wPart, Mi.wSl, Mi.wNil, Mi.wCons, Mi.wTup, Mi.wLst, Mi.wNext, Mi.wSeq, Mi.wFreeze, Mi.wForget, Mi.wBreak, Mi.wCont, Mi.wRet, Mi.wRetO, Mi.wRetN, Mi.wDrop, Mi.wIf, Mi.wNever, Mi.wAsg, Mi.wSetO, Mi.wPar, Mi.wAug, Mi.wApp, Mi.wSetIx, Mi.wExt, Mi.wItems, Mi.wRng1, Mi.wRng2, Mi.wRng3, Mi.wEnum, Mi.wZip, Mi.wYes, Mi.wCall, Mi.wCallX, Mi.wB2, Mi.wMin3, Mi.wIsi, Mi.wGuard, Mi.wGuardD, Mi.wRaise]
          refine qIx_lst (i := i + 1) (gOf_getD hi2) ?_
          refine qIx_lst (rowOf_get hj) ?_
          refine qIx_lst (i := j + 1) (rowOf_get hj2) ?_
          simp only [e_qI, e_qIC, e_add1, e_add2, e_add3, e_add4, e_catL, e_aug1, e_aug2, e_mul1, e_mul2, e_rep, e_div, e_mod, e_neg, e_ord1, e_ord2, e_isn, e_nin, e_non1, e_non2, e_non3, e_non4, e_non5, e_non6, e_tru1, e_tru2, e_tru3, e_tru4, e_tru5, e_tru6, e_tru7, e_sl1, e_sl2, e_sl3, e_sl4, e_rev, e_it1, e_it2, e_it3, e_len1, e_len2, e_len3, e_len4, e_int1, e_int2, e_int3, e_min, e_max, e_min3, e_lst1, e_lst2, e_tup1, e_tup2, e_str, e_abs, e_lenS, e_ixS, Mi.qLt, Mi.qLe, Mi.qGt, Mi.qGe, List.map_cons, List.map_nil, List.length_map, true_and, and_true, Bool.false_eq_true, if_false, if_true, Bool.not_true, Bool.not_false, qEq_int, qEq_str, qEq_bl, qNe_int, qNe_str, qNe_bl, line0, line1, line2, line3, line4, line6, line7, line10, isi_list_lst, isi_list_tup, isi_list_non, isi_list_str, isi_list_int, isi_tup_tup, isi_bool_bl, isi_bool_int, isi_int_int, isi_int_bl, isi_int_non, isi_int_str, isi_str_str, isi_str_non, isi_str_int, startE_c, startE_n, startE_e, wFor_e, wLc_e, wipeE, wgName, wgTup, wgCons, wgNil, List.getElem?_cons_zero, List.getElem?_cons_succ, List.set_cons_zero, List.set_cons_succ, List.length_cons, List.length_nil, Mi.wC, Mi.wVar, Mi.wVarO, Mi.wOp, Mi.wUn, Mi.wCmp, Mi.wCmpT, Mi.wChainT, Mi.wChain, Mi.wTru, Mi.wAndT, Mi.wOrT, Mi.wNotT, Mi.wAnd, Mi.wOr, Mi.wNot, Mi.wIfE, Mi.wNoPart, Mi.wPart, Mi.wSl, Mi.wNil, Mi.wCons, Mi.wTup, Mi.wLst, Mi.wNext, Mi.wSeq, Mi.wFreeze, Mi.wForget, Mi.wBreak, Mi.wCont, Mi.wRet, Mi.wRetO, Mi.wRetN, Mi.wDrop, Mi.wIf, Mi.wNever, Mi.wAsg, Mi.wSetO, Mi.wPar, Mi.wAug, Mi.wApp, Mi.wSetIx, Mi.wExt, Mi.wItems, Mi.wRng1, Mi.wRng2, Mi.wRng3, Mi.wEnum, Mi.wZip, Mi.wYes, Mi.wCall, Mi.wCallX, Mi.wB2, Mi.wMin3, Mi.wIsi, Mi.wGuard, Mi.wGuardD, Mi.wRaise]
          refine ⟨_, rfl, j, rfl, by rw [rowOf_len]; exact hj, ?_⟩
          simp only [gOf_set hi hj]
          have hs := lv_step (A := A) (B := B) (i := i) (j := j) (by omega) (by omega)
          rw [zIf_e]
          refine ⟨decide (A[i]? = B[j]?), ?_, ite_i (fun e3 => ?_) fun e3 => ?_⟩
          · simp only [fz7, e_qI, e_qIC, e_add1, e_add2, e_add3, e_add4, e_catL, e_aug1, e_aug2, e_mul1, e_mul2, e_rep, e_div, e_mod, e_neg, e_ord1, e_ord2, e_isn, e_nin, e_non1, e_non2, e_non3, e_non4, e_non5, e_non6, e_tru1, e_tru2, e_tru3, e_tru4, e_tru5, e_tru6, e_tru7, e_sl1, e_sl2, e_sl3, e_sl4, e_rev, e_it1, e_it2, e_it3, e_len1, e_len2, e_len3, e_len4, e_int1, e_int2, e_int3, e_min, e_max, e_min3, e_lst1, e_lst2, e_tup1, e_tup2, e_str, e_abs, e_lenS, e_ixS, Mi.qLt, Mi.qLe, Mi.qGt, Mi.qGe, List.map_cons, List.map_nil, List.length_map, true_and, and_true, Bool.false_eq_true, if_false, if_true, Bool.not_true, Bool.not_false, qEq_int, qEq_str, qEq_bl, qNe_int, qNe_str, qNe_bl, line0, line1, line2, line3, line4, line6, line7, line10, isi_list_lst, isi_list_tup, isi_list_non, isi_list_str, isi_list_int, isi_tup_tup, isi_bool_bl, isi_bool_int, isi_int_int, isi_int_bl, isi_int_non, isi_int_str, isi_str_str, isi_str_non, isi_str_int, startE_c, startE_n, startE_e, wFor_e, wLc_e, wipeE, wgName, wgTup, wgCons, wgNil, List.getElem?_cons_zero, List.getElem?_cons_succ, List.set_cons_zero, List.set_cons_succ, List.length_cons, List.length_nil, Mi.wC, Mi.wVar, Mi.wVarO, Mi.wOp, Mi.wUn, Mi.wCmp, Mi.wCmpT, Mi.wChainT, Mi.wChain, Mi.wTru, Mi.wAndT, Mi.wOrT, Mi.wNotT, Mi.wAnd, Mi.wOr, Mi.wNot, Mi.wIfE, Mi.wNoPart, Mi.wPart, Mi.wSl, Mi.wNil, Mi.wCons, Mi.wTup, Mi.wLst, Mi.wNext, Mi.wSeq, Mi.wFreeze, Mi.wForget, Mi.wBreak, Mi.wCont, Mi.wRet, Mi.wRetO, Mi.wRetN, Mi.wDrop, Mi.wIf, Mi.wNever, Mi.wAsg, Mi.wSetO, Mi.wPar, Mi.wAug, Mi.wApp, Mi.wSetIx, Mi.wExt, Mi.wItems, Mi.wRng1, Mi.wRng2, Mi.wRng3, Mi.wEnum, Mi.wZip, Mi.wYes, Mi.wCall, Mi.wCallX, Mi.wB2, Mi.wMin3, Mi.wIsi, Mi.wGuard, Mi.wGuardD, Mi.wRaise]
            refine qIx_lst (str_get (show i < A.length by omega)) (qIx_lst (str_get (show j < B.length by omega)) ?_)
            rw [qEq_str]
            simp [show i < A.length by omega, show j < B.length by omega]
          · have e3 := of_decide_eq_true e3
            have e4 : A[i]'(by omega) = B[j]'(by omega) := by simpa [show i < A.length by omega, show j < B.length by omega] using e3
            rw [if_pos e4] at hs
            unfold zM
            rw [zSet_e]
            refine ⟨i, rowOf (B.length + 1) _ i, rfl, gOf_get hi, ?_⟩
            simp only [fz7, row_of hi, e_qI, e_qIC, e_add1, e_add2, e_add3, e_add4, e_catL, e_aug1, e_aug2, e_mul1, e_mul2, e_rep, e_div, e_mod, e_neg, e_ord1, e_ord2, e_isn, e_nin, e_non1, e_non2, e_non3, e_non4, e_non5, e_non6, e_tru1, e_tru2, e_tru3, e_tru4, e_tru5, e_tru6, e_tru7, e_sl1, e_sl2, e_sl3, e_sl4, e_rev, e_it1, e_it2, e_it3, e_len1, e_len2, e_len3, e_len4, e_int1, e_int2, e_int3, e_min, e_max, e_min3, e_lst1, e_lst2, e_tup1, e_tup2, e_str, e_abs, e_lenS, e_ixS, Mi.qLt, Mi.qLe, Mi.qGt, Mi.qGe, List.map_cons, List.map_nil, List.length_map, true_and, and_true, Bool.false_eq_true, if_false, if_true, Bool.not_true, Bool.not_false, qEq_int, qEq_str, qEq_bl, qNe_int, qNe_str, qNe_bl, line0, line1, line2, line3, line4, line6, line7, line10, isi_list_lst, isi_list_tup, isi_list_non, isi_list_str, isi_list_int, isi_tup_tup, isi_bool_bl, isi_bool_int, isi_int_int, isi_int_bl, isi_int_non, isi_int_str, isi_str_str, isi_str_non, isi_str_int, startE_c, startE_n, startE_e, wFor_e, wLc_e, wipeE, wgName, wgTup, wgCons, wgNil, List.getElem?_cons_zero, List.getElem?_cons_succ, List.set_cons_zero, List.set_cons_succ, List.length_cons, List.length_nil, Mi.wC, Mi.wVar, Mi.wVarO, Mi.wOp, Mi.wUn, Mi.wCmp, Mi.wCmpT, Mi.wChainT, Mi.wChain, Mi.wTru, Mi.wAndT, Mi.wOrT, Mi.wNotT, Mi.wAnd, Mi.wOr, Mi.wNot, Mi.wIfE, Mi.wNoPart, Mi.wPart, Mi.wSl, Mi.wNil, Mi.wCons, Mi.wTup, Mi.wLst, Mi.wNext, Mi.wSeq, Mi.wFreeze, Mi.wForget, Mi.wBreak, Mi.wCont, Mi.wRet, Mi.wRetO, Mi.wRetN, Mi.wDrop, Mi.wIf, Mi.wNever, Mi.wAsg, Mi.wSetO, Mi.wPar, Mi.wAug, Mi.wApp, Mi.wSetIx, Mi.wExt, Mi.wItems, Mi.wRng1, Mi.wRng2, Mi.wRng3, Mi.wEnum, Mi.wZip, Mi.wYes, Mi.wCall, Mi.wCallX, Mi.wB2, Mi.wMin3, Mi.wIsi, Mi.wGuard, Mi.wGuardD, Mi.wRaise]
            refine qIx_lst (rowOf_get hj) ?_
            refine qIx_lst (i := i + 1) (gOf_getD hi2) ?_
            refine qIx_lst (i := j + 1) (rowOf_get hj2) ?_
            simp only [e_qI, e_qIC, e_add1, e_add2, e_add3, e_add4, e_catL, e_aug1, e_aug2, e_mul1, e_mul2, e_rep, e_div, e_mod, e_neg, e_ord1, e_ord2, e_isn, e_nin, e_non1, e_non2, e_non3, e_non4, e_non5, e_non6, e_tru1, e_tru2, e_tru3, e_tru4, e_tru5, e_tru6, e_tru7, e_sl1, e_sl2, e_sl3, e_sl4, e_rev, e_it1, e_it2, e_it3, e_len1, e_len2, e_len3, e_len4, e_int1, e_int2, e_int3, e_min, e_max, e_min3, e_lst1, e_lst2, e_tup1, e_tup2, e_str, e_abs, e_lenS, e_ixS, Mi.qLt, Mi.qLe, Mi.qGt, Mi.qGe, List.map_cons, List.map_nil, List.length_map, true_and, and_true, Bool.false_eq_true, if_false, if_true, Bool.not_true, Bool.not_false, qEq_int, qEq_str, qEq_bl, qNe_int, qNe_str, qNe_bl, line0, line1, line2, line3, line4, line6, line7, line10, isi_list_lst, isi_list_tup, isi_list_non, isi_list_str, isi_list_int, isi_tup_tup, isi_bool_bl, isi_bool_int, isi_int_int, isi_int_bl, isi_int_non, isi_int_str, isi_str_str, isi_str_non, isi_str_int, startE_c, startE_n, startE_e, wFor_e, wLc_e, wipeE, wgName, wgTup, wgCons, wgNil, List.getElem?_cons_zero, List.getElem?_cons_succ, List.set_cons_zero, List.set_cons_succ, List.length_cons, List.length_nil, Mi.wC, Mi.wVar, Mi.wVarO, Mi.wOp, Mi.wUn, Mi.wCmp, Mi.wCmpT, Mi.wChainT, Mi.wChain, Mi.wTru, Mi.wAndT, Mi.wOrT, Mi.wNotT, Mi.wAnd, Mi.wOr, Mi.wNot, Mi.wIfE, Mi.wNoPart, Mi.wPart, Mi.wSl, Mi.wNil, Mi.wCons, Mi.wTup, Mi.wLst, Mi.wNext, Mi.wSeq, Mi.wFreeze, Mi.wForget, Mi.wBreak, Mi.wCont, Mi.wRet, Mi.wRetO, Mi.wRetN, Mi.wDrop, Mi.wIf, Mi.wNever, Mi.wAsg, Mi.wSetO, Mi.wPar, Mi.wAug, Mi.wApp, Mi.wSetIx, Mi.wExt, Mi.wItems, Mi.wRng1, Mi.wRng2, Mi.wRng3, Mi.wEnum, Mi.wZip, Mi.wYes, Mi.wCall, Mi.wCallX, Mi.wB2, Mi.wMin3, Mi.wIsi, Mi.wGuard, Mi.wGuardD, Mi.wRaise]
            refine ⟨_, rfl, j, rfl, by rw [rowOf_len]; exact hj, ?_⟩
            simp only [gOf_set hi hj]
            refine step _ (fun x y h => by simp only [upd2, if_neg h]) ?_
            simp only [upd2, and_self, if_true]
            rw [if_neg (by omega), h1, h2, h3, hs]
            omega
          · have e3 := of_decide_eq_false e3
            have e4 : ¬ A[i]'(by omega) = B[j]'(by omega) := fun z => e3 (by simp [show i < A.length by omega, show j < B.length by omega, z])
            rw [if_neg e4] at hs
            rw [zNext_e]
            refine step _ (fun x y h => if_neg h) ?_
            simp only [upd2, and_self, if_true]
            rw [h1, h2, hs]
            omega
    · rintro z' ⟨f, oi, c4, rfl, hf1, hf2⟩
      refine ⟨f, oi, _, _, rfl, fun i' a1 a2 y a3 => ?_⟩
      by_cases e : i' = i
      · rw [e]; exact hf2 y a3 (by omega)
      · exact hf1 i' a1 (by omega) y a3
  · rintro z' ⟨f, oi, c3, c4, rfl, hf⟩

    show Q (.lst ((gOf (A.length + 1) (B.length + 1) f).map D.lst))
    rw [gOf_rows fun i h1 j h2 => hf i h1 (by omega) j h2]
    exact h
theorem ok_law_least {f : Addr} {fd : FuncData} (F : Fun K "_law_least" "_law_least" s_law_least f fd) (T : Txt mg) : FnOk P w K mg base CX0 (0 + 1) f fd ["first", "second"] (spD K g false c_least) := by
  refine Mi.Fun.data F sc_law_least (fun ds EX Q ⟨_, _, h, _⟩ => by rw [h]; rfl) (fun cdv A outer s H E S0 H0 hr => mz_init (r := 2) (o := 6) (u := zU) (own := [("k", 5)]) rfl sc_law_least.nd (mi_range1 rfl T.range (mo_of (me_add (mo_of (me_len T.len rfl (mo_var 0))) (mo_of me_int)))) (blkOk_by (N := N_law_least) (sc := defScope s_law_least) (by decide +kernel)) (fun _ _ _ _ _ => (mg_name 5 sc_law_least.nd))
      (fun _ _ _ _ _ => (mf_mul (mo_of (me_lst (ma_cons me_int ma_nil))) (mo_of (me_add (mo_of (me_len T.len rfl (mo_var 1))) (mo_of me_int))))) (by
    refine mz_cons (mz_for 3 (by decide) (by decide) PassesOwn.never rfl (mi_range3 rfl T.range (mo_of (me_len T.len rfl (mo_var 0))) (mo_of (me_neg (mo_of me_int))) (mo_of (me_neg (mo_of me_int)))) (mg_name 3 sc_law_least.nd) ?_) (mz_one (mz_ret rfl))
    refine mz_one (mz_for 4 (by decide) (by decide) PassesOwn.never rfl (mi_range3 rfl T.range (mo_of (me_len T.len rfl (mo_var 1))) (mo_of (me_neg (mo_of me_int))) (mo_of (me_neg (mo_of me_int)))) (mg_name 4 sc_law_least.nd) ?_)
    refine mz_cons (mz_row sc_law_least.nd (mo_var 3)) (mz_one (mz_if (mt_eq hr.units (mo_var 3) (mo_of (me_len T.len rfl (mo_var 0)))) ?_ ?_))
    · exact mz_one (mz_set hr.units (me_sub (mo_of (me_len T.len rfl (mo_var 1))) (mo_var 4)) (mo_var 4))
    · refine mz_one (mz_if (mt_eq hr.units (mo_var 4) (mo_of (me_len T.len rfl (mo_var 1)))) ?_ ?_)
      · exact mz_one (mz_set hr.units (me_sub (mo_of (me_len T.len rfl (mo_var 0))) (mo_var 3)) (mo_var 4))
      · refine mz_cons (mz_set hr.units (me_add (mo_of me_int) (mo_of (me_min2 rfl T.min rfl (mo_of (me_ix hr.units (mo_of (me_ix hr.units (mo_var 2) (mo_of (me_add (mo_var 3) (mo_of me_int))))) (mo_var 4))) (mo_of (me_ix hr.units (mo_var 6) (mo_of (me_add (mo_var 4) (mo_of me_int)))))))) (mo_var 4)) ?_
        refine mz_one (mz_if (mt_eq hr.units (mo_of (me_ix hr.units (mo_var 0) (mo_var 3))) (mo_of (me_ix hr.units (mo_var 1) (mo_var 4)))) ?_ mz_nil)
        exact mz_one (mz_set hr.units (me_min2 rfl T.min rfl (mo_of (me_ix hr.units (mo_var 6) (mo_var 4))) (mo_of (me_ix hr.units (mo_of (me_ix hr.units (mo_var 2) (mo_of (me_add (mo_var 3) (mo_of me_int))))) (mo_of (me_add (mo_var 4) (mo_of me_int)))))) (mo_var 4)))) (fun ds Q h => ?_) (fun ds EX Q h => h)
  obtain ⟨A, B, rfl, hA, hB, h⟩ := h
  rw [show startE N_law_least [SS A, SS B] = [st (SS A), st (SS B), none, none, none, none, none] from rfl]
  exact wp_least hA hB h
end
end K86
namespace K86
open PySem L2 Evl Mi
abbrev s_init : Stmt := inClass (topS 3) 0
theorem sc_init : NdefX.NScope ["self", "limit", "__class__"] ["self", "limit"] ["__class__"] (defScope s_init) := NdefX.nscope_by (by decide +kernel)
theorem all_mk {P : Program} {w : World} {K : PySem.W.Frag} {h : Heap} {mg : Str → Option Value} {fa : Addr} (X : K.In h) (G : h.Ns mainGlobals mg) (hfa : mg "law" = some (.ref fa))
    {f_least_ahead : Addr} {od_least_ahead an_least_ahead : Option Addr} {sl_least_ahead : Array (Option Value)} {oc_least_ahead kV_least_ahead dc_least_ahead pm_least_ahead cd_least_ahead ct_least_ahead : Value} {f_first_way : Addr} {od_first_way an_first_way : Option Addr} {sl_first_way : Array (Option Value)} {oc_first_way kV_first_way dc_first_way pm_first_way cd_first_way ct_first_way : Value} {f_told_answer : Addr} {od_told_answer an_told_answer : Option Addr} {sl_told_answer : Array (Option Value)} {oc_told_answer kV_told_answer dc_told_answer pm_told_answer cd_told_answer ct_told_answer : Value} {f_check_sizes : Addr} {od_check_sizes an_check_sizes : Option Addr} {sl_check_sizes : Array (Option Value)} {oc_check_sizes kV_check_sizes dc_check_sizes pm_check_sizes cd_check_sizes ct_check_sizes : Value} {f_change_table : Addr} {od_change_table an_change_table : Option Addr} {sl_change_table : Array (Option Value)} {oc_change_table kV_change_table dc_change_table pm_change_table cd_change_table ct_change_table : Value} {f_change_of : Addr} {od_change_of an_change_of : Option Addr} {sl_change_of : Array (Option Value)} {oc_change_of kV_change_of dc_change_of pm_change_of cd_change_of ct_change_of : Value} {f_changes : Addr} {od_changes an_changes : Option Addr} {sl_changes : Array (Option Value)} {oc_changes kV_changes dc_changes pm_changes cd_changes ct_changes : Value} {f_change_count : Addr} {od_change_count an_change_count : Option Addr} {sl_change_count : Array (Option Value)} {oc_change_count kV_change_count dc_change_count pm_change_count cd_change_count ct_change_count : Value} {f_done : Addr} {od_done an_done : Option Addr} {sl_done : Array (Option Value)} {oc_done kV_done dc_done pm_done cd_done ct_done : Value} {f_are_changes : Addr} {od_are_changes an_are_changes : Option Addr} {sl_are_changes : Array (Option Value)} {oc_are_changes kV_are_changes dc_are_changes pm_are_changes cd_are_changes ct_are_changes : Value} {f_law_numbers : Addr} {od_law_numbers an_law_numbers : Option Addr} {sl_law_numbers : Array (Option Value)} {oc_law_numbers kV_law_numbers dc_law_numbers pm_law_numbers cd_law_numbers ct_law_numbers : Value} {f_law_least : Addr} {od_law_least an_law_least : Option Addr} {sl_law_least : Array (Option Value)} {oc_law_least kV_law_least dc_law_least pm_law_least cd_law_least ct_law_least : Value} {f_law_due : Addr} {od_law_due an_law_due : Option Addr} {sl_law_due : Array (Option Value)} {oc_law_due kV_law_due dc_law_due pm_law_due cd_law_due ct_law_due : Value} {f_law_right : Addr} {od_law_right an_law_right : Option Addr} {sl_law_right : Array (Option Value)} {oc_law_right kV_law_right dc_law_right pm_law_right cd_law_right ct_law_right : Value} {f_law_bent : Addr} {od_law_bent an_law_bent : Option Addr} {sl_law_bent : Array (Option Value)} {oc_law_bent kV_law_bent dc_law_bent pm_law_bent cd_law_bent ct_law_bent : Value} {f_law_refused : Addr} {od_law_refused an_law_refused : Option Addr} {sl_law_refused : Array (Option Value)} {oc_law_refused kV_law_refused dc_law_refused pm_law_refused cd_law_refused ct_law_refused : Value} {f_law : Addr} {od_law an_law : Option Addr} {sl_law : Array (Option Value)} {oc_law kV_law dc_law pm_law cd_law ct_law : Value}
    {C CB CI fI cda cc N : Addr} {nm q : Str} {bs : List Value} {sn : List Str} {sub : List Value} {ab : Bool} {col : Option Bool} {dd : Option Addr} {m0 m1 m2 m3 m5 : Option Value} {odI anI odC odD : Option Addr} {slI slC slD : Array (Option Value)} {ocI kVI dcI pmI ctI ocC ocD : Value} {vsD : Array Value} {file : Str} {tF tM tB : Tok}
    (ha_least_ahead : PySem.W.nsIn K mainGlobals "least_ahead" = some (some (.ref f_least_ahead)))
    (hl_least_ahead : K.lookup f_least_ahead = some ⟨oc_least_ahead, od_least_ahead, .func (PySem.W.fnOf "least_ahead" "least_ahead" (defArgs s_least_ahead) (defBody s_least_ahead) (defScope s_least_ahead) .none kV_least_ahead dc_least_ahead pm_least_ahead an_least_ahead cd_least_ahead ct_least_ahead), sl_least_ahead⟩)
    (hc_least_ahead : PySem.W.codeIn K cd_least_ahead "least_ahead" = true)
    (hk_least_ahead : PySem.W.keepIn K (.ref f_least_ahead) = true)
    (ha_first_way : PySem.W.nsIn K mainGlobals "first_way" = some (some (.ref f_first_way)))
    (hl_first_way : K.lookup f_first_way = some ⟨oc_first_way, od_first_way, .func (PySem.W.fnOf "first_way" "first_way" (defArgs s_first_way) (defBody s_first_way) (defScope s_first_way) .none kV_first_way dc_first_way pm_first_way an_first_way cd_first_way ct_first_way), sl_first_way⟩)
    (hc_first_way : PySem.W.codeIn K cd_first_way "first_way" = true)
    (hk_first_way : PySem.W.keepIn K (.ref f_first_way) = true)
    (ha_told_answer : PySem.W.nsIn K mainGlobals "told_answer" = some (some (.ref f_told_answer)))
    (hl_told_answer : K.lookup f_told_answer = some ⟨oc_told_answer, od_told_answer, .func (PySem.W.fnOf "told_answer" "told_answer" (defArgs s_told_answer) (defBody s_told_answer) (defScope s_told_answer) .none kV_told_answer dc_told_answer pm_told_answer an_told_answer cd_told_answer ct_told_answer), sl_told_answer⟩)
    (hc_told_answer : PySem.W.codeIn K cd_told_answer "told_answer" = true)
    (hk_told_answer : PySem.W.keepIn K (.ref f_told_answer) = true)
    (ha_check_sizes : PySem.W.nsIn K mainGlobals "check_sizes" = some (some (.ref f_check_sizes)))
    (hl_check_sizes : K.lookup f_check_sizes = some ⟨oc_check_sizes, od_check_sizes, .func (PySem.W.fnOf "check_sizes" "check_sizes" (defArgs s_check_sizes) (defBody s_check_sizes) (defScope s_check_sizes) .none kV_check_sizes dc_check_sizes pm_check_sizes an_check_sizes cd_check_sizes ct_check_sizes), sl_check_sizes⟩)
    (hc_check_sizes : PySem.W.codeIn K cd_check_sizes "check_sizes" = true)
    (hk_check_sizes : PySem.W.keepIn K (.ref f_check_sizes) = true)
    (ha_change_table : PySem.W.nsIn K mainGlobals "change_table" = some (some (.ref f_change_table)))
    (hl_change_table : K.lookup f_change_table = some ⟨oc_change_table, od_change_table, .func (PySem.W.fnOf "change_table" "change_table" (defArgs s_change_table) (defBody s_change_table) (defScope s_change_table) .none kV_change_table dc_change_table pm_change_table an_change_table cd_change_table ct_change_table), sl_change_table⟩)
    (hc_change_table : PySem.W.codeIn K cd_change_table "change_table" = true)
    (hk_change_table : PySem.W.keepIn K (.ref f_change_table) = true)
    (ha_change_of : PySem.W.nsIn K mainGlobals "change_of" = some (some (.ref f_change_of)))
    (hl_change_of : K.lookup f_change_of = some ⟨oc_change_of, od_change_of, .func (PySem.W.fnOf "change_of" "change_of" (defArgs s_change_of) (defBody s_change_of) (defScope s_change_of) .none kV_change_of dc_change_of pm_change_of an_change_of cd_change_of ct_change_of), sl_change_of⟩)
    (hc_change_of : PySem.W.codeIn K cd_change_of "change_of" = true)
    (hk_change_of : PySem.W.keepIn K (.ref f_change_of) = true)
    (ha_changes : PySem.W.nsIn K mainGlobals "changes" = some (some (.ref f_changes)))
    (hl_changes : K.lookup f_changes = some ⟨oc_changes, od_changes, .func (PySem.W.fnOf "changes" "changes" (defArgs s_changes) (defBody s_changes) (defScope s_changes) .none kV_changes dc_changes pm_changes an_changes cd_changes ct_changes), sl_changes⟩)
    (hc_changes : PySem.W.codeIn K cd_changes "changes" = true)
    (hk_changes : PySem.W.keepIn K (.ref f_changes) = true)
    (ha_change_count : PySem.W.nsIn K mainGlobals "change_count" = some (some (.ref f_change_count)))
    (hl_change_count : K.lookup f_change_count = some ⟨oc_change_count, od_change_count, .func (PySem.W.fnOf "change_count" "change_count" (defArgs s_change_count) (defBody s_change_count) (defScope s_change_count) .none kV_change_count dc_change_count pm_change_count an_change_count cd_change_count ct_change_count), sl_change_count⟩)
    (hc_change_count : PySem.W.codeIn K cd_change_count "change_count" = true)
    (hk_change_count : PySem.W.keepIn K (.ref f_change_count) = true)
    (ha_done : PySem.W.nsIn K mainGlobals "done" = some (some (.ref f_done)))
    (hl_done : K.lookup f_done = some ⟨oc_done, od_done, .func (PySem.W.fnOf "done" "done" (defArgs s_done) (defBody s_done) (defScope s_done) .none kV_done dc_done pm_done an_done cd_done ct_done), sl_done⟩)
    (hc_done : PySem.W.codeIn K cd_done "done" = true)
    (hk_done : PySem.W.keepIn K (.ref f_done) = true)
    (ha_are_changes : PySem.W.nsIn K mainGlobals "are_changes" = some (some (.ref f_are_changes)))
    (hl_are_changes : K.lookup f_are_changes = some ⟨oc_are_changes, od_are_changes, .func (PySem.W.fnOf "are_changes" "are_changes" (defArgs s_are_changes) (defBody s_are_changes) (defScope s_are_changes) .none kV_are_changes dc_are_changes pm_are_changes an_are_changes cd_are_changes ct_are_changes), sl_are_changes⟩)
    (hc_are_changes : PySem.W.codeIn K cd_are_changes "are_changes" = true)
    (hk_are_changes : PySem.W.keepIn K (.ref f_are_changes) = true)
    (ha_law_numbers : PySem.W.nsIn K mainGlobals "_law_numbers" = some (some (.ref f_law_numbers)))
    (hl_law_numbers : K.lookup f_law_numbers = some ⟨oc_law_numbers, od_law_numbers, .func (PySem.W.fnOf "_law_numbers" "_law_numbers" (defArgs s_law_numbers) (defBody s_law_numbers) (defScope s_law_numbers) .none kV_law_numbers dc_law_numbers pm_law_numbers an_law_numbers cd_law_numbers ct_law_numbers), sl_law_numbers⟩)
    (hc_law_numbers : PySem.W.codeIn K cd_law_numbers "_law_numbers" = true)
    (hk_law_numbers : PySem.W.keepIn K (.ref f_law_numbers) = true)
    (ha_law_least : PySem.W.nsIn K mainGlobals "_law_least" = some (some (.ref f_law_least)))
    (hl_law_least : K.lookup f_law_least = some ⟨oc_law_least, od_law_least, .func (PySem.W.fnOf "_law_least" "_law_least" (defArgs s_law_least) (defBody s_law_least) (defScope s_law_least) .none kV_law_least dc_law_least pm_law_least an_law_least cd_law_least ct_law_least), sl_law_least⟩)
    (hc_law_least : PySem.W.codeIn K cd_law_least "_law_least" = true)
    (hk_law_least : PySem.W.keepIn K (.ref f_law_least) = true)
    (ha_law_due : PySem.W.nsIn K mainGlobals "_law_due" = some (some (.ref f_law_due)))
    (hl_law_due : K.lookup f_law_due = some ⟨oc_law_due, od_law_due, .func (PySem.W.fnOf "_law_due" "_law_due" (defArgs s_law_due) (defBody s_law_due) (defScope s_law_due) .none kV_law_due dc_law_due pm_law_due an_law_due cd_law_due ct_law_due), sl_law_due⟩)
    (hc_law_due : PySem.W.codeIn K cd_law_due "_law_due" = true)
    (hk_law_due : PySem.W.keepIn K (.ref f_law_due) = true)
    (ha_law_right : PySem.W.nsIn K mainGlobals "_law_right" = some (some (.ref f_law_right)))
    (hl_law_right : K.lookup f_law_right = some ⟨oc_law_right, od_law_right, .func (PySem.W.fnOf "_law_right" "_law_right" (defArgs s_law_right) (defBody s_law_right) (defScope s_law_right) .none kV_law_right dc_law_right pm_law_right an_law_right cd_law_right ct_law_right), sl_law_right⟩)
    (hc_law_right : PySem.W.codeIn K cd_law_right "_law_right" = true)
    (hk_law_right : PySem.W.keepIn K (.ref f_law_right) = true)
    (ha_law_bent : PySem.W.nsIn K mainGlobals "_law_bent" = some (some (.ref f_law_bent)))
    (hl_law_bent : K.lookup f_law_bent = some ⟨oc_law_bent, od_law_bent, .func (PySem.W.fnOf "_law_bent" "_law_bent" (defArgs s_law_bent) (defBody s_law_bent) (defScope s_law_bent) .none kV_law_bent dc_law_bent pm_law_bent an_law_bent cd_law_bent ct_law_bent), sl_law_bent⟩)
    (hc_law_bent : PySem.W.codeIn K cd_law_bent "_law_bent" = true)
    (hk_law_bent : PySem.W.keepIn K (.ref f_law_bent) = true)
    (ha_law_refused : PySem.W.nsIn K mainGlobals "_law_refused" = some (some (.ref f_law_refused)))
    (hl_law_refused : K.lookup f_law_refused = some ⟨oc_law_refused, od_law_refused, .func (PySem.W.fnOf "_law_refused" "_law_refused" (defArgs s_law_refused) (defBody s_law_refused) (defScope s_law_refused) .none kV_law_refused dc_law_refused pm_law_refused an_law_refused cd_law_refused ct_law_refused), sl_law_refused⟩)
    (hc_law_refused : PySem.W.codeIn K cd_law_refused "_law_refused" = true)
    (hk_law_refused : PySem.W.keepIn K (.ref f_law_refused) = true)
    (ha_law : PySem.W.nsIn K mainGlobals "law" = some (some (.ref f_law)))
    (hl_law : K.lookup f_law = some ⟨oc_law, od_law, .func (PySem.W.fnOf "law" "law" (defArgs s_law) (defBody s_law) (defScope s_law) .none kV_law dc_law pm_law an_law cd_law ct_law), sl_law⟩)
    (hc_law : PySem.W.codeIn K cd_law "law" = true)
    (hk_law : PySem.W.keepIn K (.ref f_law) = true)
    (z_len : PySem.W.nsIn K mainGlobals "len" = some none)
    (z_range : PySem.W.nsIn K mainGlobals "range" = some none)
    (z_min : PySem.W.nsIn K mainGlobals "min" = some none)
    (z_isinstance : PySem.W.nsIn K mainGlobals "isinstance" = some none)
    (z_list : PySem.W.nsIn K mainGlobals "list" = some none)
    (z_zip : PySem.W.nsIn K mainGlobals "zip" = some none)
    (z_int : PySem.W.nsIn K mainGlobals "int" = some none)
    (z_tuple : PySem.W.nsIn K mainGlobals "tuple" = some none)
    (z_bool : PySem.W.nsIn K mainGlobals "bool" = some none)
    (z_super : PySem.W.nsIn K mainGlobals "super" = some none)
    (aM : PySem.W.nsIn K mainGlobals "MOST_CELLS" = some (some (.int 1900 tM)))
    (aB : PySem.W.nsIn K mainGlobals "BEST" = some (some (.str "best" tB)))
    (aT : PySem.W.nsIn K mainGlobals "TooMany" = some (some (.ref C)))
    (aN : PySem.W.nsIn K mainGlobals "BadNumber" = some (some (.ref CB)))
    (aI : PySem.W.nsIn K mainGlobals "InkError" = some (some (.ref CI)))
    (xL : K.lookup C = some (excClassObj nm q C N bs [.ref CI, .type "ValueError", .type "Exception", .type "BaseException", .type "object"] true sn sub ab col dd m0 m1 m2 m3 m5 "ValueError.__new__"))
    (sa : PySem.W.findIn K (.ref C) "__setattr__" = some (some (.builtin "object.__setattr__")))
    (ga : PySem.W.findIn K (.ref C) "__getattribute__" = some (some (.builtin "BaseException.__getattribute__")))
    (gg : PySem.W.findIn K (.ref C) "__getattr__" = some none)
    (nL : PySem.W.findIn K (.ref C) "limit" = some none)
    (cl : PySem.W.findIn K (.ref C) "__class__" = some (some (.builtin "object.__class__")))
    (iC : PySem.W.findIn K (.ref C) "__init__" = some (some (.ref fI)))
    (gs : PySem.W.specialIn K (.builtin "object.__class__") "__get__" = some (some (.builtin "getset_descriptor.__get__")))
    (tk : PySem.W.takesIn K (.builtin "object.__class__") = some true)
    (mo : PySem.W.mroIn K C (.type "object") = some true)
    (sB : PySem.W.subIn K (.ref C) (.type "BaseException") = some true)
    (sV : PySem.W.subIn K (.ref C) (.type "ValueError") = some true)
    (sC : PySem.W.subIn K (.ref C) (.ref C) = some true)
    (mC : PySem.W.mroIn K C (.ref C) = some true)
    (hC : PySem.W.hasDictIn K C = true)
    (tC : PySem.W.typeIn K (.ref C) = some (.type "type"))
    (kC : PySem.W.keepIn K (.ref C) = true)
    (kt : PySem.W.kitOne K (.ref C) (.ref CB) = some false)
    (sup : PySem.W.ks_superIn K C C "__init__" = some (some (.builtin "ValueError.__init__")))
    (opq : PySem.W.nsIn K cStatics "thirdparty.any" = some none)
    (tI : PySem.W.typeIn K (.ref fI) = some (.type "function"))
    (lI : K.lookup fI = some ⟨ocI, odI, .func (PySem.W.ksFn "__init__" "TooMany.__init__" (defArgs s_init) (defBody s_init) (defScope s_init) .none kVI dcI pmI anI (.ref cda) ctI cc), slI⟩)
    (cI : PySem.W.codeIn K (.ref cda) "TooMany.__init__" = true)
    (lc : K.lookup cc = some ⟨ocC, odC, .cell (some (.ref C)), slC⟩)
    (ld : K.lookup cda = some ⟨ocD, odD, .fields vsD, slD⟩)
    (lf : vsD[2]? = some (.str file tF))
    (lg : ((P.main.file : Str) == file) = true)
    (lh : (P.main.scope.names.lookup ("super" : Str)).isSome = false) :
    ∃ fd : FuncData, (∀ (s : Shared) (v : Value), BindsTo s fd ⟨[v], []⟩ [("script", v)]) ∧ ∀ base : Heap, K.In base → base.Ns mainGlobals mg → FnOk P w K mg base CX0 7 fa fd ["script"] (spD K (gScr K) false c_law) := by
  have e := hfa.symm.trans (PySem.W.mg_of X G ha_law)
  cases e
  have T : Txt mg := ⟨PySem.W.mg_none_of X G z_len, PySem.W.mg_none_of X G z_range, PySem.W.mg_none_of X G z_min, PySem.W.mg_none_of X G z_isinstance, PySem.W.mg_none_of X G z_list, PySem.W.mg_none_of X G z_zip, PySem.W.mg_none_of X G z_int, PySem.W.mg_none_of X G z_tuple, PySem.W.mg_none_of X G z_bool, ⟨_, PySem.W.mg_of X G aM⟩, ⟨_, PySem.W.mg_of X G aB⟩⟩
  have oex : OexC K C := ⟨⟨nm, q, N, bs, _, sn, sub, ab, col, dd, m0, m1, m2, m3, m5, xL, rfl⟩, sa, sB, tC, kC⟩
  have SC : SupC K P C cc cda := ⟨oex, sup, sV, mC, opq, ⟨_, _, _, lc⟩, ⟨_, _, _, _, _, _, ld, lf, lg⟩, lh, z_super⟩
  have two : ExcTwo K C CB := ⟨⟨ga, gg, sB, hC, cl, gs, tk, mo⟩, ⟨ga, gg, sB, hC⟩, tC, sC, kt⟩
  have hsup : mg "super" = none := PySem.W.mg_none_of X G z_super
  have F_least_ahead := fun_mk (st := s_least_ahead) hl_least_ahead hc_least_ahead hk_least_ahead
  have b_least_ahead := F_least_ahead.binds (ps := ["table"]) fun _ _ _ _ _ _ us hl => match us, hl with | [_], _ => rfl
  have F_first_way := fun_mk (st := s_first_way) hl_first_way hc_first_way hk_first_way
  have b_first_way := F_first_way.binds (ps := ["table", "ahead"]) fun _ _ _ _ _ _ us hl => match us, hl with | [_, _], _ => rfl
  have F_told_answer := fun_mk (st := s_told_answer) hl_told_answer hc_told_answer hk_told_answer
  have b_told_answer := F_told_answer.binds (ps := ["table"]) fun _ _ _ _ _ _ us hl => match us, hl with | [_], _ => rfl
  have F_check_sizes := fun_mk (st := s_check_sizes) hl_check_sizes hc_check_sizes hk_check_sizes
  have b_check_sizes := F_check_sizes.binds (ps := ["first", "second"]) fun _ _ _ _ _ _ us hl => match us, hl with | [_, _], _ => rfl
  have F_change_table := fun_mk (st := s_change_table) hl_change_table hc_change_table hk_change_table
  have b_change_table := F_change_table.binds (ps := ["first", "second"]) fun _ _ _ _ _ _ us hl => match us, hl with | [_, _], _ => rfl
  have F_change_of := fun_mk (st := s_change_of) hl_change_of hc_change_of hk_change_of
  have b_change_of := F_change_of.binds (ps := ["first", "second", "at", "behind"]) fun _ _ _ _ _ _ us hl => match us, hl with | [_, _, _, _], _ => rfl
  have F_changes := fun_mk (st := s_changes) hl_changes hc_changes hk_changes
  have b_changes := F_changes.binds (ps := ["first", "second"]) fun _ _ _ _ _ _ us hl => match us, hl with | [_, _], _ => rfl
  have F_change_count := fun_mk (st := s_change_count) hl_change_count hc_change_count hk_change_count
  have b_change_count := F_change_count.binds (ps := ["first", "second"]) fun _ _ _ _ _ _ us hl => match us, hl with | [_, _], _ => rfl
  have F_done := fun_mk (st := s_done) hl_done hc_done hk_done
  have b_done := F_done.binds (ps := ["first", "second", "listed"]) fun _ _ _ _ _ _ us hl => match us, hl with | [_, _, _], _ => rfl
  have F_are_changes := fun_mk (st := s_are_changes) hl_are_changes hc_are_changes hk_are_changes
  have b_are_changes := F_are_changes.binds (ps := ["first", "second", "value"]) fun _ _ _ _ _ _ us hl => match us, hl with | [_, _, _], _ => rfl
  have F_law_numbers := fun_mk (st := s_law_numbers) hl_law_numbers hc_law_numbers hk_law_numbers
  have b_law_numbers := F_law_numbers.binds (ps := ["script", "at", "count"]) fun _ _ _ _ _ _ us hl => match us, hl with | [_, _, _], _ => rfl
  have F_law_least := fun_mk (st := s_law_least) hl_law_least hc_law_least hk_law_least
  have b_law_least := F_law_least.binds (ps := ["first", "second"]) fun _ _ _ _ _ _ us hl => match us, hl with | [_, _], _ => rfl
  have F_law_due := fun_mk (st := s_law_due) hl_law_due hc_law_due hk_law_due
  have b_law_due := F_law_due.binds (ps := ["first", "second"]) fun _ _ _ _ _ _ us hl => match us, hl with | [_, _], _ => rfl
  have F_law_right := fun_mk (st := s_law_right) hl_law_right hc_law_right hk_law_right
  have b_law_right := F_law_right.binds (ps := ["first", "second", "value"]) fun _ _ _ _ _ _ us hl => match us, hl with | [_, _, _], _ => rfl
  have F_law_bent := fun_mk (st := s_law_bent) hl_law_bent hc_law_bent hk_law_bent
  have b_law_bent := F_law_bent.binds (ps := ["told", "numbers"]) fun _ _ _ _ _ _ us hl => match us, hl with | [_, _], _ => rfl
  have F_law_refused := fun_mk (st := s_law_refused) hl_law_refused hc_law_refused hk_law_refused
  have b_law_refused := F_law_refused.binds (ps := ["first", "second", "which"]) fun _ _ _ _ _ _ us hl => match us, hl with | [_, _, _], _ => rfl
  have F_law := fun_mk (st := s_law) hl_law hc_law hk_law
  have b_law := F_law.binds (ps := ["script"]) fun _ _ _ _ _ _ us hl => match us, hl with | [_], _ => rfl
  refine ⟨PySem.W.fnOf "law" "law" (defArgs s_law) (defBody s_law) (defScope s_law) .none kV_law dc_law pm_law an_law cd_law ct_law, fun s v => .of_eq rfl, fun base _ _ => ?_⟩
  have oI : FnOk P w K mg base CX0 1 fI _ ["self", "limit"] (spInit C ["limit"]) := fn_init1 (k := 0) SC hsup lI cI sc_init rfl rfl rfl nL
  have Z : OwnX P w K mg base "TooMany" C ["limit"] 1 := ⟨oex, ⟨fI, _, _, iC, tI, oI, .all fun us hl => match us, hl with | [_, _], _ => rfl⟩, PySem.W.mg_of X G aT⟩
  have Z_ahead : Mi.Cal P w K mg base (gScr K) false "least_ahead" 1 c_ahead := ⟨f_least_ahead, _, _, ok_least_ahead F_least_ahead T, PySem.W.mg_of X G ha_least_ahead, hk_least_ahead, b_least_ahead⟩
  have Z_first : Mi.Cal P w K mg base (gScr K) false "first_way" 1 c_first := ⟨f_first_way, _, _, ok_first_way F_first_way T, PySem.W.mg_of X G ha_first_way, hk_first_way, b_first_way⟩
  have Z_told : Mi.Cal P w K mg base (gScr K) false "told_answer" 2 c_told := ⟨f_told_answer, _, _, ok_told_answer F_told_answer T Z_ahead Z_first, PySem.W.mg_of X G ha_told_answer, hk_told_answer, b_told_answer⟩
  have Z_check : Mi.CalX P w K mg base (gScr K) false "check_sizes" 3 (c_check C) := ⟨f_check_sizes, _, _, ok_check_sizes F_check_sizes T Z, PySem.W.mg_of X G ha_check_sizes, hk_check_sizes, b_check_sizes⟩
  have Z_table : Mi.Cal P w K mg base (gScr K) false "change_table" 1 c_table := ⟨f_change_table, _, _, ok_change_table F_change_table T, PySem.W.mg_of X G ha_change_table, hk_change_table, b_change_table⟩
  have Z_of : Mi.Cal P w K mg base (gScr K) false "change_of" 1 c_change_of := ⟨f_change_of, _, _, ok_change_of F_change_of T, PySem.W.mg_of X G ha_change_of, hk_change_of, b_change_of⟩
  have Z_changes : Mi.CalX P w K mg base (gScr K) true "changes" 4 (c_changes C) := ⟨f_changes, _, _, ok_changes F_changes T Z_check Z_told Z_table Z_of, PySem.W.mg_of X G ha_changes, hk_changes, b_changes⟩
  have Z_count : Mi.CalX P w K mg base (gScr K) false "change_count" 5 (c_count C) := ⟨f_change_count, _, _, ok_change_count F_change_count T Z_changes, PySem.W.mg_of X G ha_change_count, hk_change_count, b_change_count⟩
  have Z_done : Mi.Cal P w K mg base (gScr K) false "done" 1 c_done := ⟨f_done, _, _, ok_done F_done T, PySem.W.mg_of X G ha_done, hk_done, b_done⟩
  have Z_are : Mi.Cal P w K mg base (gScr K) false "are_changes" 1 c_are := ⟨f_are_changes, _, _, ok_are_changes F_are_changes T, PySem.W.mg_of X G ha_are_changes, hk_are_changes, b_are_changes⟩
  have Z_numbers : Mi.Cal P w K mg base (gScr K) false "_law_numbers" 1 c_numbers := ⟨f_law_numbers, _, _, ok_law_numbers F_law_numbers T (hscr K), PySem.W.mg_of X G ha_law_numbers, hk_law_numbers, b_law_numbers⟩
  have Z_least : Mi.Cal P w K mg base (gScr K) false "_law_least" 2 c_least := ⟨f_law_least, _, _, (ok_law_least F_law_least T).mono (by decide), PySem.W.mg_of X G ha_law_least, hk_law_least, b_law_least⟩
  have Z_due : Mi.Cal P w K mg base (gScr K) false "_law_due" 3 c_due := ⟨f_law_due, _, _, ok_law_due F_law_due T Z_least, PySem.W.mg_of X G ha_law_due, hk_law_due, b_law_due⟩
  have Z_right : Mi.Cal P w K mg base (gScr K) false "_law_right" 1 c_are := ⟨f_law_right, _, _, ok_law_right F_law_right T, PySem.W.mg_of X G ha_law_right, hk_law_right, b_law_right⟩
  have Z_bent : Mi.Cal P w K mg base (gScr K) false "_law_bent" 1 c_bent := ⟨f_law_bent, _, _, ok_law_bent F_law_bent T, PySem.W.mg_of X G ha_law_bent, hk_law_bent, b_law_bent⟩
  have Z_ref : Mi.Cal P w K mg base (gScr K) false "_law_refused" 6 c_refused := ⟨f_law_refused, _, _, ok_law_refused F_law_refused T Z_changes Z_count two nL (PySem.W.mg_of X G aN) (PySem.W.mg_of X G aT), PySem.W.mg_of X G ha_law_refused, hk_law_refused, b_law_refused⟩
  exact ok_law F_law T (hscr K) Z_numbers Z_due Z_changes Z_done Z_count Z_bent Z_are Z_right Z_ref
theorem law_sp (K : PySem.W.Frag) (H : Hp) (a : Addr) (ns : List Int) (hS : SqL K H a (ns.map V.int)) : spD K (gScr K) false c_law [.ref a] H (fun v _ => v = .bl true) fun _ _ _ => False :=
  ⟨H, [.ext 0 (.lst (ns.map D.int))], fun _ => False, fun d => d = .bl true, Ex.refl _, .cons (.ext ⟨rfl, ns, rfl, hS⟩) .nil, ⟨ns, rfl, rfl⟩, fun d v S' H' rt hd => by
    have r := rt.r
    rw [if_neg Bool.false_ne_true, hd] at r
    cases r
    rfl, fun cls d H' z => by
    obtain ⟨x, _, hx, _⟩ := z.out
    exact hx⟩
theorem walk {l : PySem.W.OpenLaw} {q : Program} {loose : List Str} {XP : (Str → Option Value) → Heap → Prop} {YP : World → Heap → Prop} {d : DefRec} {K : Params → PySem.W.Frag} (hn : l.most = some 63) (hdf : d.params.defaults = [])
    (hY : ∀ (w : World) (h : Heap), YP w h → (K w.params).In h)
    (F : ∀ (w : World) (mg : Str → Option Value) (fa : Addr) (h : Heap), (K w.params).In h → h.Ns mainGlobals mg → mg d.name = some (.ref fa) →
      ∃ fd : FuncData, (∀ (s : Shared) (u : Value), BindsTo s fd ⟨[u], []⟩ [("script", u)]) ∧ ∀ base : Heap, (K w.params).In base → base.Ns mainGlobals mg → FnOk l.prog w (K w.params) mg base CX0 7 fa fd ["script"] (spD (K w.params) (gScr (K w.params)) false c_law)) :
    PySem.W.WalkO q loose XP YP l.row.toRowW d [] (fun f vs => PySem.call f vs) :=
  L2.walk_of (n := 63) (k := 7) (x := "script") (CX := fun _ => CX0) (sp := fun w => spD (K w.params) (gScr (K w.params)) false c_law) hn (by decide) hdf ⟨rfl, by decide, by decide⟩ hY F (fun w H a ns _ _ hS => law_sp (K w.params) H a ns hS) fun _ _ _ _ _ z => z
end K86

open PySem PySem.W PyProof.Rows in
set_option maxRecDepth 100000 in
set_option maxHeartbeats 0 in
theorem PySem.Challenge.cw_inkedtrue_k86_least_changes_holds : PySem.Challenge.rw_inkedtrue_k86_least_changes.Holds := by
  w_on; o_law; k_head; (case hw => w_witness2)
  k_fill
  refine K86.walk (l := PySem.Challenge.rw_inkedtrue_k86_least_changes) rfl rfl (fun w h Y => PySem.W.kIn_of Y) ?F
  case F =>
    intro w mg fa h KX G hmg
    refine' K86.all_mk KX G hmg ?ha_least_ahead ?hl_least_ahead ?hc_least_ahead ?hk_least_ahead ?ha_first_way ?hl_first_way ?hc_first_way ?hk_first_way ?ha_told_answer ?hl_told_answer ?hc_told_answer ?hk_told_answer ?ha_check_sizes ?hl_check_sizes ?hc_check_sizes ?hk_check_sizes ?ha_change_table ?hl_change_table ?hc_change_table ?hk_change_table ?ha_change_of ?hl_change_of ?hc_change_of ?hk_change_of ?ha_changes ?hl_changes ?hc_changes ?hk_changes ?ha_change_count ?hl_change_count ?hc_change_count ?hk_change_count ?ha_done ?hl_done ?hc_done ?hk_done ?ha_are_changes ?hl_are_changes ?hc_are_changes ?hk_are_changes ?ha_law_numbers ?hl_law_numbers ?hc_law_numbers ?hk_law_numbers ?ha_law_least ?hl_law_least ?hc_law_least ?hk_law_least ?ha_law_due ?hl_law_due ?hc_law_due ?hk_law_due ?ha_law_right ?hl_law_right ?hc_law_right ?hk_law_right ?ha_law_bent ?hl_law_bent ?hc_law_bent ?hk_law_bent ?ha_law_refused ?hl_law_refused ?hc_law_refused ?hk_law_refused ?ha_law ?hl_law ?hc_law ?hk_law ?z_len ?z_range ?z_min ?z_isinstance ?z_list ?z_zip ?z_int ?z_tuple ?z_bool ?z_super ?aM ?aB ?aT ?aN ?aI ?xL ?sa ?ga ?gg ?nL ?cl ?iC ?gs ?tk ?mo ?sB ?sV ?sC ?mC ?hC ?tC ?kC ?kt ?sup ?opq ?tI ?lI ?cI ?lc ?ld ?lf ?lg ?lh
    (case ha_least_ahead => k_is)
    (case hl_least_ahead => k_is)
    (case hc_least_ahead => k_is)
    (case hk_least_ahead => k_is)
    (case ha_first_way => k_is)
    (case hl_first_way => k_is)
    (case hc_first_way => k_is)
    (case hk_first_way => k_is)
    (case ha_told_answer => k_is)
    (case hl_told_answer => k_is)
    (case hc_told_answer => k_is)
    (case hk_told_answer => k_is)
    (case ha_check_sizes => k_is)
    (case hl_check_sizes => k_is)
    (case hc_check_sizes => k_is)
    (case hk_check_sizes => k_is)
    (case ha_change_table => k_is)
    (case hl_change_table => k_is)
    (case hc_change_table => k_is)
    (case hk_change_table => k_is)
    (case ha_change_of => k_is)
    (case hl_change_of => k_is)
    (case hc_change_of => k_is)
    (case hk_change_of => k_is)
    (case ha_changes => k_is)
    (case hl_changes => k_is)
    (case hc_changes => k_is)
    (case hk_changes => k_is)
    (case ha_change_count => k_is)
    (case hl_change_count => k_is)
    (case hc_change_count => k_is)
    (case hk_change_count => k_is)
    (case ha_done => k_is)
    (case hl_done => k_is)
    (case hc_done => k_is)
    (case hk_done => k_is)
    (case ha_are_changes => k_is)
    (case hl_are_changes => k_is)
    (case hc_are_changes => k_is)
    (case hk_are_changes => k_is)
    (case ha_law_numbers => k_is)
    (case hl_law_numbers => k_is)
    (case hc_law_numbers => k_is)
    (case hk_law_numbers => k_is)
    (case ha_law_least => k_is)
    (case hl_law_least => k_is)
    (case hc_law_least => k_is)
    (case hk_law_least => k_is)
    (case ha_law_due => k_is)
    (case hl_law_due => k_is)
    (case hc_law_due => k_is)
    (case hk_law_due => k_is)
    (case ha_law_right => k_is)
    (case hl_law_right => k_is)
    (case hc_law_right => k_is)
    (case hk_law_right => k_is)
    (case ha_law_bent => k_is)
    (case hl_law_bent => k_is)
    (case hc_law_bent => k_is)
    (case hk_law_bent => k_is)
    (case ha_law_refused => k_is)
    (case hl_law_refused => k_is)
    (case hc_law_refused => k_is)
    (case hk_law_refused => k_is)
    (case ha_law => k_is)
    (case hl_law => k_is)
    (case hc_law => k_is)
    (case hk_law => k_is)
    (case z_len => k_is)
    (case z_range => k_is)
    (case z_min => k_is)
    (case z_isinstance => k_is)
    (case z_list => k_is)
    (case z_zip => k_is)
    (case z_int => k_is)
    (case z_tuple => k_is)
    (case z_bool => k_is)
    (case z_super => k_is)
    (case aM => k_is)
    (case aB => k_is)
    (case aT => k_is)
    (case aN => k_is)
    (case aI => k_is)
    (case xL => k_is)
    (case sa => k_is)
    (case ga => k_is)
    (case gg => k_is)
    (case nL => k_is)
    (case cl => k_is)
    (case iC => k_is)
    (case gs => k_is)
    (case tk => k_is)
    (case mo => k_is)
    (case sB => k_is)
    (case sV => k_is)
    (case sC => first | rfl | k_is)
    (case mC => first | rfl | k_is)
    (case hC => k_is)
    (case tC => k_is)
    (case kC => k_is)
    (case kt => kit_is)
    (case sup => ks_is)
    (case opq => k_is)
    (case tI => k_is)
    (case lI => k_is)
    (case cI => k_is)
    (case lc => k_is)
    (case ld => k_is)
    (case lf => rfl)
    (case lg => first | rfl | decide +kernel)
    (case lh => first | rfl | decide +kernel)
