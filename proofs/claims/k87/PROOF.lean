import PyProof.Rows.All
import Wide.All
import OpenK.AllK
import Wide.FinOn
import HandS.ForMost
import HandS.Evl
import HandS.Flow
import HandS.TupAny
import HandS.Wide
import HandS.Deep
import HandS.Style
import HandS.IsInst
import HandS.WordsDict
import HandS.Flt
import HandS.Zip
import HandS.WordsExc
import HandS.Small
import HandS.ExcInit
import HandS.Nested
import HandS.ExcField
import HandS.ExcIs
import HandS.TryOnly
import KE.KExcSuper
import PyProof.AtCode
import KE.KExcIs
import PyProof.Draws
import PyProof.EnumMake
import HandS.Conv
import HandS.More
import HandS.List
import HandS.SortRule
import HandS.SetTxt0
import HandS.TupSets
import HandS.Strs
import PyProof.Rows.SortShellAny
import HandS.Text
import PyProof.StrOps
import PyProof.StrBlock2
import PySem.Challenge.RW_inkedtrue_k87_near_words
import KE.RegKSuper
import KE.RegKIsAll
import HandS.Ends
set_option Elab.async false
set_option linter.all false
set_option maxRecDepth 100000
set_option maxHeartbeats 4000000
namespace Mi
open PySem L2 Evl

/-! ### data without a heap -/
inductive D where
  | non | bl (b : Bool) | int (i : Int) | str (x : Str) | lst (xs : List D) | tup (xs : List D) | dic (kvs : List (Key × D)) | ext (n : Nat) (a : D)

/-- what a value of an own kind (an instance, the script) stands for -/
structure G where
  R : Nat → Addr → Hp → D → Prop
  mono : ∀ n a (H H' : Hp) d, Ex H H' → R n a H d → R n a H' d

mutual
inductive Rep (K : PySem.W.Frag) (g : G) (S : Hp) : V → D → Prop
  | non : Rep K g S .non .non
  | bl (b : Bool) : Rep K g S (.bl b) (.bl b)
  | int (i : Int) : Rep K g S (.int i) (.int i)
  | str (x : Str) : Rep K g S (.str x) (.str x)
  | lst {a : Addr} {xs : List V} {ds : List D} : S a = some (.lst xs) → RepA K g S xs ds → Rep K g S (.ref a) (.lst ds)
  | tup {a : Addr} {xs : List V} {ds : List D} : SqT K S a xs → RepA K g S xs ds → Rep K g S (.ref a) (.tup ds)
  | dic {a : Addr} {kvs : List (Key × V)} {ds : List (Key × D)} : S a = some (.dK kvs) → RepK K g S kvs ds → Rep K g S (.ref a) (.dic ds)
  | ext {a : Addr} {n : Nat} {d : D} : g.R n a S d → Rep K g S (.ref a) (.ext n d)
inductive RepA (K : PySem.W.Frag) (g : G) (S : Hp) : List V → List D → Prop
  | nil : RepA K g S [] []
  | cons {v : V} {vs : List V} {d : D} {ds : List D} : Rep K g S v d → RepA K g S vs ds → RepA K g S (v :: vs) (d :: ds)
inductive RepK (K : PySem.W.Frag) (g : G) (S : Hp) : List (Key × V) → List (Key × D) → Prop
  | nil : RepK K g S [] []
  | cons {k : Key} {v : V} {vs : List (Key × V)} {d : D} {ds : List (Key × D)} : Rep K g S v d → RepK K g S vs ds → RepK K g S ((k, v) :: vs) ((k, d) :: ds)
end

section
variable {K : PySem.W.Frag} {g : G} {S S' H H' : Hp}
mutual
theorem Rep.mono (e : Ex S S') : ∀ {v : V} {d : D}, Rep K g S v d → Rep K g S' v d
  | _, _, .non => .non
  | _, _, .bl b => .bl b
  | _, _, .int i => .int i
  | _, _, .str x => .str x
  | _, _, .lst h r => .lst (e _ _ h) (RepA.mono e r)
  | _, _, .tup h r => .tup (ex_t e h) (RepA.mono e r)
  | _, _, .dic h r => .dic (e _ _ h) (RepK.mono e r)
  | _, _, .ext h => .ext (g.mono _ _ _ _ _ e h)
theorem RepA.mono (e : Ex S S') : ∀ {vs : List V} {ds : List D}, RepA K g S vs ds → RepA K g S' vs ds
  | _, _, .nil => .nil
  | _, _, .cons h r => .cons (Rep.mono e h) (RepA.mono e r)
theorem RepK.mono (e : Ex S S') : ∀ {vs : List (Key × V)} {ds : List (Key × D)}, RepK K g S vs ds → RepK K g S' vs ds
  | _, _, .nil => .nil
  | _, _, .cons h r => .cons (Rep.mono e h) (RepK.mono e r)
end
theorem RepA.len : ∀ {vs : List V} {ds : List D}, RepA K g S vs ds → vs.length = ds.length
  | _, _, .nil => rfl
  | _, _, .cons _ r => congrArg (· + 1) r.len
theorem RepK.len : ∀ {vs : List (Key × V)} {ds : List (Key × D)}, RepK K g S vs ds → vs.length = ds.length
  | _, _, .nil => rfl
  | _, _, .cons _ r => congrArg (· + 1) r.len
theorem RepA.append : ∀ {vs ws : List V} {ds es : List D}, RepA K g S vs ds → RepA K g S ws es → RepA K g S (vs ++ ws) (ds ++ es)
  | _, _, _, _, .nil, h => h
  | _, _, _, _, .cons h r, q => .cons h (r.append q)
theorem RepA.take : ∀ (n : Nat) {vs : List V} {ds : List D}, RepA K g S vs ds → RepA K g S (vs.take n) (ds.take n)
  | 0, _, _, _ => .nil
  | _ + 1, _, _, .nil => .nil
  | n + 1, _, _, .cons h r => .cons h (r.take n)
theorem RepA.drop : ∀ (n : Nat) {vs : List V} {ds : List D}, RepA K g S vs ds → RepA K g S (vs.drop n) (ds.drop n)
  | 0, _, _, h => h
  | _ + 1, _, _, .nil => .nil
  | n + 1, _, _, .cons _ r => r.drop n
theorem RepA.reverse {vs : List V} {ds : List D} (h : RepA K g S vs ds) : RepA K g S vs.reverse ds.reverse := by
  match h with
  | .nil => exact .nil
  | .cons h r =>
    rw [List.reverse_cons, List.reverse_cons]
    exact (RepA.reverse r).append (.cons h .nil)
theorem RepA.get : ∀ {vs : List V} {ds : List D} {i : Nat} {d : D}, RepA K g S vs ds → ds[i]? = some d → ∃ v, vs[i]? = some v ∧ Rep K g S v d
  | _, _, 0, _, .cons h _, e => by
    simp at e; subst e; exact ⟨_, rfl, h⟩
  | _, _, i + 1, _, .cons _ r, e => by
    obtain ⟨v, e1, h⟩ := RepA.get (i := i) r (by simpa using e)
    exact ⟨v, by simpa using e1, h⟩
  | _, _, _, _, .nil, e => by simp at e
theorem RepA.getV : ∀ {vs : List V} {ds : List D} {i : Nat} {v : V}, RepA K g S vs ds → vs[i]? = some v → ∃ d, ds[i]? = some d ∧ Rep K g S v d
  | _, _, 0, _, .cons h _, e => by
    simp at e; subst e; exact ⟨_, rfl, h⟩
  | _, _, i + 1, _, .cons _ r, e => by
    obtain ⟨v, e1, h⟩ := RepA.getV (i := i) r (by simpa using e)
    exact ⟨v, by simpa using e1, h⟩
  | _, _, _, _, .nil, e => by simp at e
theorem RepA.set {v : V} {d : D} (h : Rep K g S v d) : ∀ (i : Nat) {vs : List V} {ds : List D}, RepA K g S vs ds → RepA K g S (vs.set i v) (ds.set i d)
  | _, _, _, .nil => .nil
  | 0, _, _, .cons _ r => .cons h r
  | i + 1, _, _, .cons q r => .cons q (RepA.set h i r)
theorem RepA.rep {vs : List V} {ds : List D} (h : RepA K g S vs ds) : ∀ k : Nat, RepA K g S (List.replicate k vs).flatten (List.replicate k ds).flatten
  | 0 => .nil
  | k + 1 => by
    rw [List.replicate_succ, List.replicate_succ, List.flatten_cons, List.flatten_cons]
    exact h.append (h.rep k)
theorem RepA.dropLast {vs : List V} {ds : List D} (h : RepA K g S vs ds) : RepA K g S vs.dropLast ds.dropLast := by
  rw [List.dropLast_eq_take, List.dropLast_eq_take, h.len]; exact h.take _
theorem RepA.one {vs : List V} {d : D} (h : RepA K g S vs [d]) : ∃ v, vs = [v] ∧ Rep K g S v d := by
  cases h with
  | cons h r => cases r; exact ⟨_, rfl, h⟩
theorem RepA.two {vs : List V} {d e : D} (h : RepA K g S vs [d, e]) : ∃ v w, vs = [v, w] ∧ Rep K g S v d ∧ Rep K g S w e := by
  cases h with
  | cons h r => obtain ⟨w, rfl, q⟩ := r.one; exact ⟨_, _, rfl, h, q⟩
theorem RepA.three {vs : List V} {d e f : D} (h : RepA K g S vs [d, e, f]) : ∃ v w x, vs = [v, w, x] ∧ Rep K g S v d ∧ Rep K g S w e ∧ Rep K g S x f := by
  cases h with
  | cons h r => obtain ⟨w, x, rfl, q⟩ := r.two; exact ⟨_, _, _, rfl, h, q⟩
end

/-! ### the state of a body: names hold data; an owned list (dict) may be changed -/
structure Cell where
  d : D
  own : Bool := false
abbrev Env := List (Option Cell)
/-- a stable slot, an owned one -/
abbrev st (d : D) : Option Cell := some ⟨d, false⟩
abbrev ow (d : D) : Option Cell := some ⟨d, true⟩
structure Exc where
  cls : Addr
  fs : List (Str × D)
  bare : Bool := false
/-- a def's base: the heap at its entry, what was stable there -/
structure Bs where
  g : G
  S0 : Hp
  H0 : Hp
  EX : Exc → Prop
  fr : Bool

def OwnR (K : PySem.W.Frag) (g : G) (S H : Hp) (p : Addr) : D → Prop
  | .lst ds => ∃ xs, H p = some (.lst xs) ∧ RepA K g S xs ds
  | .dic ds => ∃ kvs, H p = some (.dK kvs) ∧ RepK K g S kvs ds
  | _ => False
def CellR (K : PySem.W.Frag) (b : Bs) (S H : Hp) (v : V) (c : Cell) : Prop :=
  if c.own = true then ∃ p, v = .ref p ∧ b.H0 p = none ∧ S p = none ∧ OwnR K b.g S H p c.d else Rep K b.g S v c.d

structure StR (K : PySem.W.Frag) (b : Bs) (δ : Env) (σ : L2.St) (S H : Hp) : Prop where
  sh : Ex S H
  h0 : Ex b.H0 H
  s0 : Ex b.S0 S
  old : ∀ p o, b.H0 p = some o → S p = b.S0 p
  len : δ.length = σ.length
  slot : ∀ (i : Nat) (c : Cell), δ[i]? = some (some c) → ∃ v, σ[i]? = some (some v) ∧ CellR K b S H v c
  sep : ∀ (i j : Nat) (ci cj : Cell) (p : Addr), i ≠ j → δ[i]? = some (some ci) → δ[j]? = some (some cj) → ci.own = true → cj.own = true → σ[i]? = some (some (.ref p)) → σ[j]? = some (some (.ref p)) → False

structure Grow (S H S' H' : Hp) : Prop where
  s : Ex S S'
  h : Ex H H'
  sh : Ex S' H'
  old : ∀ p o, H p = some o → S' p = S p
theorem Grow.refl {S H : Hp} (e : Ex S H) : Grow S H S H := ⟨Ex.refl _, Ex.refl _, e, fun _ _ _ => rfl⟩
theorem Grow.trans {S H S1 H1 S2 H2 : Hp} (a : Grow S H S1 H1) (b : Grow S1 H1 S2 H2) : Grow S H S2 H2 :=
  ⟨a.s.trans b.s, a.h.trans b.h, b.sh, fun p o e => (b.old p o (a.h p o e)).trans (a.old p o e)⟩
theorem none_of_ex {S H : Hp} {p : Addr} (e : Ex S H) (h : H p = none) : S p = none := fresh_back e h
/-- a new object, stable | owned -/
theorem Grow.new {S H : Hp} {p : Addr} {o : HO} (e : Ex S H) (h : H p = none) : Grow S H (upd S p o) (upd H p o) where
  s := Ex.new (none_of_ex e h)
  h := Ex.new h
  sh := fun a u q => by
    by_cases c : a = p
    · subst c; rw [upd_same] at q ⊢; exact q
    · rw [upd_ne c] at q ⊢; exact e a u q
  old := fun q u hq => by rw [upd_ne (ne_of_none hq h)]
theorem Grow.newO {S H : Hp} {p : Addr} {o : HO} (e : Ex S H) (h : H p = none) : Grow S H S (upd H p o) :=
  ⟨Ex.refl _, Ex.new h, e.trans (Ex.new h), fun _ _ _ => rfl⟩

section
variable {K : PySem.W.Frag} {g : G} {b : Bs} {S S' H H' : Hp} {δ : Env} {σ : L2.St}
theorem OwnR.mono {p : Addr} {d : D} (s : Ex S S') (h : Ex H H') (r : OwnR K g S H p d) : OwnR K g S' H' p d := by
  cases d with
  | lst ds => obtain ⟨xs, e, q⟩ := r; exact ⟨xs, h _ _ e, q.mono s⟩
  | dic ds => obtain ⟨xs, e, q⟩ := r; exact ⟨xs, h _ _ e, q.mono s⟩
  | _ => exact r.elim
theorem OwnR.there {p : Addr} {d : D} (r : OwnR K g S H p d) : ∃ o, H p = some o := by
  cases d with
  | lst ds => obtain ⟨xs, e, q⟩ := r; exact ⟨_, e⟩
  | dic ds => obtain ⟨xs, e, q⟩ := r; exact ⟨_, e⟩
  | _ => exact r.elim
theorem CellR.mono {v : V} {c : Cell} (gr : Grow S H S' H') (r : CellR K b S H v c) : CellR K b S' H' v c := by
  unfold CellR at r ⊢
  by_cases h : c.own = true
  · rw [if_pos h] at r ⊢
    obtain ⟨p, rfl, h0, s0, o⟩ := r
    obtain ⟨u, hu⟩ := o.there
    exact ⟨p, rfl, h0, (gr.old p u hu).trans s0, o.mono gr.s gr.h⟩
  · rw [if_neg h] at r ⊢
    exact r.mono gr.s
theorem StR.grow (I : StR K b δ σ S H) (gr : Grow S H S' H') : StR K b δ σ S' H' where
  sh := gr.sh
  h0 := I.h0.trans gr.h
  s0 := I.s0.trans gr.s
  old := fun p o e => (gr.old p o (I.h0 p o e)).trans (I.old p o e)
  len := I.len
  slot := fun i c e => let ⟨v, e1, r⟩ := I.slot i c e; ⟨v, e1, r.mono gr⟩
  sep := I.sep
/-- a stable value is stored -/
theorem StR.set (I : StR K b δ σ S H) {v : V} {d : D} (r : Rep K b.g S v d) (i : Nat) : StR K b (δ.set i (st d)) (σ.set i (some v)) S H where
  sh := I.sh
  h0 := I.h0
  s0 := I.s0
  old := I.old
  len := by rw [List.length_set, List.length_set, I.len]
  slot := fun j c e => by
    by_cases h : i = j
    · subst h
      by_cases hl : i < δ.length
      · rw [List.getElem?_set_self hl] at e
        cases e
        refine ⟨v, by rw [List.getElem?_set_self (by rw [← I.len]; exact hl)], ?_⟩
        unfold CellR
        rw [if_neg Bool.false_ne_true]
        exact r
      · rw [List.getElem?_eq_none (by rw [List.length_set]; omega)] at e
        cases e
    · rw [List.getElem?_set_ne h] at e ⊢
      exact I.slot j c e
  sep := fun j k cj ck p hjk ej ek oj ok sj sk => by
    have nj : j ≠ i := fun h => by
      subst h
      by_cases hl : j < δ.length
      · rw [List.getElem?_set_self hl] at ej; cases ej; cases oj
      · rw [List.getElem?_eq_none (by rw [List.length_set]; omega)] at ej; cases ej
    have nk : k ≠ i := fun h => by
      subst h
      by_cases hl : k < δ.length
      · rw [List.getElem?_set_self hl] at ek; cases ek; cases ok
      · rw [List.getElem?_eq_none (by rw [List.length_set]; omega)] at ek; cases ek
    rw [List.getElem?_set_ne (Ne.symm nj)] at ej sj
    rw [List.getElem?_set_ne (Ne.symm nk)] at ek sk
    exact I.sep j k cj ck p hjk ej ek oj ok sj sk
/-- a fresh object is stored and owned: S H told ahead of it -/
theorem StR.setO (I : StR K b δ σ S H) {p : Addr} {d : D} (gr : Grow S H S' H') (hp : H p = none) (sp : S' p = none) (r : OwnR K b.g S' H' p d) (i : Nat) : StR K b (δ.set i (ow d)) (σ.set i (some (.ref p))) S' H' where
  sh := gr.sh
  h0 := I.h0.trans gr.h
  s0 := I.s0.trans gr.s
  old := fun p o e => (gr.old p o (I.h0 p o e)).trans (I.old p o e)
  len := by rw [List.length_set, List.length_set, I.len]
  slot := fun j c e => by
    by_cases h : i = j
    · subst h
      by_cases hl : i < δ.length
      · rw [List.getElem?_set_self hl] at e
        cases e
        refine ⟨.ref p, by rw [List.getElem?_set_self (by rw [← I.len]; exact hl)], ?_⟩
        unfold CellR
        rw [if_pos rfl]
        exact ⟨p, rfl, fresh_back I.h0 hp, sp, r⟩
      · rw [List.getElem?_eq_none (by rw [List.length_set]; omega)] at e
        cases e
    · rw [List.getElem?_set_ne h] at e ⊢
      obtain ⟨v, e1, r⟩ := I.slot j c e
      exact ⟨v, e1, r.mono gr⟩
  sep := by
    have at' : ∀ j c, j ≠ i → δ[j]? = some (some c) → c.own = true → σ[j]? = some (some (.ref p)) → False := fun j c _ e o s => by
      obtain ⟨v, e1, r⟩ := I.slot j c e
      rw [s] at e1
      cases e1
      unfold CellR at r
      rw [if_pos o] at r
      obtain ⟨q, e2, _, _, ow⟩ := r
      cases e2
      obtain ⟨u, hu⟩ := ow.there
      rw [hp] at hu
      cases hu
    intro j k cj ck q hjk ej ek oj ok sj sk
    by_cases hj : j = i
    · subst hj
      have hk : k ≠ j := Ne.symm hjk
      rw [List.getElem?_set_ne (Ne.symm hk)] at ek sk
      by_cases hl : j < σ.length
      · rw [List.getElem?_set_self hl] at sj
        cases sj
        exact at' k ck hk ek ok sk
      · rw [List.getElem?_eq_none (by rw [List.length_set]; omega)] at sj; cases sj
    · rw [List.getElem?_set_ne (Ne.symm hj)] at ej sj
      by_cases hk : k = i
      · subst hk
        by_cases hl : k < σ.length
        · rw [List.getElem?_set_self hl] at sk
          cases sk
          exact at' j cj hj ej oj sj
        · rw [List.getElem?_eq_none (by rw [List.length_set]; omega)] at sk; cases sk
      · rw [List.getElem?_set_ne (Ne.symm hk)] at ek sk
        exact I.sep j k cj ck q hjk ej ek oj ok sj sk
/-- an owned object is changed -/
theorem StR.mut (I : StR K b δ σ S H) {i : Nat} {d d' : D} {p : Addr} {o : HO} (hd : δ[i]? = some (ow d)) (hs : σ[i]? = some (some (.ref p))) (hr : ∀ H', H' p = some o → OwnR K b.g S H' p d') : StR K b (δ.set i (ow d')) σ S (upd H p o) := by
  obtain ⟨v, e1, r⟩ := I.slot i ⟨d, true⟩ hd
  rw [hs] at e1
  cases e1
  unfold CellR at r
  rw [if_pos rfl] at r
  obtain ⟨q, e2, h0, s0, ow'⟩ := r
  cases e2
  have hil : i < δ.length := (List.getElem?_eq_some_iff.mp hd).1
  refine ⟨fun a u e => ?_, fun a u e => ?_, I.s0, I.old, by rw [List.length_set, I.len], fun j c e => ?_, fun j k cj ck q hjk ej ek oj ok sj sk => ?_⟩
  · rw [upd_ne (ne_of_none e s0)]; exact I.sh a u e
  · rw [upd_ne (ne_of_none e h0)]; exact I.h0 a u e
  · by_cases h : i = j
    · subst h
      rw [List.getElem?_set_self hil] at e
      cases e
      refine ⟨.ref p, hs, ?_⟩
      unfold CellR
      rw [if_pos rfl]
      exact ⟨p, rfl, h0, s0, hr _ upd_same⟩
    · rw [List.getElem?_set_ne h] at e
      obtain ⟨v, e1, r⟩ := I.slot j c e
      refine ⟨v, e1, ?_⟩
      unfold CellR at r ⊢
      by_cases ho : c.own = true
      · rw [if_pos ho] at r ⊢
        obtain ⟨q, rfl, h0', s0', ow2⟩ := r
        have nq : q ≠ p := fun z => by
          subst z
          exact I.sep j i c ⟨d, true⟩ q (Ne.symm h) e hd ho rfl e1 hs
        refine ⟨q, rfl, h0', s0', ?_⟩
        cases hc : c.d with
        | lst ds =>
          rw [hc] at ow2
          obtain ⟨xs, e3, q3⟩ := ow2
          exact ⟨xs, by rw [upd_ne nq]; exact e3, q3⟩
        | dic ds =>
          rw [hc] at ow2
          obtain ⟨xs, e3, q3⟩ := ow2
          exact ⟨xs, by rw [upd_ne nq]; exact e3, q3⟩
        | _ => rw [hc] at ow2; exact ow2.elim
      · rw [if_neg ho] at r ⊢
        exact r
  · have key : ∀ (l : Nat) (cl : Cell), (δ.set i (ow d'))[l]? = some (some cl) → cl.own = true → ∃ cl' : Cell, δ[l]? = some (some cl') ∧ cl'.own = true := fun l cl e o => by
      by_cases h : i = l
      · subst h; exact ⟨_, hd, rfl⟩
      · rw [List.getElem?_set_ne h] at e; exact ⟨cl, e, o⟩
    obtain ⟨cj', ej', oj'⟩ := key j cj ej oj
    obtain ⟨ck', ek', ok'⟩ := key k ck ek ok
    exact I.sep j k cj' ck' q hjk ej' ek' oj' ok' sj sk
/-- an owned object becomes stable -/
theorem StR.freeze (I : StR K b δ σ S H) {i : Nat} {d : D} (hd : δ[i]? = some (ow d)) : ∃ S', Ex S S' ∧ StR K b (δ.set i (st d)) σ S' H := by
  obtain ⟨v, e1, r⟩ := I.slot i ⟨d, true⟩ hd
  unfold CellR at r
  rw [if_pos rfl] at r
  obtain ⟨p, rfl, h0, s0, ow'⟩ := r
  have hil : i < δ.length := (List.getElem?_eq_some_iff.mp hd).1
  obtain ⟨o, ho⟩ := ow'.there
  have eS : Ex S (upd S p o) := Ex.new s0
  have rep : Rep K b.g (upd S p o) (.ref p) d := by
    cases d with
    | lst ds =>
      obtain ⟨xs, e, q⟩ := ow'
      rw [ho] at e
      cases e
      exact .lst upd_same (q.mono eS)
    | dic ds =>
      obtain ⟨xs, e, q⟩ := ow'
      rw [ho] at e
      cases e
      exact .dic upd_same (q.mono eS)
    | _ => exact ow'.elim
  refine ⟨upd S p o, eS, fun a u e => ?_, I.h0, I.s0.trans eS, fun q u e => ?_, by rw [List.length_set, I.len], fun j c e => ?_, fun j k cj ck q hjk ej ek oj ok sj sk => ?_⟩
  · by_cases c : a = p
    · subst c; rw [upd_same] at e; cases e; exact ho
    · rw [upd_ne c] at e; exact I.sh a u e
  · have nq : q ≠ p := fun z => by rw [z, h0] at e; cases e
    rw [upd_ne nq]; exact I.old q u e
  · by_cases h : i = j
    · subst h
      rw [List.getElem?_set_self hil] at e
      cases e
      refine ⟨.ref p, e1, ?_⟩
      unfold CellR
      rw [if_neg Bool.false_ne_true]
      exact rep
    · rw [List.getElem?_set_ne h] at e
      obtain ⟨v, e2, r⟩ := I.slot j c e
      refine ⟨v, e2, ?_⟩
      unfold CellR at r ⊢
      by_cases hc : c.own = true
      · rw [if_pos hc] at r ⊢
        obtain ⟨q, rfl, h0', s0', ow2⟩ := r
        have nq : q ≠ p := fun z => by
          subst z
          exact I.sep j i c ⟨d, true⟩ q (Ne.symm h) e hd hc rfl e2 e1
        exact ⟨q, rfl, h0', by rw [upd_ne nq]; exact s0', ow2.mono eS (Ex.refl H)⟩
      · rw [if_neg hc] at r ⊢
        exact r.mono eS
  · have key : ∀ (l : Nat) (cl : Cell), (δ.set i (st d))[l]? = some (some cl) → cl.own = true → δ[l]? = some (some cl) := fun l cl e o => by
      by_cases h : i = l
      · subst h; rw [List.getElem?_set_self hil] at e; cases e; cases o
      · rw [List.getElem?_set_ne h] at e; exact e
    exact I.sep j k cj ck q hjk (key j cj ej oj) (key k ck ek ok) oj ok sj sk
/-- a name is forgotten -/
theorem StR.forget (I : StR K b δ σ S H) (i : Nat) : StR K b (δ.set i none) σ S H where
  sh := I.sh
  h0 := I.h0
  s0 := I.s0
  old := I.old
  len := by rw [List.length_set, I.len]
  slot := fun j c e => by
    by_cases h : i = j
    · subst h
      by_cases hl : i < δ.length
      · rw [List.getElem?_set_self hl] at e; cases e
      · rw [List.getElem?_eq_none (by rw [List.length_set]; omega)] at e; cases e
    · rw [List.getElem?_set_ne h] at e; exact I.slot j c e
  sep := fun j k cj ck q hjk ej ek oj ok sj sk => by
    have key : ∀ l (cl : Cell), (δ.set i none)[l]? = some (some cl) → δ[l]? = some (some cl) := fun l cl e => by
      by_cases h : i = l
      · subst h
        by_cases hl : i < δ.length
        · rw [List.getElem?_set_self hl] at e; cases e
        · rw [List.getElem?_eq_none (by rw [List.length_set]; omega)] at e; cases e
      · rw [List.getElem?_set_ne h] at e; exact e
    exact I.sep j k cj ck q hjk (key j cj ej) (key k ck ek) oj ok sj sk
theorem StR.get (I : StR K b δ σ S H) {i : Nat} {d : D} (h : δ[i]? = some (st d)) : ∃ v, σ[i]? = some (some v) ∧ Rep K b.g S v d := by
  obtain ⟨v, e, r⟩ := I.slot i ⟨d, false⟩ h
  unfold CellR at r
  rw [if_neg Bool.false_ne_true] at r
  exact ⟨v, e, r⟩
theorem StR.getO (I : StR K b δ σ S H) {i : Nat} {d : D} (h : δ[i]? = some (ow d)) : ∃ p, σ[i]? = some (some (.ref p)) ∧ b.H0 p = none ∧ S p = none ∧ OwnR K b.g S H p d := by
  obtain ⟨v, e, r⟩ := I.slot i ⟨d, true⟩ h
  unfold CellR at r
  rw [if_pos rfl] at r
  obtain ⟨p, rfl, q⟩ := r
  exact ⟨p, e, q⟩
end
end Mi
namespace Mi
open PySem L2 Evl PySem.Spec PyProof.Rows

/-! ### readings of data -/
abbrev WE := Env → (Exc → Prop) → (D → Prop) → Prop
abbrev WT := Env → (Exc → Prop) → (Bool → Prop) → Prop
abbrev WA := Env → (Exc → Prop) → (List D → Prop) → Prop

/-- read where it stands: stable, or owned -/
def RepT (K : PySem.W.Frag) (g : G) (S H : Hp) (v : V) (d : D) : Prop := Rep K g S v d ∨ ∃ p, v = .ref p ∧ S p = none ∧ OwnR K g S H p d

def tE (K : PySem.W.Frag) (b : Bs) (w : WE) : TE := fun σ H Q => ∃ S δ P, StR K b δ σ S H ∧ w δ b.EX P ∧ ∀ d v S' H', Grow S H S' H' → Rep K b.g S' v d → P d → Q v H'
def tF (K : PySem.W.Frag) (b : Bs) (w : WE) : TE := fun σ H Q => ∃ S δ P, StR K b δ σ S H ∧ w δ b.EX P ∧ ∀ d p S' H', Grow S H S' H' → H p = none → S' p = none → OwnR K b.g S' H' p d → P d → Q (.ref p) H'
def tO (K : PySem.W.Frag) (b : Bs) (w : WE) : TE := fun σ H Q => ∃ S δ P, StR K b δ σ S H ∧ w δ b.EX P ∧ ∀ d v S' H', Grow S H S' H' → RepT K b.g S' H' v d → P d → Q v H'
def tM (K : PySem.W.Frag) (b : Bs) (w : WT) : TT := fun σ H Q => ∃ S δ P, StR K b δ σ S H ∧ w δ b.EX P ∧ ∀ c S' H', Grow S H S' H' → P c → Q c H'
def tL (K : PySem.W.Frag) (b : Bs) (w : WA) : TA := fun σ H Q => ∃ S δ P, StR K b δ σ S H ∧ w δ b.EX P ∧ ∀ ds vs S' H', Grow S H S' H' → RepA K b.g S' vs ds → P ds → Q vs H'

def ME (X : Cx) (b : Bs) (e : Expr) (w : WE) : Prop := PE X e (tE X.K b w)
def MF (X : Cx) (b : Bs) (e : Expr) (w : WE) : Prop := PE X e (tF X.K b w)
def MO (X : Cx) (b : Bs) (e : Expr) (w : WE) : Prop := PE X e (tO X.K b w)
def MT (X : Cx) (b : Bs) (e : Expr) (w : WT) : Prop := PT X e (tM X.K b w)
def MA (X : Cx) (b : Bs) (es : List Expr) (w : WA) : Prop := PA X es (tL X.K b w)

section
variable {X : Cx} {b : Bs} {K : PySem.W.Frag} {g : G} {S S' H H' : Hp} {δ : Env} {σ : L2.St} {e a c : Expr} {es : List Expr} {w wa wb wc : WE} {pos : Pos}

theorem PE.imp {t t' : TE} (h : PE X e t) (f : ∀ σ H Q, t' σ H Q → t σ H Q) : PE X e t' := ⟨fun pins s σ H Q I q => h.run pins s σ H Q I (f σ H Q q)⟩
theorem PT.imp {t t' : TT} (h : PT X e t) (f : ∀ σ H Q, t' σ H Q → t σ H Q) : PT X e t' := ⟨fun pins s σ H Q I q => h.run pins s σ H Q I (f σ H Q q)⟩
theorem PA.imp {t t' : TA} (h : PA X es t) (f : ∀ σ H Q, t' σ H Q → t σ H Q) : PA X es t' := ⟨fun pos pins s σ H Q I q => h.run pos pins s σ H Q I (f σ H Q q)⟩
theorem PE.or {t t' : TE} (h : PE X e t) (h' : PE X e t') : PE X e (fun σ H Q => t σ H Q ∨ t' σ H Q) := ⟨fun pins s σ H Q I q => q.elim (h.run pins s σ H Q I) (h'.run pins s σ H Q I)⟩

theorem RepT.mono {v : V} {d : D} (gr : Grow S H S' H') (r : RepT K g S H v d) : RepT K g S' H' v d := by
  rcases r with r | ⟨p, rfl, s0, o⟩
  · exact .inl (r.mono gr.s)
  · obtain ⟨u, hu⟩ := o.there
    exact .inr ⟨p, rfl, (gr.old p u hu).trans s0, o.mono gr.s gr.h⟩
theorem RepT.lst {v : V} {ds : List D} (e : Ex S H) (r : RepT K g S H v (.lst ds)) : ∃ p xs, v = .ref p ∧ H p = some (.lst xs) ∧ RepA K g S xs ds := by
  rcases r with r | ⟨p, rfl, s0, xs, hx, ra⟩
  · cases r with
    | lst h ra => exact ⟨_, _, rfl, e _ _ h, ra⟩
  · exact ⟨p, xs, rfl, hx, ra⟩
theorem RepT.tup {v : V} {ds : List D} (e : Ex S H) (r : RepT K g S H v (.tup ds)) : ∃ p xs, v = .ref p ∧ SqT K H p xs ∧ SqT K S p xs ∧ RepA K g S xs ds := by
  rcases r with r | ⟨p, rfl, s0, o⟩
  · cases r with
    | tup h ra => exact ⟨_, _, rfl, ex_t e h, h, ra⟩
  · exact o.elim
theorem RepT.dic {v : V} {ds : List (Key × D)} (e : Ex S H) (r : RepT K g S H v (.dic ds)) : ∃ p xs, v = .ref p ∧ H p = some (.dK xs) ∧ RepK K g S xs ds := by
  rcases r with r | ⟨p, rfl, s0, xs, hx, ra⟩
  · cases r with
    | dic h ra => exact ⟨_, _, rfl, e _ _ h, ra⟩
  · exact ⟨p, xs, rfl, hx, ra⟩
theorem RepT.int {v : V} {i : Int} (r : RepT K g S H v (.int i)) : v = .int i := by
  rcases r with r | ⟨p, rfl, s0, o⟩
  · cases r; rfl
  · exact o.elim
theorem RepT.str {v : V} {i : Str} (r : RepT K g S H v (.str i)) : v = .str i := by
  rcases r with r | ⟨p, rfl, s0, o⟩
  · cases r; rfl
  · exact o.elim
theorem RepT.bl {v : V} {i : Bool} (r : RepT K g S H v (.bl i)) : v = .bl i := by
  rcases r with r | ⟨p, rfl, s0, o⟩
  · cases r; rfl
  · exact o.elim
theorem RepT.non {v : V} (r : RepT K g S H v .non) : v = .non := by
  rcases r with r | ⟨p, rfl, s0, o⟩
  · cases r; rfl
  · exact o.elim
theorem RepT.ext {v : V} {n : Nat} {d : D} (r : RepT K g S H v (.ext n d)) : ∃ a, v = .ref a ∧ g.R n a S d := by
  rcases r with r | ⟨p, rfl, s0, o⟩
  · cases r with
    | ext h => exact ⟨_, rfl, h⟩
  · exact o.elim
/-- a fresh object becomes stable -/
theorem OwnR.stab {p : Addr} {d : D} (e : Ex S H) (s0 : S p = none) (o : OwnR K g S H p d) : ∃ S2, Ex S S2 ∧ Ex S2 H ∧ (∀ q, q ≠ p → S2 q = S q) ∧ Rep K g S2 (.ref p) d := by
  obtain ⟨u, hu⟩ := o.there
  refine ⟨upd S p u, Ex.new s0, fun a v q => ?_, fun q hq => upd_ne hq, ?_⟩
  · by_cases c : a = p
    · subst c; rw [upd_same] at q; cases q; exact hu
    · rw [upd_ne c] at q; exact e a v q
  · cases d with
    | lst ds =>
      obtain ⟨xs, h, r⟩ := o
      rw [hu] at h; cases h
      exact .lst upd_same (r.mono (Ex.new s0))
    | dic ds =>
      obtain ⟨xs, h, r⟩ := o
      rw [hu] at h; cases h
      exact .dic upd_same (r.mono (Ex.new s0))
    | _ => exact o.elim
theorem me_ofF (h : MF X b e w) : ME X b e w := PE.imp h fun σ H Q ⟨S, δ, P, I, hw, k⟩ => ⟨S, δ, P, I, hw, fun d p S' H' gr hp sp o hd => by
  obtain ⟨S2, e1, e2, e3, r⟩ := o.stab gr.sh sp
  exact k d (.ref p) S2 H' ⟨gr.s.trans e1, gr.h, e2, fun q u hq => (e3 q (ne_of_none hq hp)).trans (gr.old q u hq)⟩ r hd⟩
theorem mo_of (h : ME X b e w) : MO X b e w := PE.imp h fun σ H Q ⟨S, δ, P, I, hw, k⟩ => ⟨S, δ, P, I, hw, fun d v S' H' gr r hd => k d v S' H' gr (.inl r) hd⟩
theorem mo_ofF (h : MF X b e w) : MO X b e w := PE.imp h fun σ H Q ⟨S, δ, P, I, hw, k⟩ => ⟨S, δ, P, I, hw, fun d p S' H' gr hp sp o hd => k d (.ref p) S' H' gr (.inr ⟨p, rfl, sp, o⟩) hd⟩

/-! ### names, constants -/
def wC (d : D) : WE := fun _ _ P => P d
theorem tC_of {v : V} {d : D} (r : ∀ S, Rep K b.g S v d) {Q : VK} (h : tE K b (wC d) σ H Q) : tC v σ H Q := by
  obtain ⟨S, δ, P, I, hw, k⟩ := h
  exact k d v S H (Grow.refl I.sh) (r S) hw
theorem me_int {i j pos} : ME X b (.Constant (.int i) j pos) (wC (.int i)) := PE.imp pe_int fun _ _ _ h => tC_of (fun _ => .int i) h
theorem me_bl {i j pos} : ME X b (.Constant (.bool i) j pos) (wC (.bl i)) := PE.imp pe_bl fun _ _ _ h => tC_of (fun _ => .bl i) h
theorem me_non {j pos} : ME X b (.Constant .none j pos) (wC .non) := PE.imp pe_non fun _ _ _ h => tC_of (fun _ => .non) h
theorem me_str {i j pos} : ME X b (.Constant (.str i) j pos) (wC (.str i)) := PE.imp pe_str fun _ _ _ h => tC_of (fun _ => .str i) h
/-- a module's constant -/
theorem me_glob {x : Str} {v : V} {d : D} {u : Value} (hg : Gl X x) (hm : X.mg x = some u) (r : RelV v u) (hd : ∀ S, Rep X.K b.g S v d) (hdb : (x == ("__debug__" : Str)) = false := by decide) : ME X b (.Name x pos) (wC d) :=
  PE.imp (pe_glob hg hm r hdb) fun _ _ _ h => tC_of hd h
def wVar (i : Nat) : WE := fun δ _ P => match δ[i]? with
  | some (some ⟨d, false⟩) => P d
  | _ => False
def wVarO (i : Nat) : WE := fun δ _ P => match δ[i]? with
  | some (some c) => P c.d
  | _ => False
theorem me_var (i : Nat) {x : Str} (hN : X.N[i]? = some x := by rfl) (hv : Vis X.env.scope x := by first | exact Or.inl rfl | exact Or.inr (Or.inl rfl) | exact Or.inr (Or.inr rfl)) (hd : (x == ("__debug__" : Str)) = false := by decide)
    (hcd : (x == ("__classdict__" : Str)) = false := by decide) : ME X b (.Name x pos) (wVar i) := PE.imp (pe_var hN hv hd hcd) fun σ H Q ⟨S, δ, P, I, hw, k⟩ => by
  unfold wVar at hw
  split at hw
  · rename_i d he
    obtain ⟨v, e1, r⟩ := I.get he
    exact ⟨v, e1, k d v S H (Grow.refl I.sh) r hw⟩
  · exact hw.elim
theorem mo_var (i : Nat) {x : Str} (hN : X.N[i]? = some x := by rfl) (hv : Vis X.env.scope x := by first | exact Or.inl rfl | exact Or.inr (Or.inl rfl) | exact Or.inr (Or.inr rfl)) (hd : (x == ("__debug__" : Str)) = false := by decide)
    (hcd : (x == ("__classdict__" : Str)) = false := by decide) : MO X b (.Name x pos) (wVarO i) := PE.imp (pe_var hN hv hd hcd) fun σ H Q ⟨S, δ, P, I, hw, k⟩ => by
  unfold wVarO at hw
  split at hw
  · rename_i c he
    obtain ⟨d, o⟩ := c
    cases o with
    | false =>
      obtain ⟨v, e1, r⟩ := I.get he
      exact ⟨v, e1, k d v S H (Grow.refl I.sh) (.inl r) hw⟩
    | true =>
      obtain ⟨p, e1, h0, s0, r⟩ := I.getO he
      exact ⟨_, e1, k d _ S H (Grow.refl I.sh) (.inr ⟨p, rfl, s0, r⟩) hw⟩
  · exact hw.elim

/-! ### two operands, by values -/
/-- q tells what an operator gives; r is its reading -/
def OpD (K : PySem.W.Frag) (g : G) (r : R2) (q : D → D → (D → Prop) → Prop) : Prop :=
  ∀ S H x y v u (P : D → Prop) (Q : VK), Ex S H → RepT K g S H v x → RepT K g S H u y → q x y P → (∀ d w S' H', Grow S H S' H' → Rep K g S' w d → P d → Q w H') → r v u H Q
/-- .. a new list, fresh -/
def OpDF (K : PySem.W.Frag) (g : G) (r : R2) (q : D → D → (D → Prop) → Prop) : Prop :=
  ∀ S H x y v u (P : D → Prop) (Q : VK), Ex S H → RepT K g S H v x → RepT K g S H u y → q x y P → (∀ d p S' H', Grow S H S' H' → H p = none → S' p = none → OwnR K g S' H' p d → P d → Q (.ref p) H') → r v u H Q
def wOp (q : D → D → (D → Prop) → Prop) (wa wb : WE) : WE := fun δ EX P => wa δ EX fun x => wb δ EX fun y => q x y P
theorem tOp_of {r : R2} {q : D → D → (D → Prop) → Prop} (hr : OpD K b.g r q) {Q : VK} (h : tE K b (wOp q wa wb) σ H Q) : tOp r (tO K b wa) (tO K b wb) σ H Q := by
  obtain ⟨S, δ, P, I, hw, k⟩ := h
  refine ⟨S, δ, _, I, hw, fun x v S1 H1 g1 r1 h1 => ?_⟩
  refine ⟨S1, δ, _, I.grow g1, h1, fun y u S2 H2 g2 r2 h2 => ?_⟩
  exact hr S2 H2 x y v u P Q g2.sh (r1.mono g2) r2 h2 fun d z S3 H3 g3 r3 hd => k d z S3 H3 ((g1.trans g2).trans g3) r3 hd
theorem tOpF_of {r : R2} {q : D → D → (D → Prop) → Prop} (hr : OpDF K b.g r q) {Q : VK} (h : tF K b (wOp q wa wb) σ H Q) : tOp r (tO K b wa) (tO K b wb) σ H Q := by
  obtain ⟨S, δ, P, I, hw, k⟩ := h
  refine ⟨S, δ, _, I, hw, fun x v S1 H1 g1 r1 h1 => ?_⟩
  refine ⟨S1, δ, _, I.grow g1, h1, fun y u S2 H2 g2 r2 h2 => ?_⟩
  exact hr S2 H2 x y v u P Q g2.sh (r1.mono g2) r2 h2 fun d p S3 H3 g3 hp sp r3 hd => k d p S3 H3 ((g1.trans g2).trans g3) (none_of_ex (g1.trans g2).h hp) sp r3 hd
theorem me_op {op : Operator} {r : R2} {q : D → D → (D → Prop) → Prop} (ho : OpR X (binaryOp op) r) (hr : OpD X.K b.g r q) (ha : MO X b a wa) (hb : MO X b c wb) : ME X b (.BinOp a op c pos) (wOp q wa wb) := PE.imp (pe_op ho ha hb) fun _ _ _ h => tOp_of hr h
theorem mf_op {op : Operator} {r : R2} {q : D → D → (D → Prop) → Prop} (ho : OpR X (binaryOp op) r) (hr : OpDF X.K b.g r q) (ha : MO X b a wa) (hb : MO X b c wb) : MF X b (.BinOp a op c pos) (wOp q wa wb) := PE.imp (pe_op ho ha hb) fun _ _ _ h => tOpF_of hr h
theorem OpD.or {r r' : R2} {q q' : D → D → (D → Prop) → Prop} (h : OpD K g r q) (h' : OpD K g r' q') : OpD K g (fun x y H Q => r x y H Q ∨ r' x y H Q) (fun x y P => q x y P ∨ q' x y P) :=
  fun S H x y v u P Q e rv ru hq k => hq.elim (fun z => .inl (h S H x y v u P Q e rv ru z k)) fun z => .inr (h' S H x y v u P Q e rv ru z k)
theorem OpD.imp {r : R2} {q q' : D → D → (D → Prop) → Prop} (h : OpD K g r q) (f : ∀ x y P, q' x y P → q x y P) : OpD K g r q' := fun S H x y v u P Q e rv ru hq k => h S H x y v u P Q e rv ru (f x y P hq) k
theorem OpDF.op {r : R2} {q : D → D → (D → Prop) → Prop} (h : OpDF K g r q) : OpD K g r q := fun S H x y v u P Q e rv ru hq k => h S H x y v u P Q e rv ru hq fun d p S' H' gr hp sp o hd => by
  obtain ⟨S2, e1, e2, e3, r⟩ := o.stab gr.sh sp
  exact k d (.ref p) S2 H' ⟨gr.s.trans e1, gr.h, e2, fun q u hq => (e3 q (ne_of_none hq hp)).trans (gr.old q u hq)⟩ r hd

def Line : Nat := 16777216
theorem line_eq : (sizeLine : Nat) = Line := sizeLine_eq
theorem le_line {n : Nat} (h : n ≤ Line) : n ≤ sizeLine := by rw [line_eq]; exact h

/-! ### arithmetic -/
def qI (f : Int → Int → Int) : D → D → (D → Prop) → Prop := fun x y P => match x, y with
  | .int i, .int j => P (.int (f i j))
  | _, _ => False
def qIC (C : Int → Int → Prop) (f : Int → Int → Int) : D → D → (D → Prop) → Prop := fun x y P => match x, y with
  | .int i, .int j => C i j ∧ P (.int (f i j))
  | _, _ => False
theorem od_I {f : Int → Int → Int} : OpD K g (rI0 fun i j => .int (f i j)) (qI f) := by
  intro S H x y v u P Q e rv ru hq k
  unfold qI at hq
  split at hq
  · cases rv.int; cases ru.int
    exact ⟨_, _, rfl, rfl, k _ _ S H (Grow.refl e) (.int _) hq⟩
  · exact hq.elim
theorem od_IC {C : Int → Int → Prop} {f : Int → Int → Int} : OpD K g (rI C fun i j => .int (f i j)) (qIC C f) := by
  intro S H x y v u P Q e rv ru hq k
  unfold qIC at hq
  split at hq
  · cases rv.int; cases ru.int
    exact ⟨_, _, rfl, rfl, hq.1, k _ _ S H (Grow.refl e) (.int _) hq.2⟩
  · exact hq.elim
def qCatS : D → D → (D → Prop) → Prop := fun x y P => match x, y with
  | .str i, .str j => i.length + j.length ≤ Line ∧ P (.str (i ++ j))
  | _, _ => False
theorem od_catS : OpD K g (fun x y H Q => ∃ i j, x = .str i ∧ y = .str j ∧ i.length + j.length ≤ sizeLine ∧ Q (.str (i ++ j)) H) qCatS := by
  intro S H x y v u P Q e rv ru hq k
  unfold qCatS at hq
  split at hq
  · cases rv.str; cases ru.str
    exact ⟨_, _, rfl, rfl, le_line hq.1, k _ _ S H (Grow.refl e) (.str _) hq.2⟩
  · exact hq.elim
def qCatL : D → D → (D → Prop) → Prop := fun x y P => match x, y with
  | .lst xs, .lst ys => xs.length + ys.length ≤ Line ∧ P (.lst (xs ++ ys))
  | _, _ => False
theorem od_catL : OpDF K g rCat qCatL := by
  intro S H x y v u P Q e rv ru hq k
  unfold qCatL at hq
  split at hq
  · obtain ⟨p, xs, rfl, hx, ra⟩ := rv.lst e
    obtain ⟨q, ys, rfl, hy, rb⟩ := ru.lst e
    refine ⟨p, q, xs, ys, rfl, rfl, hx, hy, by rw [ra.len, rb.len]; exact le_line hq.1, fun z hz => ?_⟩
    exact k (.lst _) z S _ (Grow.newO e hz) hz (none_of_ex e hz) ⟨_, upd_same, ra.append rb⟩ hq.2
  · exact hq.elim
def qCatT : D → D → (D → Prop) → Prop := fun x y P => match x, y with
  | .tup xs, .tup ys => xs.length + ys.length ≤ Line ∧ P (.tup (xs ++ ys))
  | _, _ => False
theorem od_catT : OpD K g (rCatA K) qCatT := by
  intro S H x y v u P Q e rv ru hq k
  unfold qCatT at hq
  split at hq
  · obtain ⟨p, xs, rfl, hx, sx, ra⟩ := rv.tup e
    obtain ⟨q, ys, rfl, hy, sy, rb⟩ := ru.tup e
    refine ⟨p, q, xs, ys, rfl, rfl, hx, hy, by rw [ra.len, rb.len]; exact le_line hq.1, fun z => ?_, fun z z2 => ?_, fun z z2 r hr => ?_⟩
    · subst z; cases ra
      exact k _ _ S H (Grow.refl e) (.tup sy rb) hq.2
    · subst z2; cases rb
      refine k _ _ S H (Grow.refl e) (.tup sx ?_) hq.2
      rw [List.append_nil]; exact ra
    · exact k _ _ _ _ (Grow.new e hr) (.tup (st_of upd_same) ((ra.append rb).mono (Ex.new (none_of_ex e hr)))) hq.2
  · exact hq.elim
/-- + of any kind -/
def qAdd : D → D → (D → Prop) → Prop := fun x y P => match x, y with
  | .int i, .int j => P (.int (i + j))
  | .str i, .str j => i.length + j.length ≤ Line ∧ P (.str (i ++ j))
  | .lst xs, .lst ys => xs.length + ys.length ≤ Line ∧ P (.lst (xs ++ ys))
  | .tup xs, .tup ys => xs.length + ys.length ≤ Line ∧ P (.tup (xs ++ ys))
  | _, _ => False
theorem me_add (ha : MO X b a wa) (hb : MO X b c wb) : ME X b (.BinOp a .Add c pos) (wOp qAdd wa wb) :=
  me_op (OpR.or op_add (OpR.or op_add_str (OpR.or op_cat op_catA))) ((OpD.or (od_I (f := fun i j => i + j)) (OpD.or od_catS (OpD.or od_catL.op od_catT))).imp fun x y P h => by
    unfold qAdd at h
    split at h
    · exact .inl h
    · exact .inr (.inl h)
    · exact .inr (.inr (.inl h))
    · exact .inr (.inr (.inr h))
    · exact h.elim) ha hb
theorem mf_add (ha : MO X b a wa) (hb : MO X b c wb) : MF X b (.BinOp a .Add c pos) (wOp qCatL wa wb) := mf_op op_cat od_catL ha hb
theorem me_sub (ha : MO X b a wa) (hb : MO X b c wb) : ME X b (.BinOp a .Sub c pos) (wOp (qI fun i j => i - j) wa wb) := me_op op_sub od_I ha hb
/-- * of ints | a list times an int -/
def MulOk (i j : Int) : Prop := CMul i j ∨ CMulW i j
def qMul : D → D → (D → Prop) → Prop := fun x y P => match x, y with
  | .int i, .int j => MulOk i j ∧ P (.int (i * j))
  | .lst xs, .int k => -(2 ^ 63) ≤ k ∧ k < 2 ^ 63 ∧ xs.length * k.toNat ≤ Line ∧ P (.lst (List.replicate k.toNat xs).flatten)
  | _, _ => False
def qRep : D → D → (D → Prop) → Prop := fun x y P => match x, y with
  | .lst xs, .int k => -(2 ^ 63) ≤ k ∧ k < 2 ^ 63 ∧ xs.length * k.toNat ≤ Line ∧ P (.lst (List.replicate k.toNat xs).flatten)
  | _, _ => False
theorem od_rep : OpDF K g rRep qRep := by
  intro S H x y v u P Q e rv ru hq k
  unfold qRep at hq
  split at hq
  · obtain ⟨p, xs, rfl, hx, ra⟩ := rv.lst e
    cases ru.int
    obtain ⟨h1, h2, h3, h4⟩ := hq
    refine ⟨p, _, xs, rfl, rfl, hx, h1, h2, by rw [ra.len]; exact le_line h3, fun z hz => ?_⟩
    exact k (.lst _) z S _ (Grow.newO e hz) hz (none_of_ex e hz) ⟨_, upd_same, ra.rep _⟩ h4
  · exact hq.elim
theorem me_mul (ha : MO X b a wa) (hb : MO X b c wb) : ME X b (.BinOp a .Mult c pos) (wOp qMul wa wb) :=
  me_op (OpR.or (OpR.or op_mul op_mulW) op_rep) ((OpD.or (OpD.or (od_IC (f := fun i j => i * j)) (od_IC (f := fun i j => i * j))) od_rep.op).imp fun x y P h => by
    unfold qMul at h
    split at h
    · rcases h.1 with q | q
      · exact .inl (.inl ⟨q, h.2⟩)
      · exact .inl (.inr ⟨q, h.2⟩)
    · exact .inr h
    · exact h.elim) ha hb
theorem mf_mul (ha : MO X b a wa) (hb : MO X b c wb) : MF X b (.BinOp a .Mult c pos) (wOp qRep wa wb) := mf_op op_rep od_rep ha hb
/-- // by a positive divisor | any small one -/
def DivOk (j : Int) : Prop := CDivW 0 j
def qDiv : D → D → (D → Prop) → Prop := fun x y P => match x, y with
  | .int i, .int j => (CDivW i j ∧ P (.int (i / j))) ∨ (CDivN i j ∧ P (.int (i.fdiv j)))
  | _, _ => False
theorem me_div (ha : MO X b a wa) (hb : MO X b c wb) : ME X b (.BinOp a .FloorDiv c pos) (wOp qDiv wa wb) :=
  me_op (OpR.or op_fdivW op_fdivN) ((OpD.or (od_IC (f := fun i j => i / j)) (od_IC (f := fun i j => i.fdiv j))).imp fun x y P h => by
    unfold qDiv at h
    split at h
    · exact h
    · exact h.elim) ha hb
def qMod : D → D → (D → Prop) → Prop := fun x y P => match x, y with
  | .int i, .int j => (0 < j ∧ P (.int (i % j))) ∨ (j ≠ 0 ∧ P (.int (i.fmod j)))
  | _, _ => False
theorem me_mod (ha : MO X b a wa) (hb : MO X b c wb) : ME X b (.BinOp a .Mod c pos) (wOp qMod wa wb) :=
  me_op (OpR.or op_mod op_modN) ((OpD.or (od_IC (f := fun i j => i % j)) (od_IC (f := fun i j => i.fmod j))).imp fun x y P h => by
    unfold qMod at h
    split at h
    · exact h
    · exact h.elim) ha hb
theorem me_pow (ha : MO X b a wa) (hb : MO X b c wb) : ME X b (.BinOp a .Pow c pos) (wOp (qIC CPow fun i j => i ^ j.toNat) wa wb) := me_op op_pow od_IC ha hb
def qNeg : D → (D → Prop) → Prop := fun x P => match x with
  | .int i => P (.int (-i))
  | _ => False
def wUn (q : D → (D → Prop) → Prop) (wa : WE) : WE := fun δ EX P => wa δ EX fun x => q x P
theorem me_neg (ha : MO X b a wa) : ME X b (.UnaryOp .USub a pos) (wUn qNeg wa) := PE.imp (pe_un un_neg ha) fun σ H Q ⟨S, δ, P, I, hw, k⟩ => by
  refine ⟨S, δ, _, I, hw, fun x v S1 H1 g1 r1 h1 => ?_⟩
  unfold qNeg at h1
  split at h1
  · cases r1.int
    exact ⟨_, rfl, k _ _ S1 H1 g1 (.int _) h1⟩
  · exact h1.elim
end
end Mi
namespace Mi
open PySem L2 Evl PySem.Spec PyProof.Rows

/-! ### == -/
mutual
def D.py : D → PyData
  | .non => .none
  | .bl b => .bool b
  | .int i => .int i
  | .str x => .str x
  | .lst xs => .list (D.pys xs)
  | .tup xs => .tuple (D.pys xs)
  | .dic _ => .dict []
  | .ext _ _ => .dict []
def D.pys : List D → List PyData
  | [] => []
  | x :: xs => D.py x :: D.pys xs
end
theorem pys_map : ∀ xs : List D, D.pys xs = xs.map D.py
  | [] => rfl
  | x :: xs => by rw [D.pys, pys_map xs]; rfl
abbrev okD (d : D) : Prop := SeqAt.shaped d.py = true
def eqD (x y : D) : Bool := PyData.eqv x.py y.py

section
variable {K : PySem.W.Frag} {g : G} {S S' H H' : Hp}
mutual
theorem Rep.dp (e : Ex S H) : ∀ {v : V} {d : D}, Rep K g S v d → d.py.canLay0 = true → Dp K H v d.py
  | _, _, .non, _ => .non
  | _, _, .bl b, _ => .bl b
  | _, _, .int i, _ => .int i
  | _, _, .str x, _ => .str x
  | _, _, .lst h r, k => .lst (sq_of (e _ _ h)) (RepA.dp e r (by simpa [D.py, PyData.canLay0] using k))
  | _, _, .tup h r, k => .tup (ex_t e h) (RepA.dp e r (by simpa [D.py, PyData.canLay0] using k))
  | _, _, .dic h r, k => by simp [D.py, PyData.canLay0] at k
  | _, _, .ext h, k => by simp [D.py, PyData.canLay0] at k
theorem RepA.dp (e : Ex S H) : ∀ {vs : List V} {ds : List D}, RepA K g S vs ds → PyData.canLayAll0 (D.pys ds) = true → DpAll K H vs (D.pys ds)
  | _, _, .nil, _ => .nil
  | _, _, .cons h r, k => by
    rw [D.pys, PyData.canLayAll0, Bool.and_eq_true] at k
    exact .cons (Rep.dp e h k.1) (RepA.dp e r k.2)
end
theorem RepT.dp {v : V} {d : D} (e : Ex S H) (r : RepT K g S H v d) (k : okD d) : Dp K H v d.py := by
  have k' := SeqAt.canLay_of_shaped k
  rcases r with r | ⟨p, rfl, s0, o⟩
  · exact r.dp e k'
  · cases d with
    | lst ds =>
      obtain ⟨xs, h, ra⟩ := o
      exact .lst (sq_of h) (RepA.dp e ra (by simpa [D.py, PyData.canLay0] using k'))
    | dic ds => simp [D.py, PyData.canLay0] at k'
    | _ => exact o.elim
end

/-- == of plain things by themselves; anything else by its data -/
def scEq : D → D → Option Bool
  | .int i, .int j => some (decide (i = j))
  | .str s, .str t => some (decide (s = t))
  | .bl a, .bl c => some (decide (a = c))
  | .non, .non => some true
  | .non, .int _ => some false
  | .non, .str _ => some false
  | .non, .bl _ => some false
  | .int _, .non => some false
  | .str _, .non => some false
  | .bl _, .non => some false
  | .int _, .str _ => some false
  | .str _, .int _ => some false
  | .bl _, .str _ => some false
  | .str _, .bl _ => some false
  | _, _ => none
def qEq (x y : D) (P : Bool → Prop) : Prop := match scEq x y with
  | some c => P c
  | none => okD x ∧ okD y ∧ P (eqD x y)

/-- a comparison by values -/
def OpB (K : PySem.W.Frag) (g : G) (r : R2) (q : D → D → (Bool → Prop) → Prop) : Prop :=
  ∀ S H x y v u (P : Bool → Prop) (Q : VK), Ex S H → RepT K g S H v x → RepT K g S H u y → q x y P → (∀ c S' H', Grow S H S' H' → P c → Q (.bl c) H') → r v u H Q
section
variable {X : Cx} {b : Bs} {K : PySem.W.Frag} {g : G} {S S' H H' : Hp} {δ : Env} {σ : L2.St} {e a c e' : Expr} {es rest : List Expr} {w wa wb wc : WE} {pos : Pos}
theorem OpB.or {r r' : R2} {q q' : D → D → (Bool → Prop) → Prop} (h : OpB K g r q) (h' : OpB K g r' q') : OpB K g (fun x y H Q => r x y H Q ∨ r' x y H Q) (fun x y P => q x y P ∨ q' x y P) :=
  fun S H x y v u P Q e rv ru hq k => hq.elim (fun z => .inl (h S H x y v u P Q e rv ru z k)) fun z => .inr (h' S H x y v u P Q e rv ru z k)
theorem OpB.imp {r : R2} {q q' : D → D → (Bool → Prop) → Prop} (h : OpB K g r q) (f : ∀ x y P, q' x y P → q x y P) : OpB K g r q' := fun S H x y v u P Q e rv ru hq k => h S H x y v u P Q e rv ru (f x y P hq) k
def wCmp (q : D → D → (Bool → Prop) → Prop) (wa wb : WE) : WE := fun δ EX P => wa δ EX fun x => wb δ EX fun y => q x y fun c => P (.bl c)
def wCmpT (q : D → D → (Bool → Prop) → Prop) (wa wb : WE) : WT := fun δ EX P => wa δ EX fun x => wb δ EX fun y => q x y P
theorem tCmp_of {r : R2} {q : D → D → (Bool → Prop) → Prop} (hr : OpB K b.g r q) {Q : VK} (h : tE K b (wCmp q wa wb) σ H Q) : tOp r (tO K b wa) (tO K b wb) σ H Q := by
  obtain ⟨S, δ, P, I, hw, k⟩ := h
  refine ⟨S, δ, _, I, hw, fun x v S1 H1 g1 r1 h1 => ?_⟩
  refine ⟨S1, δ, _, I.grow g1, h1, fun y u S2 H2 g2 r2 h2 => ?_⟩
  exact hr S2 H2 x y v u _ Q g2.sh (r1.mono g2) r2 h2 fun d S3 H3 g3 hd => k _ _ S3 H3 ((g1.trans g2).trans g3) (.bl d) hd
theorem tCmpT_of {r : R2} {q : D → D → (Bool → Prop) → Prop} (hr : OpB K b.g r q) {Q : Bool → Hp → Prop} (h : tM K b (wCmpT q wa wb) σ H Q) : tTest (tOp r (tO K b wa) (tO K b wb)) σ H Q := by
  obtain ⟨S, δ, P, I, hw, k⟩ := h
  refine ⟨S, δ, _, I, hw, fun x v S1 H1 g1 r1 h1 => ?_⟩
  refine ⟨S1, δ, _, I.grow g1, h1, fun y u S2 H2 g2 r2 h2 => ?_⟩
  exact hr S2 H2 x y v u P _ g2.sh (r1.mono g2) r2 h2 fun d S3 H3 g3 hd => ⟨d, rfl, k _ S3 H3 ((g1.trans g2).trans g3) hd⟩
theorem me_cmp {op : CmpOp} {r : R2} {q : D → D → (Bool → Prop) → Prop} (ho : OpR X (compareOp op) r) (hr : OpB X.K b.g r q) (ha : MO X b a wa) (hb : MO X b c wb) (hm : behindInMarks op c = false) : ME X b (.Compare a [op] [c] pos) (wCmp q wa wb) :=
  PE.imp (pe_cmpR ho ha hb hm) fun _ _ _ h => tCmp_of hr h
theorem mt_cmp {op : CmpOp} {r : R2} {q : D → D → (Bool → Prop) → Prop} (ho : OpR X (compareOp op) r) (hr : OpB X.K b.g r q) (ha : MO X b a wa) (hb : MO X b c wb) (hm : behindInMarks op c = false) : MT X b (.Compare a [op] [c] pos) (wCmpT q wa wb) :=
  PT.imp (pt_cmpR ho ha hb hm) fun _ _ _ h => tCmpT_of hr h

theorem scEq_of {v u : V} {x y : D} {c : Bool} (h : scEq x y = some c) (rv : RepT K g S H v x) (ru : RepT K g S H u y) : scal v u = true ∧ decide (v = u) = c := by
  unfold scEq at h
  split at h
  · cases h; cases rv.int; cases ru.int; exact ⟨rfl, by simp⟩
  · cases h; cases rv.str; cases ru.str; exact ⟨rfl, by simp⟩
  · cases h; cases rv.bl; cases ru.bl; exact ⟨rfl, by simp⟩
  · cases h; cases rv.non; cases ru.non; exact ⟨rfl, rfl⟩
  · cases h; cases rv.non; cases ru.int; exact ⟨rfl, by simp⟩
  · cases h; cases rv.non; cases ru.str; exact ⟨rfl, by simp⟩
  · cases h; cases rv.non; cases ru.bl; exact ⟨rfl, by simp⟩
  · cases h; cases rv.int; cases ru.non; exact ⟨rfl, by simp⟩
  · cases h; cases rv.str; cases ru.non; exact ⟨rfl, by simp⟩
  · cases h; cases rv.bl; cases ru.non; exact ⟨rfl, by simp⟩
  · cases h; cases rv.int; cases ru.str; exact ⟨rfl, by simp⟩
  · cases h; cases rv.str; cases ru.int; exact ⟨rfl, by simp⟩
  · cases h; cases rv.bl; cases ru.str; exact ⟨rfl, by simp⟩
  · cases h; cases rv.str; cases ru.bl; exact ⟨rfl, by simp⟩
  · cases h
theorem ob_eq : OpB K g (fun x y H Q => rEq x y H Q ∨ rEqD K x y H Q) qEq := by
  intro S H x y v u P Q e rv ru hq k
  unfold qEq at hq
  split at hq
  · rename_i c hc
    obtain ⟨h1, h2⟩ := scEq_of hc rv ru
    exact .inl ⟨h1, by rw [h2]; exact k _ S H (Grow.refl e) hq⟩
  · obtain ⟨h1, h2, h3⟩ := hq
    exact .inr ⟨_, _, rv.dp e h1, ru.dp e h2, h1, h2, k _ S H (Grow.refl e) h3⟩
def qNe (x y : D) (P : Bool → Prop) : Prop := qEq x y fun c => P (!c)
theorem ob_ne : OpB K g (fun x y H Q => rNe x y H Q ∨ rNeD K x y H Q) qNe := by
  intro S H x y v u P Q e rv ru hq k
  unfold qNe qEq at hq
  split at hq
  · rename_i c hc
    obtain ⟨h1, h2⟩ := scEq_of hc rv ru
    exact .inl ⟨h1, by rw [h2]; exact k _ S H (Grow.refl e) hq⟩
  · obtain ⟨h1, h2, h3⟩ := hq
    exact .inr ⟨_, _, rv.dp e h1, ru.dp e h2, h1, h2, k _ S H (Grow.refl e) h3⟩
theorem me_eq (hu : X.A.units + 64 < cLine) (ha : MO X b a wa) (hb : MO X b c wb) : ME X b (.Compare a [.Eq] [c] pos) (wCmp qEq wa wb) := me_cmp (OpR.or op_eq (op_eqD hu)) ob_eq ha hb (nomark _)
theorem mt_eq (hu : X.A.units + 64 < cLine) (ha : MO X b a wa) (hb : MO X b c wb) : MT X b (.Compare a [.Eq] [c] pos) (wCmpT qEq wa wb) := mt_cmp (OpR.or op_eq (op_eqD hu)) ob_eq ha hb (nomark _)
theorem me_ne (hu : X.A.units + 64 < cLine) (ha : MO X b a wa) (hb : MO X b c wb) : ME X b (.Compare a [.NotEq] [c] pos) (wCmp qNe wa wb) := me_cmp (OpR.or op_ne (op_neD hu)) ob_ne ha hb (nomark _)
theorem mt_ne (hu : X.A.units + 64 < cLine) (ha : MO X b a wa) (hb : MO X b c wb) : MT X b (.Compare a [.NotEq] [c] pos) (wCmpT qNe wa wb) := mt_cmp (OpR.or op_ne (op_neD hu)) ob_ne ha hb (nomark _)

/-! ### order: ints, texts -/
def qOrd (f : Int → Int → Bool) (s : Str → Str → Bool) (x y : D) (P : Bool → Prop) : Prop := match x, y with
  | .int i, .int j => P (f i j)
  | .str i, .str j => P (s i j)
  | _, _ => False
def strLt (s t : Str) : Bool := decide (s.cps.toList < t.cps.toList)
theorem ob_ord {f : Int → Int → Bool} {s : Str → Str → Bool} : OpB K g (fun x y H Q => (rI0 fun i j => .bl (f i j)) x y H Q ∨ (∃ i j, x = .str i ∧ y = .str j ∧ Q (.bl (s i j)) H)) (qOrd f s) := by
  intro S H x y v u P Q e rv ru hq k
  unfold qOrd at hq
  split at hq
  · cases rv.int; cases ru.int
    exact .inl ⟨_, _, rfl, rfl, k _ S H (Grow.refl e) hq⟩
  · cases rv.str; cases ru.str
    exact .inr ⟨_, _, rfl, rfl, k _ S H (Grow.refl e) hq⟩
  · exact hq.elim
abbrev qLt := qOrd (fun i j => decide (i < j)) fun s t => strLt s t
abbrev qLe := qOrd (fun i j => decide (i ≤ j)) fun s t => !strLt t s
abbrev qGt := qOrd (fun i j => decide (j < i)) fun s t => strLt t s
abbrev qGe := qOrd (fun i j => decide (j ≤ i)) fun s t => !strLt s t
theorem me_lt (ha : MO X b a wa) (hb : MO X b c wb) : ME X b (.Compare a [.Lt] [c] pos) (wCmp qLt wa wb) := me_cmp (OpR.or op_lt op_lt_str) ob_ord ha hb (nomark _)
theorem mt_lt (ha : MO X b a wa) (hb : MO X b c wb) : MT X b (.Compare a [.Lt] [c] pos) (wCmpT qLt wa wb) := mt_cmp (OpR.or op_lt op_lt_str) ob_ord ha hb (nomark _)
theorem me_le (ha : MO X b a wa) (hb : MO X b c wb) : ME X b (.Compare a [.LtE] [c] pos) (wCmp qLe wa wb) := me_cmp (OpR.or op_le op_le_str) ob_ord ha hb (nomark _)
theorem mt_le (ha : MO X b a wa) (hb : MO X b c wb) : MT X b (.Compare a [.LtE] [c] pos) (wCmpT qLe wa wb) := mt_cmp (OpR.or op_le op_le_str) ob_ord ha hb (nomark _)
theorem me_gt (ha : MO X b a wa) (hb : MO X b c wb) : ME X b (.Compare a [.Gt] [c] pos) (wCmp qGt wa wb) := me_cmp (OpR.or op_gt op_gt_str) ob_ord ha hb (nomark _)
theorem mt_gt (ha : MO X b a wa) (hb : MO X b c wb) : MT X b (.Compare a [.Gt] [c] pos) (wCmpT qGt wa wb) := mt_cmp (OpR.or op_gt op_gt_str) ob_ord ha hb (nomark _)
theorem me_ge (ha : MO X b a wa) (hb : MO X b c wb) : ME X b (.Compare a [.GtE] [c] pos) (wCmp qGe wa wb) := me_cmp (OpR.or op_ge op_ge_str) ob_ord ha hb (nomark _)
theorem mt_ge (ha : MO X b a wa) (hb : MO X b c wb) : MT X b (.Compare a [.GtE] [c] pos) (wCmpT qGe wa wb) := mt_cmp (OpR.or op_ge op_ge_str) ob_ord ha hb (nomark _)
/-- a <= b <= c -/
def wChainT (q q' : D → D → (Bool → Prop) → Prop) (wa wb wc : WE) : WT := fun δ EX P => wa δ EX fun x => wb δ EX fun y => q x y fun k => if k = true then wc δ EX fun z => q' y z P else P false
def wChain (q q' : D → D → (Bool → Prop) → Prop) (wa wb wc : WE) : WE := fun δ EX P => wChainT q q' wa wb wc δ EX fun k => P (.bl k)
theorem me_chain {op op' : CmpOp} {r r' : R2} {q q' : D → D → (Bool → Prop) → Prop} (ho : OpR X (compareOp op) r) (hr : OpB X.K b.g r q) (ho' : OpR X (compareOp op') r') (hr' : OpB X.K b.g r' q') (ha : MO X b a wa) (hb : MO X b c wb) (hc : MO X b e wc)
    (h1 : lastMarks [op, op'] [c, e] = false := by rfl) : ME X b (.Compare a [op, op'] [c, e] pos) (wChain q q' wa wb wc) :=
  PE.imp (pe_chain ho ho' ha hb hc h1) fun σ H Q ⟨S, δ, P, I, hw, k⟩ => by
    refine ⟨S, δ, _, I, hw, fun x v S1 H1 g1 r1 hx => ?_⟩
    refine ⟨S1, δ, _, I.grow g1, hx, fun y u S2 H2 g2 r2 hy => ?_⟩
    refine hr S2 H2 x y v u _ _ g2.sh (r1.mono g2) r2 hy fun d S3 H3 g3 hd => ⟨d, rfl, ?_⟩
    cases d with
    | false =>
      rw [if_neg Bool.false_ne_true] at hd ⊢
      exact k _ _ S3 H3 ((g1.trans g2).trans g3) (.bl _) hd
    | true =>
      rw [if_pos rfl] at hd ⊢
      refine ⟨S3, δ, _, I.grow ((g1.trans g2).trans g3), hd, fun z t S4 H4 g4 r4 hz => ?_⟩
      exact hr' S4 H4 y z u t _ _ g4.sh ((r2.mono g3).mono g4) r4 hz fun d S5 H5 g5 hd => k _ _ S5 H5 ((((g1.trans g2).trans g3).trans g4).trans g5) (.bl _) hd
theorem mt_chain {op op' : CmpOp} {r r' : R2} {q q' : D → D → (Bool → Prop) → Prop} (ho : OpR X (compareOp op) r) (hr : OpB X.K b.g r q) (ho' : OpR X (compareOp op') r') (hr' : OpB X.K b.g r' q') (ha : MO X b a wa) (hb : MO X b c wb) (hc : MO X b e wc)
    (h1 : lastMarks [op, op'] [c, e] = false := by rfl) : MT X b (.Compare a [op, op'] [c, e] pos) (wChainT q q' wa wb wc) :=
  PT.imp (pt_chain ho ho' ha hb hc h1) fun σ H Q ⟨S, δ, P, I, hw, k⟩ => by
    refine ⟨S, δ, _, I, hw, fun x v S1 H1 g1 r1 hx => ?_⟩
    refine ⟨S1, δ, _, I.grow g1, hx, fun y u S2 H2 g2 r2 hy => ?_⟩
    refine hr S2 H2 x y v u _ _ g2.sh (r1.mono g2) r2 hy fun d S3 H3 g3 hd => ⟨d, rfl, ?_⟩
    cases d with
    | false =>
      rw [if_neg Bool.false_ne_true] at hd ⊢
      exact ⟨_, rfl, k _ S3 H3 ((g1.trans g2).trans g3) hd⟩
    | true =>
      rw [if_pos rfl] at hd ⊢
      refine ⟨S3, δ, _, I.grow ((g1.trans g2).trans g3), hd, fun z t S4 H4 g4 r4 hz => ?_⟩
      exact hr' S4 H4 y z u t _ _ g4.sh ((r2.mono g3).mono g4) r4 hz fun d S5 H5 g5 hd => ⟨_, rfl, k _ S5 H5 ((((g1.trans g2).trans g3).trans g4).trans g5) hd⟩

/-! ### is None -/
def isNonD : D → Bool
  | .non => true
  | _ => false
def qIsN (x y : D) (P : Bool → Prop) : Prop := match y with
  | .non => P (isNonD x)
  | _ => False
def qNotN (x y : D) (P : Bool → Prop) : Prop := match y with
  | .non => P (!isNonD x)
  | _ => False
theorem RepT.isN {v : V} {x : D} (r : RepT K g S H v x) : decide (v = .non) = isNonD x := by
  rcases r with r | ⟨p, rfl, s0, o⟩
  · cases r <;> first | rfl | simp [isNonD]
  · cases x <;> first | exact o.elim | simp [isNonD]
theorem ob_isN : OpB K g (fun x y H Q => y = .non ∧ Q (.bl (decide (x = .non))) H) qIsN := by
  intro S H x y v u P Q e rv ru hq k
  unfold qIsN at hq
  split at hq
  · refine ⟨ru.non, ?_⟩
    rw [rv.isN]
    exact k _ S H (Grow.refl e) hq
  · exact hq.elim
theorem ob_notN : OpB K g (fun x y H Q => y = .non ∧ Q (.bl (!decide (x = .non))) H) qNotN := by
  intro S H x y v u P Q e rv ru hq k
  unfold qNotN at hq
  split at hq
  · refine ⟨ru.non, ?_⟩
    rw [rv.isN]
    exact k _ S H (Grow.refl e) hq
  · exact hq.elim
theorem me_is (ha : MO X b a wa) (hb : MO X b c wb) : ME X b (.Compare a [.Is] [c] pos) (wCmp qIsN wa wb) := me_cmp op_isN ob_isN ha hb (nomark _)
theorem mt_is (ha : MO X b a wa) (hb : MO X b c wb) : MT X b (.Compare a [.Is] [c] pos) (wCmpT qIsN wa wb) := mt_cmp op_isN ob_isN ha hb (nomark _)
theorem me_isnot (ha : MO X b a wa) (hb : MO X b c wb) : ME X b (.Compare a [.IsNot] [c] pos) (wCmp qNotN wa wb) := me_cmp op_notN ob_notN ha hb (nomark _)
theorem mt_isnot (ha : MO X b a wa) (hb : MO X b c wb) : MT X b (.Compare a [.IsNot] [c] pos) (wCmpT qNotN wa wb) := mt_cmp op_notN ob_notN ha hb (nomark _)

/-! ### truth, and, or, not, if -/
def qTru (x : D) (P : Bool → Prop) : Prop := match x with
  | .non => P false
  | .bl c => P c
  | .int i => P (i != 0)
  | .str s => s.length ≤ Line ∧ P ((s.length : Int) != 0)
  | .lst ds => P (!ds.isEmpty)
  | .tup ds => P (!ds.isEmpty)
  | .dic ds => P (!ds.isEmpty)
  | .ext _ _ => False
theorem RepA.emp {vs : List V} {ds : List D} (r : RepA K g S vs ds) : (!vs.isEmpty) = !ds.isEmpty := by cases r <;> rfl
theorem RepK.emp {vs : List (Key × V)} {ds : List (Key × D)} (r : RepK K g S vs ds) : (!vs.isEmpty) = !ds.isEmpty := by cases r <;> rfl
theorem RepT.tru {v : V} {x : D} {P : Bool → Prop} (e : Ex S H) (r : RepT K g S H v x) (h : qTru x P) : ∃ k, TruV K v H k ∧ P k := by
  cases x with
  | non => cases r.non; exact ⟨_, rfl, h⟩
  | bl c => cases r.bl; exact ⟨_, rfl, h⟩
  | int c => cases r.int; exact ⟨_, rfl, h⟩
  | str c => cases r.str; exact ⟨_, ⟨le_line h.1, rfl⟩, h.2⟩
  | lst ds =>
    obtain ⟨p, xs, rfl, hx, ra⟩ := r.lst e
    exact ⟨_, .inl ⟨xs, sq_of hx, rfl⟩, by rw [ra.emp]; exact h⟩
  | tup ds =>
    obtain ⟨p, xs, rfl, hx, _, ra⟩ := r.tup e
    exact ⟨_, .inr (.inl ⟨xs, hx, rfl⟩), by rw [ra.emp]; exact h⟩
  | dic ds =>
    obtain ⟨p, xs, rfl, hx, ra⟩ := r.dic e
    exact ⟨_, .inr (.inr ⟨xs, hx, rfl⟩), by rw [ra.emp]; exact h⟩
  | ext n d => exact h.elim
def wTru (wa : WE) : WT := fun δ EX P => wa δ EX fun x => qTru x P
theorem mt_tru (ha : MO X b a wa) (he : ∀ whole, isTrue a X.env whole = (do let v ← whole; standAt a.pos; holding [v] (truthy v)) := by intro _; rfl) : MT X b a (wTru wa) :=
  PT.imp (pt_truth ha he) fun σ H Q ⟨S, δ, P, I, hw, k⟩ => by
    refine ⟨S, δ, _, I, hw, fun x v S1 H1 g1 r1 h1 => ?_⟩
    obtain ⟨c, t, p⟩ := r1.tru g1.sh h1
    exact ⟨c, t, k c S1 H1 g1 p⟩
def wAndT (t u : WT) : WT := fun δ EX P => t δ EX fun c => if c = true then u δ EX P else P false
def wOrT (t u : WT) : WT := fun δ EX P => t δ EX fun c => if c = true then P true else u δ EX P
def wNotT (t : WT) : WT := fun δ EX P => t δ EX fun c => P (!c)
def MW (X : Cx) (b : Bs) (e : Expr) (w : WT) : Prop := PW X e (tM X.K b w)
variable {ta tb : WT}
theorem PW.imp {t t' : TT} (h : PW X e t) (f : ∀ σ H Q, t' σ H Q → t σ H Q) : PW X e t' := ⟨fun wh pins s σ H Q I q => h.run wh pins s σ H Q I (f σ H Q q)⟩
theorem mt_w (h : MW X b e ta) : MT X b e ta := L2.PW.pt h
theorem mw_and1 (ha : MT X b a ta) : MW X b (.BoolOp .And [a] pos) ta := pw_and1 ha
theorem mw_or1 (ha : MT X b a ta) : MW X b (.BoolOp .Or [a] pos) ta := pw_or1 ha
theorem mw_and (ha : MT X b a ta) (hb : MW X b (.BoolOp .And (c :: rest) pos) tb) : MW X b (.BoolOp .And (a :: c :: rest) pos) (wAndT ta tb) :=
  PW.imp (pw_and ha hb) fun σ H Q ⟨S, δ, P, I, hw, k⟩ => by
    refine ⟨S, δ, _, I, hw, fun x S1 H1 g1 h1 => ?_⟩
    cases x with
    | true =>
      rw [if_pos rfl] at h1 ⊢
      exact ⟨S1, δ, _, I.grow g1, h1, fun y S2 H2 g2 h2 => k y S2 H2 (g1.trans g2) h2⟩
    | false =>
      rw [if_neg Bool.false_ne_true] at h1 ⊢
      exact k _ S1 H1 g1 h1
theorem mw_or (ha : MT X b a ta) (hb : MW X b (.BoolOp .Or (c :: rest) pos) tb) : MW X b (.BoolOp .Or (a :: c :: rest) pos) (wOrT ta tb) :=
  PW.imp (pw_or ha hb) fun σ H Q ⟨S, δ, P, I, hw, k⟩ => by
    refine ⟨S, δ, _, I, hw, fun x S1 H1 g1 h1 => ?_⟩
    cases x with
    | true =>
      rw [if_pos rfl] at h1 ⊢
      exact k _ S1 H1 g1 h1
    | false =>
      rw [if_neg Bool.false_ne_true] at h1 ⊢
      exact ⟨S1, δ, _, I.grow g1, h1, fun y S2 H2 g2 h2 => k y S2 H2 (g1.trans g2) h2⟩
theorem mt_not (ha : MT X b a ta) : MT X b (.UnaryOp .Not a pos) (wNotT ta) :=
  PT.imp (pt_not ha) fun σ H Q ⟨S, δ, P, I, hw, k⟩ => ⟨S, δ, _, I, hw, fun x S1 H1 g1 h1 => k _ S1 H1 g1 h1⟩
def wAnd (wa wb : WE) : WE := fun δ EX P => wa δ EX fun x => qTru x fun c => if c = true then wb δ EX P else P x
def wOr (wa wb : WE) : WE := fun δ EX P => wa δ EX fun x => qTru x fun c => if c = true then P x else wb δ EX P
theorem me_and (ha : ME X b a wa) (hb : ME X b (.BoolOp .And (c :: rest) pos) wb) : ME X b (.BoolOp .And (a :: c :: rest) pos) (wAnd wa wb) :=
  PE.imp (pe_andT ha hb) fun σ H Q ⟨S, δ, P, I, hw, k⟩ => by
    refine ⟨S, δ, _, I, hw, fun x v S1 H1 g1 r1 h1 => ?_⟩
    obtain ⟨c, t, p⟩ := RepT.tru g1.sh (.inl r1) h1
    refine ⟨c, t, ?_⟩
    cases c with
    | true =>
      rw [if_pos rfl] at p ⊢
      exact ⟨S1, δ, _, I.grow g1, p, fun d u S2 H2 g2 r2 h2 => k d u S2 H2 (g1.trans g2) r2 h2⟩
    | false =>
      rw [if_neg Bool.false_ne_true] at p ⊢
      exact k _ _ S1 H1 g1 r1 p
theorem me_or (ha : ME X b a wa) (hb : ME X b (.BoolOp .Or (c :: rest) pos) wb) : ME X b (.BoolOp .Or (a :: c :: rest) pos) (wOr wa wb) :=
  PE.imp (pe_orT ha hb) fun σ H Q ⟨S, δ, P, I, hw, k⟩ => by
    refine ⟨S, δ, _, I, hw, fun x v S1 H1 g1 r1 h1 => ?_⟩
    obtain ⟨c, t, p⟩ := RepT.tru g1.sh (.inl r1) h1
    refine ⟨c, t, ?_⟩
    cases c with
    | true =>
      rw [if_pos rfl] at p ⊢
      exact k _ _ S1 H1 g1 r1 p
    | false =>
      rw [if_neg Bool.false_ne_true] at p ⊢
      exact ⟨S1, δ, _, I.grow g1, p, fun d u S2 H2 g2 r2 h2 => k d u S2 H2 (g1.trans g2) r2 h2⟩
theorem me_bone {op : BoolOp} (ha : ME X b a wa) : ME X b (.BoolOp op [a] pos) wa := pe_one ha
def wNot (wa : WE) : WE := fun δ EX P => wa δ EX fun x => qTru x fun c => P (.bl (!c))
theorem me_not (ha : MO X b a wa) : ME X b (.UnaryOp .Not a pos) (wNot wa) :=
  PE.imp (pe_notT ha) fun σ H Q ⟨S, δ, P, I, hw, k⟩ => by
    refine ⟨S, δ, _, I, hw, fun x v S1 H1 g1 r1 h1 => ?_⟩
    obtain ⟨c, t, p⟩ := r1.tru g1.sh h1
    exact ⟨c, t, k _ _ S1 H1 g1 (.bl _) p⟩
def wIfE (t : WT) (wa wb : WE) : WE := fun δ EX P => t δ EX fun c => if c = true then wa δ EX P else wb δ EX P
theorem me_if (ht : MT X b e ta) (ha : ME X b a wa) (hb : ME X b c wb) : ME X b (.IfExp e a c pos) (wIfE ta wa wb) :=
  PE.imp (pe_ifExp ht ha hb) fun σ H Q ⟨S, δ, P, I, hw, k⟩ => by
    refine ⟨S, δ, _, I, hw, fun x S1 H1 g1 h1 => ?_⟩
    cases x with
    | true =>
      rw [if_pos rfl] at h1 ⊢
      exact ⟨S1, δ, _, I.grow g1, h1, fun d u S2 H2 g2 r2 h2 => k d u S2 H2 (g1.trans g2) r2 h2⟩
    | false =>
      rw [if_neg Bool.false_ne_true] at h1 ⊢
      exact ⟨S1, δ, _, I.grow g1, h1, fun d u S2 H2 g2 r2 h2 => k d u S2 H2 (g1.trans g2) r2 h2⟩
end
end Mi
namespace Mi
open PySem L2 Evl PySem.Spec PyProof.Rows

section
variable {X : Cx} {b : Bs} {K : PySem.W.Frag} {g : G} {S S' H H' : Hp} {δ : Env} {σ : L2.St} {e a c e' : Expr} {es rest : List Expr} {w wa wb wc : WE} {wr : WA} {pos p : Pos} {x : Str} {id T : String}

/-! ### keys -/
def keyD : D → Option Key
  | .int i => some (.inl i)
  | .str s => some (.inr s)
  | _ => none
def valD (kvs : List (Key × D)) (k : Key) : Option D := (kvs.find? fun kv => decide (kv.1 = k)).map (·.2)
def putD (kvs : List (Key × D)) (k : Key) (v : D) : List (Key × D) :=
  if (kvs.any fun kv => decide (kv.1 = k)) = true then kvs.map (fun kv => if kv.1 = k then (kv.1, v) else kv) else kvs ++ [(k, v)]
theorem RepT.key {v : V} {d : D} {k : Key} (r : RepT K g S H v d) (h : keyD d = some k) : v = kV k := by
  cases d with
  | int i => cases h; exact r.int
  | str s => cases h; exact r.str
  | _ => cases h
theorem RepK.val {k : Key} : ∀ {vs : List (Key × V)} {ds : List (Key × D)}, RepK K g S vs ds →
    (∀ d, valD ds k = some d → ∃ v, valV vs k = some v ∧ Rep K g S v d) ∧ (valD ds k = none → valV vs k = none)
  | _, _, .nil => ⟨fun d h => by simp [valD] at h, fun _ => rfl⟩
  | _, _, .cons (k := k') (d := d') (ds := ds) h r => by
    obtain ⟨i1, i2⟩ := RepK.val (k := k) r
    by_cases e : k' = k
    · subst e
      refine ⟨fun d hd => ?_, fun hd => ?_⟩
      · simp [valD] at hd; subst hd; exact ⟨_, valV_pos rfl, h⟩
      · simp [valD] at hd
    · refine ⟨fun d hd => ?_, fun hd => ?_⟩
      · have q : valD ds k = some d := by simpa [valD, e] using hd
        obtain ⟨v, e1, r1⟩ := i1 d q
        exact ⟨v, (valV_neg (p := (k', _)) e).trans e1, r1⟩
      · have q : valD ds k = none := by simpa [valD, e] using hd
        exact (valV_neg (p := (k', _)) e).trans (i2 q)
theorem RepK.isSome {k : Key} {vs : List (Key × V)} {ds : List (Key × D)} (r : RepK K g S vs ds) : (valV vs k).isSome = (valD ds k).isSome := by
  obtain ⟨h1, h2⟩ := RepK.val (k := k) r
  cases h : valD ds k with
  | none => rw [h2 h]; rfl
  | some d => obtain ⟨v, e, _⟩ := h1 d h; rw [e]; rfl
theorem RepK.any {k : Key} : ∀ {vs : List (Key × V)} {ds : List (Key × D)}, RepK K g S vs ds → (vs.any fun kv => decide (kv.1 = k)) = ds.any fun kv => decide (kv.1 = k)
  | _, _, .nil => rfl
  | _, _, .cons h r => by rw [List.any_cons, List.any_cons, RepK.any r]
theorem RepK.snoc {k : Key} {v : V} {d : D} (h : Rep K g S v d) : ∀ {vs : List (Key × V)} {ds : List (Key × D)}, RepK K g S vs ds → RepK K g S (vs ++ [(k, v)]) (ds ++ [(k, d)])
  | _, _, .nil => .cons h .nil
  | _, _, .cons q r => .cons q (RepK.snoc h r)
theorem RepK.mapSet {k : Key} {v : V} {d : D} (h : Rep K g S v d) : ∀ {vs : List (Key × V)} {ds : List (Key × D)}, RepK K g S vs ds →
    RepK K g S (vs.map fun kv => if kv.1 = k then (kv.1, v) else kv) (ds.map fun kv => if kv.1 = k then (kv.1, d) else kv)
  | _, _, .nil => .nil
  | _, _, .cons (k := k') q r => by
    rw [List.map_cons, List.map_cons]
    by_cases e : k' = k
    · rw [if_pos e, if_pos e]; exact .cons h (RepK.mapSet h r)
    · rw [if_neg e, if_neg e]; exact .cons q (RepK.mapSet h r)
theorem RepK.put {k : Key} {v : V} {d : D} (h : Rep K g S v d) {vs : List (Key × V)} {ds : List (Key × D)} (r : RepK K g S vs ds) : RepK K g S (putK vs k v) (putD ds k d) := by
  unfold putK putD
  rw [r.any]
  split
  · exact r.mapSet h
  · exact r.snoc h
theorem RepK.keys : ∀ {vs : List (Key × V)} {ds : List (Key × D)}, RepK K g S vs ds → vs.map (·.1) = ds.map (·.1)
  | _, _, .nil => rfl
  | _, _, .cons h r => by rw [List.map_cons, List.map_cons, RepK.keys r]

/-! ### subscripts -/
def qIx (x y : D) (P : D → Prop) : Prop := match x with
  | .lst ds => (match y with | .int i => (match atI ds i with | some d => P d | none => False) | _ => False)
  | .tup ds => (match y with | .int i => (match atI ds i with | some d => P d | none => False) | _ => False)
  | .str s => (match y with | .int i => s.length ≤ Line ∧ (match atI s.cps.toList i with | some c => P (.str ⟨#[c]⟩) | none => False) | _ => False)
  | .dic kvs => (match keyD y with | some k => (match valD kvs k with | some d => P d | none => False) | none => False)
  | _ => False
theorem RepA.atI {vs : List V} {ds : List D} {i : Int} {d : D} (r : RepA K g S vs ds) (h : L2.atI ds i = some d) : ∃ v, L2.atI vs i = some v ∧ Rep K g S v d := by
  unfold L2.atI at h ⊢
  rw [r.len]
  cases e : ixN ds.length i with
  | none => rw [e] at h; cases h
  | some j =>
    rw [e] at h
    exact r.get h
/-- d[k] -/
def rIxDct : R2 := fun x y H Q => ∃ a v, x = .ref a ∧ DGet H a y (some v) ∧ Q v H
theorem ix_dct (hu : X.A.units + 1 < cLine) : IxR X rIxDct := by
  intro value slice pins s σ H x y v u Q I rx ry h hs
  obtain ⟨a, z, rfl, gt, q⟩ := h
  cases rx
  have hT := dict_typeIs I gt
  unfold subscriptTail
  refine wpAny_bind ?_
  rw [getitemInPython_of_ne hT.not_modules]
  refine wpAny_bind (wpAny_specialOf hT PySem.F.slot_dict_getitem.lookup ?_)
  have fin : wpAny (model X.prog X.w) X.A (subscripted slice false (.ref a) u) (fun r s₃ => wpAny (model X.prog X.w) X.A (letTemporaryGo value (.ref a) r >>= fun _ => pure r) (EP X pins σ Q) X.xe s₃) X.xe s := by
    rw [hs]
    exact wpAny_operating (d_getItem hu I gt ry fun w' s3 I3 rw' => wpAny_bind (wpAny_letTemporaryGo (wpAny_pure ⟨z, H, I3, rw', q⟩)))
  first
    | exact wpAny_pure (wpAny_bind fin)
    | exact wpAny_bind (wpAny_pure (wpAny_bind fin))
    | exact wpAny_bind fin
theorem od_ix : OpD K g (fun x y H Q => rIx K x y H Q ∨ rIxDct x y H Q) qIx := by
  intro S H x y v u P Q e rv ru hq k
  unfold qIx at hq
  split at hq
  · split at hq
    · split at hq
      · rename_i d hd
        obtain ⟨p, xs, rfl, hx, ra⟩ := rv.lst e
        cases ru.int
        obtain ⟨z, hz, rz⟩ := ra.atI hd
        exact .inl (.inl ⟨p, xs, _, z, rfl, rfl, sq_of hx, hz, k d z S H (Grow.refl e) rz hq⟩)
      · exact hq.elim
    · exact hq.elim
  · split at hq
    · split at hq
      · rename_i d hd
        obtain ⟨p, xs, rfl, hx, _, ra⟩ := rv.tup e
        cases ru.int
        obtain ⟨z, hz, rz⟩ := ra.atI hd
        exact .inl (.inr (.inl ⟨p, xs, _, z, rfl, rfl, hx, hz, k d z S H (Grow.refl e) rz hq⟩))
      · exact hq.elim
    · exact hq.elim
  · split at hq
    · obtain ⟨hl, hq⟩ := hq
      split at hq
      · rename_i d hd
        cases rv.str; cases ru.int
        exact .inl (.inr (.inr ⟨_, _, d, rfl, rfl, le_line hl, hd, k _ _ S H (Grow.refl e) (.str _) hq⟩))
      · exact hq.elim
    · exact hq.elim
  · split at hq
    · rename_i kk hk
      split at hq
      · rename_i d hd
        obtain ⟨p, xs, rfl, hx, ra⟩ := rv.dic e
        obtain ⟨z, hz, rz⟩ := ra.val.1 d hd
        refine .inr ⟨p, z, rfl, ?_, k d z S H (Grow.refl e) rz hq⟩
        rw [ru.key hk, ← hz]
        exact DGet.k hx
      · exact hq.elim
    · exact hq.elim
  · exact hq.elim
theorem PE.ix {r : R2} {q : D → D → (D → Prop) → Prop} (hr : IxR X r) (hd : OpD X.K b.g r q) (ha : MO X b a wa) (hb : MO X b c wb) (hs : PlainIx c) : ME X b (.Subscript a c pos) (wOp q wa wb) := PE.imp (pe_ix hr ha hb hs) fun _ _ _ h => tOp_of hd h
theorem me_ix (hu : X.A.units + 64 < cLine) (ha : MO X b a wa) (hb : MO X b c wb) (hs : PlainIx c := by intro _ _; rfl) : ME X b (.Subscript a c pos) (wOp qIx wa wb) := PE.ix (IxR.or ix_seq (ix_dct (by omega))) od_ix ha hb hs

/-! ### slices -/
abbrev WO := Env → (Exc → Prop) → (Option Int → Prop) → Prop
def tP (K : PySem.W.Frag) (b : Bs) (w : WO) : L2.TO := fun σ H Q => ∃ S δ P, StR K b δ σ S H ∧ w δ b.EX P ∧ ∀ o S' H', Grow S H S' H' → P o → Q o H'
def MP (X : Cx) (b : Bs) (e : Option Expr) (w : WO) : Prop := PO X e (tP X.K b w)
def wNoPart : WO := fun _ _ P => P none
def wPart (wa : WE) : WO := fun δ EX P => wa δ EX fun x => match x with
  | .int i => P (some i)
  | _ => False
theorem PO.imp {o : Option Expr} {t t' : L2.TO} (h : PO X o t) (f : ∀ σ H Q, t' σ H Q → t σ H Q) : PO X o t' := ⟨fun pins s σ H Q I q => h.run pins s σ H Q I (f σ H Q q)⟩
theorem mp_none : MP X b none wNoPart := PO.imp po_none fun σ H Q ⟨S, δ, P, I, hw, k⟩ => k none S H (Grow.refl I.sh) hw
theorem mp_some (ha : MO X b a wa) : MP X b (some a) (wPart wa) := PO.imp (po_some ha) fun σ H Q ⟨S, δ, P, I, hw, k⟩ => by
  refine ⟨S, δ, _, I, hw, fun x v S1 H1 g1 r1 h1 => ?_⟩
  split at h1
  · cases r1.int
    exact ⟨_, rfl, k _ S1 H1 g1 h1⟩
  · exact h1.elim
def cutD {α : Type} (xs : List α) (lo hi : Option Int) : List α := (xs.drop (HT.sIx xs.length 0 lo)).take (HT.sIx xs.length xs.length hi - HT.sIx xs.length 0 lo)
theorem RepA.cut {vs : List V} {ds : List D} (r : RepA K g S vs ds) (lo hi : Option Int) : RepA K g S (cutV vs lo hi) (cutD ds lo hi) := by
  unfold cutV cutD
  rw [r.len]
  exact (r.drop _).take _
def qSl (x : D) (lo hi : Option Int) (P : D → Prop) : Prop := match x with
  | .lst ds => P (.lst (cutD ds lo hi))
  | .tup ds => P (.tup (cutD ds lo hi))
  | .str s => s.length ≤ Line ∧ P (.str (cutS s lo hi))
  | _ => False
def qSlL (x : D) (lo hi : Option Int) (P : D → Prop) : Prop := match x with
  | .lst ds => P (.lst (cutD ds lo hi))
  | _ => False
variable {lo hi : Option Expr} {wl wh : WO} {p2 : Pos}
def wSl (q : D → Option Int → Option Int → (D → Prop) → Prop) (wa : WE) (wl wh : WO) : WE := fun δ EX P => wa δ EX fun x => wl δ EX fun l => wh δ EX fun h => q x l h P
theorem cutV_all {vs : List V} {lo hi : Option Int} (h : HT.sIx vs.length 0 lo = 0 ∧ HT.sIx vs.length vs.length hi = vs.length) : cutV vs lo hi = vs := by
  unfold cutV
  rw [h.1, h.2]
  simp
theorem cutD_all {α : Type} {vs : List α} {lo hi : Option Int} (h : HT.sIx vs.length 0 lo = 0 ∧ HT.sIx vs.length vs.length hi = vs.length) : cutD vs lo hi = vs := by
  unfold cutD
  rw [h.1, h.2]
  simp
theorem me_sl (ha : MO X b a wa) (hl : MP X b lo wl) (hh : MP X b hi wh) : ME X b (.Subscript a (.Slice lo hi none p2) pos) (wSl qSl wa wl wh) :=
  PE.imp (pe_slice (SlR.or sl_list (SlR.or sl_str sl_tupA)) ha hl hh) fun σ H Q ⟨S, δ, P, I, hw, k⟩ => by
    refine ⟨S, δ, _, I, hw, fun x v S1 H1 g1 r1 h1 => ?_⟩
    refine ⟨S1, δ, _, I.grow g1, h1, fun l S2 H2 g2 h2 => ?_⟩
    refine ⟨S2, δ, _, (I.grow g1).grow g2, h2, fun u S3 H3 g3 h3 => ?_⟩
    have gr := (g1.trans g2).trans g3
    have r3 := (r1.mono g2).mono g3
    unfold qSl at h3
    split at h3
    · obtain ⟨q, xs, rfl, hx, ra⟩ := r3.lst g3.sh
      refine .inl ⟨q, xs, rfl, sq_of hx, fun z hz => ?_⟩
      exact k _ _ _ _ (gr.trans (Grow.new g3.sh hz)) (.lst upd_same ((ra.cut l u).mono (Ex.new (none_of_ex g3.sh hz)))) h3
    · obtain ⟨q, xs, rfl, hx, sx, ra⟩ := r3.tup g3.sh
      refine .inr (.inr ⟨q, xs, rfl, hx, fun z => ?_, fun z q hq => ?_⟩)
      · have e1 : cutD _ l u = _ := cutD_all (by rw [ra.len] at z; exact z)
        rw [e1] at h3
        exact k _ _ _ _ gr (.tup sx ra) h3
      · exact k _ _ _ _ (gr.trans (Grow.new g3.sh hq)) (.tup (st_of upd_same) ((ra.cut l u).mono (Ex.new (none_of_ex g3.sh hq)))) h3
    · cases r3.str
      exact .inr (.inl ⟨_, rfl, le_line h3.1, k _ _ _ _ gr (.str _) h3.2⟩)
    · exact h3.elim
theorem mf_sl (ha : MO X b a wa) (hl : MP X b lo wl) (hh : MP X b hi wh) : MF X b (.Subscript a (.Slice lo hi none p2) pos) (wSl qSlL wa wl wh) :=
  PE.imp (pe_slice sl_list ha hl hh) fun σ H Q ⟨S, δ, P, I, hw, k⟩ => by
    refine ⟨S, δ, _, I, hw, fun x v S1 H1 g1 r1 h1 => ?_⟩
    refine ⟨S1, δ, _, I.grow g1, h1, fun l S2 H2 g2 h2 => ?_⟩
    refine ⟨S2, δ, _, (I.grow g1).grow g2, h2, fun u S3 H3 g3 h3 => ?_⟩
    have gr := (g1.trans g2).trans g3
    have r3 := (r1.mono g2).mono g3
    unfold qSlL at h3
    split at h3
    · obtain ⟨q, xs, rfl, hx, ra⟩ := r3.lst g3.sh
      refine ⟨q, xs, rfl, sq_of hx, fun z hz => ?_⟩
      exact k (.lst _) _ _ _ (gr.trans (Grow.newO g3.sh hz)) (none_of_ex gr.h hz) (none_of_ex g3.sh hz) ⟨_, upd_same, ra.cut l u⟩ h3
    · exact h3.elim
/-- x[::-1] -/
def qRev (x : D) (P : D → Prop) : Prop := match x with
  | .lst ds => P (.lst ds.reverse)
  | _ => False
theorem mf_rev {k0 : Nat} {p1 p2 p3 : Pos} (ha : MO X b a wa) : MF X b (.Subscript a (.Slice none none (some (.UnaryOp .USub (.Constant (.int 1) k0 p1) p2)) p3) pos) (wUn qRev wa) :=
  PE.imp (pe_revL ha) fun σ H Q ⟨S, δ, P, I, hw, k⟩ => by
    refine ⟨S, δ, _, I, hw, fun x v S1 H1 g1 r1 h1 => ?_⟩
    unfold qRev at h1
    split at h1
    · obtain ⟨q, xs, rfl, hx, ra⟩ := r1.lst g1.sh
      refine ⟨q, xs, rfl, sq_of hx, fun z hz => ?_⟩
      exact k (.lst _) _ _ _ (g1.trans (Grow.newO g1.sh hz)) (none_of_ex g1.h hz) (none_of_ex g1.sh hz) ⟨_, upd_same, ra.reverse⟩ h1
    · exact h1.elim

/-! ### arguments, displays -/
def wNil : WA := fun _ _ P => P []
def wCons (wa : WE) (wr : WA) : WA := fun δ EX P => wa δ EX fun x => wr δ EX fun xs => P (x :: xs)
theorem ma_nil : MA X b [] wNil := PA.imp pa_nil fun σ H Q ⟨S, δ, P, I, hw, k⟩ => k [] [] S H (Grow.refl I.sh) .nil hw
theorem ma_cons (ha : ME X b a wa) (hr : MA X b es wr) (hs : starEach (a :: es) X.env = (false, eval a X.env) :: starEach es X.env := by rfl) : MA X b (a :: es) (wCons wa wr) :=
  PA.imp (pa_cons ha hr hs) fun σ H Q ⟨S, δ, P, I, hw, k⟩ => by
    refine ⟨S, δ, _, I, hw, fun x v S1 H1 g1 r1 h1 => ?_⟩
    refine ⟨S1, δ, _, I.grow g1, h1, fun xs vs S2 H2 g2 r2 h2 => ?_⟩
    exact k _ _ S2 H2 (g1.trans g2) (.cons (r1.mono g2.s) r2) h2
def wTup (wr : WA) : WE := fun δ EX P => wr δ EX fun xs => xs.length ≤ Line ∧ P (.tup xs)
def wLst (wr : WA) : WE := fun δ EX P => wr δ EX fun xs => xs.length ≤ Line ∧ P (.lst xs)
theorem me_tup {x1} (h : MA X b es wr) : ME X b (.Tuple es x1 pos) (wTup wr) := PE.imp (pe_tup h) fun σ H Q ⟨S, δ, P, I, hw, k⟩ => by
  refine ⟨S, δ, _, I, hw, fun xs vs S1 H1 g1 r1 h1 => ⟨by rw [r1.len]; exact le_line h1.1, fun q hq => ?_⟩⟩
  exact k _ _ _ _ (g1.trans (Grow.new g1.sh hq)) (.tup (st_of upd_same) (r1.mono (Ex.new (none_of_ex g1.sh hq)))) h1.2
theorem mf_lst (h : MA X b es wr) : MF X b (.List es pos) (wLst wr) := PE.imp (pe_lst h) fun σ H Q ⟨S, δ, P, I, hw, k⟩ => by
  refine ⟨S, δ, _, I, hw, fun xs vs S1 H1 g1 r1 h1 => ⟨by rw [r1.len]; exact le_line h1.1, fun q hq => ?_⟩⟩
  exact k (.lst _) _ _ _ (g1.trans (Grow.newO g1.sh hq)) (none_of_ex g1.h hq) (none_of_ex g1.sh hq) ⟨_, upd_same, r1⟩ h1.2
theorem me_lst (h : MA X b es wr) : ME X b (.List es pos) (wLst wr) := me_ofF (mf_lst h)
/-- {} -/
theorem mf_dic0 : MF X b (.Dict [] [] pos) (wC (.dic [])) := PE.imp pe_dnewK fun σ H Q ⟨S, δ, P, I, hw, k⟩ q hq =>
  k (.dic []) _ _ _ (Grow.newO I.sh hq) hq (none_of_ex I.sh hq) ⟨[], upd_same, .nil⟩ hw

/-! ### calls of built-ins -/
def B1 (K : PySem.W.Frag) (g : G) (r : List V → Hp → VK → Prop) (q : D → (D → Prop) → Prop) : Prop :=
  ∀ S H x v (P : D → Prop) (Q : VK), Ex S H → RepT K g S H v x → q x P → (∀ d w S' H', Grow S H S' H' → Rep K g S' w d → P d → Q w H') → r [v] H Q
def B1F (K : PySem.W.Frag) (g : G) (r : List V → Hp → VK → Prop) (q : D → (D → Prop) → Prop) : Prop :=
  ∀ S H x v (P : D → Prop) (Q : VK), Ex S H → RepT K g S H v x → q x P → (∀ d p S' H', Grow S H S' H' → H p = none → S' p = none → OwnR K g S' H' p d → P d → Q (.ref p) H') → r [v] H Q
theorem B1.or {r r' : List V → Hp → VK → Prop} {q q' : D → (D → Prop) → Prop} (h : B1 K g r q) (h' : B1 K g r' q') : B1 K g (fun xs H Q => r xs H Q ∨ r' xs H Q) (fun x P => q x P ∨ q' x P) :=
  fun S H x v P Q e rv hq k => hq.elim (fun z => .inl (h S H x v P Q e rv z k)) fun z => .inr (h' S H x v P Q e rv z k)
theorem B1.imp {r : List V → Hp → VK → Prop} {q q' : D → (D → Prop) → Prop} (h : B1 K g r q) (f : ∀ x P, q' x P → q x P) : B1 K g r q' := fun S H x v P Q e rv hq k => h S H x v P Q e rv (f x P hq) k
theorem B1F.b1 {r : List V → Hp → VK → Prop} {q : D → (D → Prop) → Prop} (h : B1F K g r q) : B1 K g r q := fun S H x v P Q e rv hq k => h S H x v P Q e rv hq fun d p S' H' gr hp sp o hd => by
  obtain ⟨S2, e1, e2, e3, r⟩ := o.stab gr.sh sp
  exact k d (.ref p) S2 H' ⟨gr.s.trans e1, gr.h, e2, fun q u hq => (e3 q (ne_of_none hq hp)).trans (gr.old q u hq)⟩ r hd
theorem tB1_of {r : List V → Hp → VK → Prop} {q : D → (D → Prop) → Prop} (hr : B1 K b.g r q) {Q : VK} (h : tE K b (wUn q wa) σ H Q) : tCB r (tCons (tO K b wa) tNil) σ H Q := by
  obtain ⟨S, δ, P, I, hw, k⟩ := h
  refine ⟨S, δ, _, I, hw, fun x v S1 H1 g1 r1 h1 => ?_⟩
  exact hr S1 H1 x v P Q g1.sh r1 h1 fun d z S2 H2 g2 r2 h2 => k d z S2 H2 (g1.trans g2) r2 h2
theorem tB1F_of {r : List V → Hp → VK → Prop} {q : D → (D → Prop) → Prop} (hr : B1F K b.g r q) {Q : VK} (h : tF K b (wUn q wa) σ H Q) : tCB r (tCons (tO K b wa) tNil) σ H Q := by
  obtain ⟨S, δ, P, I, hw, k⟩ := h
  refine ⟨S, δ, _, I, hw, fun x v S1 H1 g1 r1 h1 => ?_⟩
  exact hr S1 H1 x v P Q g1.sh r1 h1 fun d z S2 H2 g2 hp sp r2 h2 => k d z S2 H2 (g1.trans g2) (none_of_ex g1.h hp) sp r2 h2
section
variable {r : List V → Hp → VK → Prop} {q : D → (D → Prop) → Prop}
theorem paO (ha : MO X b a wa) (hs : starEach [a] X.env = (false, eval a X.env) :: starEach [] X.env := by rfl) : PA X [a] (tCons (tO X.K b wa) tNil) := pa_cons ha pa_nil hs
theorem paO2 (ha : MO X b a wa) (hc : MO X b c wc) (hs : starEach [a, c] X.env = (false, eval a X.env) :: starEach [c] X.env := by rfl) (hs2 : starEach [c] X.env = (false, eval c X.env) :: starEach [] X.env := by rfl) :
    PA X [a, c] (tCons (tO X.K b wa) (tCons (tO X.K b wc) tNil)) := pa_cons ha (pa_cons hc pa_nil hs2) hs
theorem me_b1 (hc : CallR X (.builtin id) r) (hr : B1 X.K b.g r q) (hg : Gl X x) (hm : X.mg x = none) (hv : bootBuiltins x = some (.builtin id)) (ha : MO X b a wa) (hn : x ≠ "__name__" := by decide) (hdb : (x == ("__debug__" : Str)) = false := by decide)
    (hs : starEach [a] X.env = (false, eval a X.env) :: starEach [] X.env := by rfl) (hpl : (backTo pos (starEach [] X.env)).any (·.1) = false := by rfl) : ME X b (.Call (.Name x p) [a] [] pos) (wUn q wa) :=
  PE.imp (pe_callB hc hg hm hv (paO ha hs) hn hdb hs hpl) fun _ _ _ h => tB1_of hr h
theorem mf_b1 (hc : CallR X (.builtin id) r) (hr : B1F X.K b.g r q) (hg : Gl X x) (hm : X.mg x = none) (hv : bootBuiltins x = some (.builtin id)) (ha : MO X b a wa) (hn : x ≠ "__name__" := by decide) (hdb : (x == ("__debug__" : Str)) = false := by decide)
    (hs : starEach [a] X.env = (false, eval a X.env) :: starEach [] X.env := by rfl) (hpl : (backTo pos (starEach [] X.env)).any (·.1) = false := by rfl) : MF X b (.Call (.Name x p) [a] [] pos) (wUn q wa) :=
  PE.imp (pe_callB hc hg hm hv (paO ha hs) hn hdb hs hpl) fun _ _ _ h => tB1F_of hr h
theorem me_t1 (hc : CallR X (.type T) r) (hr : B1 X.K b.g r q) (hg : Gl X x) (hm : X.mg x = none) (hv : bootBuiltins x = some (.type T)) (ha : MO X b a wa) (hn : x ≠ "__name__" := by decide) (hdb : (x == ("__debug__" : Str)) = false := by decide)
    (hs : starEach [a] X.env = (false, eval a X.env) :: starEach [] X.env := by rfl) (hpl : (backTo pos (starEach [] X.env)).any (·.1) = false := by rfl) : ME X b (.Call (.Name x p) [a] [] pos) (wUn q wa) :=
  PE.imp (pe_callTy hc hg hm hv (paO ha hs) hn hdb hs hpl) fun _ _ _ h => tB1_of hr h
theorem mf_t1 (hc : CallR X (.type T) r) (hr : B1F X.K b.g r q) (hg : Gl X x) (hm : X.mg x = none) (hv : bootBuiltins x = some (.type T)) (ha : MO X b a wa) (hn : x ≠ "__name__" := by decide) (hdb : (x == ("__debug__" : Str)) = false := by decide)
    (hs : starEach [a] X.env = (false, eval a X.env) :: starEach [] X.env := by rfl) (hpl : (backTo pos (starEach [] X.env)).any (·.1) = false := by rfl) : MF X b (.Call (.Name x p) [a] [] pos) (wUn q wa) :=
  PE.imp (pe_callTy hc hg hm hv (paO ha hs) hn hdb hs hpl) fun _ _ _ h => tB1F_of hr h
end
end
end Mi
namespace Mi
open PySem L2 Evl PySem.Spec PyProof.Rows

/-! ### statements -/
structure Co where
  nx : Env → Prop
  rt : D → Prop
  bk : Env → Prop := fun _ => False
  ct : Env → Prop := fun _ => False
abbrev WS := Env → (Exc → Prop) → Co → Prop
/-- a value handed back -/
structure RetR (K : PySem.W.Frag) (b : Bs) (S' H' : Hp) (v : V) (d : D) : Prop where
  s : Ex b.S0 S'
  h : Ex b.H0 H'
  sh : Ex S' H'
  old : ∀ p o, b.H0 p = some o → S' p = b.S0 p
  r : if b.fr = true then ∃ p, v = .ref p ∧ b.H0 p = none ∧ S' p = none ∧ OwnR K b.g S' H' p d else Rep K b.g S' v d
def Nx (K : PySem.W.Frag) (b : Bs) (S : Hp) (P : Env → Prop) (Q : L2.St → Hp → Prop) : Prop := ∀ δ' σ' S' H', Ex S S' → StR K b δ' σ' S' H' → P δ' → Q σ' H'
theorem Nx.mono {K : PySem.W.Frag} {b : Bs} {S S1 : Hp} {P : Env → Prop} {Q : L2.St → Hp → Prop} (h : Nx K b S P Q) (e : Ex S S1) : Nx K b S1 P Q := fun δ' σ' S' H' e' => h δ' σ' S' H' (e.trans e')
/-- the four ways out -/
structure Way (K : PySem.W.Frag) (b : Bs) (S : Hp) (C : Co) (Dn : Ends) : Prop where
  nx : Nx K b S C.nx Dn.nx
  rt : ∀ d v S' H', RetR K b S' H' v d → C.rt d → Dn.rt v H'
  bk : Nx K b S C.bk Dn.bk
  ct : Nx K b S C.ct Dn.ct
theorem Way.mono {K : PySem.W.Frag} {b : Bs} {S S1 : Hp} {C : Co} {Dn : Ends} (h : Way K b S C Dn) (e : Ex S S1) : Way K b S1 C Dn := ⟨h.nx.mono e, h.rt, h.bk.mono e, h.ct.mono e⟩
def tS (K : PySem.W.Frag) (b : Bs) (w : WS) : TS := fun Dn σ H => ∃ S δ C, StR K b δ σ S H ∧ w δ b.EX C ∧ Way K b S C Dn
def MS (X : Cx) (b : Bs) (s : Stmt) (w : WS) : Prop := PS X s (tS X.K b w)
def MSs (X : Cx) (b : Bs) (s : List Stmt) (w : WS) : Prop := PSs X s (tS X.K b w)

section
variable {X : Cx} {b : Bs} {K : PySem.W.Frag} {g : G} {S S' H H' : Hp} {δ : Env} {σ : L2.St} {e a c e' : Expr} {es rest : List Expr} {w wa wb wc : WE} {wr : WA} {pos p : Pos} {x : Str} {id T : String} {s s1 : Stmt} {ss body orelse : List Stmt} {u u1 u2 : WS} {ta : WT}
theorem PS.imp {t t' : TS} (h : PS X s t) (f : ∀ Dn σ H, t' Dn σ H → t Dn σ H) : PS X s t' := ⟨fun pins st σ H Dn I q => h.run pins st σ H Dn I (f Dn σ H q)⟩
theorem PSs.imp {t t' : TS} (h : PSs X ss t) (f : ∀ Dn σ H, t' Dn σ H → t Dn σ H) : PSs X ss t' := ⟨fun pins st σ H Dn I q => h.run pins st σ H Dn I (f Dn σ H q)⟩
theorem StR.ret (I : StR K b δ σ S H) (hf : b.fr = false) {v : V} {d : D} (r : Rep K b.g S v d) : RetR K b S H v d := ⟨I.s0, I.h0, I.sh, I.old, by rw [hf, if_neg Bool.false_ne_true]; exact r⟩

def wNext : WS := fun δ _ C => C.nx δ
def wSeq (u1 u2 : WS) : WS := fun δ EX C => u1 δ EX { C with nx := fun δ' => u2 δ' EX C }
/-- a word M between two statements -/
def wCut (u1 u2 : WS) : WS := fun δ EX C => ∃ M : Env → Prop, u1 δ EX { C with nx := M } ∧ ∀ δ', M δ' → u2 δ' EX C
theorem ms_nil : MSs X b [] wNext := PSs.imp pss_nil fun Dn σ H ⟨S, δ, C, I, hw, k⟩ => k.nx δ σ S H (Ex.refl _) I hw
theorem ms_cons (h1 : MS X b s u1) (h2 : MSs X b ss u2) : MSs X b (s :: ss) (wSeq u1 u2) := PSs.imp (pss_cons h1 h2) fun Dn σ H ⟨S, δ, C, I, hw, k⟩ =>
  ⟨S, δ, _, I, hw, fun δ' σ' S' H' e I' h' => ⟨S', δ', C, I', h', k.mono e⟩, k.rt, k.bk, k.ct⟩
theorem ms_cut (h1 : MS X b s u1) (h2 : MSs X b ss u2) : MSs X b (s :: ss) (wCut u1 u2) := PSs.imp (pss_cons h1 h2) fun Dn σ H ⟨S, δ, C, I, ⟨M, hw, hM⟩, k⟩ =>
  ⟨S, δ, _, I, hw, fun δ' σ' S' H' e I' h' => ⟨S', δ', C, I', hM δ' h', k.mono e⟩, k.rt, k.bk, k.ct⟩
theorem ms_one (h1 : MS X b s u1) : MSs X b [s] u1 := pss_one h1
/-- an owned name becomes stable: a ghost step ahead of a block -/
def wFreeze (i : Nat) (u : WS) : WS := fun δ EX C => match δ[i]? with
  | some (some ⟨d, true⟩) => u (δ.set i (st d)) EX C
  | some (some ⟨_, false⟩) => u δ EX C
  | _ => False
theorem ms_freeze (i : Nat) (h : MSs X b ss u) : MSs X b ss (wFreeze i u) := PSs.imp h fun Dn σ H ⟨S, δ, C, I, hw, k⟩ => by
  unfold wFreeze at hw
  split at hw
  · rename_i d hd
    obtain ⟨S2, e, I2⟩ := I.freeze hd
    exact ⟨S2, _, C, I2, hw, k.mono e⟩
  · exact ⟨S, δ, C, I, hw, k⟩
  · exact hw.elim
/-- a name is forgotten -/
def wForget (i : Nat) (u : WS) : WS := fun δ EX C => u (δ.set i none) EX C
theorem ms_forget (i : Nat) (h : MSs X b ss u) : MSs X b ss (wForget i u) := PSs.imp h fun Dn σ H ⟨S, δ, C, I, hw, k⟩ => ⟨S, _, C, I.forget i, hw, k⟩
theorem ms_pass : MS X b (.Pass pos) wNext := PS.imp ps_pass fun Dn σ H ⟨S, δ, C, I, hw, k⟩ => k.nx δ σ S H (Ex.refl _) I hw
def wBreak : WS := fun δ _ C => C.bk δ
def wCont : WS := fun δ _ C => C.ct δ
theorem ms_break : MS X b (.Break pos) wBreak := PS.imp ps_break fun Dn σ H ⟨S, δ, C, I, hw, k⟩ => k.bk δ σ S H (Ex.refl _) I hw
theorem ms_continue : MS X b (.Continue pos) wCont := PS.imp ps_continue fun Dn σ H ⟨S, δ, C, I, hw, k⟩ => k.ct δ σ S H (Ex.refl _) I hw
def wRet (wa : WE) : WS := fun δ EX C => wa δ EX C.rt
theorem ms_ret (hf : b.fr = false) (ha : ME X b a wa) : MS X b (.Return (some a) pos) (wRet wa) := PS.imp (ps_ret ha) fun Dn σ H ⟨S, δ, C, I, hw, k⟩ =>
  ⟨S, δ, _, I, hw, fun d v S' H' gr r hd => k.rt d v S' H' ((I.grow gr).ret hf r) hd⟩
theorem ms_retF (hf : b.fr = true) (ha : MF X b a wa) : MS X b (.Return (some a) pos) (wRet wa) := PS.imp (ps_ret ha) fun Dn σ H ⟨S, δ, C, I, hw, k⟩ =>
  ⟨S, δ, _, I, hw, fun d q S' H' gr hp sp r hd => by
    have J := I.grow gr
    exact k.rt d (.ref q) S' H' ⟨J.s0, J.h0, J.sh, J.old, by rw [hf, if_pos rfl]; exact ⟨q, rfl, fresh_back I.h0 hp, sp, r⟩⟩ hd⟩
/-- an owned name is handed back, fresh -/
def wRetO (i : Nat) : WS := fun δ _ C => match δ[i]? with
  | some (some ⟨d, true⟩) => C.rt d
  | _ => False
theorem ms_retO (hf : b.fr = true) (i : Nat) {p' : Pos} (hN : X.N[i]? = some x := by rfl) (hv : Vis X.env.scope x := by first | exact Or.inl rfl | exact Or.inr (Or.inl rfl) | exact Or.inr (Or.inr rfl)) (hd : (x == ("__debug__" : Str)) = false := by decide)
    (hcd : (x == ("__classdict__" : Str)) = false := by decide) : MS X b (.Return (some (.Name x p')) pos) (wRetO i) := PS.imp (ps_ret (pe_var hN hv hd hcd)) fun Dn σ H ⟨S, δ, C, I, hw, k⟩ => by
  unfold wRetO at hw
  split at hw
  · rename_i d he
    obtain ⟨q, e1, h0, s0, r⟩ := I.getO he
    exact ⟨_, e1, k.rt d _ S H ⟨I.s0, I.h0, I.sh, I.old, by rw [hf, if_pos rfl]; exact ⟨q, rfl, h0, s0, r⟩⟩ hw⟩
  · exact hw.elim
def wRetN : WS := fun _ _ C => C.rt .non
theorem ms_retN (hf : b.fr = false) : MS X b (.Return none pos) wRetN := PS.imp ps_retN fun Dn σ H ⟨S, δ, C, I, hw, k⟩ => k.rt .non .non S H (I.ret hf .non) hw
def wDrop (wa : WE) : WS := fun δ EX C => wa δ EX fun _ => C.nx δ
theorem ms_expr (ha : ME X b a wa) (hs : swapsWith a none pos.line X.env = pure false := by rfl) : MS X b (.Expr a pos) (wDrop wa) := PS.imp (ps_expr ha hs) fun Dn σ H ⟨S, δ, C, I, hw, k⟩ =>
  ⟨S, δ, _, I, hw, fun d v S' H' gr r hd => k.nx δ σ S' H' gr.s (I.grow gr) hd⟩
def wIf (t : WT) (u1 u2 : WS) : WS := fun δ EX C => t δ EX fun c => if c = true then u1 δ EX C else u2 δ EX C
theorem ms_if (ht : MT X b e ta) (h1 : MSs X b body u1) (h2 : MSs X b orelse u2) : MS X b (.If e body orelse pos) (wIf ta u1 u2) := PS.imp (ps_if ht h1 h2) fun Dn σ H ⟨S, δ, C, I, hw, k⟩ => by
  refine ⟨S, δ, _, I, hw, fun x S1 H1 g1 hx => ?_⟩
  cases x with
  | true =>
    rw [if_pos rfl] at hx ⊢
    exact ⟨S1, δ, C, I.grow g1, hx, k.mono g1.s⟩
  | false =>
    rw [if_neg Bool.false_ne_true] at hx ⊢
    exact ⟨S1, δ, C, I.grow g1, hx, k.mono g1.s⟩
def wNever : WS := fun _ _ _ => False
theorem ms_never : MS X b s wNever := PS.imp ps_never fun Dn σ H ⟨S, δ, C, I, hw, k⟩ => hw.elim

/-! ### targets -/
abbrev WG := D → Env → (Env → Prop) → Prop
abbrev WGs := List D → Env → (Env → Prop) → Prop
theorem wipe_get : ∀ (vs : List Nat) (σ : L2.St) (j : Nat), (L2.wipe σ vs)[j]? = if j ∈ vs then (if j < σ.length then some none else none) else σ[j]?
  | [], σ, j => by simp [L2.wipe]
  | v :: vs, σ, j => by
    show ((L2.wipe σ vs).set v none)[j]? = _
    rw [List.getElem?_set, wipe_get vs σ j, wipe_length]
    by_cases h : v = j
    · subst h; simp
    · rw [if_neg h]
      have q : ¬ j = v := fun e => h e.symm
      simp [q]
theorem wipe_set {vs : List Nat} {σ : L2.St} {i : Nat} {o : Option V} (h : i ∈ vs) : L2.wipe (σ.set i o) vs = L2.wipe σ vs := by
  apply List.ext_getElem?
  intro j
  rw [wipe_get, wipe_get, List.length_set]
  by_cases hj : j ∈ vs
  · rw [if_pos hj, if_pos hj]
  · rw [if_neg hj, if_neg hj, List.getElem?_set_ne (fun e : i = j => hj (by rw [← e]; exact h))]
def tGt (K : PySem.W.Frag) (b : Bs) (vs : List Nat) (wg : WG) : TG := fun v σ H Q => ∃ S δ d P, StR K b δ σ S H ∧ Rep K b.g S v d ∧ wg d δ P ∧ ∀ δ' σ', StR K b δ' σ' S H → L2.wipe σ' vs = L2.wipe σ vs → P δ' → Q σ' H
def tGts (K : PySem.W.Frag) (b : Bs) (vs : List Nat) (wg : WGs) : TGs := fun us σ H Q => ∃ S δ ds P, StR K b δ σ S H ∧ RepA K b.g S us ds ∧ wg ds δ P ∧ ∀ δ' σ', StR K b δ' σ' S H → L2.wipe σ' vs = L2.wipe σ vs → P δ' → Q σ' H
def MG (X : Cx) (b : Bs) (vs : List Nat) (e : Expr) (wg : WG) : Prop := PG X e (tGt X.K b vs wg)
def MGs (X : Cx) (b : Bs) (vs : List Nat) (es : List Expr) (wg : WGs) : Prop := PGs X es (tGts X.K b vs wg)
variable {wg : WG} {wgs : WGs} {vs : List Nat}
theorem PG.imp {t t' : TG} (h : PG X e t) (f : ∀ v σ H Q, t' v σ H Q → t v σ H Q) : PG X e t' := ⟨fun pins s σ H v u Q I r q => h.run pins s σ H v u Q I r (f v σ H Q q)⟩
theorem PGs.imp {t t' : TGs} (h : PGs X es t) (f : ∀ v σ H Q, t' v σ H Q → t v σ H Q) : PGs X es t' := ⟨fun pins s σ H v u Q I r q => h.run pins s σ H v u Q I r (f v σ H Q q)⟩
def wgName (i : Nat) : WG := fun d δ P => P (δ.set i (st d))
theorem mg_name (i : Nat) (hN : X.N.Nodup) (hm : i ∈ vs := by decide) (hi : X.N[i]? = some x := by rfl) (hx : Loc X.env.scope x := by first | exact Or.inl rfl | exact Or.inr rfl) (hf : X.fn x = true ∨ X.env.scope.names.lookup x = some .local := by first | exact .inl rfl | exact .inr rfl | assumption) :
    MG X b vs (.Name x pos) (wgName i) := PG.imp (pg_name hN hi hx hf) fun v σ H Q ⟨S, δ, d, P, I, r, hw, k⟩ => k _ _ (I.set r i) (wipe_set hm) hw
def wgNil : WGs := fun ds δ P => match ds with
  | [] => P δ
  | _ => False
def wgCons (wg : WG) (wr : WGs) : WGs := fun ds δ P => match ds with
  | d :: r => wg d δ fun δ' => wr r δ' P
  | [] => False
theorem mgs_nil : MGs X b vs [] wgNil := PGs.imp pgs_nil fun v σ H Q ⟨S, δ, ds, P, I, r, hw, k⟩ => by
  unfold wgNil at hw
  split at hw
  · cases r
    exact ⟨rfl, k _ _ I rfl hw⟩
  · exact hw.elim
theorem mgs_cons (h1 : MG X b vs e wg) (h2 : MGs X b vs es wgs) (hs : (assignEach (e :: es) X.env).map (·.2) = assign e X.env :: (assignEach es X.env).map (·.2) := by rfl) : MGs X b vs (e :: es) (wgCons wg wgs) :=
  PGs.imp (pgs_cons h1 h2 hs) fun v σ H Q ⟨S, δ, ds, P, I, r, hw, k⟩ => by
    unfold wgCons at hw
    split at hw
    · cases r with
      | cons h r => exact ⟨_, _, rfl, S, δ, _, _, I, h, hw, fun δ' σ' I' e' h' => ⟨S, δ', _, P, I', r, h', fun δ2 σ2 I2 e2 => k δ2 σ2 I2 (e2.trans e')⟩⟩
    · exact hw.elim
def wgTup (wr : WGs) : WG := fun d δ P => match d with
  | .tup ds => wr ds δ P
  | _ => False
theorem mg_tup {k0 : Nat} (n : Nat) (hc : X.calm = true) (h : MGs X b vs es wgs) (hn : (assignEach es X.env).length = n := by rfl) (hst : (assignEach es X.env).findIdx? (·.1) = none := by rfl) (hl : ∀ ds δ P, wgs ds δ P → ds.length = n) : MG X b vs (.Tuple es k0 pos) (wgTup wgs) :=
  PG.imp (pg_tup hc h hn hst) fun v σ H Q ⟨S, δ, d, P, I, r, hw, k⟩ => by
    unfold wgTup at hw
    split at hw
    · cases r with
      | tup h r => exact ⟨_, _, rfl, ex_t I.sh h, by rw [r.len]; exact hl _ _ _ hw, S, δ, _, P, I, r, hw, k⟩
    · exact hw.elim
theorem wgNil_len {ds : List D} {P : Env → Prop} (h : wgNil ds δ P) : ds.length = 0 := by
  unfold wgNil at h
  split at h
  · rfl
  · exact h.elim
theorem wgCons_len {n : Nat} {ds : List D} {P : Env → Prop} (hr : ∀ ds δ P, wgs ds δ P → ds.length = n) (hg : ∀ d δ P, wg d δ P → ∃ δ', P δ') (h : wgCons wg wgs ds δ P) : ds.length = n + 1 := by
  unfold wgCons at h
  split at h
  · obtain ⟨δ', h'⟩ := hg _ _ _ h
    rw [List.length_cons, hr _ _ _ h']
  · exact h.elim
theorem wgName_ex {i : Nat} : ∀ d δ (P : Env → Prop), wgName i d δ P → ∃ δ', P δ' := fun _ _ _ h => ⟨_, h⟩
theorem wgTup_ex {wr : WGs} (h : ∀ ds δ (P : Env → Prop), wr ds δ P → ∃ δ', P δ') : ∀ d δ (P : Env → Prop), wgTup wr d δ P → ∃ δ', P δ' := fun d δ P q => by
  unfold wgTup at q
  split at q
  · exact h _ _ _ q
  · exact q.elim
theorem wgNil_ex : ∀ ds δ (P : Env → Prop), wgNil ds δ P → ∃ δ', P δ' := fun ds δ P q => by
  unfold wgNil at q
  split at q
  · exact ⟨_, q⟩
  · exact q.elim
theorem wgCons_ex (hg : ∀ d δ (P : Env → Prop), wg d δ P → ∃ δ', P δ') (hr : ∀ ds δ (P : Env → Prop), wgs ds δ P → ∃ δ', P δ') : ∀ ds δ (P : Env → Prop), wgCons wg wgs ds δ P → ∃ δ', P δ' := fun ds δ P q => by
  unfold wgCons at q
  split at q
  · obtain ⟨δ', h⟩ := hg _ _ _ q
    exact hr _ _ _ h
  · exact q.elim
/-- target = value, the value stable -/
def wAsg (wa : WE) (wg : WG) : WS := fun δ EX C => wa δ EX fun d => wg d δ C.nx
theorem ms_asg {tg : Expr} (ha : ME X b a wa) (hg : MG X b vs tg wg) (hs : swapsWithSole [tg] a pos.line X.env = pure false := by rfl) (hw : swappedStores [tg] a X.env = pure none := by rfl)
    (h1 : (assignEach [tg] X.env).map (·.2) = [assign tg X.env] := by rfl) : MS X b (.Assign [tg] a pos) (wAsg wa wg) := PS.imp (ps_asg ha hg hs hw h1) fun Dn σ H ⟨S, δ, C, I, hw, k⟩ => by
  refine ⟨S, δ, _, I, hw, fun d v S' H' gr r hd => ?_⟩
  exact ⟨S', δ, d, _, I.grow gr, r, hd, fun δ' σ' I' _ h' => k.nx δ' σ' S' H' gr.s I' h'⟩
theorem ms_set (i : Nat) {p' : Pos} (hN : X.N.Nodup) (ha : ME X b a wa) (hi : X.N[i]? = some x := by rfl) (hx : Loc X.env.scope x := by first | exact Or.inl rfl | exact Or.inr rfl) (hs : swapsWith a (some (.Name x p')) pos.line X.env = pure false := by rfl)
    (hf : X.fn x = true ∨ X.env.scope.names.lookup x = some .local := by first | exact .inl rfl | exact .inr rfl | assumption) : MS X b (.Assign [.Name x p'] a pos) (wAsg wa (wgName i)) := PS.imp (L2.ps_set hN hi hx ha hs hf) fun Dn σ H ⟨S, δ, C, I, hw, k⟩ => by
  refine ⟨S, δ, _, I, hw, fun d v S' H' gr r hd => ?_⟩
  exact k.nx _ _ S' H' gr.s ((I.grow gr).set r i) hd
/-- name = a fresh list (dict), owned from there on -/
def wSetO (i : Nat) (wa : WE) : WS := fun δ EX C => wa δ EX fun d => C.nx (δ.set i (ow d))
theorem ms_setO (i : Nat) {p' : Pos} (hN : X.N.Nodup) (ha : MF X b a wa) (hi : X.N[i]? = some x := by rfl) (hx : Loc X.env.scope x := by first | exact Or.inl rfl | exact Or.inr rfl) (hs : swapsWith a (some (.Name x p')) pos.line X.env = pure false := by rfl)
    (hf : X.fn x = true ∨ X.env.scope.names.lookup x = some .local := by first | exact .inl rfl | exact .inr rfl | assumption) : MS X b (.Assign [.Name x p'] a pos) (wSetO i wa) := PS.imp (L2.ps_set hN hi hx ha hs hf) fun Dn σ H ⟨S, δ, C, I, hw, k⟩ => by
  refine ⟨S, δ, _, I, hw, fun d q S' H' gr hp sp r hd => ?_⟩
  exact k.nx _ _ S' H' gr.s (I.setO gr hp sp r i) hd
/-- a, b = e1, e2 -/
def wPar (i j : Nat) (wa wb : WE) : WS := fun δ EX C => wa δ EX fun x => wb δ EX fun y => C.nx ((δ.set i (st x)).set j (st y))
theorem ms_par (i j : Nat) {y : Str} {px py pt : Pos} {kt k2 pt2} (hc : X.calm = true) (hN : X.N.Nodup) (ha : ME X b a wa) (hb : ME X b c wb) (hi : X.N[i]? = some x := by rfl) (hj : X.N[j]? = some y := by rfl) (hij : i ≠ j := by decide)
    (hx : X.env.scope.names.lookup x = some .local := by rfl) (hy : X.env.scope.names.lookup y = some .local := by rfl)
    (hw : swappedStores [.Tuple [.Name x px, .Name y py] kt pt] (.Tuple [a, c] k2 pt2) X.env = pure (some [x, y]) := by rfl)
    (hs : swapsWithSole [.Tuple [.Name x px, .Name y py] kt pt] (.Tuple [a, c] k2 pt2) pos.line X.env = pure false := by rfl)
    (hs1 : starEach [a, c] X.env = (false, eval a X.env) :: starEach [c] X.env := by rfl) (hs2 : starEach [c] X.env = (false, eval c X.env) :: starEach [] X.env := by rfl) :
    MS X b (.Assign [.Tuple [.Name x px, .Name y py] kt pt] (.Tuple [a, c] k2 pt2) pos) (wPar i j wa wb) := PS.imp (ps_par hc hN hi hj hij hx hy (pa_cons ha (pa_cons hb pa_nil hs2) hs1) hw hs) fun Dn σ H ⟨S, δ, C, I, hw, k⟩ => by
  refine ⟨S, δ, _, I, hw, fun d v S1 H1 g1 r1 h1 => ?_⟩
  refine ⟨S1, δ, _, I.grow g1, h1, fun d2 v2 S2 H2 g2 r2 h2 => ?_⟩
  exact ⟨_, _, rfl, k.nx _ _ S2 H2 (g1.s.trans g2.s) ((((I.grow g1).grow g2).set (r1.mono g2.s) i).set r2 j) h2⟩
/-- name op= e, of ints, texts -/
def wAug (i : Nat) (q : D → D → (D → Prop) → Prop) (wa : WE) : WS := fun δ EX C => match δ[i]? with
  | some (some ⟨d, false⟩) => wa δ EX fun y => q d y fun z => C.nx (δ.set i (st z))
  | _ => False
theorem ms_aug (i : Nat) {op : Operator} {ti : R2} {q : D → D → (D → Prop) → Prop} {p' : Pos} (hN : X.N.Nodup) (ha : MO X b a wa) (ho : OpR X (inplaceOp op) ti) (hr : OpD X.K b.g ti q) (hi : X.N[i]? = some x := by rfl) (hx : Loc X.env.scope x := by first | exact Or.inl rfl | exact Or.inr rfl)
    (hf : X.fn x = true ∨ X.env.scope.names.lookup x = some .local := by first | exact .inl rfl | exact .inr rfl | assumption) : MS X b (.AugAssign (.Name x p') op a pos) (wAug i q wa) :=
  PS.imp (ps_aug hN hi hx ha (show PIp X op ti from ho) hf) fun Dn σ H ⟨S, δ, C, I, hw, k⟩ => by
    unfold wAug at hw
    split at hw
    · rename_i d he
      obtain ⟨v, e1, r⟩ := I.get he
      refine ⟨v, e1, S, δ, _, I, hw, fun y u S1 H1 g1 r1 h1 => ?_⟩
      exact hr S1 H1 d y v u _ _ g1.sh (.inl (r.mono g1.s)) r1 h1 fun z t S2 H2 g2 r2 h2 => k.nx _ _ S2 H2 (g1.s.trans g2.s) (((I.grow g1).grow g2).set r2 i) h2
    · exact hw.elim
def qAug : D → D → (D → Prop) → Prop := fun x y P => match x, y with
  | .int i, .int j => P (.int (i + j))
  | .str i, .str j => i.length + j.length ≤ Line ∧ P (.str (i ++ j))
  | _, _ => False
theorem qAug_of (x y : D) (P : D → Prop) (h : qAug x y P) : qI (fun i j => i + j) x y P ∨ qCatS x y P := by
  unfold qAug at h
  split at h
  · exact .inl h
  · exact .inr h
  · exact h.elim
theorem ms_augAdd (i : Nat) {p' : Pos} (hN : X.N.Nodup) (ha : MO X b a wa) (hi : X.N[i]? = some x := by rfl) (hx : Loc X.env.scope x := by first | exact Or.inl rfl | exact Or.inr rfl)
    (hf : X.fn x = true ∨ X.env.scope.names.lookup x = some .local := by first | exact .inl rfl | exact .inr rfl | assumption) : MS X b (.AugAssign (.Name x p') .Add a pos) (wAug i qAug wa) :=
  ms_aug i hN ha (OpR.or iop_add iop_add_str) ((OpD.or od_I od_catS).imp qAug_of) hi hx hf
/-- found.append(e) -/
def wApp (i : Nat) (wa : WE) : WS := fun δ EX C => match δ[i]? with
  | some (some ⟨.lst ds, true⟩) => wa δ EX fun d => ds.length < Line ∧ C.nx (δ.set i (ow (.lst (ds ++ [d]))))
  | _ => False
theorem lt_line {n : Nat} (h : n < Line) : n < sizeLine := by rw [line_eq]; exact h
theorem ms_app (i : Nat) {p' apos cpos : Pos} (ha : ME X b a wa) (hN : X.N[i]? = some x := by rfl) (hv : Vis X.env.scope x := by first | exact Or.inl rfl | exact Or.inr (Or.inl rfl) | exact Or.inr (Or.inr rfl)) (hd : (x == ("__debug__" : Str)) = false := by decide)
    (hcd : (x == ("__classdict__" : Str)) = false := by decide)
    (hbase : attributeBase (.Name x p') "append" X.env (eval (.Name x p') X.env) = eval (.Name x p') X.env := by rfl)
    (hfew : ((backTo cpos (starEach [a] X.env)).all (fun x => !x.1) && (backToKw cpos (keywordEach [] X.env)).all (fun x => x.1.isSome)
      && decide (([a] : List Expr).length + ([] : List Keyword).length + (if ([] : List Keyword).isEmpty then 0 else 1) < 30)) = true := by rfl)
    (hline : (apos.endLine == cpos.line) = true := by rfl) (hs : starEach [a] X.env = (false, eval a X.env) :: starEach [] X.env := by rfl) (hplain : (backTo cpos (starEach [] X.env)).any (·.1) = false := by rfl)
    (hsw : swapsWith (.Call (.Attribute (.Name x p') "append" apos) [a] [] cpos) none pos.line X.env = pure false := by rfl) :
    MS X b (.Expr (.Call (.Attribute (.Name x p') "append" apos) [a] [] cpos) pos) (wApp i wa) :=
  PS.imp (ps_expr (pe_bm PySem.F.plainAttrs_list PySem.F.slot_list_append PySem.F.type_list_append mt_append (pe_var hN hv hd hcd) (pa_cons ha pa_nil hs) hbase hfew hline hs hplain) hsw) fun Dn σ H ⟨S, δ, C, I, hw, k⟩ => by
    unfold wApp at hw
    split at hw
    · rename_i ds he
      obtain ⟨q, e1, h0, s0, xs, hx, ra⟩ := I.getO he
      refine ⟨_, e1, .inl ⟨rfl, _, SqL.of hx⟩, S, δ, _, I, hw, fun d v S1 H1 g1 r1 h1 => ?_⟩
      have hx1 := g1.h _ _ hx
      refine ⟨q, xs, v, rfl, rfl, hx1, by rw [ra.len]; exact lt_line h1.1, ?_⟩
      refine k.nx _ σ S1 _ g1.s ((I.grow g1).mut he e1 (d' := .lst (ds ++ [d])) fun H2 h2 => ⟨_, h2, (ra.mono g1.s).append (.cons r1 .nil)⟩) h1.2
    · exact hw.elim
/-- found[e1] = e2 -/
def wSetIx (i : Nat) (wi wv : WE) : WS := fun δ EX C => match δ[i]? with
  | some (some ⟨.lst ds, true⟩) => wv δ EX fun d => wi δ EX fun y => match y with
    | .int k => (match ixN ds.length k with | some j => C.nx (δ.set i (ow (.lst (ds.set j d)))) | none => False)
    | _ => False
  | some (some ⟨.dic ds, true⟩) => wv δ EX fun d => wi δ EX fun y => match keyD y with
    | some k => ds.length < Line ∧ C.nx (δ.set i (ow (.dic (putD ds k d))))
    | none => False
  | _ => False
theorem set_any (hu : X.A.units + 1 < cLine) : PSet X (fun o i v H Q => rSetL o i v H Q ∨ rSetD o i v H Q) := fun pins s σ H o i v ov iv u Q I ro ri rv h => h.elim (set_list pins s σ H o i v ov iv u Q I ro ri rv) (set_dict hu pins s σ H o i v ov iv u Q I ro ri rv)
theorem ms_setIx (i : Nat) {p' : Pos} {wi wv : WE} (hu : X.A.units + 64 < cLine) (hv : ME X b a wv) (hi : MO X b c wi) (hN : X.N[i]? = some x := by rfl) (hvi : Vis X.env.scope x := by first | exact Or.inl rfl | exact Or.inr (Or.inl rfl) | exact Or.inr (Or.inr rfl)) (hd : (x == ("__debug__" : Str)) = false := by decide)
    (hcd : (x == ("__classdict__" : Str)) = false := by decide)
    (hsub : ∀ v, assign (.Subscript (.Name x p') c p) X.env v = (do
      let ov ← holding [v] (eval (.Name x p') X.env)
      let iv ← holding [v, ov] (eval c X.env)
      standAt p
      holding [v, ov, iv] (setItem ov iv v)
      release [v, ov, iv] []) := by intro _; rfl)
    (hs : swapsWithSole [.Subscript (.Name x p') c p] a pos.line X.env = pure false := by rfl) (hw : swappedStores [.Subscript (.Name x p') c p] a X.env = pure none := by rfl)
    (h1 : (assignEach [.Subscript (.Name x p') c p] X.env).map (·.2) = [assign (.Subscript (.Name x p') c p) X.env] := by rfl) : MS X b (.Assign [.Subscript (.Name x p') c p] a pos) (wSetIx i wi wv) :=
  PS.imp (ps_asg hv (pg_sub (pe_var hN hvi hd hcd) hi (set_any (by omega)) hsub) hs hw h1) fun Dn σ H ⟨S, δ, C, I, hw, k⟩ => by
    unfold wSetIx at hw
    split at hw
    · rename_i ds he
      obtain ⟨q, e1, h0, s0, xs, hx, ra⟩ := I.getO he
      refine ⟨S, δ, _, I, hw, fun d v S1 H1 g1 r1 h1 => ?_⟩
      refine ⟨_, e1, S1, δ, _, I.grow g1, h1, fun y u S2 H2 g2 r2 h2 => ?_⟩
      split at h2
      · cases r2.int
        split at h2
        · rename_i j hj
          have hx2 := g2.h _ _ (g1.h _ _ hx)
          refine .inl ⟨q, xs, _, j, rfl, rfl, hx2, by rw [ra.len]; exact hj, ?_⟩
          exact k.nx _ σ S2 _ (g1.s.trans g2.s) (((I.grow g1).grow g2).mut he e1 (d' := .lst (ds.set j d)) fun H3 h3 => ⟨_, h3, ((ra.mono g1.s).mono g2.s).set (r1.mono g2.s) j⟩) h2
        · exact h2.elim
      · exact h2.elim
    · rename_i ds he
      obtain ⟨q, e1, h0, s0, xs, hx, ra⟩ := I.getO he
      refine ⟨S, δ, _, I, hw, fun d v S1 H1 g1 r1 h1 => ?_⟩
      refine ⟨_, e1, S1, δ, _, I.grow g1, h1, fun y u S2 H2 g2 r2 h2 => ?_⟩
      split at h2
      · rename_i kk hk
        have hx2 := g2.h _ _ (g1.h _ _ hx)
        refine .inr ⟨q, _, rfl, ?_, k.nx _ σ S2 _ (g1.s.trans g2.s) (((I.grow g1).grow g2).mut he e1 (d' := .dic (putD ds kk d)) fun H3 h3 => ⟨_, h3, RepK.put (r1.mono g2.s) ((ra.mono g1.s).mono g2.s)⟩) h2.2⟩
        rw [r2.key hk]
        exact DPut.k hx2 (by rw [ra.len]; exact lt_line h2.1)
      · exact h2.elim
    · exact hw.elim
/-- found.extend(e) -/
def wExt (i : Nat) (wa : WE) : WS := fun δ EX C => match δ[i]? with
  | some (some ⟨.lst ds, true⟩) => wa δ EX fun d => match d with
    | .lst es => ds.length + es.length ≤ Line ∧ C.nx (δ.set i (ow (.lst (ds ++ es))))
    | _ => False
  | _ => False
theorem ms_ext (i : Nat) {p' apos cpos : Pos} (ha : ME X b a wa) (hN : X.N[i]? = some x := by rfl) (hv : Vis X.env.scope x := by first | exact Or.inl rfl | exact Or.inr (Or.inl rfl) | exact Or.inr (Or.inr rfl)) (hd : (x == ("__debug__" : Str)) = false := by decide)
    (hcd : (x == ("__classdict__" : Str)) = false := by decide)
    (hbase : attributeBase (.Name x p') "extend" X.env (eval (.Name x p') X.env) = eval (.Name x p') X.env := by rfl)
    (hfew : ((backTo cpos (starEach [a] X.env)).all (fun x => !x.1) && (backToKw cpos (keywordEach [] X.env)).all (fun x => x.1.isSome)
      && decide (([a] : List Expr).length + ([] : List Keyword).length + (if ([] : List Keyword).isEmpty then 0 else 1) < 30)) = true := by rfl)
    (hline : (apos.endLine == cpos.line) = true := by rfl) (hs : starEach [a] X.env = (false, eval a X.env) :: starEach [] X.env := by rfl) (hplain : (backTo cpos (starEach [] X.env)).any (·.1) = false := by rfl)
    (hsw : swapsWith (.Call (.Attribute (.Name x p') "extend" apos) [a] [] cpos) none pos.line X.env = pure false := by rfl) :
    MS X b (.Expr (.Call (.Attribute (.Name x p') "extend" apos) [a] [] cpos) pos) (wExt i wa) :=
  PS.imp (ps_expr (pe_bm PySem.F.plainAttrs_list PySem.F.slot_list_extend PySem.F.type_list_extend mt_extend (pe_var hN hv hd hcd) (pa_cons ha pa_nil hs) hbase hfew hline hs hplain) hsw) fun Dn σ H ⟨S, δ, C, I, hw, k⟩ => by
    unfold wExt at hw
    split at hw
    · rename_i ds he
      obtain ⟨q, e1, h0, s0, xs, hx, ra⟩ := I.getO he
      refine ⟨_, e1, .inl ⟨rfl, _, SqL.of hx⟩, S, δ, _, I, hw, fun d v S1 H1 g1 r1 h1 => ?_⟩
      have hx1 := g1.h _ _ hx
      split at h1
      · cases r1 with
        | lst hy rb =>
          refine ⟨q, _, xs, _, rfl, rfl, hx1, g1.sh _ _ hy, by rw [ra.len, rb.len]; exact le_line h1.1, ?_⟩
          exact k.nx _ σ S1 _ g1.s ((I.grow g1).mut he e1 (d' := .lst (ds ++ _)) fun H2 h2 => ⟨_, h2, (ra.mono g1.s).append rb⟩) h1.2
      · exact h1.elim
    · exact hw.elim

/-! ### what a for walks -/
abbrev WI := Env → (Exc → Prop) → (List D → Prop) → Prop
/-- the iterator J yields the items, from S on -/
structure Yi (K : PySem.W.Frag) (g : G) (J : It) (items : List D) (S : Hp) : Prop where
  go : ∀ i S' H', Ex S S' → Ex S' H' → i < items.length → J.go i H'
  yld : ∀ i S' H' v H2, i < items.length → Ex S S' → Ex S' H' → J.yld i H' v H2 → ∃ d S2, items[i]? = some d ∧ Grow S' H' S2 H2 ∧ Rep K g S2 v d
  stop : ∀ i S' H', Ex S S' → Ex S' H' → items.length ≤ i → J.stop i H'
def tI (K : PySem.W.Frag) (b : Bs) (w : WI) : TI := fun σ H R => ∃ S δ P, StR K b δ σ S H ∧ w δ b.EX P ∧ ∀ items J S' H', Grow S H S' H' → Yi K b.g J items S' → P items → R J H'
def MI (X : Cx) (b : Bs) (tg e : Expr) (w : WI) : Prop := PI X tg e (tI X.K b w)
variable {tg : Expr} {wi : WI}
theorem PI.imp {t t' : TI} (h : PI X tg e t) (f : ∀ σ H R, t' σ H R → t σ H R) : PI X tg e t' := ⟨fun pins s σ H R I q => h.run pins s σ H R I (f σ H R q)⟩
def wFor (wi : WI) (wg : WG) (u : WS) : WS := fun δ EX C => wi δ EX fun items => ∃ M : Nat → Env → Prop, M 0 δ ∧
  (∀ (i : Nat) d δ', items[i]? = some d → M i δ' → wg d δ' fun δ2 => u δ2 EX { C with nx := M (i + 1), ct := M (i + 1), bk := C.nx }) ∧ ∀ δ', M items.length δ' → C.nx δ'
theorem ms_for (hp : PassesOwn (model X.prog X.w) X.A X.env X.xe) (hc : X.calm = true) (hi : MI X b tg e wi) (hg : MG X b vs tg wg) (hb : MSs X b body u) (hs : ∀ x, foldedSetIterable e X.env x = pure x := by intro _; rfl) :
    MS X b (.For tg e body [] pos) (wFor wi wg u) := PS.imp (ps_for hp hc hi hg hb hs) fun Dn σ H ⟨S, δ, C, I, hw, k⟩ => by
  refine ⟨S, δ, _, I, hw, fun items J S1 H1 g1 yi ⟨M, m0, ms, md⟩ => ?_⟩
  refine ⟨fun i m σ' H' => m = items.length - i ∧ i ≤ items.length ∧ ∃ S' δ', Ex S1 S' ∧ StR X.K b δ' σ' S' H' ∧ M i δ', ⟨items.length, by simp, Nat.zero_le _, S1, δ, Ex.refl _, I.grow g1, m0⟩, ?_⟩
  rintro i m σ' H' ⟨rfl, hi, S', δ', e1, I', hm⟩
  by_cases hlt : i < items.length
  · refine .inr ⟨yi.go i S' H' e1 I'.sh hlt, fun σ2 H2 => ∃ S2 δ2, Ex S1 S2 ∧ StR X.K b δ2 σ2 S2 H2 ∧ M (i + 1) δ2, fun σ2 H2 ⟨S2, δ2, e2, I2, h2⟩ => ⟨items.length - (i + 1), by omega, rfl, hlt, S2, δ2, e2, I2, h2⟩, fun v H2 y => ?_⟩
    obtain ⟨d, S2, hd, g2, r⟩ := yi.yld i S' H' v H2 hlt e1 I'.sh y
    refine ⟨S2, δ', d, _, I'.grow g2, r, ms i d δ' hd hm, fun δ2 σ2 I2 _ h2 => ?_⟩
    have nxt : Nx X.K b S2 (M (i + 1)) fun σ2 H2 => ∃ S2 δ2, Ex S1 S2 ∧ StR X.K b δ2 σ2 S2 H2 ∧ M (i + 1) δ2 := fun δ3 σ3 S3 H3 e3 I3 h3 => ⟨S3, δ3, (e1.trans g2.s).trans e3, I3, h3⟩
    exact ⟨S2, δ2, _, I2, h2, nxt, k.rt, k.nx.mono ((g1.s.trans e1).trans g2.s), nxt⟩
  · have e2 : i = items.length := by omega
    subst e2
    exact .inl ⟨yi.stop _ S' H' e1 I'.sh (Nat.le_refl _), k.nx δ' σ' S' H' (g1.s.trans e1) I' (md δ' hm)⟩
/-- while -/
def wWhile (t : WT) (u : WS) : WS := fun δ EX C => ∃ M : Nat → Env → Prop, (∃ m, M m δ) ∧ ∀ m δ', M m δ' → t δ' EX fun c => if c = true then u δ' EX { C with nx := fun δ2 => ∃ m', m' < m ∧ M m' δ2, ct := fun δ2 => ∃ m', m' < m ∧ M m' δ2, bk := C.nx } else C.nx δ'
theorem ms_while (hp : PassesOwn (model X.prog X.w) X.A X.env X.xe) (ht : MT X b e ta) (hb : MSs X b body u) : MS X b (.While e body [] pos) (wWhile ta u) := PS.imp (ps_while hp ht hb) fun Dn σ H ⟨S, δ, C, I, ⟨M, ⟨m0, hm0⟩, hM⟩, k⟩ => by
  refine ⟨fun m σ' H' => ∃ S' δ', Ex S S' ∧ StR X.K b δ' σ' S' H' ∧ M m δ', ⟨m0, S, δ, Ex.refl _, I, hm0⟩, fun m σ' H' ⟨S', δ', e1, I', hm⟩ => ?_⟩
  refine ⟨S', δ', _, I', hM m δ' hm, fun c S1 H1 g1 hc => ?_⟩
  cases c with
  | true =>
    rw [if_pos rfl] at hc ⊢
    refine ⟨fun σ2 H2 => ∃ m', m' < m ∧ ∃ S2 δ2, Ex S S2 ∧ StR X.K b δ2 σ2 S2 H2 ∧ M m' δ2, fun σ2 H2 h => h, ?_⟩
    have nxt : Nx X.K b S1 (fun δ2 => ∃ m', m' < m ∧ M m' δ2) fun σ2 H2 => ∃ m', m' < m ∧ ∃ S2 δ2, Ex S S2 ∧ StR X.K b δ2 σ2 S2 H2 ∧ M m' δ2 :=
      fun δ3 σ3 S3 H3 e3 I3 ⟨m', hl, h3⟩ => ⟨m', hl, S3, δ3, (e1.trans g1.s).trans e3, I3, h3⟩
    exact ⟨S1, δ', _, I'.grow g1, hc, nxt, k.rt, k.nx.mono (e1.trans g1.s), nxt⟩
  | false =>
    rw [if_neg Bool.false_ne_true] at hc ⊢
    exact k.nx δ' σ' S1 H1 (e1.trans g1.s) (I'.grow g1) hc

/-! ### the walked things -/
theorem RepA.some {vs : List V} {ds : List D} (r : RepA K g S vs ds) {i : Nat} (h : i < ds.length) : ∃ v, vs[i]? = some v := ⟨vs[i]'(by rw [r.len]; exact h), by simp⟩
theorem yi_list {a : Addr} {xs : List V} {ds : List D} (h : S a = some (.lst xs)) (r : RepA K g S xs ds) : Yi K g (Itl K a) ds S where
  go := fun i S' H' e1 e2 hi => by
    obtain ⟨v, hv⟩ := r.some hi
    exact ⟨xs, v, sq_of (e2 _ _ (e1 _ _ h)), hv⟩
  yld := fun i S' H' v H2 hi e1 e2 ⟨eH, y⟩ => by
    subst eH
    obtain ⟨d, hd, rd⟩ := r.getV (y xs (sq_of (e2 _ _ (e1 _ _ h))))
    exact ⟨d, S', hd, Grow.refl e2, rd.mono e1⟩
  stop := fun i S' H' e1 e2 hi => ⟨xs, sq_of (e2 _ _ (e1 _ _ h)), by rw [r.len]; exact hi⟩
theorem yi_tup {a : Addr} {xs : List V} {ds : List D} (h : SqT K S a xs) (r : RepA K g S xs ds) : Yi K g (Itt K a) ds S where
  go := fun i S' H' e1 e2 hi => by
    obtain ⟨v, hv⟩ := r.some hi
    exact ⟨xs, v, ex_t (e1.trans e2) h, hv⟩
  yld := fun i S' H' v H2 hi e1 e2 ⟨eH, y⟩ => by
    subst eH
    obtain ⟨d, hd, rd⟩ := r.getV (y xs (ex_t (e1.trans e2) h))
    exact ⟨d, S', hd, Grow.refl e2, rd.mono e1⟩
  stop := fun i S' H' e1 e2 hi => ⟨xs, ex_t (e1.trans e2) h, by rw [r.len]; exact hi⟩
def signs (s : Str) : List D := s.cps.toList.map fun c => .str ⟨#[c]⟩
theorem yi_str {s : Str} : Yi K g (Its s) (signs s) S where
  go := fun i S' H' e1 e2 hi => by
    have q : (signs s).length = s.cps.size := by simp [signs]
    show i < s.cps.size
    omega
  yld := fun i S' H' v H2 hi e1 e2 ⟨eH, c, hc, ev⟩ => by
    subst eH ev
    refine ⟨_, S', ?_, Grow.refl e2, .str _⟩
    simp [signs, hc]
  stop := fun i S' H' e1 e2 hi => by
    have q : (signs s).length = s.cps.size := by simp [signs]
    show s.cps.size ≤ i
    omega
def rangeD (lo : Int) (n : Nat) : List D := (List.range n).map fun (k : Nat) => .int (lo + (k : Int))
theorem rangeD_get {lo : Int} {n i : Nat} (h : i < n) : (rangeD lo n)[i]? = some (.int (lo + (i : Int))) := by simp [rangeD, h]
theorem rangeD_len {lo : Int} {n : Nat} : (rangeD lo n).length = n := by simp [rangeD]
theorem yi_range {lo : Int} {n : Nat} : Yi K g (Itr lo n) (rangeD lo n) S where
  go := fun i S' H' e1 e2 hi => by rw [rangeD_len] at hi; exact hi
  yld := fun i S' H' v H2 hi e1 e2 ⟨eH, ev⟩ => by
    subst eH ev
    rw [rangeD_len] at hi
    exact ⟨_, S', rangeD_get hi, Grow.refl e2, .int _⟩
  stop := fun i S' H' e1 e2 hi => by rw [rangeD_len] at hi; exact hi
end
end Mi
namespace Mi
open PySem L2 Evl PySem.Spec PyProof.Rows
section
variable {X : Cx} {b : Bs} {K : PySem.W.Frag} {g : G} {S S' H H' : Hp} {δ : Env} {σ : L2.St} {e a c d2 e' : Expr} {es rest : List Expr} {w wa wb wc : WE} {wr : WA} {pos p tpos : Pos} {x : Str} {tg : Expr} {wg : WG} {wi : WI}
/-! ### sources of loops -/
/-- what is walked by its value -/
def qItems (x : D) (P : List D → Prop) : Prop := match x with
  | .lst ds => P ds
  | .tup ds => P ds
  | .str s => P (signs s)
  | _ => False
def wItems (wa : WE) : WI := fun δ EX P => wa δ EX fun x => qItems x P
def iAny (K : PySem.W.Frag) (te : TE) : TI := fun σ H R => te σ H fun x H1 => (∃ a, x = .ref a ∧ (∃ xs, SqL K H1 a xs) ∧ R (Itl K a) H1) ∨ (∃ a, x = .ref a ∧ (∃ xs, SqT K H1 a xs) ∧ R (Itt K a) H1) ∨ ∃ z, x = .str z ∧ R (Its z) H1
theorem pi_any {l : Expr} {tl : TE} (hl : PE X l tl) : PI X tg l (iAny X.K tl) := by
  refine ⟨fun pins s σ H R I h => ?_⟩
  refine thn (hl.run pins s σ H _ I h) fun v s1 ⟨x, H1, I1, r1, q1⟩ => ?_
  rcases q1 with ⟨a, e, ⟨xs, hq⟩, q⟩ | ⟨a, e, ⟨xs, hq⟩, q⟩ | ⟨z, e, q⟩
  · subst e
    cases r1
    obtain ⟨its, rv, p, hz⟩ := I1.list hq
    refine wpAny_pyIter_list p.isList ?_
    refine ⟨s1.heap.objs.size, [s1.heap.objs.size], _, _, H1, rfl, I1.kept (t' := s1.toks) fun b o e => Heap.get?_push_of_some _ e, turn_list a _, ⟨_, Heap.get?_push_size _ rfl, rfl, rfl⟩, fun b hb => ?_, q⟩
    have e : b = s1.heap.objs.size := by simpa using hb
    subst e
    exact I1.fpOk (Nat.le_refl _) (I1.hok.fresh (Nat.le_refl _))
  · subst e
    cases r1
    obtain ⟨its, rv, p, hz⟩ := I1.tuple hq
    refine wpAny_pyIter_tuple (show s1.heap.IsTuple a its.toArray from p) ?_
    refine ⟨s1.heap.objs.size, [s1.heap.objs.size], _, _, H1, rfl, I1.kept (t' := s1.toks) fun b o e => Heap.get?_push_of_some _ e, turn_tuple a _, ⟨_, Heap.get?_push_size _ rfl, rfl, rfl⟩, fun b hb => ?_, q⟩
    have e : b = s1.heap.objs.size := by simpa using hb
    subst e
    exact I1.fpOk (Nat.le_refl _) (I1.hok.fresh (Nat.le_refl _))
  · subst e
    obtain ⟨t, rfl⟩ := r1
    cases ha : z.cps.all (· < 128)
    · exact wpAny_pyIter_wide ha (pi_one (tk := s1.toks) I1 _ (turn_str _ z t "str_iterator" (.inr rfl)) ⟨_, Heap.get?_push_size _ rfl, rfl, rfl⟩ q)
    · exact wpAny_pyIter_ascii ha (pi_one (tk := s1.toks) I1 _ (turn_str _ z t "str_ascii_iterator" (.inl rfl)) ⟨_, Heap.get?_push_size _ rfl, rfl, rfl⟩ q)
theorem mi_any (ha : ME X b a wa) : MI X b tg a (wItems wa) := PI.imp (pi_any ha) fun σ H R ⟨S, δ, P, I, hw, k⟩ => by
  refine ⟨S, δ, _, I, hw, fun d v S1 H1 g1 r1 h1 => ?_⟩
  unfold qItems at h1
  split at h1
  · cases r1 with
    | lst h r => exact .inl ⟨_, rfl, ⟨_, sq_of (g1.sh _ _ h)⟩, k _ _ S1 H1 g1 (yi_list h r) h1⟩
  · cases r1 with
    | tup h r => exact .inr (.inl ⟨_, rfl, ⟨_, ex_t g1.sh h⟩, k _ _ S1 H1 g1 (yi_tup h r) h1⟩)
  · cases r1
    exact .inr (.inr ⟨_, rfl, k _ _ S1 H1 g1 yi_str h1⟩)
  · exact h1.elim
def wRng1 (wa : WE) : WI := fun δ EX P => wa δ EX fun x => match x with
  | .int j => -(2 ^ 62) ≤ j ∧ j < 2 ^ 62 ∧ P (rangeD 0 j.toNat)
  | _ => False
theorem mi_range1 (hg : Gl X "range") (hm : X.mg "range" = none) (ha : MO X b a wa) (hs : starEach [a] X.env = [(false, eval a X.env)] := by rfl) : MI X b tg (.Call (.Name "range" p) [a] [] pos) (wRng1 wa) :=
  PI.imp (pi_range1 hg hm (paO ha hs) hs) fun σ H R ⟨S, δ, P, I, hw, k⟩ => by
    refine ⟨S, δ, _, I, hw, fun d v S1 H1 g1 r1 h1 => ?_⟩
    split at h1
    · cases r1.int
      exact ⟨_, rfl, h1.1, h1.2.1, k _ _ S1 H1 g1 yi_range h1.2.2⟩
    · exact h1.elim
def wRng2 (wa wb : WE) : WI := fun δ EX P => wa δ EX fun x => wb δ EX fun y => match x, y with
  | .int i, .int j => (-(2 ^ 62) ≤ i ∧ i < 2 ^ 62 ∧ -(2 ^ 62) ≤ j ∧ j < 2 ^ 62) ∧ P (rangeD i (j - i).toNat)
  | _, _ => False
theorem mi_range2 (hg : Gl X "range") (hm : X.mg "range" = none) (ha : MO X b a wa) (hb : MO X b c wb) (hs : starEach [a, c] X.env = [(false, eval a X.env), (false, eval c X.env)] := by rfl) (hs2 : starEach [c] X.env = [(false, eval c X.env)] := by rfl) :
    MI X b tg (.Call (.Name "range" p) [a, c] [] pos) (wRng2 wa wb) :=
  PI.imp (pi_range2 hg hm (paO2 ha hb (by rw [hs, hs2]) (by rw [hs2]; rfl)) hs hs2) fun σ H R ⟨S, δ, P, I, hw, k⟩ => by
    refine ⟨S, δ, _, I, hw, fun d v S1 H1 g1 r1 h1 => ?_⟩
    refine ⟨S1, δ, _, I.grow g1, h1, fun d2 v2 S2 H2 g2 r2 h2 => ?_⟩
    split at h2
    · cases r1.int; cases r2.int
      exact ⟨_, _, rfl, h2.1, k _ _ S2 H2 (g1.trans g2) yi_range h2.2⟩
    · exact h2.elim
def rangeC (lo s : Int) (n : Nat) : List D := (List.range n).map fun (k : Nat) => .int (lo + (k : Int) * s)
theorem rangeC_get {lo s : Int} {n i : Nat} (h : i < n) : (rangeC lo s n)[i]? = some (.int (lo + (i : Int) * s)) := by simp [rangeC, h]
theorem rangeC_len {lo s : Int} {n : Nat} : (rangeC lo s n).length = n := by simp [rangeC]
theorem yi_rangeC {lo s : Int} {n : Nat} : Yi K g (Itc lo s n) (rangeC lo s n) S where
  go := fun i S' H' e1 e2 hi => by rw [rangeC_len] at hi; exact hi
  yld := fun i S' H' v H2 hi e1 e2 ⟨eH, ev⟩ => by
    subst eH ev
    rw [rangeC_len] at hi
    exact ⟨_, S', rangeC_get hi, Grow.refl e2, .int _⟩
  stop := fun i S' H' e1 e2 hi => by rw [rangeC_len] at hi; exact hi
def wRng3 (wa wb wc : WE) : WI := fun δ EX P => wa δ EX fun x => wb δ EX fun y => wc δ EX fun z => match x, y, z with
  | .int i, .int j, .int s => ∃ n, RgC i j s n ∧ P (rangeC i s n)
  | _, _, _ => False
theorem mi_range3 (hg : Gl X "range") (hm : X.mg "range" = none) (ha : MO X b a wa) (hb : MO X b c wb) (hc : MO X b e wc) (hs : starEach [a, c, e] X.env = (false, eval a X.env) :: starEach [c, e] X.env := by rfl) (hs2 : starEach [c, e] X.env = (false, eval c X.env) :: starEach [e] X.env := by rfl)
    (hs3 : starEach [e] X.env = (false, eval e X.env) :: starEach [] X.env := by rfl) (hpl : (backTo pos (starEach [c, e] X.env)).any (·.1) = false := by rfl) :
    MI X b tg (.Call (.Name "range" p) [a, c, e] [] pos) (wRng3 wa wb wc) :=
  PI.imp (pi_range3 hg hm (pa_cons ha (pa_cons hb (pa_cons hc pa_nil hs3) hs2) hs) hs hpl) fun σ H R ⟨S, δ, P, I, hw, k⟩ => by
    refine ⟨S, δ, _, I, hw, fun d v S1 H1 g1 r1 h1 => ?_⟩
    refine ⟨S1, δ, _, I.grow g1, h1, fun d2 v2 S2 H2 g2 r2 h2 => ?_⟩
    refine ⟨S2, δ, _, (I.grow g1).grow g2, h2, fun d3 v3 S3 H3 g3 r3 h3 => ?_⟩
    split at h3
    · cases r1.int; cases r2.int; cases r3.int
      obtain ⟨n, hn, h3⟩ := h3
      exact ⟨_, _, _, n, rfl, hn, k _ _ S3 H3 ((g1.trans g2).trans g3) yi_rangeC h3⟩
    · exact h3.elim
/-- enumerate(list) -/
def enumD (ds : List D) : List D := ds.zipIdx.map fun (d, i) => .tup [.int (i : Nat), d]
theorem enumD_get {ds : List D} {i : Nat} {d : D} (h : ds[i]? = some d) : (enumD ds)[i]? = some (.tup [.int (i : Nat), d]) := by simp [enumD, List.getElem?_zipIdx, h]
theorem enumD_len {ds : List D} : (enumD ds).length = ds.length := by simp [enumD]
theorem yi_enum {a : Addr} {xs : List V} {ds : List D} (h : S a = some (.lst xs)) (r : RepA K g S xs ds) : Yi K g (Ite K a) (enumD ds) S where
  go := fun i S' H' e1 e2 hi => by
    rw [enumD_len] at hi
    obtain ⟨v, hv⟩ := r.some hi
    exact ⟨xs, v, sq_of (e2 _ _ (e1 _ _ h)), hv⟩
  yld := fun i S' H' v H2 hi e1 e2 ⟨T, y, ev, hT, eH, q⟩ => by
    subst ev eH
    obtain ⟨d, hd, rd⟩ := r.getV (q xs (sq_of (e2 _ _ (e1 _ _ h))))
    exact ⟨_, _, enumD_get hd, Grow.new e2 hT, .tup (st_of upd_same) (.cons (.int _) (.cons ((rd.mono e1).mono (Ex.new (none_of_ex e2 hT))) .nil))⟩
  stop := fun i S' H' e1 e2 hi => by
    rw [enumD_len] at hi
    exact ⟨xs, sq_of (e2 _ _ (e1 _ _ h)), by rw [r.len]; exact hi⟩
def wEnum (wa : WE) : WI := fun δ EX P => wa δ EX fun x => match x with
  | .lst ds => P (enumD ds)
  | _ => False
theorem mi_enum {elts : List Expr} {kk : Nat} (hg : Gl X "enumerate") (hm : X.mg "enumerate" = none) (ha : ME X b a wa) (hs : starEach [a] X.env = [(false, eval a X.env)] := by rfl) : MI X b (.Tuple elts kk tpos) (.Call (.Name "enumerate" p) [a] [] pos) (wEnum wa) :=
  PI.imp (pi_enum hg hm (pa_cons ha pa_nil hs) hs) fun σ H R ⟨S, δ, P, I, hw, k⟩ => by
    refine ⟨S, δ, _, I, hw, fun d v S1 H1 g1 r1 h1 => ?_⟩
    split at h1
    · cases r1 with
      | lst h r => exact ⟨_, _, rfl, sq_of (g1.sh _ _ h), k _ _ S1 H1 g1 (yi_enum h r) h1⟩
    · exact h1.elim
/-- zip of two lists -/
def zipD (xs ys : List D) : List D := (xs.zip ys).map fun (x, y) => .tup [x, y]
theorem zipD_get {xs ys : List D} {i : Nat} {x y : D} (h : xs[i]? = some x) (h' : ys[i]? = some y) : (zipD xs ys)[i]? = some (.tup [x, y]) := by
  have q : (xs.zip ys)[i]? = some (x, y) := List.getElem?_zip_eq_some.mpr ⟨h, h'⟩
  simp [zipD, q]
theorem zipD_len {xs ys : List D} : (zipD xs ys).length = min xs.length ys.length := by simp [zipD]
theorem yi_zip {a c : Addr} {xs ys : List V} {ds es : List D} (h : S a = some (.lst xs)) (r : RepA K g S xs ds) (h' : S c = some (.lst ys)) (r' : RepA K g S ys es) : Yi K g (Itz K a c) (zipD ds es) S where
  go := fun i S' H' e1 e2 hi => by
    rw [zipD_len] at hi
    obtain ⟨v, hv⟩ := r.some (i := i) (by omega)
    obtain ⟨u, hu⟩ := r'.some (i := i) (by omega)
    exact ⟨xs, ys, v, u, sq_of (e2 _ _ (e1 _ _ h)), sq_of (e2 _ _ (e1 _ _ h')), hv, hu⟩
  yld := fun i S' H' v H2 hi e1 e2 ⟨T, y, z, ev, hT, eH, q, q'⟩ => by
    subst ev eH
    obtain ⟨d, hd, rd⟩ := r.getV (q xs (sq_of (e2 _ _ (e1 _ _ h))))
    obtain ⟨d', hd', rd'⟩ := r'.getV (q' ys (sq_of (e2 _ _ (e1 _ _ h'))))
    exact ⟨_, _, zipD_get hd hd', Grow.new e2 hT, .tup (st_of upd_same) (.cons ((rd.mono e1).mono (Ex.new (none_of_ex e2 hT))) (.cons ((rd'.mono e1).mono (Ex.new (none_of_ex e2 hT))) .nil))⟩
  stop := fun i S' H' e1 e2 hi => by
    rw [zipD_len] at hi
    exact ⟨xs, ys, sq_of (e2 _ _ (e1 _ _ h)), sq_of (e2 _ _ (e1 _ _ h')), by rw [r.len, r'.len]; omega⟩
def wZip (wa wb : WE) : WI := fun δ EX P => wa δ EX fun x => wb δ EX fun y => match x, y with
  | .lst ds, .lst es => P (zipD ds es)
  | _, _ => False
theorem mi_zip {elts : List Expr} {kk : Nat} (hg : Gl X "zip") (hm : X.mg "zip" = none) (ha : ME X b a wa) (hb : ME X b c wb) (hs : starEach [a, c] X.env = (false, eval a X.env) :: starEach [c] X.env := by rfl) (hs2 : starEach [c] X.env = (false, eval c X.env) :: starEach [] X.env := by rfl)
    (hpl : (backTo pos (starEach [c] X.env)).any (·.1) = false := by rfl) : MI X b (.Tuple elts kk tpos) (.Call (.Name "zip" p) [a, c] [] pos) (wZip wa wb) :=
  PI.imp (pi_zip hg hm (pa_cons ha (pa_cons hb pa_nil hs2) hs) hs hpl) fun σ H R ⟨S, δ, P, I, hw, k⟩ => by
    refine ⟨S, δ, _, I, hw, fun d v S1 H1 g1 r1 h1 => ?_⟩
    refine ⟨S1, δ, _, I.grow g1, h1, fun d2 v2 S2 H2 g2 r2 h2 => ?_⟩
    split at h2
    · cases r1 with
      | lst h r =>
        cases r2 with
        | lst h' r' => exact ⟨_, _, _, _, rfl, sq_of (g2.sh _ _ (g2.s _ _ h)), sq_of (g2.sh _ _ h'), k _ _ S2 H2 (g1.trans g2) (yi_zip (g2.s _ _ h) (r.mono g2.s) h' r') h2⟩
    · exact h2.elim

/-! ### comprehensions -/
variable {ifs : List Expr} {wt : WT}
def MTs (X : Cx) (b : Bs) (es : List Expr) (w : WT) : Prop := PTs X es (tM X.K b w)
theorem PTs.imp {t t' : TT} (h : PTs X es t) (f : ∀ σ H Q, t' σ H Q → t σ H Q) : PTs X es t' := ⟨fun pins s σ H Q I q => h.run pins s σ H Q I (f σ H Q q)⟩
def wYes : WT := fun _ _ P => P true
theorem mts_nil : MTs X b [] wYes := PTs.imp pts_nil fun σ H Q ⟨S, δ, P, I, hw, k⟩ => k true S H (Grow.refl I.sh) hw
theorem mts_one (h : MT X b e wt) : MTs X b [e] wt := pts_one h
/-- within a comprehension nothing is raised -/
abbrev Bs.calm (b : Bs) : Bs := { b with EX := fun _ => False }
def wipeE (δ : Env) : List Nat → Env
  | [] => δ
  | v :: vs => (wipeE δ vs).set v none
theorem StR.wipe (I : StR K b δ σ S H) : ∀ vs : List Nat, StR K b (wipeE δ vs) (L2.wipe σ vs) S H
  | [] => I
  | v :: vs => by
    have J := I.wipe vs
    have hl : (wipeE δ vs).length = (L2.wipe σ vs).length := J.len
    refine ⟨J.sh, J.h0, J.s0, J.old, ?_, fun i c h => ?_, fun i j ci cj p hij hi hj oi oj si sj => ?_⟩
    · show ((wipeE δ vs).set v none).length = ((L2.wipe σ vs).set v none).length
      rw [List.length_set, List.length_set, hl]
    · have h : ((wipeE δ vs).set v none)[i]? = some (some c) := h
      show ∃ w, ((L2.wipe σ vs).set v none)[i]? = some (some w) ∧ _
      by_cases e : v = i
      · subst e
        by_cases hv : v < (wipeE δ vs).length
        · rw [List.getElem?_set_self hv] at h; cases h
        · rw [List.getElem?_eq_none (by rw [List.length_set]; omega)] at h; cases h
      · rw [List.getElem?_set_ne e] at h ⊢
        exact J.slot i c h
    · have key : ∀ (l : Nat) (cl : Cell) (u : V), ((wipeE δ vs).set v none)[l]? = some (some cl) → ((L2.wipe σ vs).set v none)[l]? = some (some u) → (wipeE δ vs)[l]? = some (some cl) ∧ (L2.wipe σ vs)[l]? = some (some u) := fun l cl u h1 h2 => by
        by_cases e : v = l
        · subst e
          by_cases hv : v < (wipeE δ vs).length
          · rw [List.getElem?_set_self hv] at h1; cases h1
          · rw [List.getElem?_eq_none (by rw [List.length_set]; omega)] at h1; cases h1
        · rw [List.getElem?_set_ne e] at h1 h2; exact ⟨h1, h2⟩
      obtain ⟨a1, a2⟩ := key i ci _ hi si
      obtain ⟨b1, b2⟩ := key j cj _ hj sj
      exact J.sep i j ci cj p hij a1 b1 oi oj a2 b2
theorem wipe_wipe (σ : L2.St) (vs : List Nat) : L2.wipe (L2.wipe σ vs) vs = L2.wipe σ vs := by
  apply List.ext_getElem?
  intro j
  rw [wipe_get, wipe_length, wipe_get]
  by_cases hj : j ∈ vs
  · rw [if_pos hj, if_pos hj]
  · rw [if_neg hj]
theorem StR.calm (I : StR K b δ σ S H) : StR K b.calm δ σ S H := ⟨I.sh, I.h0, I.s0, I.old, I.len, I.slot, I.sep⟩
theorem StR.uncalm (I : StR K b.calm δ σ S H) : StR K b δ σ S H := ⟨I.sh, I.h0, I.s0, I.old, I.len, I.slot, I.sep⟩
/-- M: what is made so far, by the turn -/
def wLc (wi : WI) (wg : WG) (wt : WT) (we : WE) (vs : List Nat) : WE := fun δ EX P => wi δ EX fun items => items.length ≤ Line ∧ ∃ M : Nat → List D → Prop, M 0 [] ∧
  (∀ (i : Nat) d acc, items[i]? = some d → M i acc → acc.length ≤ i → wg d (wipeE δ vs) fun δ2 => wt δ2 (fun _ => False) fun c => if c = true then we δ2 (fun _ => False) fun y => M (i + 1) (acc ++ [y]) else M (i + 1) acc) ∧ ∀ acc, M items.length acc → P (.lst acc)
theorem tLc_of {vs : List Nat} {we : WE} {Q : VK} (h : tF K b (wLc wi wg wt we vs) σ H Q) : tLc (tI K b wi) (tGt K b.calm vs wg) (tM K b.calm wt) (tE K b.calm we) vs σ H Q := by
  obtain ⟨S, δ, P, I, hw, k⟩ := h
  refine ⟨S, δ, _, I, hw, fun items J S1 H1 g1 yi ⟨hl, M, m0, ms, md⟩ => ?_⟩
  intro Dl hD
  have J1 := I.grow g1
  refine ⟨fun i m H' => m = items.length - i ∧ i ≤ items.length ∧ ∃ S' acc accV, Ex S1 S' ∧ S' Dl = none ∧ Grow S1 H1 S' H' ∧ H' Dl = some (.lst accV) ∧ RepA K b.g S' accV acc ∧ acc.length ≤ i ∧ M i acc,
    ⟨items.length, by simp, Nat.zero_le _, S1, [], [], Ex.refl _, none_of_ex g1.sh hD, Grow.newO g1.sh hD, upd_same, .nil, Nat.le_refl _, m0⟩, ?_⟩
  rintro i m H' ⟨rfl, hi, S', acc, accV, e1, sD, gr, hacc, ra, hal, hm⟩
  by_cases hlt : i < items.length
  · refine .inr ⟨yi.go i S' H' e1 gr.sh hlt, fun H2 => ∃ S' acc accV, Ex S1 S' ∧ S' Dl = none ∧ Grow S1 H1 S' H2 ∧ H2 Dl = some (.lst accV) ∧ RepA K b.g S' accV acc ∧ acc.length ≤ i + 1 ∧ M (i + 1) acc,
      fun H2 ⟨S2, acc2, accV2, z1, z2, z3, z4, z5, z6, z7⟩ => ⟨items.length - (i + 1), by omega, rfl, hlt, S2, acc2, accV2, z1, z2, z3, z4, z5, z6, z7⟩, fun v H2 y => ?_⟩
    obtain ⟨d, S2, hd, g2, r⟩ := yi.yld i S' H' v H2 hlt e1 gr.sh y
    have J2 : StR K b.calm (wipeE δ vs) (L2.wipe σ vs) S2 H2 := ((J1.grow (gr.trans g2)).wipe vs).calm
    refine ⟨S2, _, d, _, J2, r, ms i d acc hd hm hal, fun δ2 σ2 I2 e2 h2 => ?_⟩
    refine ⟨by rw [e2]; exact wipe_wipe σ vs, S2, δ2, _, I2, h2, fun c S3 H3 g3 h3 => ?_⟩
    have sD3 : S3 Dl = none := (g3.old Dl _ (g2.h _ _ hacc)).trans ((g2.old Dl _ hacc).trans sD)
    have ha3 : H3 Dl = some (.lst accV) := g3.h _ _ (g2.h _ _ hacc)
    cases c with
    | true =>
      rw [if_pos rfl] at h3
      show (if true = true then _ else _)
      rw [if_pos rfl]
      refine ⟨S3, δ2, _, I2.grow g3, h3, fun yd yv S4 H4 g4 r4 h4 => ?_⟩
      have sD4 : S4 Dl = none := (g4.old Dl _ ha3).trans sD3
      have ra4 : RepA K b.g S4 accV acc := ((ra.mono g2.s).mono g3.s).mono g4.s
      have gt := ((gr.trans g2).trans g3).trans g4
      refine ⟨accV, g4.h _ _ ha3, by rw [ra.len]; exact lt_line (by omega), S4, acc ++ [yd], accV ++ [yv], gt.s, sD4, ⟨gt.s, fun q u hq => ?_, fun q u hq => ?_, gt.old⟩, upd_same, ra4.append (.cons r4 .nil), by rw [List.length_append, List.length_singleton]; omega, h4⟩
      · rw [upd_ne (ne_of_none hq hD)]; exact gt.h q u hq
      · rw [upd_ne (ne_of_none hq sD4)]; exact gt.sh q u hq
    | false =>
      rw [if_neg Bool.false_ne_true] at h3
      show (if false = true then _ else _)
      rw [if_neg Bool.false_ne_true]
      exact ⟨S3, acc, accV, ((e1.trans g2.s).trans g3.s), sD3, (gr.trans g2).trans g3, ha3, (ra.mono g2.s).mono g3.s, by omega, h3⟩
  · have e2 : i = items.length := by omega
    subst e2
    refine .inl ⟨yi.stop _ S' H' e1 gr.sh (Nat.le_refl _), ?_⟩
    exact k (.lst acc) Dl S' H' (g1.trans gr) (none_of_ex g1.h hD) sD ⟨accV, hacc, ra⟩ (md acc hm)
theorem mf_lc {scope : Scope} {own : List (Str × Nat)} {we : WE} (hc : X.calm = true) (hN : X.N.Nodup) (hi : MI X b tg e wi) (ok : BlkOk X.N X.env.scope scope own)
    (hg : ∀ (s : Shared) (H : Hp) (C : Addr) (cl : List (Str × Addr)) (fp : List Addr), MG (X.blk s H scope (compEnvC scope cl C X.env) fp) b.calm (own.map (·.2)) tg wg)
    (ht : ∀ (s : Shared) (H : Hp) (C : Addr) (cl : List (Str × Addr)) (fp : List Addr), MTs (X.blk s H scope (compEnvC scope cl C X.env) fp) b.calm ifs wt)
    (he : ∀ (s : Shared) (H : Hp) (C : Addr) (cl : List (Str × Addr)) (fp : List Addr), ME (X.blk s H scope (compEnvC scope cl C X.env) fp) b.calm a we) (hs : ∀ x, foldedSetIterable e X.env x = pure x := by intro _; rfl) :
    MF X b (.ListComp a [⟨tg, e, ifs, 0⟩] scope pos) (wLc wi wg wt we (own.map (·.2))) := PE.imp (pe_lc (g := tGt X.K b.calm (own.map fun (q : Str × Nat) => q.2) wg) (tt := tM X.K b.calm wt) (te := tE X.K b.calm we) hc hN hi ok hg ht he hs) fun _ _ _ h => tLc_of h
theorem me_lc {scope : Scope} {own : List (Str × Nat)} {we : WE} (hc : X.calm = true) (hN : X.N.Nodup) (hi : MI X b tg e wi) (ok : BlkOk X.N X.env.scope scope own)
    (hg : ∀ (s : Shared) (H : Hp) (C : Addr) (cl : List (Str × Addr)) (fp : List Addr), MG (X.blk s H scope (compEnvC scope cl C X.env) fp) b.calm (own.map (·.2)) tg wg)
    (ht : ∀ (s : Shared) (H : Hp) (C : Addr) (cl : List (Str × Addr)) (fp : List Addr), MTs (X.blk s H scope (compEnvC scope cl C X.env) fp) b.calm ifs wt)
    (he : ∀ (s : Shared) (H : Hp) (C : Addr) (cl : List (Str × Addr)) (fp : List Addr), ME (X.blk s H scope (compEnvC scope cl C X.env) fp) b.calm a we) (hs : ∀ x, foldedSetIterable e X.env x = pure x := by intro _; rfl) :
    ME X b (.ListComp a [⟨tg, e, ifs, 0⟩] scope pos) (wLc wi wg wt we (own.map (·.2))) := me_ofF (mf_lc hc hN hi ok hg ht he hs)
/-- name = [..], the name a local | the list owned -/
theorem ms_setLcO (i : Nat) {y : Str} {py spos : Pos} {scope : Scope} {own : List (Str × Nat)} {we : WE} (hc : X.calm = true) (hN : X.N.Nodup) (hi : MI X b tg e wi) (ok : BlkOk X.N X.env.scope scope own)
    (hg : ∀ (s : Shared) (H : Hp) (C : Addr) (cl : List (Str × Addr)) (fp : List Addr), MG (X.blk s H scope (compEnvC scope cl C X.env) fp) b.calm (own.map (·.2)) tg wg)
    (ht : ∀ (s : Shared) (H : Hp) (C : Addr) (cl : List (Str × Addr)) (fp : List Addr), MTs (X.blk s H scope (compEnvC scope cl C X.env) fp) b.calm ifs wt)
    (he : ∀ (s : Shared) (H : Hp) (C : Addr) (cl : List (Str × Addr)) (fp : List Addr), ME (X.blk s H scope (compEnvC scope cl C X.env) fp) b.calm a we)
    (hy : X.N[i]? = some y := by rfl) (hyl : X.env.scope.names.lookup y = some .local := by rfl)
    (hsw : swapsWith (.ListComp a [⟨tg, e, ifs, 0⟩] scope pos) (some (.Name y py)) spos.line X.env = pure true := by exact sw_true rfl rfl rfl (by decide +kernel)) (hs : ∀ x, foldedSetIterable e X.env x = pure x := by intro _; rfl) :
    MS X b (.Assign [.Name y py] (.ListComp a [⟨tg, e, ifs, 0⟩] scope pos) spos) (wSetO i (wLc wi wg wt we (own.map (·.2)))) :=
  PS.imp (ps_setLc (g := tGt X.K b.calm (own.map fun (q : Str × Nat) => q.2) wg) (tt := tM X.K b.calm wt) (te := tE X.K b.calm we) hc hN hy hyl hsw hi ok hg ht he hs) fun Dn σ H ⟨S, δ, C, I, hw, k⟩ => by
    refine tLc_of (Q := fun x H1 => gName i x σ H1 Dn.nx) ⟨S, δ, _, I, hw, fun d q S' H' gr hp sp r hd => ?_⟩
    exact k.nx _ _ S' H' gr.s (I.setO gr hp sp r i) hd
theorem ms_setLc (i : Nat) {y : Str} {py spos : Pos} {scope : Scope} {own : List (Str × Nat)} {we : WE} (hc : X.calm = true) (hN : X.N.Nodup) (hi : MI X b tg e wi) (ok : BlkOk X.N X.env.scope scope own)
    (hg : ∀ (s : Shared) (H : Hp) (C : Addr) (cl : List (Str × Addr)) (fp : List Addr), MG (X.blk s H scope (compEnvC scope cl C X.env) fp) b.calm (own.map (·.2)) tg wg)
    (ht : ∀ (s : Shared) (H : Hp) (C : Addr) (cl : List (Str × Addr)) (fp : List Addr), MTs (X.blk s H scope (compEnvC scope cl C X.env) fp) b.calm ifs wt)
    (he : ∀ (s : Shared) (H : Hp) (C : Addr) (cl : List (Str × Addr)) (fp : List Addr), ME (X.blk s H scope (compEnvC scope cl C X.env) fp) b.calm a we)
    (hy : X.N[i]? = some y := by rfl) (hyl : X.env.scope.names.lookup y = some .local := by rfl)
    (hsw : swapsWith (.ListComp a [⟨tg, e, ifs, 0⟩] scope pos) (some (.Name y py)) spos.line X.env = pure true := by exact sw_true rfl rfl rfl (by decide +kernel)) (hs : ∀ x, foldedSetIterable e X.env x = pure x := by intro _; rfl) :
    MS X b (.Assign [.Name y py] (.ListComp a [⟨tg, e, ifs, 0⟩] scope pos) spos) (wAsg (wLc wi wg wt we (own.map (·.2))) (wgName i)) :=
  PS.imp (ps_setLc (g := tGt X.K b.calm (own.map fun (q : Str × Nat) => q.2) wg) (tt := tM X.K b.calm wt) (te := tE X.K b.calm we) hc hN hy hyl hsw hi ok hg ht he hs) fun Dn σ H ⟨S, δ, C, I, hw, k⟩ => by
    refine tLc_of (Q := fun x H1 => gName i x σ H1 Dn.nx) ⟨S, δ, _, I, hw, fun d q S' H' gr hp sp r hd => ?_⟩
    obtain ⟨S2, e1, e2, e3, r2⟩ := r.stab gr.sh sp
    have g2 : Grow S H S2 H' := ⟨gr.s.trans e1, gr.h, e2, fun z u hz => (e3 z (ne_of_none hz hp)).trans (gr.old z u hz)⟩
    exact k.nx _ _ S2 H' g2.s ((I.grow g2).set r2 i) hd
end
end Mi
namespace Mi
open PySem L2 Evl PySem.Spec PyProof.Rows

/-! ### a def's contract -/
abbrev CT := List D → (Exc → Prop) → (D → Prop) → Prop
/-- fields by name -/
inductive RepF (K : PySem.W.Frag) (g : G) (S : Hp) : List (Str × V) → List (Str × D) → Prop
  | nil : RepF K g S [] []
  | cons {f : Str} {v : V} {vs : List (Str × V)} {d : D} {ds : List (Str × D)} : Rep K g S v d → RepF K g S vs ds → RepF K g S ((f, v) :: vs) ((f, d) :: ds)
/-- how an exception lies -/
def ExcAt (K : PySem.W.Frag) (g : G) (x : Exc) (cls : Value) (d : Option Addr) (S H : Hp) : Prop :=
  cls = .ref x.cls ∧ if x.bare = true then d = none else ∃ dA fs, d = some dA ∧ H dA = some (.xd fs) ∧ RepF K g S fs x.fs
structure EWish (K : PySem.W.Frag) (b : Bs) (cls : Value) (d : Option Addr) (H' : Hp) : Prop where
  out : ∃ x S', b.EX x ∧ ExcAt K b.g x cls d S' H' ∧ Ex b.S0 S' ∧ Ex S' H' ∧ Ex b.H0 H' ∧ ∀ p o, b.H0 p = some o → S' p = b.S0 p
def spD (K : PySem.W.Frag) (g : G) (fr : Bool) (c : CT) : Sp := fun vs H Q E => ∃ S ds EX P, Ex S H ∧ RepA K g S vs ds ∧ c ds EX P ∧ (∀ d v S' H', RetR K ⟨g, S, H, EX, fr⟩ S' H' v d → P d → Q v H') ∧
  ∀ cls d H', EWish K ⟨g, S, H, EX, fr⟩ cls d H' → E cls d H'
/-- a def that raises nothing, called by its name -/
structure Cal (P : Program) (w : World) (K : PySem.W.Frag) (mg : Str → Option Value) (base : Heap) (g : G) (fr : Bool) (x : Str) (k : Nat) (c : CT) : Prop where
  out : ∃ f fd ps, FnOk P w K mg base CX0 k f fd ps (spD K g fr c) ∧ mg x = some (.ref f) ∧ PySem.W.keepIn K (.ref f) = true ∧ Binds K fd ps []
/-- a def that may raise -/
structure CalX (P : Program) (w : World) (K : PySem.W.Frag) (mg : Str → Option Value) (base : Heap) (g : G) (fr : Bool) (x : Str) (k : Nat) (c : CT) : Prop where
  out : ∃ f fd ps, FnOk P w K mg base (L2.CX P w) k f fd ps (spD K g fr c) ∧ mg x = some (.ref f) ∧ PySem.W.keepIn K (.ref f) = true ∧ Binds K fd ps []
def startE (N : List Str) (ds : List D) : Env := ds.map st ++ List.replicate (N.length - ds.length) none

section
variable {X : Cx} {b : Bs} {K : PySem.W.Frag} {g : G} {S S' H H' : Hp} {δ : Env} {σ : L2.St} {e a c d2 e' : Expr} {es rest : List Expr} {w wa wb wc : WE} {wr : WA} {pos p tpos : Pos} {x : Str} {ct : CT} {k : Nat}
def wCall (c : CT) (wr : WA) : WE := fun δ _ P => wr δ (fun _ => False) fun ds => c ds (fun _ => False) P
def wCallX (c : CT) (wr : WA) : WE := fun δ EX P => wr δ EX fun ds => c ds EX P
theorem RetR.grow {fr : Bool} {EX : Exc → Prop} {v : V} {d : D} (e : Ex S H) (r : RetR K ⟨g, S, H, EX, fr⟩ S' H' v d) : Grow S H S' H' := ⟨r.s, r.h, r.sh, r.old⟩
theorem pe_calN {fr : Bool} (Z : Cal X.prog X.w X.K X.mg X.base b.g fr x k ct) (hr : Room k X.A) (hg : Gl X x) {ta : TA} (ha : PA X (a :: es) ta) (hdb : (x == ("__debug__" : Str)) = false := by decide)
    (he : starEach (a :: es) X.env = (false, eval a X.env) :: starEach es X.env := by rfl) (hpl : (backTo pos (starEach es X.env)).any (·.1) = false := by rfl) : PE X (.Call (.Name x p) (a :: es) [] pos) (tCall (spD X.K b.g fr ct) [] E0 ta) := by
  obtain ⟨f, fd, ps, F, hm, hk, hb⟩ := Z.out
  exact pe_call F hr hg hm hk hb .nil pass0 ha hdb he hpl
theorem me_call (Z : Cal X.prog X.w X.K X.mg X.base b.g false x k ct) (hr : Room k X.A) (hg : Gl X x) (ha : MA X b.calm (a :: es) wr) (hdb : (x == ("__debug__" : Str)) = false := by decide)
    (he : starEach (a :: es) X.env = (false, eval a X.env) :: starEach es X.env := by rfl) (hpl : (backTo pos (starEach es X.env)).any (·.1) = false := by rfl) : ME X b (.Call (.Name x p) (a :: es) [] pos) (wCall ct wr) :=
  PE.imp (pe_calN (b := b) Z hr hg ha hdb he hpl) fun σ H Q ⟨S, δ, P, I, hw, k⟩ => by
    refine ⟨S, δ, _, I.calm, hw, fun ds vs S1 H1 g1 r1 h1 => ?_⟩
    refine ⟨S1, ds, _, P, g1.sh, by rw [List.append_nil]; exact r1, h1, fun d v S2 H2 rt hd => ?_, fun cls d H' z => ?_⟩
    · have r := rt.r
      rw [if_neg Bool.false_ne_true] at r
      exact k d v S2 H2 (g1.trans (rt.grow g1.sh)) r hd
    · obtain ⟨x, S', hx, _⟩ := z.out
      exact hx.elim
theorem mf_call (Z : Cal X.prog X.w X.K X.mg X.base b.g true x k ct) (hr : Room k X.A) (hg : Gl X x) (ha : MA X b.calm (a :: es) wr) (hdb : (x == ("__debug__" : Str)) = false := by decide)
    (he : starEach (a :: es) X.env = (false, eval a X.env) :: starEach es X.env := by rfl) (hpl : (backTo pos (starEach es X.env)).any (·.1) = false := by rfl) : MF X b (.Call (.Name x p) (a :: es) [] pos) (wCall ct wr) :=
  PE.imp (pe_calN (b := b) Z hr hg ha hdb he hpl) fun σ H Q ⟨S, δ, P, I, hw, k⟩ => by
    refine ⟨S, δ, _, I.calm, hw, fun ds vs S1 H1 g1 r1 h1 => ?_⟩
    refine ⟨S1, ds, _, P, g1.sh, by rw [List.append_nil]; exact r1, h1, fun d v S2 H2 rt hd => ?_, fun cls d H' z => ?_⟩
    · have r := rt.r
      rw [if_pos rfl] at r
      obtain ⟨q, rfl, h0, s0, o⟩ := r
      exact k d q S2 H2 (g1.trans (rt.grow g1.sh)) (none_of_ex g1.h h0) s0 o hd
    · obtain ⟨x, S', hx, _⟩ := z.out
      exact hx.elim
end

section
variable {P : Program} {w : World} {K : PySem.W.Frag} {mg : Str → Option Value} {base : Heap} {g : G}
theorem rep_start {S H : Hp} {EX : Exc → Prop} {fr : Bool} {N : List Str} {vs : List V} {ds : List D} (e : Ex S H) (r : RepA K g S vs ds) : StR K ⟨g, S, H, EX, fr⟩ (startE N ds) (L2.start N vs) S H where
  sh := e
  h0 := Ex.refl _
  s0 := Ex.refl _
  old := fun _ _ _ => rfl
  len := by unfold startE L2.start; simp [r.len]
  slot := fun i c h => by
    unfold startE at h
    unfold L2.start
    by_cases hi : i < ds.length
    · rw [List.getElem?_append_left (by simpa using hi)] at h
      rw [List.getElem?_append_left (by simpa [r.len] using hi)]
      rw [List.getElem?_map] at h ⊢
      cases hd : ds[i]? with
      | none => rw [hd] at h; cases h
      | some d =>
        rw [hd] at h
        cases h
        obtain ⟨v, hv, rv⟩ := r.get hd
        refine ⟨v, by rw [hv]; rfl, ?_⟩
        unfold CellR
        rw [if_neg Bool.false_ne_true]
        exact rv
    · rw [List.getElem?_append_right (by simpa using Nat.le_of_not_lt hi)] at h
      rw [List.getElem?_replicate] at h
      split at h <;> cases h
  sep := fun i j ci cj p _ hi _ oi _ _ _ => by
    unfold startE at hi
    by_cases hl : i < ds.length
    · rw [List.getElem?_append_left (by simpa using hl), List.getElem?_map] at hi
      cases hd : ds[i]? with
      | none => rw [hd] at hi; cases hi
      | some d => rw [hd] at hi; cases hi; cases oi
    · rw [List.getElem?_append_right (by simpa using Nat.le_of_not_lt hl), List.getElem?_replicate] at hi
      split at hi <;> cases hi
/-- THE RULE for a def -/
theorem Fun.data {x qual : Str} {st : Stmt} {f : Addr} {fd : FuncData} {N ps : List Str} {k : Nat} {c : CT} {fr : Bool} {wd : WS} (F : Fun K x qual st f fd) (Sc : FnScope N ps (defScope st)) (hlen : ∀ ds EX P, c ds EX P → ds.length = ps.length)
    (hbody : ∀ (cdv : Value) (A : Around) (outer : List PySem.Env) (s : Shared) (H : Hp) (E : XK) (S0 H0 : Hp), Room k (A.deeper (envOfC qual (defScope st) s.heap.objs.size f cdv)) →
      MSs (cxOf CX0 P w K mg base N qual (defScope st) f cdv A outer s H E).nox ⟨g, S0, H0, fun _ => False, fr⟩ (defBody st) wd)
    (hw : ∀ ds Q, c ds (fun _ => False) Q → wd (startE N ds) (fun _ => False) { nx := fun _ => fr = false ∧ Q .non, rt := Q })
    (hc : ∀ ds EX Q, c ds EX Q → c ds (fun _ => False) Q) : FnOk P w K mg base CX0 (k + 1) f fd ps (spD K g fr c) := by
  refine F.ok Sc (fun vs H Q E h => ?_) (fun cdv A outer s H vs Q E hr h => ?_)
  · obtain ⟨S, ds, EX, P, e, r, h, _⟩ := h
    rw [r.len]
    exact hlen _ _ _ h
  · obtain ⟨S, ds, EX, P, e, r, h, hret, _⟩ := h
    refine ⟨_, hbody cdv A outer s H E S H hr, S, startE N ds, _, rep_start e r, hw ds P (hc _ _ _ h), ?_, ?_, ?_, ?_⟩
    · intro δ' σ' S' H' e' I' ⟨hf, h'⟩
      refine hret .non .non S' H' ⟨I'.s0, I'.h0, I'.sh, I'.old, ?_⟩ h'
      subst hf
      rw [if_neg Bool.false_ne_true]
      exact .non
    · intro d v S' H' rt hd
      exact hret d v S' H' ⟨rt.s, rt.h, rt.sh, rt.old, rt.r⟩ hd
    · exact fun _ _ _ _ _ _ z => z.elim
    · exact fun _ _ _ _ _ _ z => z.elim
end
end Mi
namespace Mi
open PySem L2 Evl PySem.Spec PyProof.Rows
section
variable {X : Cx} {b : Bs} {K : PySem.W.Frag} {g : G} {S S' H H' : Hp} {δ : Env} {σ : L2.St} {e a c d2 e' : Expr} {es rest : List Expr} {w wa wb wc : WE} {wr : WA} {pos p tpos : Pos} {x : Str}
/-! ### len -/
def qLen (x : D) (P : D → Prop) : Prop := match x with
  | .lst ds => P (.int ds.length)
  | .tup ds => P (.int ds.length)
  | .dic ds => P (.int ds.length)
  | .str s => s.length ≤ Line ∧ P (.int s.length)
  | _ => False
theorem b1_len : B1 K g (fun xs H Q => (∃ x n, xs = [x] ∧ LenV K x H n ∧ Q (.int n) H) ∨ (∃ a kvs, xs = [V.ref a] ∧ H a = some (.dK kvs) ∧ Q (.int kvs.length) H)) qLen := by
  intro S H x v P Q e rv hq k
  unfold qLen at hq
  split at hq
  · obtain ⟨p, xs, rfl, hx, ra⟩ := rv.lst e
    exact .inl ⟨_, _, rfl, .inl ⟨xs, sq_of hx, rfl⟩, k _ _ S H (Grow.refl e) (by rw [ra.len]; exact .int _) hq⟩
  · obtain ⟨p, xs, rfl, hx, _, ra⟩ := rv.tup e
    exact .inl ⟨_, _, rfl, .inr ⟨xs, hx, rfl⟩, k _ _ S H (Grow.refl e) (by rw [ra.len]; exact .int _) hq⟩
  · obtain ⟨p, xs, rfl, hx, ra⟩ := rv.dic e
    exact .inr ⟨p, xs, rfl, hx, k _ _ S H (Grow.refl e) (by rw [ra.len]; exact .int _) hq⟩
  · cases rv.str
    exact .inl ⟨_, _, rfl, ⟨le_line hq.1, rfl⟩, k _ _ S H (Grow.refl e) (.int _) hq.2⟩
  · exact hq.elim
theorem me_len (hm : X.mg "len" = none) (hg : Gl X "len") (ha : MO X b a wa) (hs : starEach [a] X.env = (false, eval a X.env) :: starEach [] X.env := by rfl) (hpl : (backTo pos (starEach [] X.env)).any (·.1) = false := by rfl) : ME X b (.Call (.Name "len" p) [a] [] pos) (wUn qLen wa) :=
  me_b1 (CallR.or call_len call_lenD) b1_len hg hm PySem.boot_len ha (by decide) (by decide) hs hpl

/-! ### int, min, max, sum, all, any -/
def qInt (x : D) (P : D → Prop) : Prop := match x with
  | .int i => P (.int i)
  | .bl k => P (.int (if k then 1 else 0))
  | .str s => ∃ n, PySem.intText? s = some n ∧ s.length ≤ 640 ∧ P (.int n)
  | _ => False
theorem b1_int : B1 K g (fun xs H Q => ((∃ i, xs = [.int i] ∧ Q (.int i) H) ∨ ∃ k, xs = [.bl k] ∧ Q (.int (if k then 1 else 0)) H) ∨ (∃ a n, xs = [.str a] ∧ PySem.intText? a = some n ∧ a.length ≤ 640 ∧ Q (.int n) H)) qInt := by
  intro S H x v P Q e rv hq k
  unfold qInt at hq
  split at hq
  · cases rv.int; exact .inl (.inl ⟨_, rfl, k _ _ S H (Grow.refl e) (.int _) hq⟩)
  · cases rv.bl; exact .inl (.inr ⟨_, rfl, k _ _ S H (Grow.refl e) (.int _) hq⟩)
  · cases rv.str
    obtain ⟨n, h1, h2, h3⟩ := hq
    exact .inr ⟨_, n, rfl, h1, h2, k _ _ S H (Grow.refl e) (.int _) h3⟩
  · exact hq.elim
theorem me_int1 (hm : X.mg "int" = none) (hg : Gl X "int") (ha : MO X b a wa) (hs : starEach [a] X.env = (false, eval a X.env) :: starEach [] X.env := by rfl) (hpl : (backTo pos (starEach [] X.env)).any (·.1) = false := by rfl) : ME X b (.Call (.Name "int" p) [a] [] pos) (wUn qInt wa) :=
  me_t1 (CallR.or call_int1 call_int_str) b1_int hg hm (by decide +kernel) ha (by decide) (by decide) hs hpl
theorem boot_min' : bootBuiltins "min" = some (.builtin "min") := by decide +kernel
theorem boot_max' : bootBuiltins "max" = some (.builtin "max") := by decide +kernel
theorem boot_sum' : bootBuiltins "sum" = some (.builtin "sum") := by decide +kernel
theorem boot_all' : bootBuiltins "all" = some (.builtin "all") := by decide +kernel
theorem boot_any' : bootBuiltins "any" = some (.builtin "any") := by decide +kernel
theorem boot_abs' : bootBuiltins "abs" = some (.builtin "abs") := by decide +kernel
theorem boot_list' : bootBuiltins "list" = some (.type "list") := by decide +kernel
theorem boot_tuple' : bootBuiltins "tuple" = some (.type "tuple") := by decide +kernel
theorem boot_str' : bootBuiltins "str" = some (.type "str") := by decide +kernel
theorem boot_isi' : bootBuiltins "isinstance" = some (.builtin "isinstance") := by decide +kernel
theorem boot_sorted' : bootBuiltins "sorted" = some (.builtin "sorted") := by decide +kernel
theorem boot_int'' : bootBuiltins "int" = some (.type "int") := by decide +kernel
theorem boot_bool'' : bootBuiltins "bool" = some (.type "bool") := by decide +kernel
theorem boot_str'' : bootBuiltins "str" = some (.type "str") := by decide +kernel
theorem boot_list'' : bootBuiltins "list" = some (.type "list") := by decide +kernel
theorem boot_tuple'' : bootBuiltins "tuple" = some (.type "tuple") := by decide +kernel
theorem boot_dict'' : bootBuiltins "dict" = some (.type "dict") := by decide +kernel
theorem units65 {k : Nat} {A : Around} (r : Room k A) : A.units + 65 < cLine := by have := r.un; omega
/-- two, three arguments, by values -/
def B2 (K : PySem.W.Frag) (g : G) (r : List V → Hp → VK → Prop) (q : D → D → (D → Prop) → Prop) : Prop := OpD K g (fun x y => r [x, y]) q
def wB2 (q : D → D → (D → Prop) → Prop) (wa wb : WE) : WE := wOp q wa wb
theorem me_b2 {id : String} {r : List V → Hp → VK → Prop} {q : D → D → (D → Prop) → Prop} (hc : CallR X (.builtin id) r) (hr : B2 X.K b.g r q) (hg : Gl X x) (hm : X.mg x = none) (hv : bootBuiltins x = some (.builtin id)) (ha : MO X b a wa) (hb : MO X b c wb) (hn : x ≠ "__name__" := by decide) (hdb : (x == ("__debug__" : Str)) = false := by decide)
    (hs : starEach [a, c] X.env = (false, eval a X.env) :: starEach [c] X.env := by rfl) (hs2 : starEach [c] X.env = (false, eval c X.env) :: starEach [] X.env := by rfl) (hpl : (backTo pos (starEach [c] X.env)).any (·.1) = false := by rfl) : ME X b (.Call (.Name x p) [a, c] [] pos) (wOp q wa wb) :=
  PE.imp (pe_callB hc hg hm hv (paO2 ha hb hs hs2) hn hdb hs hpl) fun σ H Q h => tOp_of (r := fun x y => r [x, y]) hr h
def qMin (x y : D) (P : D → Prop) : Prop := match x, y with
  | .int i, .int j => P (.int (min i j))
  | _, _ => False
def qMax (x y : D) (P : D → Prop) : Prop := match x, y with
  | .int i, .int j => P (.int (max i j))
  | _, _ => False
theorem min_if (i j : Int) : (if j < i then j else i) = min i j := by
  rw [Int.min_def]; split <;> split <;> omega
theorem max_if (i j : Int) : (if j > i then j else i) = max i j := by
  rw [Int.max_def]; split <;> split <;> omega
theorem b2_min : B2 K g (fun xs H Q => ∃ i j, xs = [.int i, .int j] ∧ Q (.int (if j < i then j else i)) H) qMin := by
  intro S H x y v u P Q e rv ru hq k
  unfold qMin at hq
  split at hq
  · cases rv.int; cases ru.int
    exact ⟨_, _, rfl, by rw [min_if]; exact k _ _ S H (Grow.refl e) (.int _) hq⟩
  · exact hq.elim
theorem b2_max : B2 K g (fun xs H Q => ∃ i j, xs = [.int i, .int j] ∧ Q (.int (if j > i then j else i)) H) qMax := by
  intro S H x y v u P Q e rv ru hq k
  unfold qMax at hq
  split at hq
  · cases rv.int; cases ru.int
    exact ⟨_, _, rfl, by rw [max_if]; exact k _ _ S H (Grow.refl e) (.int _) hq⟩
  · exact hq.elim
theorem me_min2 (hcm : X.calm = true) (hm : X.mg "min" = none) (hg : Gl X "min") (ha : MO X b a wa) (hb : MO X b c wb) (hs : starEach [a, c] X.env = (false, eval a X.env) :: starEach [c] X.env := by rfl) (hs2 : starEach [c] X.env = (false, eval c X.env) :: starEach [] X.env := by rfl) (hpl : (backTo pos (starEach [c] X.env)).any (·.1) = false := by rfl) :
    ME X b (.Call (.Name "min" p) [a, c] [] pos) (wOp qMin wa wb) := me_b2 (call_min2 hcm) b2_min hg hm boot_min' ha hb (by decide) (by decide) hs hs2 hpl
theorem me_max2 (hcm : X.calm = true) (hm : X.mg "max" = none) (hg : Gl X "max") (ha : MO X b a wa) (hb : MO X b c wb) (hs : starEach [a, c] X.env = (false, eval a X.env) :: starEach [c] X.env := by rfl) (hs2 : starEach [c] X.env = (false, eval c X.env) :: starEach [] X.env := by rfl) (hpl : (backTo pos (starEach [c] X.env)).any (·.1) = false := by rfl) :
    ME X b (.Call (.Name "max" p) [a, c] [] pos) (wOp qMax wa wb) := me_b2 (call_max2 hcm) b2_max hg hm boot_max' ha hb (by decide) (by decide) hs hs2 hpl
def qMin3 (x y z : D) (P : D → Prop) : Prop := match x, y, z with
  | .int i, .int j, .int k => P (.int (min (min i j) k))
  | _, _, _ => False
def wMin3 (wa wb wc : WE) : WE := fun δ EX P => wa δ EX fun x => wb δ EX fun y => wc δ EX fun z => qMin3 x y z P
theorem nuMin2_int (i j : Int) : nuMin2 (.int i) (.int j) = some (.int (min i j)) := by
  have h : nuLt (.int j) (.int i) = some (decide (j < i)) := rfl
  unfold nuMin2
  rw [h]
  show some (if decide (j < i) = true then V.int j else V.int i) = _
  rw [Int.min_def]
  by_cases c : j < i
  · rw [if_pos (decide_eq_true c), if_neg (by omega)]
  · rw [if_neg (by simpa using c), if_pos (by omega)]
theorem me_min3 (hcm : X.calm = true) (hm : X.mg "min" = none) (hg : Gl X "min") (ha : MO X b a wa) (hb : MO X b c wb) (hc : MO X b e wc) (hs : starEach [a, c, e] X.env = (false, eval a X.env) :: starEach [c, e] X.env := by rfl) (hs2 : starEach [c, e] X.env = (false, eval c X.env) :: starEach [e] X.env := by rfl)
    (hs3 : starEach [e] X.env = (false, eval e X.env) :: starEach [] X.env := by rfl) (hpl : (backTo pos (starEach [c, e] X.env)).any (·.1) = false := by rfl) : ME X b (.Call (.Name "min" p) [a, c, e] [] pos) (wMin3 wa wb wc) :=
  PE.imp (pe_callB (call_min3Nu hcm) hg hm boot_min' (pa_cons ha (pa_cons hb (pa_cons hc pa_nil hs3) hs2) hs) (by decide) (by decide) hs hpl) fun σ H Q ⟨S, δ, P, I, hw, k⟩ => by
    refine ⟨S, δ, _, I, hw, fun x v S1 H1 g1 r1 h1 => ?_⟩
    refine ⟨S1, δ, _, I.grow g1, h1, fun y u S2 H2 g2 r2 h2 => ?_⟩
    refine ⟨S2, δ, _, (I.grow g1).grow g2, h2, fun z t S3 H3 g3 r3 h3 => ?_⟩
    unfold qMin3 at h3
    split at h3
    · cases r1.int; cases r2.int; cases r3.int
      refine ⟨_, _, _, _, rfl, ?_, k _ _ S3 H3 ((g1.trans g2).trans g3) (.int _) h3⟩
      unfold nuMin3
      rw [nuMin2_int]
      exact nuMin2_int _ _
    · exact h3.elim
/-- of one list -/
theorem ints_of : ∀ {xs : List V} {ns : List Int}, RepA K g S xs (ns.map D.int) → xs = ns.map V.int
  | [], [], .nil => rfl
  | _ :: _, n :: ns, .cons h r => by
    cases h
    rw [ints_of r]; rfl
theorem bools_of : ∀ {xs : List V} {ns : List Bool}, RepA K g S xs (ns.map D.bl) → xs = ns.map V.bl
  | [], [], .nil => rfl
  | _ :: _, n :: ns, .cons h r => by
    cases h
    rw [bools_of r]; rfl
theorem strs_of : ∀ {xs : List V} {ns : List Str}, RepA K g S xs (ns.map D.str) → xs = ns.map V.str
  | [], [], .nil => rfl
  | _ :: _, n :: ns, .cons h r => by
    cases h
    rw [strs_of r]; rfl
def qMinL (x : D) (P : D → Prop) : Prop := match x with
  | .lst ds => ∃ ns : List Int, ds = ns.map D.int ∧ 0 < ns.length ∧ ∀ m, m ∈ ns → (∀ y, y ∈ ns → m ≤ y) → P (.int m)
  | _ => False
def qMaxL (x : D) (P : D → Prop) : Prop := match x with
  | .lst ds => ∃ ns : List Int, ds = ns.map D.int ∧ 0 < ns.length ∧ ∀ m, m ∈ ns → (∀ y, y ∈ ns → y ≤ m) → P (.int m)
  | _ => False
theorem b1_minL : B1 K g (rMin K) qMinL := by
  intro S H x v P Q e rv hq k
  unfold qMinL at hq
  split at hq
  · obtain ⟨p, xs, rfl, hx, ra⟩ := rv.lst e
    obtain ⟨ns, rfl, h0, h⟩ := hq
    have ex := ints_of ra
    subst ex
    exact ⟨p, ns, rfl, sq_of hx, h0, fun m hm hl => k _ _ S H (Grow.refl e) (.int _) (h m hm hl)⟩
  · exact hq.elim
theorem b1_maxL : B1 K g (rMax K) qMaxL := by
  intro S H x v P Q e rv hq k
  unfold qMaxL at hq
  split at hq
  · obtain ⟨p, xs, rfl, hx, ra⟩ := rv.lst e
    obtain ⟨ns, rfl, h0, h⟩ := hq
    have ex := ints_of ra
    subst ex
    exact ⟨p, ns, rfl, sq_of hx, h0, fun m hm hl => k _ _ S H (Grow.refl e) (.int _) (h m hm hl)⟩
  · exact hq.elim
def qSum (x : D) (P : D → Prop) : Prop := match x with
  | .lst ds => ∃ ns : List Int, ds = ns.map D.int ∧ P (.int ns.sum)
  | _ => False
theorem b1_sum : B1 K g (rSum K) qSum := by
  intro S H x v P Q e rv hq k
  unfold qSum at hq
  split at hq
  · obtain ⟨p, xs, rfl, hx, ra⟩ := rv.lst e
    obtain ⟨ns, rfl, h⟩ := hq
    have ex := ints_of ra
    subst ex
    exact ⟨p, ns, rfl, sq_of hx, k _ _ S H (Grow.refl e) (.int _) h⟩
  · exact hq.elim
def qAll (x : D) (P : D → Prop) : Prop := match x with
  | .lst ds => ∃ ns : List Bool, ds = ns.map D.bl ∧ P (.bl (ns.all id))
  | _ => False
def qAny (x : D) (P : D → Prop) : Prop := match x with
  | .lst ds => ∃ ns : List Bool, ds = ns.map D.bl ∧ P (.bl (ns.any id))
  | _ => False
theorem b1_all : B1 K g (rAll K) qAll := by
  intro S H x v P Q e rv hq k
  unfold qAll at hq
  split at hq
  · obtain ⟨p, xs, rfl, hx, ra⟩ := rv.lst e
    obtain ⟨ns, rfl, h⟩ := hq
    have ex := bools_of ra
    subst ex
    exact ⟨p, ns, rfl, sq_of hx, k _ _ S H (Grow.refl e) (.bl _) h⟩
  · exact hq.elim
theorem b1_any : B1 K g (rAny K) qAny := by
  intro S H x v P Q e rv hq k
  unfold qAny at hq
  split at hq
  · obtain ⟨p, xs, rfl, hx, ra⟩ := rv.lst e
    obtain ⟨ns, rfl, h⟩ := hq
    have ex := bools_of ra
    subst ex
    exact ⟨p, ns, rfl, sq_of hx, k _ _ S H (Grow.refl e) (.bl _) h⟩
  · exact hq.elim
section
variable (hcm : X.calm = true) (ha : MO X b a wa) (hs : starEach [a] X.env = (false, eval a X.env) :: starEach [] X.env) (hpl : (backTo pos (starEach [] X.env)).any (·.1) = false)
theorem me_minL (hcm : X.calm = true) (hm : X.mg "min" = none) (hg : Gl X "min") (ha : MO X b a wa) (hs : starEach [a] X.env = (false, eval a X.env) :: starEach [] X.env := by rfl) (hpl : (backTo pos (starEach [] X.env)).any (·.1) = false := by rfl) : ME X b (.Call (.Name "min" p) [a] [] pos) (wUn qMinL wa) := me_b1 (cr_min hcm) b1_minL hg hm boot_min' ha (by decide) (by decide) hs hpl
theorem me_maxL (hcm : X.calm = true) (hm : X.mg "max" = none) (hg : Gl X "max") (ha : MO X b a wa) (hs : starEach [a] X.env = (false, eval a X.env) :: starEach [] X.env := by rfl) (hpl : (backTo pos (starEach [] X.env)).any (·.1) = false := by rfl) : ME X b (.Call (.Name "max" p) [a] [] pos) (wUn qMaxL wa) := me_b1 (cr_max hcm) b1_maxL hg hm boot_max' ha (by decide) (by decide) hs hpl
theorem me_sum (hcm : X.calm = true) (hm : X.mg "sum" = none) (hg : Gl X "sum") (ha : MO X b a wa) (hs : starEach [a] X.env = (false, eval a X.env) :: starEach [] X.env := by rfl) (hpl : (backTo pos (starEach [] X.env)).any (·.1) = false := by rfl) : ME X b (.Call (.Name "sum" p) [a] [] pos) (wUn qSum wa) := me_b1 (cr_sum hcm) b1_sum hg hm boot_sum' ha (by decide) (by decide) hs hpl
theorem me_all (hcm : X.calm = true) (hm : X.mg "all" = none) (hg : Gl X "all") (ha : MO X b a wa) (hs : starEach [a] X.env = (false, eval a X.env) :: starEach [] X.env := by rfl) (hpl : (backTo pos (starEach [] X.env)).any (·.1) = false := by rfl) : ME X b (.Call (.Name "all" p) [a] [] pos) (wUn qAll wa) := me_b1 (cr_all hcm) b1_all hg hm boot_all' ha (by decide) (by decide) hs hpl
theorem me_any (hcm : X.calm = true) (hm : X.mg "any" = none) (hg : Gl X "any") (ha : MO X b a wa) (hs : starEach [a] X.env = (false, eval a X.env) :: starEach [] X.env := by rfl) (hpl : (backTo pos (starEach [] X.env)).any (·.1) = false := by rfl) : ME X b (.Call (.Name "any" p) [a] [] pos) (wUn qAny wa) := me_b1 (cr_any hcm) b1_any hg hm boot_any' ha (by decide) (by decide) hs hpl
end
/-! ### list, tuple, str, abs -/
def qList (x : D) (P : D → Prop) : Prop := match x with
  | .lst ds => P (.lst ds)
  | .tup ds => P (.lst ds)
  | _ => False
theorem b1_list : B1F K g (fun xs H Q => ∃ p ys, xs = [.ref p] ∧ (SqL K H p ys ∨ SqT K H p ys) ∧ ∀ l, H l = none → Q (.ref l) (upd H l (.lst ys))) qList := by
  intro S H x v P Q e rv hq k
  unfold qList at hq
  split at hq
  · obtain ⟨p, xs, rfl, hx, ra⟩ := rv.lst e
    exact ⟨p, xs, rfl, .inl (sq_of hx), fun l hl => k (.lst _) l S _ (Grow.newO e hl) hl (none_of_ex e hl) ⟨_, upd_same, ra⟩ hq⟩
  · obtain ⟨p, xs, rfl, hx, _, ra⟩ := rv.tup e
    exact ⟨p, xs, rfl, .inr hx, fun l hl => k (.lst _) l S _ (Grow.newO e hl) hl (none_of_ex e hl) ⟨_, upd_same, ra⟩ hq⟩
  · exact hq.elim
theorem mf_list (hm : X.mg "list" = none) (hg : Gl X "list") (ha : MO X b a wa) (hs : starEach [a] X.env = (false, eval a X.env) :: starEach [] X.env := by rfl) (hpl : (backTo pos (starEach [] X.env)).any (·.1) = false := by rfl) : MF X b (.Call (.Name "list" p) [a] [] pos) (wUn qList wa) :=
  mf_t1 call_list_of b1_list hg hm boot_list' ha (by decide) (by decide) hs hpl
def qTuple (x : D) (P : D → Prop) : Prop := match x with
  | .lst ds => P (.tup ds)
  | .tup ds => P (.tup ds)
  | _ => False
theorem b1_tuple : B1 K g (fun xs H Q => ∃ p ys, xs = [.ref p] ∧ ((SqL K H p ys ∧ ∀ l, H l = none → Q (.ref l) (upd H l (.tup ys))) ∨ (SqT K H p ys ∧ Q (.ref p) H))) qTuple := by
  intro S H x v P Q e rv hq k
  unfold qTuple at hq
  split at hq
  · obtain ⟨p, xs, rfl, hx, ra⟩ := rv.lst e
    exact ⟨p, xs, rfl, .inl ⟨sq_of hx, fun l hl => k _ _ _ _ (Grow.new e hl) (.tup (st_of upd_same) (ra.mono (Ex.new (none_of_ex e hl)))) hq⟩⟩
  · obtain ⟨p, xs, rfl, hx, sx, ra⟩ := rv.tup e
    exact ⟨p, xs, rfl, .inr ⟨hx, k _ _ S H (Grow.refl e) (.tup sx ra) hq⟩⟩
  · exact hq.elim
theorem me_tuple (hm : X.mg "tuple" = none) (hg : Gl X "tuple") (ha : MO X b a wa) (hs : starEach [a] X.env = (false, eval a X.env) :: starEach [] X.env := by rfl) (hpl : (backTo pos (starEach [] X.env)).any (·.1) = false := by rfl) : ME X b (.Call (.Name "tuple" p) [a] [] pos) (wUn qTuple wa) :=
  me_t1 call_tuple_of b1_tuple hg hm boot_tuple' ha (by decide) (by decide) hs hpl
def qStr (x : D) (P : D → Prop) : Prop := match x with
  | .int i => i.natAbs.log2 < 1920 ∧ P (.str (toString i))
  | _ => False
theorem b1_str : B1 K g (fun xs H Q => ∃ i, xs = [.int i] ∧ i.natAbs.log2 < 1920 ∧ Q (.str (toString i)) H) qStr := by
  intro S H x v P Q e rv hq k
  unfold qStr at hq
  split at hq
  · cases rv.int; exact ⟨_, rfl, hq.1, k _ _ S H (Grow.refl e) (.str _) hq.2⟩
  · exact hq.elim
theorem me_str1 (hm : X.mg "str" = none) (hg : Gl X "str") (ha : MO X b a wa) (hs : starEach [a] X.env = (false, eval a X.env) :: starEach [] X.env := by rfl) (hpl : (backTo pos (starEach [] X.env)).any (·.1) = false := by rfl) : ME X b (.Call (.Name "str" p) [a] [] pos) (wUn qStr wa) :=
  me_t1 call_str_int b1_str hg hm boot_str' ha (by decide) (by decide) hs hpl
def qAbs (x : D) (P : D → Prop) : Prop := match x with
  | .int i => P (.int (if i < 0 then -i else i))
  | _ => False
theorem b1_abs : B1 K g (fun xs H Q => ∃ i, xs = [.int i] ∧ Q (.int (if i < 0 then -i else i)) H) qAbs := by
  intro S H x v P Q e rv hq k
  unfold qAbs at hq
  split at hq
  · cases rv.int; exact ⟨_, rfl, k _ _ S H (Grow.refl e) (.int _) hq⟩
  · exact hq.elim
theorem me_abs (hm : X.mg "abs" = none) (hg : Gl X "abs") (ha : MO X b a wa) (hs : starEach [a] X.env = (false, eval a X.env) :: starEach [] X.env := by rfl) (hpl : (backTo pos (starEach [] X.env)).any (·.1) = false := by rfl) : ME X b (.Call (.Name "abs" p) [a] [] pos) (wUn qAbs wa) :=
  me_b1 call_abs b1_abs hg hm boot_abs' ha (by decide) (by decide) hs hpl

/-! ### isinstance of a built-in class -/
def tyD : D → Option String
  | .non => some "NoneType"
  | .bl _ => some "bool"
  | .int _ => some "int"
  | .str _ => some "str"
  | .lst _ => some "list"
  | .tup _ => some "tuple"
  | .dic _ => some "dict"
  | .ext _ _ => none
theorem tyX_tup {p : Addr} {xs : List V} (h : SqT K H p xs) : TyX K H (.ref p) (.type "tuple") := by
  rcases h with (h | ⟨o, h⟩) | ⟨o, its, n, h, c, _⟩
  · exact .base (.tup h)
  · exact .fTuple h
  · exact .kTuple h c
theorem RepT.ty {v : V} {x : D} {t : String} (e : Ex S H) (r : RepT K g S H v x) (h : tyD x = some t) : TyX K H v (.type t) := by
  cases x with
  | non => cases h; cases r.non; exact .base .non
  | bl _ => cases h; cases r.bl; exact .base (.bl _)
  | int _ => cases h; cases r.int; exact .base (.int _)
  | str _ => cases h; cases r.str; exact .base (.str _)
  | lst ds => cases h; obtain ⟨p, xs, rfl, hx, ra⟩ := r.lst e; exact .base (.lst hx)
  | tup ds => cases h; obtain ⟨p, xs, rfl, hx, _, ra⟩ := r.tup e; exact tyX_tup hx
  | dic ds => cases h; obtain ⟨p, xs, rfl, hx, ra⟩ := r.dic e; exact .base (.dK hx)
  | ext n d => cases h
def qIsi (T : String) (x : D) (P : D → Prop) : Prop := match tyD x with
  | some t => (match kitB t T with | some r => P (.bl r) | none => False)
  | none => False
def wIsi (T : String) (wa : WE) : WE := wUn (qIsi T) wa
theorem me_isi {T : String} {x2 : Str} {p2 : Pos} (hm : X.mg "isinstance" = none) (hg : Gl X "isinstance") (hgT : Gl X x2) (hmT : X.mg x2 = none) (hvT : bootBuiltins x2 = some (.type T)) (ha : MO X b a wa) (hn : x2 ≠ "__name__" := by decide) (hdb : (x2 == ("__debug__" : Str)) = false := by decide)
    (hs : starEach [a, .Name x2 p2] X.env = (false, eval a X.env) :: starEach [.Name x2 p2] X.env := by rfl) (hs2 : starEach [.Name x2 p2] X.env = (false, eval (.Name x2 p2) X.env) :: starEach [] X.env := by rfl) (hpl : (backTo pos (starEach [.Name x2 p2] X.env)).any (·.1) = false := by rfl) :
    ME X b (.Call (.Name "isinstance" p) [a, .Name x2 p2] [] pos) (wUn (qIsi T) wa) :=
  PE.imp (pe_callB call_isi hg hm boot_isi' (pa_cons ha (pa_cons (pe_bltn (v := .ty T) hgT hmT hvT rfl hn hdb) pa_nil hs2) hs) (by decide) (by decide) hs hpl) fun σ H Q ⟨S, δ, P, I, hw, k⟩ => by
    refine ⟨S, δ, _, I, hw, fun x v S1 H1 g1 r1 h1 => ?_⟩
    unfold qIsi at h1
    split at h1
    · rename_i t ht
      split at h1
      · rename_i r hr
        exact ⟨v, .ty T, .type t, .type T, r, rfl, .ty T, r1.ty g1.sh ht, kit_ty hr, k _ _ S1 H1 g1 (.bl _) h1⟩
      · exact h1.elim
    · exact h1.elim

/-! ### in -/
def flatD : D → Bool
  | .non | .bl _ | .int _ | .str _ => true
  | _ => false
theorem RepT.flat {v : V} {x : D} (r : RepT K g S H v x) (h : flatD x = true) : flatV v = true ∧ Rep K g S v x := by
  cases x with
  | non => cases r.non; exact ⟨rfl, .non⟩
  | bl _ => cases r.bl; exact ⟨rfl, .bl _⟩
  | int _ => cases r.int; exact ⟨rfl, .int _⟩
  | str _ => cases r.str; exact ⟨rfl, .str _⟩
  | _ => cases h
theorem eqV_of {v u : V} {x y : D} (rv : Rep K g S v x) (ru : Rep K g S u y) (hx : flatD x = true) (hy : flatD y = true) : eqV v u = eqD x y := by
  cases rv <;> cases ru <;> first
    | rfl
    | exact absurd (show false = true from hx) Bool.false_ne_true
    | exact absurd (show false = true from hy) Bool.false_ne_true
theorem RepA.flat : ∀ {vs : List V} {ds : List D}, RepA K g S vs ds → ds.all flatD = true → vs.all flatV = true
  | _, _, .nil, _ => rfl
  | _, _, .cons h r, f => by
    rw [List.all_cons, Bool.and_eq_true] at f ⊢
    exact ⟨(RepT.flat (H := S) (.inl h) f.1).1, r.flat f.2⟩
theorem RepA.inV {v : V} {x : D} (rv : Rep K g S v x) (hx : flatD x = true) : ∀ {vs : List V} {ds : List D}, RepA K g S vs ds → ds.all flatD = true → L2.inV v vs = ds.any fun z => eqD z x
  | _, _, .nil, _ => rfl
  | _, _, .cons h r, f => by
    rw [List.all_cons, Bool.and_eq_true] at f
    have ih := RepA.inV rv hx r f.2
    unfold L2.inV at ih ⊢
    rw [List.any_cons, List.any_cons, ih, eqV_of h rv f.1 hx]
/-- x in y -/
def qIn (x y : D) (P : Bool → Prop) : Prop := match y with
  | .str t => (match x with
    | .str s => (match s.cps.toList with | [c] => P (decide (c ∈ t.cps.toList)) | _ => P (!(Builtin.Str.occurrences t s 0 t.length 1).isEmpty))
    | _ => False)
  | .lst ds => ((flatD x = true ∧ ds.all flatD = true) ∨ (okD x ∧ okD (.lst ds))) ∧ P (ds.any fun z => eqD z x)
  | .tup ds => (flatD x = true ∧ ds.all flatD = true) ∧ P (ds.any fun z => eqD z x)
  | .dic kvs => (match keyD x with | some k => P (valD kvs k).isSome | none => False)
  | _ => False
def qNotIn (x y : D) (P : Bool → Prop) : Prop := qIn x y fun c => P (!c)
/-- the readings of in, not in, of a dict -/
def rInDct (neg : Bool) : R2 := fun y x H Q => ∃ a o, x = .ref a ∧ DGet H a y o ∧ Q (.bl (if neg then !o.isSome else o.isSome)) H
theorem op_inDct (hu : X.A.units + 1 < cLine) : OpR X (compareOp .In) (rInDct false) := by
  intro pins s σ H y x v u Q I ry rx h
  obtain ⟨a, o, rfl, gt, q⟩ := h
  cases rx
  exact d_in hu I gt ry fun s3 I3 => ⟨.bl o.isSome, H, I3, rfl, q⟩
theorem op_notInDct (hu : X.A.units + 1 < cLine) : OpR X (compareOp .NotIn) (rInDct true) := by
  intro pins s σ H y x v u Q I ry rx h
  obtain ⟨a, o, rfl, gt, q⟩ := h
  cases rx
  exact d_notIn hu I gt ry fun s3 I3 => ⟨.bl (!o.isSome), H, I3, rfl, q⟩
def rInAll (K : PySem.W.Frag) : R2 := fun x y H Q => (∃ (c : Nat) (z : Str), x = .str ⟨#[c]⟩ ∧ y = .str z ∧ Q (.bl (decide (c ∈ z.cps.toList))) H) ∨ (∃ i j, x = .str i ∧ y = .str j ∧ Q (.bl (!(Builtin.Str.occurrences j i 0 j.length 1).isEmpty)) H) ∨
  rIn K false x y H Q ∨ rInD K x y H Q ∨ rInDct false x y H Q
def rNotInAll (K : PySem.W.Frag) : R2 := fun x y H Q => (∃ (c : Nat) (z : Str), x = .str ⟨#[c]⟩ ∧ y = .str z ∧ Q (.bl (!decide (c ∈ z.cps.toList))) H) ∨ (∃ i j, x = .str i ∧ y = .str j ∧ Q (.bl (!(!(Builtin.Str.occurrences j i 0 j.length 1).isEmpty))) H) ∨
  rIn K true x y H Q ∨ rNotInD K x y H Q ∨ rInDct true x y H Q
theorem op_inAll (hu : X.A.units + 65 < cLine) : OpR X (compareOp .In) (rInAll X.K) := OpR.or op_in_sign (OpR.or op_in_str (OpR.or op_in_seq (OpR.or (op_inD hu) (op_inDct (by omega)))))
theorem op_notInAll (hu : X.A.units + 65 < cLine) : OpR X (compareOp .NotIn) (rNotInAll X.K) := OpR.or op_notIn_sign (OpR.or op_notin_str (OpR.or op_notIn_seq (OpR.or (op_notInD hu) (op_notInDct (by omega)))))
theorem str_one {s : Str} {c : Nat} (h : s.cps.toList = [c]) : s = ⟨#[c]⟩ := by
  cases s with
  | mk cps =>
    have e : cps = #[c] := by
      apply Array.ext'
      simpa using h
    rw [e]
theorem ob_in : OpB K g (rInAll K) qIn := by
  intro S H x y v u P Q e rv ru hq k
  unfold qIn at hq
  split at hq
  · cases ru.str
    split at hq
    · cases rv.str
      split at hq
      · rename_i c hc
        exact .inl ⟨c, _, by rw [str_one hc], rfl, k _ S H (Grow.refl e) hq⟩
      · exact .inr (.inl ⟨_, _, rfl, rfl, k _ S H (Grow.refl e) hq⟩)
    · exact hq.elim
  · obtain ⟨h, hq⟩ := hq
    obtain ⟨p, xs, rfl, hx, ra⟩ := ru.lst e
    rcases h with ⟨h1, h2⟩ | ⟨h1, h2⟩
    · obtain ⟨f1, f2⟩ := rv.flat h1
      refine .inr (.inr (.inl ⟨p, xs, rfl, .inl (sq_of hx), f1, ra.flat h2, ?_⟩))
      rw [ra.inV f2 h1 h2]
      exact k _ S H (Grow.refl e) hq
    · refine .inr (.inr (.inr (.inl ⟨_, _, rv.dp e h1, RepT.dp (d := .lst _) e ru h2, h1, h2, ?_⟩)))
      rw [pys_map, List.any_map]
      exact k _ S H (Grow.refl e) hq
  · obtain ⟨⟨h1, h2⟩, hq⟩ := hq
    obtain ⟨p, xs, rfl, hx, _, ra⟩ := ru.tup e
    obtain ⟨f1, f2⟩ := rv.flat h1
    refine .inr (.inr (.inl ⟨p, xs, rfl, .inr hx, f1, ra.flat h2, ?_⟩))
    rw [ra.inV f2 h1 h2]
    exact k _ S H (Grow.refl e) hq
  · split at hq
    · rename_i kk hk
      obtain ⟨p, xs, rfl, hx, ra⟩ := ru.dic e
      refine .inr (.inr (.inr (.inr ⟨p, _, rfl, by rw [rv.key hk]; exact DGet.k hx, ?_⟩)))
      rw [ra.isSome]
      exact k _ S H (Grow.refl e) hq
    · exact hq.elim
  · exact hq.elim
theorem ob_notIn : OpB K g (rNotInAll K) qNotIn := by
  intro S H x y v u P Q e rv ru hq k
  unfold qNotIn qIn at hq
  split at hq
  · cases ru.str
    split at hq
    · cases rv.str
      split at hq
      · rename_i c hc
        exact .inl ⟨c, _, by rw [str_one hc], rfl, k _ S H (Grow.refl e) hq⟩
      · exact .inr (.inl ⟨_, _, rfl, rfl, k _ S H (Grow.refl e) hq⟩)
    · exact hq.elim
  · obtain ⟨h, hq⟩ := hq
    obtain ⟨p, xs, rfl, hx, ra⟩ := ru.lst e
    rcases h with ⟨h1, h2⟩ | ⟨h1, h2⟩
    · obtain ⟨f1, f2⟩ := rv.flat h1
      refine .inr (.inr (.inl ⟨p, xs, rfl, .inl (sq_of hx), f1, ra.flat h2, ?_⟩))
      rw [ra.inV f2 h1 h2]
      exact k _ S H (Grow.refl e) hq
    · refine .inr (.inr (.inr (.inl ⟨_, _, rv.dp e h1, RepT.dp (d := .lst _) e ru h2, h1, h2, ?_⟩)))
      rw [pys_map, List.any_map]
      exact k _ S H (Grow.refl e) hq
  · obtain ⟨⟨h1, h2⟩, hq⟩ := hq
    obtain ⟨p, xs, rfl, hx, _, ra⟩ := ru.tup e
    obtain ⟨f1, f2⟩ := rv.flat h1
    refine .inr (.inr (.inl ⟨p, xs, rfl, .inr hx, f1, ra.flat h2, ?_⟩))
    rw [ra.inV f2 h1 h2]
    exact k _ S H (Grow.refl e) hq
  · split at hq
    · rename_i kk hk
      obtain ⟨p, xs, rfl, hx, ra⟩ := ru.dic e
      refine .inr (.inr (.inr (.inr ⟨p, _, rfl, by rw [rv.key hk]; exact DGet.k hx, ?_⟩)))
      rw [ra.isSome]
      exact k _ S H (Grow.refl e) hq
    · exact hq.elim
  · exact hq.elim
theorem me_in (hu : X.A.units + 65 < cLine) (ha : MO X b a wa) (hb : MO X b c wb) (hm : behindInMarks .In c = false := by rfl) : ME X b (.Compare a [.In] [c] pos) (wCmp qIn wa wb) := me_cmp (op_inAll hu) ob_in ha hb hm
theorem mt_in (hu : X.A.units + 65 < cLine) (ha : MO X b a wa) (hb : MO X b c wb) (hm : behindInMarks .In c = false := by rfl) : MT X b (.Compare a [.In] [c] pos) (wCmpT qIn wa wb) := mt_cmp (op_inAll hu) ob_in ha hb hm
theorem me_notin (hu : X.A.units + 65 < cLine) (ha : MO X b a wa) (hb : MO X b c wb) (hm : behindInMarks .NotIn c = false := by rfl) : ME X b (.Compare a [.NotIn] [c] pos) (wCmp qNotIn wa wb) := me_cmp (op_notInAll hu) ob_notIn ha hb hm
theorem mt_notin (hu : X.A.units + 65 < cLine) (ha : MO X b a wa) (hb : MO X b c wb) (hm : behindInMarks .NotIn c = false := by rfl) : MT X b (.Compare a [.NotIn] [c] pos) (wCmpT qNotIn wa wb) := mt_cmp (op_notInAll hu) ob_notIn ha hb hm
end
end Mi
namespace Mi
open PySem L2 Evl PySem.Spec PyProof.Rows

/-- what the written part says of an exception class C whose own __init__ (at fI, its class cell at cc, its code at cda) says super().__init__(..) first -/
structure SupC (K : PySem.W.Frag) (P : Program) (C cc cda : Addr) : Prop where
  oex : OexC K C
  along : PySem.W.ks_superIn K C C "__init__" = some (some (.builtin "ValueError.__init__"))
  subB : PySem.W.subIn K (.ref C) (.type "ValueError") = some true
  subD : PySem.W.mroIn K C (.ref C) = some true
  opq : PySem.W.nsIn K cStatics "thirdparty.any" = some none
  cell : ∃ cl cld csl, K.lookup cc = some ⟨cl, cld, .cell (some (.ref C)), csl⟩
  code : ∃ ccl cdd ccs vs file tf, K.lookup cda = some ⟨ccl, cdd, .fields vs, ccs⟩ ∧ vs[2]? = some (.str file tf) ∧ ((P.main.file : Str) == file) = true
  top : (P.main.scope.names.lookup ("super" : Str)).isSome = false
  sup : PySem.W.nsIn K mainGlobals "super" = some none

section
variable {X : Cx} {pins : List (Addr × Obj)} {σ : L2.St} {H : Hp} {s : Shared} {a C cc cda f : Addr} {e : Expr} {es rest : List Expr} {body : List Stmt} {ta : TA} {A : Around}
/-- super().__init__(..), evaluated -/
theorem ev_super {q : Str} {scope : Scope} {L : Addr} {oc : Value} {od : Option Addr} {osl : Array (Option Value)} {fd : FuncData} {ar : Arg} {p0 p1 p2 pos : Pos} {Q : Value → Shared → Prop}
    (T : SupC X.K X.prog C cc cda) (I : Inv X pins σ H s) (henv : X.env = PySem.W.ksEnv q scope L f (.ref cda) cc) (hmg : X.mg "super" = none)
    (hf : X.K.lookup f = some ⟨oc, od, .func fd, osl⟩) (hp : (fd.params.posonlyargs ++ fd.params.args).head? = some ar) (hN : X.N[0]? = some ar.arg) (hv : σ[0]? = some (some (.ref a)))
    (hks : scope.names.lookup ("super" : Str) = some .globalImplicit) (hkc : scope.names.lookup ("__class__" : Str) = some .free) (hka : scope.names.lookup ar.arg = some .local) (hk : scope.kind = .function)
    (ha : PA X (e :: es) ta) (hea : H a = some (exo a C none))
    (h : ta σ H fun ws H1 => ws.length ≤ 1000 ∧ H1 a = some (exo a C none) ∧ ∀ s', Inv X pins σ H1 s' → Q .none s')
    (he : starEach (e :: es) X.env = (false, eval e X.env) :: starEach es X.env) (hpl : (backTo pos (starEach es X.env)).any (·.1) = false)
    (pl : Sem Bool) (hev : eval (.Call (.Attribute (.Call (.Name "super" p0) [] [] p1) "__init__" p2) (e :: es) [] pos) X.env = (do
      let ov ← attributeBase (.Call (.Name "super" p0) [] [] p1) "__init__" X.env (eval (.Call (.Name "super" p0) [] [] p1) X.env)
      standAt p2.atName
      let (f, first) ← holding [ov] (getMethod ov "__init__" pl)
      callWith pos f first (backTo pos (starEach (e :: es) X.env)) [])) :
    _root_.PySem.wpAt (model X.prog X.w) X.A (.func body X.env) (eval (.Call (.Attribute (.Call (.Name "super" p0) [] [] p1) "__init__" p2) (e :: es) [] pos) X.env) Q X.xe s := by
  obtain ⟨ccl, cdd, ccs, vs, file, tf, hcode, hvs, hfile⟩ := T.code
  obtain ⟨cl, cld, csl, hcell⟩ := T.cell
  have XK := I.kIn
  refine ks_wpAt_MethodCall ?_ hev
  have kq : ∀ x, X.env.kindOf x = scope.names.lookup x := fun x => by rw [henv] <;> rfl
  have hkX : X.env.scope.kind = .function := I.ok.kind
  obtain ⟨nm, qq, NN, bs, bm, sn, sub, ab, col, dd, k0, k1, k2, k3, k5, hC, hbm⟩ := T.oex.cls
  obtain ⟨t1, hoa⟩ := exo_at I.hok hea
  have hcl : PySem.W.clsIn X.K C = some { name := nm, bases := bs, mro := .ref C :: bm, ns := NN, qualname := qq, hasDict := true, slotNames := sn, subclasses := sub, abstract := ab, collection := col, hasDel := false } := by unfold PySem.W.clsIn; rw [hC] <;> rfl
  refine ks_wpAt_super_base (env := X.env) (f := f) (cc := cda) ((kq _).trans hks) ((kq _).trans hkc) (by decide) (by rw [henv] <;> rfl) (XK _ _ hf) rfl hp (by rw [henv] <;> rfl) (XK _ _ hcode) rfl hvs hfile T.top ?_
  obtain ⟨mb, hb1, hb2⟩ := I.mod.blt
  refine PySem.W.ks_loadName_global hkX ((kq _).trans hks) (Calls.loadGlobal_builtin (by rw [I.ok.glob]; exact I.mod.glob.keeps I.bk) hmg (by rw [I.ok.blt]; exact hb1.keeps I.bk) ((hb2 "super" (by decide)).trans (by decide +kernel : bootBuiltins "super" = some (.type "super"))) ⟨rfl, ?_⟩)
  refine wpAny_loadName_free hkX ((kq _).trans hkc) (c := cc) (by rw [henv] <;> rfl) (v := .ref C) ⟨_, XK _ _ hcell, rfl⟩ ?_
  obtain ⟨m, hns, hlk⟩ := I.loc
  obtain ⟨u, hu, lk⟩ := hlk 0 ar.arg (.ref a) hN hv (.inl (by rw [henv]; exact hka))
  obtain rfl : u = Value.ref a := hu
  have hma : m ar.arg = some (.ref a) := by
    rcases lk with ⟨_, e⟩ | ⟨k, _⟩
    · exact e
    · rcases k with k | k <;> rw [kq, hka] at k <;> cases k
  refine wpAny_loadName_local hkX ((kq _).trans hka) hns hma ?_
  have hCg : s.heap.get? C = some _ := XK _ _ hC
  refine ks_wpAny_isType_cls hCg rfl ⟨rfl, ?_⟩
  obtain ⟨hp0, g, d, t, os⟩ := s
  refine ks_wpAny_call_super hCg rfl hoa rfl (fun c e => by cases e) (PySem.W.looks_mroIn XK T.subD) (fun h1 e1 kp => ?_)
  -- getMethod
  have J1 : Inv X pins σ H ⟨h1, g, d, t, os⟩ := I.kept (t' := t) kp
  have hxC : a ≠ C := fun z => by
    subst z
    have hoa' : hp0.get? a = _ := hoa
    rw [hoa'] at hCg
    have := congrArg (Option.map (·.data)) hCg
    cases this
  have hI : PySem.W.Looks (model X.prog X.w) h1 (isInstance (.ref a) (.type "ValueError")) true :=
    (show PySem.W.InstAt h1 a _ C none from ⟨kp _ _ hoa, rfl, rfl, trivial⟩).type.andThen (PySem.W.looks_subIn J1.kIn T.subB)
  have hal := T.along
  unfold PySem.W.ks_superIn at hal
  rw [hcl] at hal
  refine PySem.W.kxs_getMethod PySem.W.kxs_ValueError e1 (PySem.W.looks_opaque J1.kIn T.opq) (l₀ := .ref C :: bm) (fun A Q E s k q => wpAny_bind ((PySem.W.looks_clsIn J1.kIn hcl) A _ E s k (wpAny_pure q))) rfl J1.kIn hal hI hxC (by decide) ?_
  have hz : h1.objs.size ≤ h1.objs.size := Nat.le_refl _
  have kp2 : ∀ b o, h1.get? b = some o → (h1.push (PySem.W.kxs_mw "ValueError.__init__" a)).get? b = some o := fun b o e => Heap.get?_push_of_some _ e
  have J2 : Inv X pins σ H ⟨h1.push (PySem.W.kxs_mw "ValueError.__init__" a), g, d, t + 1, os⟩ := J1.kept (t' := t + 1) kp2
  have hg2 : (h1.push (PySem.W.kxs_mw "ValueError.__init__" a)).get? h1.objs.size = some (PySem.W.kxs_mw "ValueError.__init__" a) := Heap.get?_push_at rfl rfl
  have hL : h1.objs.size ≠ X.env.locals := fun z => by
    obtain ⟨mm, hn2, _⟩ := J1.loc
    obtain ⟨o, _, _, ho, _⟩ := hn2
    have := Heap.lt_size (show h1.get? X.env.locals = some o from ho)
    rw [← z] at this
    exact Nat.lt_irrefl _ this
  have J3 : Inv X ((h1.objs.size, PySem.W.kxs_mw "ValueError.__init__" a) :: pins) σ H ⟨h1.push (PySem.W.kxs_mw "ValueError.__init__" a), g, d, t + 1, os⟩ := J2.pins_of fun p hp => by
    rcases List.mem_cons.mp hp with rfl | hp
    · exact ⟨hg2, J1.hok.fresh hz, hL, J1.nofs hz, fun v z => by cases z⟩
    · exact J2.pin p (List.mem_append_right _ hp)
  rw [he]
  refine PySem.W.kxs_callWith (i := "ValueError.__init__") (x := a) (by show (false || (backTo pos (starEach es X.env)).any (·.1)) = false; rw [hpl]; rfl) (PySem.Calls.evalArgs_plain ?_)
  have hrun := ha.run pos _ _ σ H _ J3 h
  rw [he] at hrun
  refine thn hrun fun us s1 hh => ?_
  obtain ⟨ws, H1, I1, r1, hlen, hea1, hQ⟩ := hh
  have hmw : s1.heap.get? h1.objs.size = some (PySem.W.kxs_mw "ValueError.__init__" a) := (I1.pin (h1.objs.size, PySem.W.kxs_mw "ValueError.__init__" a) (List.mem_append_right _ List.mem_cons_self)).1
  refine ⟨hmw, ?_⟩
  have I2 : Inv X pins σ H1 s1 := I1.pins_of fun p hp => I1.pin p (List.mem_append_right _ (List.mem_cons_of_mem _ hp))
  have XK2 := I2.kIn
  obtain ⟨t2, hoa2⟩ := exo_at I2.hok hea1
  have hus : us.length ≤ sizeLine := by
    rw [← Paired.length r1, sizeLine_eq]; omega
  obtain ⟨hh, g1, d1, tk1, os1⟩ := s1
  show wpAny _ _ (call (.ref h1.objs.size) ([] ++ us)) _ _ _
  rw [List.nil_append]
  refine wpAny_call (codeAny_of_tree ?_)
  show wpAny _ X.A.in1 (callAny (.ref h1.objs.size) ⟨us, []⟩) _ _ _
  simp only [callAny]
  refine wpAny_bind (wpAny_load hmw ?_)
  simp only [PySem.W.kxs_mw, show (Value.type "method-wrapper" == Value.type "method" || Value.type "method-wrapper" == Value.type "builtin_function_or_method" || Value.type "method-wrapper" == Value.type "method-wrapper") = true by decide, if_true]
  refine PySem.W.KFB.if_so (by decide) ?_
  refine wpAny_bind (PySem.W.check_bound_init PySem.F.excBase_ValueError.toExcCallFacts (XK2 _ _ hC) hoa2 rfl ?_)
  refine wpAny_bind (wpAny_pure (wpAny_pure ?_))
  refine ⟨plainId_quiet PySem.F.excBase_ValueError.init.plain _, codeAny_builtin PySem.F.excBase_ValueError.initEntry ?_⟩
  refine PySem.W.exc_init_tree (cls := .ref C) (t0 := t2) (dv := none) (c2 := .none) (c3 := .none) (b4 := .bool false) hoa2 hus fun h' k' hx' ht' => ?_
  have J := I2.write (t' := tk1) (x := a) (e := a) (o := exo a C none) (by rw [hea1]; exact True.intro) (.inl rfl) k' ⟨_, hx'⟩ (exo_ok hx')
  have eu : upd H1 a (exo a C none) = H1 := by
    funext b
    by_cases hb : b = a
    · rw [hb, upd_same, hea1]
    · rw [upd_ne hb]
  rw [eu] at J
  exact hQ _ J
end

/-- THE RULE: an __init__ that says super().__init__(..) first -/
theorem fn_super {CX : CXT} {P : Program} {w : World} {K : PySem.W.Frag} {mg : Str → Option Value} {base : Heap} {k : Nat} {f C cc cda : Addr} {name qual : Str} {params : Arguments} {scope : Scope} {dV kV doc pm ct oc : Value} {an od : Option Addr}
    {osl : Array (Option Value)} {N ps : List Str} {sp : Sp} {e : Expr} {es : List Expr} {rest : List Stmt} {p0 p1 p2 pos spos : Pos} {ar : Arg} {pl : PySem.Env → Sem Bool}
    (T : SupC K P C cc cda) (hmg : mg "super" = none)
    (lk : K.lookup f = some ⟨oc, od, .func (PySem.W.ksFn name qual params (.Expr (.Call (.Attribute (.Call (.Name "super" p0) [] [] p1) "__init__" p2) (e :: es) [] pos) spos :: rest) scope dV kV doc pm an (.ref cda) ct cc), osl⟩)
    (hcd : PySem.W.codeIn K (.ref cda) qual = true) (S : NdefX.NScope N ps ["__class__"] scope)
    (hp : (params.posonlyargs ++ params.args).head? = some ar) (hN : N[0]? = some ar.arg) (hka : scope.names.lookup ar.arg = some .local) (hks : scope.names.lookup ("super" : Str) = some .globalImplicit)
    (len : ∀ vs H Q E, sp vs H Q E → vs.length = ps.length)
    (hbody : ∀ (A : Around) (outer : List PySem.Env) (s : Shared) (H : Hp) (vs : List V) (Q : VK) (E : XK), sp vs H Q E →
      ∃ a ta t, vs[0]? = some (.ref a) ∧ H a = some (exo a C none) ∧
        PA (NdefX.ncx CX P w K mg base N ⟨name, qual, params, [], scope, [("__class__", cc)], cda⟩ f A outer s H E) (e :: es) ta ∧
        PSs (NdefX.ncx CX P w K mg base N ⟨name, qual, params, [], scope, [("__class__", cc)], cda⟩ f A outer s H E) rest t ∧
        ∀ R : List V → Hp → Prop, (∀ ws H1, ws.length ≤ 1000 → H1 a = some (exo a C none) → t { nx := fun _ H' => Q .non H', rt := Q } (NdefX.startF N vs [none]) H1 → R ws H1) → ta (NdefX.startF N vs [none]) H R)
    (he : ∀ env, starEach (e :: es) env = (false, eval e env) :: starEach es env) (hpl : ∀ env, (backTo pos (starEach es env)).any (·.1) = false)
    (hev : ∀ env, eval (.Call (.Attribute (.Call (.Name "super" p0) [] [] p1) "__init__" p2) (e :: es) [] pos) env = (do
      let ov ← attributeBase (.Call (.Name "super" p0) [] [] p1) "__init__" env (eval (.Call (.Name "super" p0) [] [] p1) env)
      standAt p2.atName
      let (f, first) ← holding [ov] (getMethod ov "__init__" (pl env))
      callWith pos f first (backTo pos (starEach (e :: es) env)) []))
    (hsw : ∀ env, swapsWith (.Call (.Attribute (.Call (.Name "super" p0) [] [] p1) "__init__" p2) (e :: es) [] pos) none spos.line env = pure false)
    (hint : ∀ L, interactive (PySem.W.ksEnv qual scope L f (.ref cda) cc) = false) :
    FnOk P w K mg base CX (k + 1) f (PySem.W.ksFn name qual params (.Expr (.Call (.Attribute (.Call (.Name "super" p0) [] [] p1) "__init__" p2) (e :: es) [] pos) spos :: rest) scope dV kV doc pm an (.ref cda) ct cc) ps sp := by
  refine ⟨len, fun A outer s H args us vs Q E hr e0 hb r hsp => ?_⟩
  have hl := len _ _ _ _ hsp
  have KX : K.In s.heap := e0.mod.kin.keeps fun b o e => (e0.bs b o e).1
  have lim : s.heap.NoLimit := e0.mod.nolimit.keeps fun b o e => (e0.bs b o e).1
  have hloc : ∀ y ∈ ps.zip us, scope.names.lookup y.1 = some .local := fun ⟨n, v⟩ hy => S.par n (List.of_mem_zip hy).1
  obtain ⟨cl, cld, csl, hcell⟩ := T.cell
  have hcc : ∀ y c, List.lookup y [(("__class__" : Str), cc)] = some c → c = cc := fun y c z => by
    simp only [List.lookup] at z
    split at z
    · exact (Option.some.inj z).symm
    · cases z
  have CA : NdefX.CellsAt [(("__class__" : Str), cc)] ["__class__"] [none] s.heap H := {
    len := rfl
    all := fun y c z => by
      obtain rfl := hcc y c z
      exact ⟨(e0.bs _ _ (e0.mod.kin _ _ hcell)).2, _, ⟨_, KX _ _ hcell, rfl⟩⟩
    inj := fun x y c zx zy => by
      have hx : x = "__class__" := by
        simp only [List.lookup] at zx
        split at zx
        · rename_i q; exact eq_of_beq q
        · cases zx
      have hy : y = "__class__" := by
        simp only [List.lookup] at zy
        split at zy
        · rename_i q; exact eq_of_beq q
        · cases zy
      rw [hx, hy]
    has := fun i y hi => by
      cases i with
      | zero =>
        cases hi
        exact ⟨cc, rfl, fun v z => by cases z⟩
      | succ i => simp at hi }
  refine ks_codeAny_call_defAt (binds := ps.zip us) hr.depth (KX _ _ lk) rfl lim (PySem.W.codeRec_of KX hcd) rfl hb S.nocell hloc (fun h₁ hns kp => ?_) S.co S.gen S.kind
  have I : Inv (NdefX.ncx CX P w K mg base N ⟨name, qual, params, [], scope, [("__class__", cc)], cda⟩ f A outer s H E) [] (NdefX.startF N vs [none]) H { s with heap := h₁, toks := s.toks + (ps.zip us).length } :=
    NdefX.inv_startN (F := ⟨name, qual, params, [], scope, [("__class__", cc)], cda⟩) S hr.hd e0 hl r CA hns kp
  obtain ⟨a, ta, t, ha0, hea, hta, ht, hq⟩ := hbody A outer s H vs Q E hsp
  have hv : (NdefX.startF N vs [none])[0]? = some (some (V.ref a)) := by
    unfold NdefX.startF
    have h0 : 0 < vs.length := by
      cases vs with
      | nil => cases ha0
      | cons _ _ => exact Nat.succ_pos _
    rw [List.getElem?_append_left (by rw [List.length_map]; exact h0), List.getElem?_map, ha0]
    rfl
  have fin : ∀ {σ' : L2.St} {H' : Hp} {v : V} {u : Value} {s'}, Inv (NdefX.ncx CX P w K mg base N ⟨name, qual, params, [], scope, [("__class__", cc)], cda⟩ f A outer s H E) [] σ' H' s' → RelV v u → Q v H' → CE outer P w H s Q u s' :=
    fun {σ' H' v u s'} J rv q => ⟨v, H', J.os, J.bare, J.base, J.hok, rv, q⟩
  refine ks_wpAt_execs_cons (ks_wpAt_Expr_any (ev_super (X := NdefX.ncx CX P w K mg base N ⟨name, qual, params, [], scope, [("__class__", cc)], cda⟩ f A outer s H E) T I rfl hmg lk hp hN hv hks (S.frk _ List.mem_cons_self) hka S.kind hta hea ?_ (he _) (hpl _) _ (hev _)) (hint _) (hsw _))
  refine hq _ fun ws H1 h1 h2 h3 => ⟨h1, h2, fun s' J => ?_⟩
  refine _root_.PySem.wpAt_of_wpAny (wpAny_mono (ht.run [] s' _ H1 _ J h3) (fun fl s' hs => ?_) fun e s' hs => hs)
  cases fl with
  | ret u =>
    obtain ⟨v, σ', H', J, rv, q⟩ := hs
    exact fin J rv q
  | next =>
    obtain ⟨σ', H', J, q⟩ := hs
    exact fin (v := V.non) (u := Value.none) J rfl q
  | brk =>
    obtain ⟨_, _, _, q⟩ := hs
    exact False.elim q
  | cont =>
    obtain ⟨_, _, _, q⟩ := hs
    exact False.elim q
end Mi
namespace Mi
open PySem L2 Evl PySem.Spec PyProof.Rows
/-- isinstance(e, c) of a caught exception that has its dict -/
theorem call_isX {X : Cx} {a D dd : Addr} {oe : Obj} {pn : List (Addr × Obj)} (C : ExcC X.K D) (hz : Zc (.ref D) (some dd) oe) (hf : ∃ vs, oe.data = .fields vs) :
    CallR (X.suite a ((a, oe) :: pn)) (.builtin "isinstance") (fun xs H Q => (∃ fs, H dd = some (.xd fs)) ∧ rIsE X.K D a xs H Q) := by
  intro pins s σ H xs us Q I r ⟨⟨fs, hdd⟩, hh⟩
  obtain ⟨c, cv, ans, rfl, hcv, hk, hq⟩ := hh
  obtain ⟨u1, u2, rfl, r1, r2⟩ : ∃ u1 u2, us = [u1, u2] ∧ RelV (.ref a) u1 ∧ RelV c u2 := by
    cases r with
    | cons r1 rr => cases rr with
      | cons r2 rr => cases rr; exact ⟨_, _, rfl, r1, r2⟩
  obtain rfl : u1 = Value.ref a := r1
  obtain rfl := hcv _ r2
  have hpin := (I.pin (a, oe) (List.mem_append.mpr (.inl List.mem_cons_self))).1
  obtain ⟨vs, hv⟩ := hf
  obtain ⟨mA, hns, _⟩ : ObjOk X.prog X.w H s.heap dd (.xd fs) := I.hok dd _ hdd
  obtain ⟨od, ho, _⟩ := lookIn_ns hns
  have J : PySem.W.InstAt s.heap a oe D (some od) := ⟨hpin, hz.1, by unfold PySem.W.notCls; rw [hv] <;> rfl, by rw [hz.2]; exact ho⟩
  have hcl : (PySem.W.clsIn X.K D).isSome = true := by
    obtain ⟨cd, hc, _⟩ := PySem.W.any_some C.hd
    rw [hc]; rfl
  exact PySem.W.kia_one (PySem.W.kitx_exc hcl C.hg C.hk C.hs C.ha C.hn C.ht C.hm) I.kIn J hk (fun z => nomatch z) fun tk => ⟨.bl ans, H, I.kept (t' := tk) (fun _ _ z => z), rfl, hq⟩
end Mi
namespace Mi
open PySem L2 Evl PySem.Spec PyProof.Rows

/-! ### own exceptions, made -/
/-- what an __init__ that notes its arguments in the fields fs promises -/
def spInit (C : Addr) (fs : List Str) : Sp := fun vs H Q _ => ∃ a ws, vs = .ref a :: ws ∧ ws.length = fs.length ∧ H a = some (exo a C none) ∧
  ∀ (d : Addr) (H2 : Hp), H2 a = some (exo a C (some d)) → H2 d = some (exd d (fs.zip ws).reverse) → H d = none → (∀ b, b ≠ a → b ≠ d → H2 b = H b) → Q .non H2
/-- an own exception's class, with its __init__ -/
structure OwnX (P : Program) (w : World) (K : PySem.W.Frag) (mg : Str → Option Value) (base : Heap) (x : Str) (C : Addr) (fs : List Str) (k : Nat) : Prop where
  oex : OexC K C
  out : ∃ fI fd ps, PySem.W.findIn K (.ref C) "__init__" = some (some (.ref fI)) ∧ PySem.W.typeIn K (.ref fI) = some (.type "function") ∧ FnOk P w K mg base CX0 k fI fd ps (spInit C fs) ∧ Binds K fd ps []
  mgC : mg x = some (.ref C)

section
variable {X : Cx} {b : Bs} {K : PySem.W.Frag} {g : G} {S S' H H' : Hp} {δ : Env} {σ : L2.St} {e a c d2 e' : Expr} {es rest : List Expr} {w wa wb wc : WE} {wr : WA} {pos p tpos p2 : Pos} {x : Str} {ct : CT} {k : Nat} {C : Addr} {fs : List Str}
theorem RepF.zip : ∀ {fs : List Str} {vs : List V} {ds : List D}, RepA K g S vs ds → RepF K g S (fs.zip vs) (fs.zip ds)
  | [], _, _, _ => by simp; exact .nil
  | _ :: _, _, _, .nil => by simp; exact .nil
  | f :: fs, _, _, .cons h r => by simp only [List.zip_cons_cons]; exact .cons h (RepF.zip r)
theorem RepF.snoc {f : Str} {v : V} {d : D} (h : Rep K g S v d) : ∀ {vs : List (Str × V)} {ds : List (Str × D)}, RepF K g S vs ds → RepF K g S (vs ++ [(f, v)]) (ds ++ [(f, d)])
  | _, _, .nil => .cons h .nil
  | _, _, .cons q r => .cons q (RepF.snoc h r)
theorem RepF.rev : ∀ {vs : List (Str × V)} {ds : List (Str × D)}, RepF K g S vs ds → RepF K g S vs.reverse ds.reverse
  | _, _, .nil => .nil
  | _, _, .cons q r => by rw [List.reverse_cons, List.reverse_cons]; exact RepF.snoc q (RepF.rev r)
theorem RepF.mono (e : Ex S S') : ∀ {vs : List (Str × V)} {ds : List (Str × D)}, RepF K g S vs ds → RepF K g S' vs ds
  | _, _, .nil => .nil
  | _, _, .cons q r => .cons (q.mono e) (RepF.mono e r)
theorem lookup_cons {α : Type} (f g : Str) (y : α) (fs : List (Str × α)) : ((f, y) :: fs).lookup g = if g = f then some y else fs.lookup g := by
  by_cases h : g = f
  · subst h
    simp [List.lookup]
  · have e : (g == f) = false := by simpa using h
    rw [if_neg h]
    simp [List.lookup, e]
theorem RepF.get {f : Str} {d : D} : ∀ {vs : List (Str × V)} {ds : List (Str × D)}, RepF K g S vs ds → ds.lookup f = some d → ∃ v, vs.lookup f = some v ∧ Rep K g S v d
  | _, _, .nil, h => by cases h
  | _, _, .cons (f := f') q r, h => by
    rw [lookup_cons] at h ⊢
    by_cases hf : f = f'
    · rw [if_pos hf] at h ⊢
      cases h
      exact ⟨_, rfl, q⟩
    · rw [if_neg hf] at h ⊢
      exact RepF.get r h

def wRaise (C : Addr) (fs : List Str) (wr : WA) : WS := fun δ EX _ => wr δ EX fun ds => ds.length = fs.length ∧ ds.length ≤ 1000 ∧ EX ⟨C, (fs.zip ds).reverse, false⟩
theorem ms_raise (hc : X.calm = true) (tk : Takes X fun cls d _ H => EWish X.K b cls d H) (Z : OwnX X.prog X.w X.K X.mg X.base x C fs k) (hr : Room (k + 1) X.A) (hg : Gl X x) (ha : MA X b (a :: es) wr) (hdb : (x == ("__debug__" : Str)) = false := by decide)
    (he : starEach (a :: es) X.env = (false, eval a X.env) :: starEach es X.env := by rfl) (hpl : (backTo pos (starEach es X.env)).any (·.1) = false := by rfl) : MS X b (.Raise (some (.Call (.Name x p) (a :: es) [] pos)) none p2) (wRaise C fs wr) := by
  obtain ⟨fI, fd, ps, iC, tI, F1, hb⟩ := Z.out
  refine PS.imp (ps_raise hc tk (pmk_oex Z.oex iC tI F1 hr hb .nil pass0 hg Z.mgC ha hdb he hpl)) fun Dn σ H ⟨S, δ, Co, I, hw, k⟩ => ?_
  refine ⟨S, δ, _, I, hw, fun ds vs S1 H1 g1 r1 ⟨hl, hl2, hE⟩ => ⟨by rw [r1.len]; exact hl2, fun q hq => ?_⟩⟩
  refine ⟨q, vs, by rw [List.append_nil], by rw [r1.len]; exact hl, upd_same, fun d H2 h1 h2 h3 h4 => ⟨rfl, d, _, h1, h2, ?_, ?_⟩⟩
  · by_cases hdq : d = q
    · rw [hdq]; exact hq
    · rw [upd_ne hdq] at h3; exact h3
  · have hdq : d ≠ q := fun z => by rw [z, upd_same] at h3; cases h3
    have hd1 : H1 d = none := by rw [upd_ne hdq] at h3; exact h3
    have ex : Ex H1 (upd (L2.del H2 q) d (.xd (fs.zip vs).reverse)) := fun p o e => by
      have n1 : p ≠ d := fun z => by rw [z, hd1] at e; cases e
      have n2 : p ≠ q := fun z => by rw [z, hq] at e; cases e
      rw [upd_ne n1, del_ne n2, h4 p n2 n1, upd_ne n2]
      exact e
    have J := I.grow g1
    exact ⟨⟨C, _, false⟩, S1, hE, ⟨rfl, by rw [if_neg Bool.false_ne_true]; exact ⟨d, _, rfl, upd_same, (RepF.zip r1).rev⟩⟩, J.s0, g1.sh.trans ex, J.h0.trans ex, J.old⟩

/-! ### calls that may raise -/
theorem me_callX (Z : CalX X.prog X.w X.K X.mg X.base b.g false x k ct) (tk : Takes X fun cls d _ H => EWish X.K b cls d H) (hr : Room k X.A) (hg : Gl X x) (ha : MA X b (a :: es) wr) (hdb : (x == ("__debug__" : Str)) = false := by decide)
    (he : starEach (a :: es) X.env = (false, eval a X.env) :: starEach es X.env := by rfl) (hpl : (backTo pos (starEach es X.env)).any (·.1) = false := by rfl) : ME X b (.Call (.Name x p) (a :: es) [] pos) (wCallX ct wr) := by
  obtain ⟨f, fd, ps, F, hm, hk, hb⟩ := Z.out
  refine PE.imp (pe_call F hr hg hm hk hb .nil (passes_call tk (E := EWish X.K b) fun _ _ _ _ h => h) ha hdb he hpl) fun σ H Q ⟨S, δ, P, I, hw, k⟩ => ?_
  refine ⟨S, δ, _, I, hw, fun ds vs S1 H1 g1 r1 h1 => ?_⟩
  refine ⟨S1, ds, _, P, g1.sh, by rw [List.append_nil]; exact r1, h1, fun d v S2 H2 rt hd => ?_, fun cls d H' z => ?_⟩
  · have r := rt.r
    rw [if_neg Bool.false_ne_true] at r
    exact k d v S2 H2 (g1.trans (rt.grow g1.sh)) r hd
  · obtain ⟨y, S', hx, hl, s0, sh, h0, old⟩ := z.out
    have J := I.grow g1
    exact ⟨y, S', hx, hl, J.s0.trans s0, sh, J.h0.trans h0, fun p o e => (old p o (J.h0 p o e)).trans (J.old p o e)⟩
theorem mf_callX (Z : CalX X.prog X.w X.K X.mg X.base b.g true x k ct) (tk : Takes X fun cls d _ H => EWish X.K b cls d H) (hr : Room k X.A) (hg : Gl X x) (ha : MA X b (a :: es) wr) (hdb : (x == ("__debug__" : Str)) = false := by decide)
    (he : starEach (a :: es) X.env = (false, eval a X.env) :: starEach es X.env := by rfl) (hpl : (backTo pos (starEach es X.env)).any (·.1) = false := by rfl) : MF X b (.Call (.Name x p) (a :: es) [] pos) (wCallX ct wr) := by
  obtain ⟨f, fd, ps, F, hm, hk, hb⟩ := Z.out
  refine PE.imp (pe_call F hr hg hm hk hb .nil (passes_call tk (E := EWish X.K b) fun _ _ _ _ h => h) ha hdb he hpl) fun σ H Q ⟨S, δ, P, I, hw, k⟩ => ?_
  refine ⟨S, δ, _, I, hw, fun ds vs S1 H1 g1 r1 h1 => ?_⟩
  refine ⟨S1, ds, _, P, g1.sh, by rw [List.append_nil]; exact r1, h1, fun d v S2 H2 rt hd => ?_, fun cls d H' z => ?_⟩
  · have r := rt.r
    rw [if_pos rfl] at r
    obtain ⟨q, rfl, h0, s0, o⟩ := r
    exact k d q S2 H2 (g1.trans (rt.grow g1.sh)) (none_of_ex g1.h h0) s0 o hd
  · obtain ⟨y, S', hx, hl, s0, sh, h0, old⟩ := z.out
    have J := I.grow g1
    exact ⟨y, S', hx, hl, J.s0.trans s0, sh, J.h0.trans h0, fun p o e => (old p o (J.h0 p o e)).trans (J.old p o e)⟩
/-- a callee that may raise, in a def that raises nothing -/
theorem takes_never {EX : Exc → Prop} (h : ∀ x, ¬ EX x) (hb : b.EX = EX) : Takes X fun cls d _ H => EWish X.K b cls d H := (takes0 (X := X)).imp fun c d σ H z => by
  obtain ⟨y, S', hx, _⟩ := z.out
  rw [hb] at hx
  exact h y hx
end

/-! ### a def that may raise -/
section
variable {P : Program} {w : World} {K : PySem.W.Frag} {mg : Str → Option Value} {base : Heap} {g : G}
theorem Fun.dataX {x qual : Str} {st : Stmt} {f : Addr} {fd : FuncData} {N ps : List Str} {k : Nat} {c : CT} {fr : Bool} {wd : WS} (F : Fun K x qual st f fd) (Sc : FnScope N ps (defScope st)) (hlen : ∀ ds EX P, c ds EX P → ds.length = ps.length)
    (hbody : ∀ (cdv : Value) (A : Around) (outer : List PySem.Env) (s : Shared) (H : Hp) (E : XK) (S0 H0 : Hp) (EX : Exc → Prop), Room k (A.deeper (envOfC qual (defScope st) s.heap.objs.size f cdv)) →
      Takes (cxOf (L2.CX P w) P w K mg base N qual (defScope st) f cdv A outer s H E) (fun cls d _ H => EWish K ⟨g, S0, H0, EX, fr⟩ cls d H) →
      PassesOwn (model P w) (cxOf (L2.CX P w) P w K mg base N qual (defScope st) f cdv A outer s H E).A (cxOf (L2.CX P w) P w K mg base N qual (defScope st) f cdv A outer s H E).env (cxOf (L2.CX P w) P w K mg base N qual (defScope st) f cdv A outer s H E).xe →
      MSs (cxOf (L2.CX P w) P w K mg base N qual (defScope st) f cdv A outer s H E) ⟨g, S0, H0, EX, fr⟩ (defBody st) wd)
    (hw : ∀ ds EX Q, c ds EX Q → wd (startE N ds) EX { nx := fun _ => fr = false ∧ Q .non, rt := Q }) : FnOk P w K mg base (L2.CX P w) (k + 1) f fd ps (spD K g fr c) := by
  refine F.okX Sc (fun vs H Q E h => ?_) (fun cdv A outer s H vs Q E hr h => ?_)
  · obtain ⟨S, ds, EX, P, e, r, h, _⟩ := h
    rw [r.len]
    exact hlen _ _ _ h
  · obtain ⟨S, ds, EX, P', e, r, h, hret, hexc⟩ := h
    refine ⟨_, hbody cdv A outer s H E S H EX hr ((takes_of rfl rfl rfl rfl).imp fun cls d _ H' z => hexc cls d H' z) (passes_of rfl), S, startE N ds, _, rep_start e r, hw ds EX P' h, ?_, ?_, ?_, ?_⟩
    · intro δ' σ' S' H' e' I' ⟨hf, h'⟩
      refine hret .non .non S' H' ⟨I'.s0, I'.h0, I'.sh, I'.old, ?_⟩ h'
      subst hf
      rw [if_neg Bool.false_ne_true]
      exact .non
    · intro d v S' H' rt hd
      exact hret d v S' H' ⟨rt.s, rt.h, rt.sh, rt.old, rt.r⟩ hd
    · exact fun _ _ _ _ _ _ z => z.elim
    · exact fun _ _ _ _ _ _ z => z.elim
end

/-! ### try: body, except X as n: if isinstance(n, Y): return ..; return n.f -/
section
variable {X : Cx} {b : Bs} {δ : Env} {σ : L2.St} {H : Hp} {x y n f : Str} {i : Nat} {C CY : Addr} {wb : WS} {body b0 : List Stmt} {np nq p1 p2 p3 p4 p5 p6 p7 p8 pos pos' pY : Pos}
/-- facts of the classes in the clause -/
structure ExcTwo (K : PySem.W.Frag) (C CY : Addr) : Prop where
  excC : ExcC K C
  xf : XfC K C
  tyC : PySem.W.typeIn K (.ref C) = some (.type "type")
  subC : PySem.W.subIn K (.ref C) (.ref C) = some true
  kit : PySem.W.kitOne K (.ref C) (.ref CY) = some false
def tMixed (i : Nat) (C : Addr) (f : Str) (a : Addr) (cls : Value) (d : Option Addr) : TS := fun Dn σ H => σ[i]? = some (some (.ref a)) ∧ cls = .ref C ∧ ∃ dd fs v, d = some dd ∧ H dd = some (.xd fs) ∧ fs.lookup f = some v ∧ Dn.rt v H
theorem suite_mixed {a : Addr} {oe : Obj} {cls : Value} {d : Option Addr} {pn : List (Addr × Obj)} (T : ExcTwo X.K C CY) (hno : PySem.W.findIn X.K (.ref C) f = some none) (hz : Zc cls d oe) (hf : ∃ vs, oe.data = .fields vs)
    (hgi : Gl X "isinstance") (hmi : X.mg "isinstance" = none) (hgy : Gl X y) (hmy : X.mg y = some (.ref CY)) (hN : X.N[i]? = some n) (hv : Vis X.env.scope n) (hdn : (n == ("__debug__" : Str)) = false) (hcn : (n == ("__classdict__" : Str)) = false) (hdy : (y == ("__debug__" : Str)) = false)
    (hs1 : starEach [.Name n p2, .Name y pY] X.env = (false, eval (.Name n p2) X.env) :: starEach [.Name y pY] X.env) (hs2 : starEach [.Name y pY] X.env = (false, eval (.Name y pY) X.env) :: starEach [] X.env) (hpl : (backTo p3 (starEach [.Name y pY] X.env)).any (·.1) = false)
    (hpl2 : ∀ q, (backTo q (starEach ([] : List Expr) X.env)) = [])
    (ht : ∀ whole, isTrue (.Call (.Name "isinstance" p1) [.Name n p2, .Name y pY] [] p3) X.env whole = (do let v ← whole; standAt (Expr.pos (.Call (.Name "isinstance" p1) [.Name n p2, .Name y pY] [] p3)); holding [v] (truthy v)))
    (hb : attributeBase (.Name n p5) f X.env (eval (.Name n p5) X.env) = eval (.Name n p5) X.env) :
    PSs (X.suite a ((a, oe) :: pn)) [.If (.Call (.Name "isinstance" p1) [.Name n p2, .Name y pY] [] p3) b0 [] p4, .Return (some (.Attribute (.Name n p5) f p6)) p7] (tMixed i C f a cls d) := by
  refine ⟨fun pins s σ H D I h => ?_⟩
  obtain ⟨hσ, rfl, dd, fs, v, rfl, hdd, hl, hD⟩ := h
  have hvar : ∀ p, PE (X.suite a ((a, oe) :: pn)) (.Name n p) (tVar i) := fun p => pe_var hN hv hdn hcn
  have pa : PA (X.suite a ((a, oe) :: pn)) [.Name n p2, .Name y pY] _ := pa_cons (hvar p2) (pa_cons (pe_glob (X := X.suite a ((a, oe) :: pn)) (v := .ref CY) hgy hmy rfl hdy) pa_nil hs2) hs1
  have pI := pe_callB (X := X.suite a ((a, oe) :: pn)) (p := p1) (call_isX T.excC hz hf) hgi hmi boot_isi' pa (he := hs1) (hpl := hpl)
  have q := pss_cons (ps_if (pt_truth pI ht) (pss_never (sts := b0)) (pss_nil) (pos := p4)) (pss_one (ps_ret (pe_xf T.xf hno hz hf (hvar p5) hb (pos := p6)) (pos := p7)))
  refine q.run pins s σ H D I ?_
  refine ⟨_, hσ, ⟨_, hdd⟩, .ref CY, .ref CY, false, rfl, fun u h => h, T.kit, ?_⟩
  refine ⟨false, rfl, ?_⟩
  show (if false = true then _ else _)
  rw [if_neg Bool.false_ne_true]
  exact ⟨_, hσ, rfl, rfl, dd, fs, v, rfl, hdd, hl, hD⟩

theorem Takes.impN {W W' : WX} (t : Takes X W) (h : ∀ c d σ H, σ.length = X.N.length → W' c d σ H → W c d σ H) : Takes X W' := fun u s' ⟨a, B, sI, pins, σ, H, cls, d, e, I, nb, up, sky, na, os, ag, w⟩ =>
  t u s' ⟨a, B, sI, pins, σ, H, cls, d, e, I, nb, up, sky, na, os, ag, h _ _ _ _ I.len w⟩
def EXW (K : PySem.W.Frag) (b : Bs) (n : Nat) (W : WX) (z : Exc) : Prop := ∀ cls d σ S' H', σ.length = n → ExcAt K b.g z cls d S' H' → Ex b.S0 S' → Ex S' H' → Ex b.H0 H' → (∀ p o, b.H0 p = some o → S' p = b.S0 p) → W cls d σ H'
theorem StR.ex {K : PySem.W.Frag} {S : Hp} {EX : Exc → Prop} (I : StR K b δ σ S H) : StR K { b with EX := EX } δ σ S H := ⟨I.sh, I.h0, I.s0, I.old, I.len, I.slot, I.sep⟩
theorem StR.unex {K : PySem.W.Frag} {S : Hp} {EX : Exc → Prop} (I : StR K { b with EX := EX } δ σ S H) : StR K b δ σ S H := ⟨I.sh, I.h0, I.s0, I.old, I.len, I.slot, I.sep⟩
def wTryM (C : Addr) (f : Str) (wb : WS) : WS := fun δ EX Co => ∀ EX' : Exc → Prop, (∀ z : Exc, z.cls = C → z.bare = false → ∀ d, z.fs.lookup f = some d → Co.rt d → EX' z) → wb δ EX' Co
theorem ms_tryMixed (hfr : b.fr = false) (i : Nat) (T : ExcTwo X.K C CY) (hno : PySem.W.findIn X.K (.ref C) f = some none) (hmi : X.mg "isinstance" = none) (hmy : X.mg y = some (.ref CY)) (hmx : X.mg x = some (.ref C)) (hNd : X.N.Nodup)
    (hbody : ∀ (pn : List (Addr × Obj)) (xe : Value → Shared → Prop) (EX' : Exc → Prop), Takes (X.tr pn xe) (fun cls d _ H => EWish X.K { b with EX := EX' } cls d H) → PassesOwn (model X.prog X.w) X.A X.env xe → MSs (X.tr pn xe) { b with EX := EX' } body wb)
    (hs : X.stack = X.env :: X.outer := by rfl) (hf : X.env.frame = some X.env.locals := by rfl) (hi : X.N[i]? = some n := by rfl) (hln : X.env.kindOf n = some .local := by rfl) (hgx : Gl X x := by rfl)
    (hgi : Gl X "isinstance" := by rfl) (hgy : Gl X y := by rfl) (hdx : (x == ("__debug__" : Str)) = false := by decide) (hdn : (n == ("__debug__" : Str)) = false := by decide) (hcn : (n == ("__classdict__" : Str)) = false := by decide) (hdy : (y == ("__debug__" : Str)) = false := by decide)
    (hs1 : starEach [.Name n p2, .Name y pY] X.env = (false, eval (.Name n p2) X.env) :: starEach [.Name y pY] X.env := by rfl) (hs2 : starEach [.Name y pY] X.env = (false, eval (.Name y pY) X.env) :: starEach [] X.env := by rfl) (hpl : (backTo p3 (starEach [.Name y pY] X.env)).any (·.1) = false := by rfl)
    (ht : ∀ whole, isTrue (.Call (.Name "isinstance" p1) [.Name n p2, .Name y pY] [] p3) X.env whole = (do let v ← whole; standAt (Expr.pos (.Call (.Name "isinstance" p1) [.Name n p2, .Name y pY] [] p3)); holding [v] (truthy v)) := by intro _; rfl)
    (hb : attributeBase (.Name n p5) f X.env (eval (.Name n p5) X.env) = eval (.Name n p5) X.env := by rfl) :
    MS X b (.Try body [.ExceptHandler (some (.Name x np)) (some n) [.If (.Call (.Name "isinstance" p1) [.Name n p2, .Name y pY] [] p3) b0 [] p4, .Return (some (.Attribute (.Name n p5) f p6)) p7] pos'] [] [] pos) (wTryM C f wb) := by
  refine PS.imp (ps_try_as hs hf hNd hi hln ⟨hgx, hdx, .inl hmx⟩ takes0 (tb := fun W => tS X.K { b with EX := EXW X.K b X.N.length W } wb)
    (fun W pn xe tk po => hbody pn xe _ (Takes.impN tk fun c d σ H hn z => ?_) po)
    (fun a oe cls d pn hz hfl => suite_mixed (b0 := b0) T hno hz hfl hgi hmi hgy hmy hi (.inl hln) hdn hcn hdy hs1 hs2 hpl (fun _ => rfl) ht hb)) fun Dn σ H ⟨S, δ, Co, I, hw, k⟩ => ?_
  · obtain ⟨y, S', hx, hl, s0, sh, h0, old⟩ := z.out
    exact hx c d σ S' H hn hl s0 sh h0 old
  · refine ⟨S, δ, Co, I.ex, hw _ fun z hz1 hz2 d hl hd => ?_, ⟨fun δ' σ' S' H' e I' => k.nx δ' σ' S' H' e I'.unex, fun d v S' H' r => k.rt d v S' H' ⟨r.s, r.h, r.sh, r.old, r.r⟩, fun δ' σ' S' H' e I' => k.bk δ' σ' S' H' e I'.unex, fun δ' σ' S' H' e I' => k.ct δ' σ' S' H' e I'.unex⟩⟩
    intro cls dO σ' S' H' hn hl2 s0 sh h0 old
    obtain ⟨rfl, q⟩ := hl2
    rw [hz2, if_neg Bool.false_ne_true] at q
    obtain ⟨dA, fs, rfl, hdA, rf⟩ := q
    obtain ⟨v, hv, rv⟩ := rf.get hl
    refine ⟨true, PySem.W.exm_ref T.excC.hs T.excC.hd T.tyC (by rw [hz1]; exact T.subC), fun _ a ha => ?_, fun q => by cases q⟩
    have hil : i < σ'.length := by
      rw [hn]
      exact (List.getElem?_eq_some_iff.mp hi).1
    exact ⟨List.getElem?_set_self hil, by rw [hz1], dA, fs, v, rfl, hdA, hv, k.rt d v S' H' ⟨s0, h0, sh, old, by rw [hfr, if_neg Bool.false_ne_true]; exact rv⟩ hd⟩
end
end Mi
namespace Mi
open PySem L2 Evl PySem.Spec PyProof.Rows
theorem exo_ne_exd {a C dx : Addr} {d : Option Addr} {H : Hp} (h : H a = some (exo a C d)) (hd : H dx = none) : dx ≠ a := fun z => by rw [z, h] at hd; cases hd
/-- def __init__(self, x): super().__init__(x); self.f = x -/
theorem fn_init1 {CX : CXT} {P : Program} {w : World} {K : PySem.W.Frag} {mg : Str → Option Value} {base : Heap} {k : Nat} {f C cc cda : Addr} {name qual : Str} {params : Arguments} {scope : Scope} {dV kV doc pm ct oc : Value} {an od : Option Addr}
    {osl : Array (Option Value)} {sf pa fl : Str} {p0 p1 p2 p3 pos spos q1 q2 q3 q4 : Pos} {ar : Arg} {pl : PySem.Env → Sem Bool}
    (T : SupC K P C cc cda) (hmg : mg "super" = none)
    (lk : K.lookup f = some ⟨oc, od, .func (PySem.W.ksFn name qual params [.Expr (.Call (.Attribute (.Call (.Name "super" p0) [] [] p1) "__init__" p2) [.Name pa p3] [] pos) spos, .Assign [.Attribute (.Name sf q1) fl q2] (.Name pa q3) q4] scope dV kV doc pm an (.ref cda) ct cc), osl⟩)
    (hcd : PySem.W.codeIn K (.ref cda) qual = true) (S : NdefX.NScope [sf, pa, "__class__"] [sf, pa] ["__class__"] scope)
    (hp : (params.posonlyargs ++ params.args).head? = some ar) (har : ar.arg = sf) (hks : scope.names.lookup ("super" : Str) = some .globalImplicit)
    (hno : PySem.W.findIn K (.ref C) fl = some none) (d1 : (sf == ("__debug__" : Str)) = false := by decide) (d2 : (pa == ("__debug__" : Str)) = false := by decide) (d3 : (sf == ("__classdict__" : Str)) = false := by decide) (d4 : (pa == ("__classdict__" : Str)) = false := by decide)
    (hev : ∀ env, eval (.Call (.Attribute (.Call (.Name "super" p0) [] [] p1) "__init__" p2) [.Name pa p3] [] pos) env = (do
      let ov ← attributeBase (.Call (.Name "super" p0) [] [] p1) "__init__" env (eval (.Call (.Name "super" p0) [] [] p1) env)
      standAt p2.atName
      let (f, first) ← holding [ov] (getMethod ov "__init__" (pl env))
      callWith pos f first (backTo pos (starEach [.Name pa p3] env)) []) := by intro _; rfl) :
    FnOk P w K mg base CX (k + 1) f (PySem.W.ksFn name qual params [.Expr (.Call (.Attribute (.Call (.Name "super" p0) [] [] p1) "__init__" p2) [.Name pa p3] [] pos) spos, .Assign [.Attribute (.Name sf q1) fl q2] (.Name pa q3) q4] scope dV kV doc pm an (.ref cda) ct cc) [sf, pa] (spInit C [fl]) := by
  refine fn_super (pl := pl) T hmg lk hcd S hp (by rw [har] <;> rfl) (by rw [har]; exact S.par _ List.mem_cons_self) hks (fun vs H Q E h => ?_) (fun A outer s H vs Q E h => ?_) (fun _ => rfl) (fun _ => rfl) hev (fun _ => rfl) (fun L => by unfold interactive; simp [S.kind])
  · obtain ⟨a, ws, rfl, hl, _⟩ := h
    simpa using hl
  · obtain ⟨a, ws, rfl, hl, ha, hk⟩ := h
    obtain ⟨y, rfl⟩ : ∃ y, ws = [y] := by
      match ws, hl with
      | [y], _ => exact ⟨y, rfl⟩
    have l0 : scope.names.lookup sf = some .local := S.par _ List.mem_cons_self
    have l1 : scope.names.lookup pa = some .local := S.par _ (List.mem_cons_of_mem _ List.mem_cons_self)
    refine ⟨a, _, _, rfl, ha, pa_cons (pe_var (i := 1) rfl (.inl l1) d2 d4) pa_nil, pss_one (ps_ost (pe_var (i := 0) rfl (.inl l0) d1 d3) (pe_var (i := 1) rfl (.inl l1) d2 d4)), fun R hR => ?_⟩
    refine ⟨y, rfl, hR _ _ (by simp) ha ?_⟩
    refine ⟨y, rfl, .ref a, rfl, a, C, rfl, T.oex, hno, .inl ⟨ha, fun dx hdx hne => ?_⟩⟩
    exact hk dx _ upd_same (by rw [upd_ne hne, upd_same] <;> rfl) hdx fun b hb1 hb2 => by rw [upd_ne hb1, upd_ne hb2]
end Mi
namespace Mi
open PySem L2 Evl PySem.Spec PyProof.Rows
section
variable {X : Cx} {b : Bs} {K : PySem.W.Frag} {g : G} {S S' H H' : Hp} {δ : Env} {σ : L2.St} {e a c d2 e' : Expr} {es rest : List Expr} {w wa wb wc : WE} {wr : WA} {pos p tpos : Pos} {x : Str} {ss body : List Stmt} {u u1 u2 : WS} {ta : WT}
/-! ### a guard reads an owned name: the name is lent, and is owned again behind it -/
theorem Grow.keepS {S H H' : Hp} (e : Ex S H) (g : Ex H H') : Grow S H S H' := ⟨Ex.refl _, g, e.trans g, fun _ _ _ => rfl⟩
def wGuard (i : Nat) (t : WT) (u1 : WS) : WS := fun δ EX C => match δ[i]? with
  | some (some ⟨d, true⟩) => t (δ.set i (st d)) EX fun c => if c = true then u1 (δ.set i (st d)) EX { C with nx := fun _ => False, bk := fun _ => False, ct := fun _ => False } else C.nx δ
  | _ => False
theorem ms_guard (i : Nat) (ht : MT X b e ta) (h1 : MSs X b body u1) : MS X b (.If e body [] pos) (wGuard i ta u1) := PS.imp (ps_if ht h1 pss_nil) fun Dn σ H ⟨S, δ, C, I, hw, k⟩ => by
  unfold wGuard at hw
  split at hw
  · rename_i d hd
    obtain ⟨S2, e2, I2⟩ := I.freeze hd
    refine ⟨S2, _, _, I2, hw, fun x S1 H1 g1 hx => ?_⟩
    cases x with
    | true =>
      rw [if_pos rfl] at hx ⊢
      exact ⟨S1, _, _, I2.grow g1, hx, ⟨fun _ _ _ _ _ _ z => z.elim, k.rt, fun _ _ _ _ _ _ z => z.elim, fun _ _ _ _ _ _ z => z.elim⟩⟩
    | false =>
      rw [if_neg Bool.false_ne_true] at hx ⊢
      exact k.nx δ σ S H1 (Ex.refl _) (I.grow (Grow.keepS I.sh g1.h)) hx
  · exact hw.elim
/-! ### the script: kind 0 -/
def HScr (K : PySem.W.Frag) (g : G) : Prop := ∀ a S d, g.R 0 a S d → ∃ ns : List Int, d = D.lst (List.map D.int ns) ∧ SqL K S a (List.map V.int ns)
def gScr (K : PySem.W.Frag) : G := ⟨fun n a S d => n = 0 ∧ ∃ ns : List Int, d = D.lst (List.map D.int ns) ∧ SqL K S a (List.map V.int ns), fun _ _ _ _ _ e h => ⟨h.1, h.2.elim fun ns q => ⟨ns, q.1, ex_l e q.2⟩⟩⟩
theorem hscr (K : PySem.W.Frag) : HScr K (gScr K) := fun a S d h => h.2
theorem RepT.scr {v : V} {d : D} (hg : HScr K g) (r : RepT K g S H v (.ext 0 d)) : ∃ (p : Addr) (ns : List Int), v = .ref p ∧ d = .lst (ns.map D.int) ∧ SqL K S p (ns.map V.int) := by
  rcases r with r | ⟨p, _, _, o⟩
  · cases r with
    | ext h =>
      obtain ⟨ns, hd, hs⟩ := hg _ _ _ h
      exact ⟨_, ns, rfl, hd, hs⟩
  · exact o.elim
def qLenS (x : D) (P : D → Prop) : Prop := match x with
  | .ext 0 (.lst ds) => P (.int ds.length)
  | _ => False
theorem b1_lenS (hg : HScr K g) : B1 K g (fun xs H Q => ∃ x n, xs = [x] ∧ LenV K x H n ∧ Q (.int n) H) qLenS := by
  intro S H x v P Q e rv hq k
  unfold qLenS at hq
  split at hq
  · rename_i ds
    obtain ⟨p, ns, rfl, hd, hs⟩ := rv.scr hg
    have hl : (ns.map V.int).length = ds.length := by cases hd; simp
    exact ⟨_, _, rfl, .inl ⟨_, ex_l e hs, rfl⟩, k _ _ S H (Grow.refl e) (by rw [hl]; exact .int _) hq⟩
  · exact hq.elim
theorem me_lenS (hs0 : HScr X.K b.g) (hm : X.mg "len" = none) (hg : Gl X "len") (ha : MO X b a wa) (hs : starEach [a] X.env = (false, eval a X.env) :: starEach [] X.env := by rfl) (hpl : (backTo pos (starEach [] X.env)).any (·.1) = false := by rfl) : ME X b (.Call (.Name "len" p) [a] [] pos) (wUn qLenS wa) :=
  me_b1 call_len (b1_lenS hs0) hg hm PySem.boot_len ha (by decide) (by decide) hs hpl
def qIxS (x y : D) (P : D → Prop) : Prop := match x, y with
  | .ext 0 (.lst ds), .int i => ∃ d, atI ds i = some d ∧ ∀ n, d = .int n → P (.int n)
  | _, _ => False
theorem od_ixS (hg : HScr K g) : OpD K g (rIx K) qIxS := by
  intro S H x y v u P Q e rv ru hq k
  unfold qIxS at hq
  split at hq
  · rename_i ds i
    obtain ⟨d, hd, hq⟩ := hq
    obtain ⟨p, ns, rfl, hds, hs⟩ := rv.scr hg
    cases ru.int
    cases hds
    have h2 : ∃ n, d = .int n ∧ atI (ns.map V.int) i = some (.int n) := by
      unfold L2.atI at hd ⊢
      rw [List.length_map] at hd ⊢
      cases e1 : ixN ns.length i with
      | none => rw [e1] at hd; cases hd
      | some j =>
        rw [e1] at hd
        simp only [Option.bind_some, List.getElem?_map] at hd ⊢
        cases e2 : ns[j]? with
        | none => rw [e2] at hd; cases hd
        | some n => rw [e2] at hd; cases hd; exact ⟨n, rfl, rfl⟩
    obtain ⟨n, rfl, ha⟩ := h2
    exact .inl ⟨p, _, _, _, rfl, rfl, ex_l e hs, ha, k _ _ S H (Grow.refl e) (.int n) (hq n rfl)⟩
  · exact hq.elim
theorem me_ixS (hs0 : HScr X.K b.g) (ha : MO X b a wa) (hb : MO X b c wb) (hs : PlainIx c := by intro _ _; rfl) : ME X b (.Subscript a c pos) (wOp qIxS wa wb) := PE.ix ix_seq (od_ixS hs0) ha hb hs
/-! ### list(range(n)) -/
end
end Mi
namespace Mi
open PySem L2 Evl PySem.Spec PyProof.Rows
/-! ### shapes: what == may be asked of -/
def Sh (n : Nat) (d : D) : Prop := d.py.canLay0 = true ∧ d.py.depth ≤ n
theorem sh_non {n : Nat} : Sh n .non := ⟨rfl, Nat.zero_le _⟩
theorem sh_bl {n : Nat} {c : Bool} : Sh n (.bl c) := ⟨rfl, Nat.zero_le _⟩
theorem sh_int {n : Nat} {i : Int} : Sh n (.int i) := ⟨rfl, Nat.zero_le _⟩
theorem sh_str {n : Nat} {s : Str} (h : PySem.PyData.strOk s = true) : Sh n (.str s) := ⟨h, Nat.zero_le _⟩
theorem Sh.mono {m n : Nat} {d : D} (h : Sh m d) (e : m ≤ n) : Sh n d := ⟨h.1, Nat.le_trans h.2 e⟩
theorem sh_pys {n : Nat} : ∀ {xs : List D}, (∀ x ∈ xs, Sh n x) → PySem.PyData.canLayAll0 (D.pys xs) = true ∧ PySem.PyData.depthAll (D.pys xs) ≤ n
  | [], _ => ⟨rfl, Nat.zero_le _⟩
  | x :: xs, h => by
    obtain ⟨h1, h2⟩ := h x List.mem_cons_self
    obtain ⟨h3, h4⟩ := sh_pys fun y hy => h y (List.mem_cons_of_mem _ hy)
    constructor
    · simp only [D.pys, PySem.PyData.canLayAll0, h1, h3, Bool.and_self]
    · simp only [D.pys, PySem.PyData.depthAll]
      omega
theorem sh_lst {n : Nat} {xs : List D} (h : ∀ x ∈ xs, Sh n x) : Sh (n + 1) (.lst xs) := by
  obtain ⟨h1, h2⟩ := sh_pys h
  constructor
  · simpa only [D.py, PySem.PyData.canLay0] using h1
  · simp only [D.py, PySem.PyData.depth]; omega
theorem sh_tup {n : Nat} {xs : List D} (h : ∀ x ∈ xs, Sh n x) : Sh (n + 1) (.tup xs) := by
  obtain ⟨h1, h2⟩ := sh_pys h
  constructor
  · simpa only [D.py, PySem.PyData.canLay0] using h1
  · simp only [D.py, PySem.PyData.depth]; omega
theorem Sh.ok {n : Nat} {d : D} (h : Sh n d) (hn : n ≤ 64 := by decide) : okD d := by
  unfold okD SeqAt.shaped
  rw [h.1, Bool.true_and, decide_eq_true_eq]
  exact Nat.le_trans h.2 hn
theorem eqD_self {n : Nat} {d : D} (h : Sh n d) : eqD d d = true := PySem.SeqAt.eqv_refl _ h.1
theorem qEq_self {n : Nat} {d : D} {P : Bool → Prop} (h : Sh n d) (hn : n ≤ 64) (p : P true) : qEq d d P := by
  unfold qEq
  cases e : scEq d d with
  | none => exact ⟨h.ok hn, h.ok hn, by rw [eqD_self h]; exact p⟩
  | some c =>
    have : c = true := by
      cases d <;> simp [scEq] at e <;> exact e
    subst this
    exact p
theorem qNe_self {n : Nat} {d : D} {P : Bool → Prop} (h : Sh n d) (hn : n ≤ 64) (p : P false) : qNe d d P := qEq_self h hn p
end Mi
namespace Mi
open PySem L2 Evl PySem.Spec PyProof.Rows
/-! ### how the words are opened -/
def forD (items : List D) (wg : WG) (u : WS) : WS := fun δ EX C => ∃ M : Nat → Env → Prop, M 0 δ ∧
  (∀ (i : Nat) d δ', items[i]? = some d → M i δ' → wg d δ' fun δ2 => u δ2 EX { C with nx := M (i + 1), ct := M (i + 1), bk := C.nx }) ∧ ∀ δ', M items.length δ' → C.nx δ'
theorem wFor_e (wi : WI) (wg : WG) (u : WS) (δ : Env) (EX : Exc → Prop) (C : Co) : wFor wi wg u δ EX C = wi δ EX fun items => forD items wg u δ EX C := rfl
theorem for_i {items : List D} {wg : WG} {u : WS} {δ : Env} {EX : Exc → Prop} {C : Co} (M : Nat → Env → Prop) (h0 : M 0 δ)
    (hs : ∀ (i : Nat) d δ', items[i]? = some d → M i δ' → wg d δ' fun δ2 => u δ2 EX { nx := M (i + 1), rt := C.rt, ct := M (i + 1), bk := C.nx }) (he : ∀ δ', M items.length δ' → C.nx δ') : forD items wg u δ EX C := ⟨M, h0, hs, he⟩
def lcD (items : List D) (wg : WG) (wt : WT) (we : WE) (δ : Env) (P : D → Prop) : Prop := items.length ≤ Line ∧ ∃ M : Nat → List D → Prop, M 0 [] ∧
  (∀ (i : Nat) d acc, items[i]? = some d → M i acc → acc.length ≤ i → wg d δ fun δ2 => wt δ2 (fun _ => False) fun c => if c = true then we δ2 (fun _ => False) fun y => M (i + 1) (acc ++ [y]) else M (i + 1) acc) ∧ ∀ acc, M items.length acc → P (.lst acc)
theorem wLc_e (wi : WI) (wg : WG) (wt : WT) (we : WE) (vs : List Nat) (δ : Env) (EX : Exc → Prop) (P : D → Prop) : wLc wi wg wt we vs δ EX P = wi δ EX fun items => lcD items wg wt we (wipeE δ vs) P := rfl
theorem lc_i {items : List D} {wg : WG} {wt : WT} {we : WE} {δ : Env} {P : D → Prop} (M : Nat → List D → Prop) (hl : items.length ≤ Line) (h0 : M 0 [])
    (hs : ∀ (i : Nat) d acc, items[i]? = some d → M i acc → acc.length ≤ i → wg d δ fun δ2 => wt δ2 (fun _ => False) fun c => if c = true then we δ2 (fun _ => False) fun y => M (i + 1) (acc ++ [y]) else M (i + 1) acc)
    (he : ∀ acc, M items.length acc → P (.lst acc)) : lcD items wg wt we δ P := ⟨hl, M, h0, hs, he⟩
/-- each item gives one element -/
theorem lc_map {items : List D} {wg : WG} {we : WE} {δ : Env} {P : D → Prop} (F : Nat → D) (hl : items.length ≤ Line)
    (hs : ∀ (i : Nat) (d : D) (R : D → Prop), items[i]? = some d → R (F i) → wg d δ fun δ2 => we δ2 (fun _ => False) R) (he : P (.lst ((List.range items.length).map F))) : lcD items wg wYes we δ P :=
  lc_i (fun i acc => acc = (List.range i).map F) hl rfl (fun i d acc hi e _ => hs i d _ hi (by
    subst e
    rw [List.range_succ, List.map_append]; rfl)) fun acc e => by subst e; exact he
/-- each item that passes gives one element -/
theorem lc_filter {items : List D} {wg : WG} {wt : WT} {we : WE} {δ : Env} {P : D → Prop} (T : Nat → Bool) (F : Nat → D) (hl : items.length ≤ Line)
    (hs : ∀ (i : Nat) (d : D) (R : D → Prop) (N : Prop), items[i]? = some d → (T i = true → R (F i)) → (T i = false → N) → wg d δ fun δ2 => wt δ2 (fun _ => False) fun c => if c = true then we δ2 (fun _ => False) R else N)
    (he : P (.lst (((List.range items.length).filter T).map F))) : lcD items wg wt we δ P :=
  lc_i (fun i acc => acc = ((List.range i).filter T).map F) hl rfl (fun i d acc hi e _ => hs i d _ _ hi (fun h => by
    subst e
    rw [List.range_succ, List.filter_append, List.map_append, List.filter_cons_of_pos h]; rfl) fun h => by
    subst e
    rw [List.range_succ, List.filter_append, List.map_append, List.filter_cons_of_neg (by rw [h]; exact Bool.false_ne_true)]
    simp) fun acc e => by subst e; exact he
theorem cut_i {u1 u2 : WS} {δ : Env} {EX : Exc → Prop} {C : Co} (M : Env → Prop) (h1 : u1 δ EX { nx := M, rt := C.rt, ct := C.ct, bk := C.bk }) (h2 : ∀ δ', M δ' → u2 δ' EX C) : wCut u1 u2 δ EX C := ⟨M, h1, h2⟩
theorem while_i {t : WT} {u : WS} {δ : Env} {EX : Exc → Prop} {C : Co} (M : Nat → Env → Prop) (m : Nat) (h0 : M m δ)
    (hs : ∀ m δ', M m δ' → t δ' EX fun c => if c = true then u δ' EX { nx := fun δ2 => ∃ m', m' < m ∧ M m' δ2, rt := C.rt, ct := fun δ2 => ∃ m', m' < m ∧ M m' δ2, bk := C.nx } else C.nx δ') : wWhile t u δ EX C := ⟨M, ⟨m, h0⟩, hs⟩
theorem ite_i {c : Bool} {A B : Prop} (h1 : c = true → A) (h2 : c = false → B) : if c = true then A else B := by
  cases c
  · rw [if_neg Bool.false_ne_true]; exact h2 rfl
  · rw [if_pos rfl]; exact h1 rfl
theorem startE_c (n : Str) (N : List Str) (d : D) (ds : List D) : startE (n :: N) (d :: ds) = st d :: startE N ds := by
  simp [startE]
theorem startE_n (n : Str) (N : List Str) : startE (n :: N) [] = none :: startE N [] := by
  simp [startE, List.replicate_succ]
theorem startE_e : startE [] [] = [] := rfl
/-- division, the divisor above 0 -/
def qDivP : D → D → (D → Prop) → Prop := fun x y P => match x, y with
  | .int i, .int j => 0 < j ∧ j < 1073741824 ∧ P (.int (i / j))
  | _, _ => False
def qModP : D → D → (D → Prop) → Prop := fun x y P => match x, y with
  | .int i, .int j => 0 < j ∧ P (.int (i % j))
  | _, _ => False
section
variable {X : Cx} {b : Bs} {K : PySem.W.Frag} {a c : Expr} {wa wb : WE} {pos : Pos}
theorem me_divP (ha : MO X b a wa) (hb : MO X b c wb) : ME X b (.BinOp a .FloorDiv c pos) (wOp qDivP wa wb) :=
  me_op op_fdivN ((od_IC (f := fun i j => i.fdiv j)).imp fun x y P h => by
    unfold qDivP at h
    split at h
    · rename_i i j
      exact ⟨⟨by omega, by omega⟩, by show P (D.int (i.fdiv j)); rw [Int.fdiv_eq_ediv_of_nonneg _ (by omega)]; exact h.2.2⟩
    · exact h.elim) ha hb
theorem me_modP (ha : MO X b a wa) (hb : MO X b c wb) : ME X b (.BinOp a .Mod c pos) (wOp qModP wa wb) :=
  me_op op_mod ((od_IC (f := fun i j => i % j)).imp fun x y P h => by
    unfold qModP at h
    split at h
    · exact h
    · exact h.elim) ha hb
end
theorem qEq_int (i j : Int) (P : Bool → Prop) : qEq (.int i) (.int j) P = P (decide (i = j)) := rfl
theorem qEq_str (i j : Str) (P : Bool → Prop) : qEq (.str i) (.str j) P = P (decide (i = j)) := rfl
theorem qEq_bl (i j : Bool) (P : Bool → Prop) : qEq (.bl i) (.bl j) P = P (decide (i = j)) := rfl
theorem qNe_int (i j : Int) (P : Bool → Prop) : qNe (.int i) (.int j) P = P (!decide (i = j)) := rfl
theorem qNe_str (i j : Str) (P : Bool → Prop) : qNe (.str i) (.str j) P = P (!decide (i = j)) := rfl
theorem qNe_bl (i j : Bool) (P : Bool → Prop) : qNe (.bl i) (.bl j) P = P (!decide (i = j)) := rfl
theorem line0 : (0 ≤ Line) = True := eq_true (by decide)
theorem line1 : (0 + 1 ≤ Line) = True := eq_true (by decide)
theorem line2 : (0 + 1 + 1 ≤ Line) = True := eq_true (by decide)
theorem line3 : (0 + 1 + 1 + 1 ≤ Line) = True := eq_true (by decide)
theorem line4 : (0 + 1 + 1 + 1 + 1 ≤ Line) = True := eq_true (by decide)
theorem line6 : (0 + 1 + 1 + 1 + 1 + 1 + 1 ≤ Line) = True := eq_true (by decide)
theorem line7 : (0 + 1 + 1 + 1 + 1 + 1 + 1 + 1 ≤ Line) = True := eq_true (by decide)
theorem line10 : (0 + 1 + 1 + 1 + 1 + 1 + 1 + 1 + 1 + 1 + 1 ≤ Line) = True := eq_true (by decide)
end Mi
namespace Mi
open PySem L2 Evl PySem.Spec PyProof.Rows
section
variable {X : Cx} {b : Bs} {K : PySem.W.Frag} {e : Expr} {body orelse : List Stmt} {ta : WT} {u1 u2 : WS} {pos : Pos}
/-- an if whose test's answer is told ahead -/
def wIfD (t : WT) (u1 u2 : WS) : WS := fun δ EX C => ∃ c0 : Bool, (t δ EX fun c => c = c0) ∧ if c0 = true then u1 δ EX C else u2 δ EX C
theorem ms_ifD (ht : MT X b e ta) (h1 : MSs X b body u1) (h2 : MSs X b orelse u2) : MS X b (.If e body orelse pos) (wIfD ta u1 u2) := PS.imp (ps_if ht h1 h2) fun Dn σ H ⟨S, δ, C, I, ⟨c0, hw, hb⟩, k⟩ => by
  refine ⟨S, δ, _, I, hw, fun x S1 H1 g1 hx => ?_⟩
  subst hx
  cases x with
  | true =>
    rw [if_pos rfl] at hb ⊢
    exact ⟨S1, δ, C, I.grow g1, hb, k.mono g1.s⟩
  | false =>
    rw [if_neg Bool.false_ne_true] at hb ⊢
    exact ⟨S1, δ, C, I.grow g1, hb, k.mono g1.s⟩
theorem ifD_i {t : WT} {u1 u2 : WS} {δ : Env} {EX : Exc → Prop} {C : Co} (c0 : Bool) (h : t δ EX fun c => c = c0) (h1 : c0 = true → u1 δ EX C) (h2 : c0 = false → u2 δ EX C) : wIfD t u1 u2 δ EX C := ⟨c0, h, ite_i h1 h2⟩
def wGuardD (i : Nat) (t : WT) (u1 : WS) : WS := fun δ EX C => match δ[i]? with
  | some (some ⟨d, true⟩) => ∃ c0 : Bool, (t (δ.set i (st d)) EX fun c => c = c0) ∧ if c0 = true then u1 (δ.set i (st d)) EX { C with nx := fun _ => False, bk := fun _ => False, ct := fun _ => False } else C.nx δ
  | _ => False
theorem ms_guardD (i : Nat) (ht : MT X b e ta) (h1 : MSs X b body u1) : MS X b (.If e body [] pos) (wGuardD i ta u1) := PS.imp (ps_if ht h1 pss_nil) fun Dn σ H ⟨S, δ, C, I, hw, k⟩ => by
  unfold wGuardD at hw
  split at hw
  · rename_i d hd
    obtain ⟨S2, e2, I2⟩ := I.freeze hd
    obtain ⟨c0, hw, hb⟩ := hw
    refine ⟨S2, _, _, I2, hw, fun x S1 H1 g1 hx => ?_⟩
    subst hx
    cases x with
    | true =>
      rw [if_pos rfl] at hb ⊢
      exact ⟨S1, _, _, I2.grow g1, hb, ⟨fun _ _ _ _ _ _ z => z.elim, k.rt, fun _ _ _ _ _ _ z => z.elim, fun _ _ _ _ _ _ z => z.elim⟩⟩
    | false =>
      rw [if_neg Bool.false_ne_true] at hb ⊢
      exact k.nx δ σ S H1 (Ex.refl _) (I.grow (Grow.keepS I.sh g1.h)) hb
  · exact hw.elim
end
/-! ### isinstance, of what is known -/
theorem isi_list_lst {xs : List D} {P : D → Prop} : qIsi "list" (.lst xs) P = P (.bl true) := rfl
theorem isi_list_tup {xs : List D} {P : D → Prop} : qIsi "list" (.tup xs) P = P (.bl false) := rfl
theorem isi_list_non {P : D → Prop} : qIsi "list" .non P = P (.bl false) := rfl
theorem isi_list_str {s : Str} {P : D → Prop} : qIsi "list" (.str s) P = P (.bl false) := rfl
theorem isi_list_int {i : Int} {P : D → Prop} : qIsi "list" (.int i) P = P (.bl false) := rfl
theorem isi_tup_tup {xs : List D} {P : D → Prop} : qIsi "tuple" (.tup xs) P = P (.bl true) := rfl
theorem isi_bool_bl {c : Bool} {P : D → Prop} : qIsi "bool" (.bl c) P = P (.bl true) := rfl
theorem isi_bool_int {c : Int} {P : D → Prop} : qIsi "bool" (.int c) P = P (.bl false) := rfl
theorem isi_int_int {c : Int} {P : D → Prop} : qIsi "int" (.int c) P = P (.bl true) := rfl
theorem isi_int_bl {c : Bool} {P : D → Prop} : qIsi "int" (.bl c) P = P (.bl true) := rfl
theorem isi_int_non {P : D → Prop} : qIsi "int" .non P = P (.bl false) := rfl
theorem isi_int_str {s : Str} {P : D → Prop} : qIsi "int" (.str s) P = P (.bl false) := rfl
theorem isi_str_str {s : Str} {P : D → Prop} : qIsi "str" (.str s) P = P (.bl true) := rfl
theorem isi_str_non {P : D → Prop} : qIsi "str" .non P = P (.bl false) := rfl
theorem isi_str_int {i : Int} {P : D → Prop} : qIsi "str" (.int i) P = P (.bl false) := rfl
/-! ### places -/
theorem atI_nat {α : Type} {xs : List α} {i : Nat} {d : α} (h : xs[i]? = some d) : atI xs (i : Int) = some d := by
  have hl := (List.getElem?_eq_some_iff.mp h).1
  unfold L2.atI L2.ixN
  rw [if_pos (Int.natCast_nonneg _), if_pos (by exact_mod_cast hl)]
  simpa using h
theorem atI_last {α : Type} {xs : List α} {d : α} (h : xs.getLast? = some d) : atI xs (-1) = some d := by
  have hl : xs ≠ [] := fun e => by subst e; cases h
  have h1 : 0 < xs.length := List.length_pos_iff.mpr hl
  unfold L2.atI L2.ixN
  rw [if_neg (by decide), if_pos (by omega)]
  have : (-1 + (xs.length : Int)).toNat = xs.length - 1 := by omega
  rw [Option.bind_some, this]
  rw [List.getLast?_eq_getElem?] at h
  exact h
theorem qIx_last {xs : List D} {d : D} {P : D → Prop} (h : xs.getLast? = some d) (p : P d) : qIx (.lst xs) (.int (-1)) P := by
  unfold qIx; simp only [atI_last h]; exact p
theorem qIx_lst {xs : List D} {i : Nat} {d : D} {P : D → Prop} (h : xs[i]? = some d) (p : P d) : qIx (.lst xs) (.int (i : Int)) P := by
  unfold qIx; simp only [atI_nat h]; exact p
theorem qIx_tup {xs : List D} {i : Nat} {d : D} {P : D → Prop} (h : xs[i]? = some d) (p : P d) : qIx (.tup xs) (.int (i : Int)) P := by
  unfold qIx; simp only [atI_nat h]; exact p
theorem qEq_tup {x : D} {ys : List D} {P : Bool → Prop} (h1 : okD x) (h2 : okD (.tup ys)) (p : P (eqD x (.tup ys))) : qEq x (.tup ys) P := by
  unfold qEq
  have : scEq x (.tup ys) = none := by cases x <;> rfl
  rw [this]
  exact ⟨h1, h2, p⟩
section
variable {X : Cx} {b : Bs} {pos : Pos} {x : Str}
theorem me_gi {n : Int} (h : ∃ t, X.mg x = some (.int n t)) (hg : Gl X x := by rfl) (hdb : (x == ("__debug__" : Str)) = false := by decide) : ME X b (.Name x pos) (wC (.int n)) := by
  obtain ⟨t, h⟩ := h
  exact me_glob (v := .int n) hg h ⟨t, rfl⟩ (fun _ => .int n) hdb
theorem me_gs {n : Str} (h : ∃ t, X.mg x = some (.str n t)) (hg : Gl X x := by rfl) (hdb : (x == ("__debug__" : Str)) = false := by decide) : ME X b (.Name x pos) (wC (.str n)) := by
  obtain ⟨t, h⟩ := h
  exact me_glob (v := .str n) hg h ⟨t, rfl⟩ (fun _ => .str n) hdb
end
theorem rangeD_of {lo : Int} {n i : Nat} {d : D} (h : (rangeD lo n)[i]? = some d) : i < n ∧ d = .int (lo + (i : Int)) := by
  have hl := (List.getElem?_eq_some_iff.mp h).1
  rw [rangeD_len] at hl
  rw [rangeD_get hl] at h
  exact ⟨hl, (Option.some.inj h).symm⟩
theorem rangeC_of {lo s : Int} {n i : Nat} {d : D} (h : (rangeC lo s n)[i]? = some d) : i < n ∧ d = .int (lo + (i : Int) * s) := by
  have hl := (List.getElem?_eq_some_iff.mp h).1
  rw [rangeC_len] at hl
  rw [rangeC_get hl] at h
  exact ⟨hl, (Option.some.inj h).symm⟩
theorem ltL {n : Nat} (h : n < 10000000) : n < Line := Nat.lt_trans h (by decide)
theorem leL {n : Nat} (h : n < 10000000) : n ≤ Line := Nat.le_of_lt (ltL h)
end Mi
namespace Mi
open PySem L2 Evl PySem.Spec PyProof.Rows
section
variable {i j k : Int} {s t : Str} {xs ys : List D} {c : Bool} {kvs : List (Key × D)} {P : D → Prop} {R : Bool → Prop} {x : D}
theorem e_qI {f : Int → Int → Int} : qI f (.int i) (.int j) P = P (.int (f i j)) := rfl
theorem e_qIC {C : Int → Int → Prop} {f : Int → Int → Int} : qIC C f (.int i) (.int j) P = (C i j ∧ P (.int (f i j))) := rfl
theorem e_add1 : qAdd (.int i) (.int j) P = P (.int (i + j)) := rfl
theorem e_add2 : qAdd (.str s) (.str t) P = (s.length + t.length ≤ Line ∧ P (.str (s ++ t))) := rfl
theorem e_add3 : qAdd (.lst xs) (.lst ys) P = (xs.length + ys.length ≤ Line ∧ P (.lst (xs ++ ys))) := rfl
theorem e_add4 : qAdd (.tup xs) (.tup ys) P = (xs.length + ys.length ≤ Line ∧ P (.tup (xs ++ ys))) := rfl
theorem e_catL : qCatL (.lst xs) (.lst ys) P = (xs.length + ys.length ≤ Line ∧ P (.lst (xs ++ ys))) := rfl
theorem e_aug1 : qAug (.int i) (.int j) P = P (.int (i + j)) := rfl
theorem e_aug2 : qAug (.str s) (.str t) P = (s.length + t.length ≤ Line ∧ P (.str (s ++ t))) := rfl
theorem e_mul1 : qMul (.int i) (.int j) P = (MulOk i j ∧ P (.int (i * j))) := rfl
theorem e_mul2 : qMul (.lst xs) (.int k) P = (-(2 ^ 63) ≤ k ∧ k < 2 ^ 63 ∧ xs.length * k.toNat ≤ Line ∧ P (.lst (List.replicate k.toNat xs).flatten)) := rfl
theorem e_rep : qRep (.lst xs) (.int k) P = (-(2 ^ 63) ≤ k ∧ k < 2 ^ 63 ∧ xs.length * k.toNat ≤ Line ∧ P (.lst (List.replicate k.toNat xs).flatten)) := rfl
theorem e_div : qDivP (.int i) (.int j) P = (0 < j ∧ j < 1073741824 ∧ P (.int (i / j))) := rfl
theorem e_mod : qModP (.int i) (.int j) P = (0 < j ∧ P (.int (i % j))) := rfl
theorem e_neg : qNeg (.int i) P = P (.int (-i)) := rfl
theorem e_ord1 {f : Int → Int → Bool} {g : Str → Str → Bool} : qOrd f g (.int i) (.int j) R = R (f i j) := rfl
theorem e_ord2 {f : Int → Int → Bool} {g : Str → Str → Bool} : qOrd f g (.str s) (.str t) R = R (g s t) := rfl
theorem e_isn : qIsN x .non R = R (isNonD x) := rfl
theorem e_nin : qNotN x .non R = R (!isNonD x) := rfl
theorem e_non1 : isNonD .non = true := rfl
theorem e_non2 : isNonD (.int i) = false := rfl
theorem e_non3 : isNonD (.str s) = false := rfl
theorem e_non4 : isNonD (.lst xs) = false := rfl
theorem e_non5 : isNonD (.tup xs) = false := rfl
theorem e_non6 : isNonD (.bl c) = false := rfl
theorem e_tru1 : qTru .non R = R false := rfl
theorem e_tru2 : qTru (.bl c) R = R c := rfl
theorem e_tru3 : qTru (.int i) R = R (i != 0) := rfl
theorem e_tru4 : qTru (.str s) R = (s.length ≤ Line ∧ R ((s.length : Int) != 0)) := rfl
theorem e_tru5 : qTru (.lst xs) R = R (!xs.isEmpty) := rfl
theorem e_tru6 : qTru (.tup xs) R = R (!xs.isEmpty) := rfl
theorem e_tru7 : qTru (.dic kvs) R = R (!kvs.isEmpty) := rfl
theorem e_sl1 {l h : Option Int} : qSl (.lst xs) l h P = P (.lst (cutD xs l h)) := rfl
theorem e_sl2 {l h : Option Int} : qSl (.tup xs) l h P = P (.tup (cutD xs l h)) := rfl
theorem e_sl3 {l h : Option Int} : qSl (.str s) l h P = (s.length ≤ Line ∧ P (.str (cutS s l h))) := rfl
theorem e_sl4 {l h : Option Int} : qSlL (.lst xs) l h P = P (.lst (cutD xs l h)) := rfl
theorem e_rev : qRev (.lst xs) P = P (.lst xs.reverse) := rfl
theorem e_it1 {Q : List D → Prop} : qItems (.lst xs) Q = Q xs := rfl
theorem e_it2 {Q : List D → Prop} : qItems (.tup xs) Q = Q xs := rfl
theorem e_it3 {Q : List D → Prop} : qItems (.str s) Q = Q (signs s) := rfl
theorem e_len1 : qLen (.lst xs) P = P (.int xs.length) := rfl
theorem e_len2 : qLen (.tup xs) P = P (.int xs.length) := rfl
theorem e_len3 : qLen (.dic kvs) P = P (.int kvs.length) := rfl
theorem e_len4 : qLen (.str s) P = (s.length ≤ Line ∧ P (.int s.length)) := rfl
theorem e_int1 : qInt (.int i) P = P (.int i) := rfl
theorem e_int2 : qInt (.bl c) P = P (.int (if c then 1 else 0)) := rfl
theorem e_int3 : qInt (.str s) P = ∃ n, PySem.intText? s = some n ∧ s.length ≤ 640 ∧ P (.int n) := rfl
theorem e_min : qMin (.int i) (.int j) P = P (.int (min i j)) := rfl
theorem e_max : qMax (.int i) (.int j) P = P (.int (max i j)) := rfl
theorem e_min3 : qMin3 (.int i) (.int j) (.int k) P = P (.int (min (min i j) k)) := rfl
theorem e_lst1 : qList (.lst xs) P = P (.lst xs) := rfl
theorem e_lst2 : qList (.tup xs) P = P (.lst xs) := rfl
theorem e_tup1 : qTuple (.lst xs) P = P (.tup xs) := rfl
theorem e_tup2 : qTuple (.tup xs) P = P (.tup xs) := rfl
theorem e_str : qStr (.int i) P = (i.natAbs.log2 < 1920 ∧ P (.str (toString i))) := rfl
theorem e_abs : qAbs (.int i) P = P (.int (if i < 0 then -i else i)) := rfl
theorem e_lenS : qLenS (.ext 0 (.lst xs)) P = P (.int xs.length) := rfl
theorem e_ixS : qIxS (.ext 0 (.lst xs)) (.int i) P = ∃ d, atI xs i = some d ∧ ∀ n, d = .int n → P (.int n) := rfl
end
theorem empty_map {α : Type} (f : α → D) (l : List α) : (l.map f).isEmpty = l.isEmpty := by cases l <;> rfl
theorem rep_flat {α : Type} (x : α) : ∀ n, (List.replicate n [x]).flatten = List.replicate n x
  | 0 => rfl
  | n + 1 => by rw [List.replicate_succ, List.flatten_cons, rep_flat x n]; rfl
end Mi
namespace Mi
open PySem L2 Evl PySem.Spec PyProof.Rows
/-! ### a grid: an owned list of owned lists, one of which a second name may hold -/
structure Gs where
  δ : Env
  G : List (List D)
  oi : Option Nat
def Gs.row (z : Gs) : Option Cell := match z.oi with
  | some i => (match z.G[i]? with | some ds => st (.lst ds) | none => none)
  | none => none
def Gs.fz (z : Gs) (r o : Nat) : Env := (z.δ.set r (st (.lst (z.G.map D.lst)))).set o z.row
structure GridR (K : PySem.W.Frag) (b : Bs) (r o : Nat) (S : Hp) (z : Gs) (σ : L2.St) (H : Hp) : Prop where
  base : StR K b z.δ σ S H
  nown : ∀ (i : Nat) (c : Cell), z.δ[i]? = some (some c) → c.own = false
  hr : z.δ[r]? = some none
  ho : z.δ[o]? = some none
  ro : r ≠ o
  grid : ∃ (p : Addr) (qs : List Addr), σ[r]? = some (some (.ref p)) ∧ H p = some (.lst (qs.map V.ref)) ∧ (p :: qs).Nodup ∧ (∀ a ∈ p :: qs, b.H0 a = none ∧ S a = none) ∧ qs.length = z.G.length ∧
    (∀ (k : Nat) (q : Addr), qs[k]? = some q → ∃ xs ds, H q = some (.lst xs) ∧ z.G[k]? = some ds ∧ RepA K b.g S xs ds) ∧ ∀ i, z.oi = some i → ∃ q, qs[i]? = some q ∧ σ[o]? = some (some (.ref q))
section
variable {X : Cx} {b : Bs} {K : PySem.W.Frag} {g : G} {S S' H H' : Hp} {δ : Env} {σ : L2.St} {z : Gs} {r o : Nat}
theorem repA_get : ∀ {vs : List V} {ds : List D}, vs.length = ds.length → (∀ (k : Nat) v d, vs[k]? = some v → ds[k]? = some d → Rep K g S v d) → RepA K g S vs ds
  | [], [], _, _ => .nil
  | _ :: _, [], h, _ => by cases h
  | [], _ :: _, h, _ => by cases h
  | v :: vs, d :: ds, h, k => .cons (k 0 v d rfl rfl) (repA_get (by simpa using h) fun i v d hv hd => k (i + 1) v d (by simpa using hv) (by simpa using hd))
theorem set_self_get {α : Type} {l : List α} {i : Nat} {x : α} (h : l[i]? = some x) : l.set i x = l := by
  apply List.ext_getElem?
  intro j
  by_cases hj : i = j
  · subst hj
    rw [List.getElem?_set_self (List.getElem?_eq_some_iff.mp h).1, h]
  · rw [List.getElem?_set_ne hj]
theorem GridR.grow (I : GridR K b r o S z σ H) (e : Ex H H') : GridR K b r o S z σ H' := by
  obtain ⟨p, qs, h1, h2, h3, h4, h5, h6, h7⟩ := I.grid
  exact ⟨I.base.grow (Grow.keepS I.base.sh e), I.nown, I.hr, I.ho, I.ro, p, qs, h1, e _ _ h2, h3, h4, h5, fun k q hq => let ⟨xs, ds, a, b, c⟩ := h6 k q hq; ⟨xs, ds, e _ _ a, b, c⟩, h7⟩
open Classical in
theorem GridR.frz (I : GridR K b r o S z σ H) : ∃ S1, Ex S S1 ∧ StR K b (z.fz r o) σ S1 H := by
  obtain ⟨p, qs, h1, h2, h3, h4, h5, h6, h7⟩ := I.grid
  let S1 : Hp := fun a => if a ∈ p :: qs then H a else S a
  have in1 : ∀ a, a ∈ p :: qs → S1 a = H a := fun a ha => if_pos ha
  have out1 : ∀ a, a ∉ p :: qs → S1 a = S a := fun a ha => if_neg ha
  have e1 : Ex S S1 := fun a u e => by
    rw [out1 a fun z => by rw [(h4 a z).2] at e; cases e]; exact e
  have I1 : StR K b z.δ σ S1 H := {
    sh := fun a u e => by
      by_cases ha : a ∈ p :: qs
      · rw [in1 a ha] at e; exact e
      · rw [out1 a ha] at e; exact I.base.sh a u e
    h0 := I.base.h0
    s0 := I.base.s0.trans e1
    old := fun a u e => by
      rw [out1 a fun z => by rw [(h4 a z).1] at e; cases e]; exact I.base.old a u e
    len := I.base.len
    slot := fun i c e => by
      obtain ⟨v, hv, rv⟩ := I.base.slot i c e
      refine ⟨v, hv, ?_⟩
      unfold CellR at rv ⊢
      rw [I.nown i c e, if_neg Bool.false_ne_true] at rv ⊢
      exact rv.mono e1
    sep := fun i j ci cj p _ hi _ oi _ _ _ => by rw [I.nown i ci hi] at oi; cases oi }
  have rowR : ∀ (k : Nat) q, qs[k]? = some q → ∃ ds, z.G[k]? = some ds ∧ Rep K b.g S1 (.ref q) (.lst ds) := fun k q hq => by
    obtain ⟨xs, ds, a, b, c⟩ := h6 k q hq
    exact ⟨ds, b, .lst (by rw [in1 q (List.mem_cons_of_mem _ (List.mem_of_getElem? hq))]; exact a) (c.mono e1)⟩
  have hrows : Rep K b.g S1 (.ref p) (.lst (z.G.map D.lst)) := .lst (by rw [in1 p List.mem_cons_self]; exact h2) (repA_get (by simp [h5]) fun k v d hv hd => by
    rw [List.getElem?_map] at hv hd
    obtain ⟨q, hq, rfl⟩ := Option.map_eq_some_iff.mp hv
    obtain ⟨ds, hds, rfl⟩ := Option.map_eq_some_iff.mp hd
    obtain ⟨ds', h8, h9⟩ := rowR k q hq
    rw [hds] at h8
    cases h8
    exact h9)
  have I2 := I1.set hrows r
  rw [set_self_get h1] at I2
  refine ⟨S1, e1, ?_⟩
  unfold Gs.fz Gs.row
  split
  · rename_i i hi
    obtain ⟨q, hq, ho⟩ := h7 i hi
    obtain ⟨ds, h8, h9⟩ := rowR i q hq
    rw [h8]
    have I3 := I2.set h9 o
    rw [set_self_get ho] at I3
    exact I3
  · exact I2.forget o
structure CoZ where
  nx : Gs → Prop
  rt : D → Prop
abbrev WZ := Gs → (Exc → Prop) → CoZ → Prop
structure WayZ (K : PySem.W.Frag) (b : Bs) (r o : Nat) (S : Hp) (C : CoZ) (Dn : Ends) : Prop where
  nx : ∀ z' σ' S' H', Ex S S' → GridR K b r o S' z' σ' H' → C.nx z' → Dn.nx σ' H'
  rt : ∀ d v S' H', RetR K b S' H' v d → C.rt d → Dn.rt v H'
theorem WayZ.mono {S1 : Hp} {C : CoZ} {Dn : Ends} (h : WayZ K b r o S C Dn) (e : Ex S S1) : WayZ K b r o S1 C Dn := ⟨fun z' σ' S' H' e' => h.nx z' σ' S' H' (e.trans e'), h.rt⟩
def tZ (K : PySem.W.Frag) (b : Bs) (r o : Nat) (w : WZ) : TS := fun Dn σ H => ∃ S z C, GridR K b r o S z σ H ∧ w z b.EX C ∧ WayZ K b r o S C Dn
def MZ (X : Cx) (b : Bs) (r o : Nat) (s : Stmt) (w : WZ) : Prop := PS X s (tZ X.K b r o w)
def MZs (X : Cx) (b : Bs) (r o : Nat) (s : List Stmt) (w : WZ) : Prop := PSs X s (tZ X.K b r o w)
variable {s : Stmt} {ss body orelse : List Stmt} {u u1 u2 : WZ} {ta : WT} {e a c : Expr} {pos p p' : Pos} {x : Str} {wa wi wv : WE}
def zNext : WZ := fun z _ C => C.nx z
def zSeq (u1 u2 : WZ) : WZ := fun z EX C => u1 z EX { C with nx := fun z' => u2 z' EX C }
theorem mz_nil : MZs X b r o [] zNext := PSs.imp pss_nil fun Dn σ H ⟨S, z, C, I, hw, k⟩ => k.nx z σ S H (Ex.refl _) I hw
theorem mz_cons (h1 : MZ X b r o s u1) (h2 : MZs X b r o ss u2) : MZs X b r o (s :: ss) (zSeq u1 u2) := PSs.imp (pss_cons h1 h2) fun Dn σ H ⟨S, z, C, I, hw, k⟩ =>
  ⟨S, z, _, I, hw, fun z' σ' S' H' e I' h' => ⟨S', z', C, I', h', k.mono e⟩, k.rt⟩
theorem mz_one (h1 : MZ X b r o s u1) : MZs X b r o [s] u1 := pss_one h1
def zIf (r o : Nat) (t : WT) (u1 u2 : WZ) : WZ := fun z EX C => ∃ c0 : Bool, (t (z.fz r o) EX fun c => c = c0) ∧ if c0 = true then u1 z EX C else u2 z EX C
theorem mz_if (ht : MT X b e ta) (h1 : MZs X b r o body u1) (h2 : MZs X b r o orelse u2) : MZ X b r o (.If e body orelse pos) (zIf r o ta u1 u2) := PS.imp (ps_if ht h1 h2) fun Dn σ H ⟨S, z, C, I, ⟨c0, hw, hb⟩, k⟩ => by
  obtain ⟨S1, e1, I1⟩ := I.frz
  refine ⟨S1, _, _, I1, hw, fun x S2 H2 g2 hx => ?_⟩
  subst hx
  cases x with
  | true =>
    rw [if_pos rfl] at hb ⊢
    exact ⟨S, z, C, I.grow g2.h, hb, k⟩
  | false =>
    rw [if_neg Bool.false_ne_true] at hb ⊢
    exact ⟨S, z, C, I.grow g2.h, hb, k⟩
def zSet (r o : Nat) (wi wv : WE) : WZ := fun z EX C => ∃ (i : Nat) (ds : List D), z.oi = some i ∧ z.G[i]? = some ds ∧ wv (z.fz r o) EX fun d => ∃ n, d = .int n ∧ wi (z.fz r o) EX fun y => ∃ (k : Nat), y = .int k ∧ k < ds.length ∧ C.nx { z with G := z.G.set i (ds.set k (.int n)) }
theorem nodup_get {l : List Addr} (h : l.Nodup) {i j : Nat} {a : Addr} (hi : l[i]? = some a) (hj : l[j]? = some a) : i = j := by
  have h1 := (List.getElem?_eq_some_iff.mp hi)
  have h2 := (List.getElem?_eq_some_iff.mp hj)
  obtain ⟨l1, e1⟩ := h1
  obtain ⟨l2, e2⟩ := h2
  have hp := List.pairwise_iff_getElem.mp h
  rcases Nat.lt_trichotomy i j with c | c | c
  · exact absurd (e1.trans e2.symm) (hp i j l1 l2 c)
  · exact c
  · exact absurd (e2.trans e1.symm) (hp j i l2 l1 c)
theorem mz_set (hu : X.A.units + 64 < cLine) (hv : ME X b a wv) (hi : MO X b c wi) (hN : X.N[o]? = some x := by rfl) (hvi : Vis X.env.scope x := by first | exact Or.inl rfl | exact Or.inr (Or.inl rfl) | exact Or.inr (Or.inr rfl)) (hd : (x == ("__debug__" : Str)) = false := by decide)
    (hcd : (x == ("__classdict__" : Str)) = false := by decide)
    (hsub : ∀ v, assign (.Subscript (.Name x p') c p) X.env v = (do
      let ov ← holding [v] (eval (.Name x p') X.env)
      let iv ← holding [v, ov] (eval c X.env)
      standAt p
      holding [v, ov, iv] (setItem ov iv v)
      release [v, ov, iv] []) := by intro _; rfl)
    (hs : swapsWithSole [.Subscript (.Name x p') c p] a pos.line X.env = pure false := by rfl) (hw : swappedStores [.Subscript (.Name x p') c p] a X.env = pure none := by rfl)
    (h1 : (assignEach [.Subscript (.Name x p') c p] X.env).map (·.2) = [assign (.Subscript (.Name x p') c p) X.env] := by rfl) : MZ X b r o (.Assign [.Subscript (.Name x p') c p] a pos) (zSet r o wi wv) :=
  PS.imp (ps_asg hv (pg_sub (pe_var hN hvi hd hcd) hi (set_any (by omega)) hsub) hs hw h1) fun Dn σ H ⟨S, z, C, I, ⟨i, ds, hi, hG, hw⟩, k⟩ => by
    obtain ⟨S1, e1, I1⟩ := I.frz
    refine ⟨S1, _, _, I1, hw, fun d v S2 H2 g2 rv ⟨n, hn, hw2⟩ => ?_⟩
    subst hn
    cases rv
    have J := I.grow g2.h
    obtain ⟨p, qs, f1, f2, f3, f4, f5, f6, f7⟩ := J.grid
    obtain ⟨q, hq, hσ⟩ := f7 i hi
    refine ⟨_, hσ, S2, _, _, I1.grow g2, hw2, fun y u' S3 H3 g3 r3 h3 => ?_⟩
    obtain ⟨kk, rfl, hk, hC⟩ := h3
    obtain rfl := r3.int
    have J3 := J.grow g3.h
    obtain ⟨p2, qs2, m1, m2, m3, m4, m5, m6, m7⟩ := J3.grid
    obtain ⟨q2, hq2, hσ2⟩ := m7 i hi
    rw [hσ] at hσ2
    cases hσ2
    obtain ⟨xs, ds', a1, a2, a3⟩ := m6 i q hq2
    rw [hG] at a2
    cases a2
    refine .inl ⟨q, xs, _, kk, rfl, rfl, a1, by rw [a3.len]; exact Evl.ixN_nat hk, ?_⟩
    have hqm : q ∈ p2 :: qs2 := List.mem_cons_of_mem _ (List.mem_of_getElem? hq2)
    obtain ⟨q0, qS⟩ := m4 q hqm
    have pq : p2 ≠ q := fun z => (List.nodup_cons.mp m3).1 (by rw [z]; exact List.mem_of_getElem? hq2)
    refine k.nx { z with G := z.G.set i (ds.set kk (.int n)) } σ S _ (Ex.refl _) ⟨⟨fun a u e => ?_, fun a u e => ?_, J3.base.s0, J3.base.old, J3.base.len, fun j cc e => ?_, fun j1 j2 c1 c2 p _ hj _ oj _ _ _ => by rw [J3.nown j1 c1 hj] at oj; cases oj⟩, J3.nown, J3.hr, J3.ho, J3.ro, p2, qs2, m1, by rw [upd_ne pq]; exact m2, m3, m4, by rw [m5]; show z.G.length = (z.G.set i _).length; rw [List.length_set], fun k' q' hq' => ?_, fun i' hi' => ?_⟩ hC
    · rw [upd_ne (ne_of_none e qS)]; exact J3.base.sh a u e
    · rw [upd_ne (ne_of_none e q0)]; exact J3.base.h0 a u e
    · obtain ⟨v, hv, rv⟩ := J3.base.slot j cc e
      refine ⟨v, hv, ?_⟩
      unfold CellR at rv ⊢
      rw [J3.nown j cc e, if_neg Bool.false_ne_true] at rv ⊢
      exact rv
    · by_cases hk2 : i = k'
      · subst hk2
        rw [hq2] at hq'
        cases hq'
        exact ⟨_, _, upd_same, by show (z.G.set i _)[i]? = _; rw [List.getElem?_set_self (by rw [← m5]; exact (List.getElem?_eq_some_iff.mp hq2).1)], a3.set (.int n) kk⟩
      · have nq : q' ≠ q := fun z => by
          subst z
          exact hk2 (nodup_get (List.nodup_cons.mp m3).2 hq2 hq')
        obtain ⟨xs', ds', b1, b2, b3⟩ := m6 k' q' hq'
        exact ⟨xs', ds', by rw [upd_ne nq]; exact b1, by show (z.G.set i _)[k']? = _; rw [List.getElem?_set_ne hk2]; exact b2, b3⟩
    · exact m7 i' hi'
theorem map_ref_inj : ∀ {l l' : List Addr}, l.map V.ref = l'.map V.ref → l = l'
  | [], [], _ => rfl
  | [], _ :: _, h => by cases h
  | _ :: _, [], h => by cases h
  | a :: l, c :: l', h => by
    rw [List.map_cons, List.map_cons] at h
    injection h with h1 h2
    rw [V.ref.inj h1, map_ref_inj h2]
def zRow (r o : Nat) (wi : WE) : WZ := fun z EX C => wi (z.fz r o) EX fun y => ∃ i : Nat, y = .int i ∧ i < z.G.length ∧ C.nx { z with oi := some i }
/-- row = rows[i] -/
theorem mz_row {xr : Str} {pr : Pos} (hNd : X.N.Nodup) (hi : MO X b c wi) (hr : X.N[r]? = some xr := by rfl) (ho : X.N[o]? = some x := by rfl) (hvr : Vis X.env.scope xr := by first | exact Or.inl rfl | exact Or.inr (Or.inl rfl) | exact Or.inr (Or.inr rfl)) (hx : Loc X.env.scope x := by first | exact Or.inl rfl | exact Or.inr rfl)
    (hd : (xr == ("__debug__" : Str)) = false := by decide) (hcd : (xr == ("__classdict__" : Str)) = false := by decide) (hpl : PlainIx c := by intro _ _; rfl)
    (hs : swapsWith (.Subscript (.Name xr pr) c p) (some (.Name x p')) pos.line X.env = pure false := by rfl)
    (hf : X.fn x = true ∨ X.env.scope.names.lookup x = some .local := by first | exact .inl rfl | exact .inr rfl | assumption) : MZ X b r o (.Assign [.Name x p'] (.Subscript (.Name xr pr) c p) pos) (zRow r o wi) :=
  PS.imp (L2.ps_set hNd ho hx (pe_ix ix_seq (pe_var hr hvr hd hcd) hi hpl) hs hf) fun Dn σ H ⟨S, z, C, I, hw, k⟩ => by
    obtain ⟨S1, e1, I1⟩ := I.frz
    obtain ⟨p, qs, f1, f2, f3, f4, f5, f6, f7⟩ := I.grid
    refine ⟨_, f1, S1, _, _, I1, hw, fun y u' S2 H2 g2 ry ⟨i, hy, hil, hC⟩ => ?_⟩
    subst hy
    obtain rfl := ry.int
    have hq : ∃ q, qs[i]? = some q := ⟨qs[i]'(by omega), by simp⟩
    obtain ⟨q, hq⟩ := hq
    refine .inl ⟨p, qs.map V.ref, i, .ref q, rfl, rfl, sq_of (g2.h _ _ f2), L2.atI_nat (by rw [List.getElem?_map, hq]; rfl), ?_⟩
    have J := I.grow g2.h
    obtain ⟨p2, qs2, m1, m2, m3, m4, m5, m6, m7⟩ := J.grid
    rw [f1] at m1
    cases m1
    have eq2 : qs2 = qs := by
      have := g2.h _ _ f2
      rw [m2] at this
      have := HO.lst.inj (Option.some.inj this)
      exact map_ref_inj this
    subst eq2
    have hol : o < σ.length := by
      have h1 := J.base.len
      have h2 := (List.getElem?_eq_some_iff.mp J.ho).1
      omega
    refine k.nx { z with oi := some i } _ S _ (Ex.refl _) ⟨⟨J.base.sh, J.base.h0, J.base.s0, J.base.old, by rw [List.length_set]; exact J.base.len, fun j cc e => ?_, fun j1 j2 c1 c2 p _ hj _ oj _ _ _ => by rw [J.nown j1 c1 hj] at oj; cases oj⟩, J.nown, J.hr, J.ho, J.ro, p, qs2, by rw [List.getElem?_set_ne (Ne.symm J.ro)]; exact f1, m2, m3, m4, m5, m6, fun i' hi' => ?_⟩ hC
    · obtain ⟨v, hv, rv⟩ := J.base.slot j cc e
      have hjo : o ≠ j := fun h => by
        subst h
        have := J.ho
        have e' : z.δ[o]? = some (some cc) := e
        rw [this] at e'
        cases e'
      exact ⟨v, by rw [List.getElem?_set_ne hjo]; exact hv, rv⟩
    · cases hi'
      exact ⟨q, hq, List.getElem?_set_self hol⟩
def zRet (r o : Nat) : WZ := fun z _ C => C.rt (.lst (z.G.map D.lst))
theorem mz_ret (hf : b.fr = false) (hN : X.N[r]? = some x := by rfl) (hv : Vis X.env.scope x := by first | exact Or.inl rfl | exact Or.inr (Or.inl rfl) | exact Or.inr (Or.inr rfl)) (hd : (x == ("__debug__" : Str)) = false := by decide)
    (hcd : (x == ("__classdict__" : Str)) = false := by decide) : MZ X b r o (.Return (some (.Name x p)) pos) (zRet r o) := PS.imp (ps_ret (me_var (b := b) r hN hv hd hcd)) fun Dn σ H ⟨S, z, C, I, hw, k⟩ => by
  obtain ⟨S1, e1, I1⟩ := I.frz
  refine ⟨S1, _, C.rt, I1, ?_, fun d v S' H' gr rr hd => k.rt d v S' H' ((I1.grow gr).ret hf rr) hd⟩
  have hrl := (List.getElem?_eq_some_iff.mp I.hr).1
  have : (z.fz r o)[r]? = some (st (.lst (z.G.map D.lst))) := by
    unfold Gs.fz
    rw [List.getElem?_set_ne (Ne.symm I.ro), List.getElem?_set_self hrl]
  unfold wVar
  rw [this]
  exact hw
def zFor (wi : WI) (t : Nat) (u : WZ) : WZ := fun z EX C => wi z.δ EX fun items => ∃ M : Nat → Gs → Prop, M 0 z ∧
  (∀ (i : Nat) d z', items[i]? = some d → M i z' → u { z' with δ := z'.δ.set t (st d) } EX { C with nx := M (i + 1) }) ∧ ∀ z', M items.length z' → C.nx z'
theorem GridR.gr (I : GridR K b r o S z σ H) (gr : Grow S H S' H') : GridR K b r o S' z σ H' := by
  obtain ⟨p, qs, h1, h2, h3, h4, h5, h6, h7⟩ := I.grid
  have there : ∀ a ∈ p :: qs, ∃ u, H a = some u := fun a ha => by
    rcases List.mem_cons.mp ha with rfl | ha
    · exact ⟨_, h2⟩
    · obtain ⟨k, hk⟩ := List.mem_iff_getElem?.mp ha
      obtain ⟨xs, ds, e, _⟩ := h6 k a hk
      exact ⟨_, e⟩
  refine ⟨I.base.grow gr, I.nown, I.hr, I.ho, I.ro, p, qs, h1, gr.h _ _ h2, h3, fun a ha => ⟨(h4 a ha).1, ?_⟩, h5, fun k q hq => let ⟨xs, ds, a, b, c⟩ := h6 k q hq; ⟨xs, ds, gr.h _ _ a, b, c.mono gr.s⟩, h7⟩
  obtain ⟨u, hu⟩ := there a ha
  exact (gr.old a u hu).trans (h4 a ha).2
theorem wipe_one {σ σ' : L2.St} {t j : Nat} (h : L2.wipe σ' [t] = L2.wipe σ [t]) (hj : t ≠ j) : σ'[j]? = σ[j]? := by
  have e := congrArg (fun l => l[j]?) h
  simp only [L2.wipe] at e
  rw [List.getElem?_set_ne hj, List.getElem?_set_ne hj] at e
  exact e
theorem mz_for {tg : Expr} {wi : WI} (t : Nat) (hr : t ≠ r) (ho : t ≠ o) (hp : PassesOwn (model X.prog X.w) X.A X.env X.xe) (hc : X.calm = true) (hi : MI X b tg e wi) (hg : MG X b [t] tg (wgName t)) (hb : MZs X b r o body u) (hs : ∀ x, foldedSetIterable e X.env x = pure x := by intro _; rfl) :
    MZ X b r o (.For tg e body [] pos) (zFor wi t u) := PS.imp (ps_for hp hc hi hg hb hs) fun Dn σ H ⟨S, z, C, I, hw, k⟩ => by
  refine ⟨S, z.δ, _, I.base, hw, fun items J S1 H1 g1 yi ⟨M, m0, ms, md⟩ => ?_⟩
  refine ⟨fun i m σ' H' => m = items.length - i ∧ i ≤ items.length ∧ ∃ S' z', Ex S1 S' ∧ GridR X.K b r o S' z' σ' H' ∧ M i z', ⟨items.length, by simp, Nat.zero_le _, S1, z, Ex.refl _, I.gr g1, m0⟩, ?_⟩
  rintro i m σ' H' ⟨rfl, hi, S', z', e1, I', hm⟩
  by_cases hlt : i < items.length
  · refine .inr ⟨yi.go i S' H' e1 I'.base.sh hlt, fun σ2 H2 => ∃ S2 z2, Ex S1 S2 ∧ GridR X.K b r o S2 z2 σ2 H2 ∧ M (i + 1) z2, fun σ2 H2 ⟨S2, z2, e2, I2, h2⟩ => ⟨items.length - (i + 1), by omega, rfl, hlt, S2, z2, e2, I2, h2⟩, fun v H2 y => ?_⟩
    obtain ⟨d, S2, hd, g2, rv⟩ := yi.yld i S' H' v H2 hlt e1 I'.base.sh y
    have J2 := I'.gr g2
    refine ⟨S2, z'.δ, d, fun δ' => δ' = z'.δ.set t (st d), J2.base, rv, rfl, fun δ2 σ2 I2 e2 hδ => ?_⟩
    subst hδ
    obtain ⟨p, qs, h1, h2, h3, h4, h5, h6, h7⟩ := J2.grid
    refine ⟨S2, { z' with δ := z'.δ.set t (st d) }, _, ⟨I2, fun j cc e => ?_, by show (z'.δ.set t _)[r]? = _; rw [List.getElem?_set_ne hr]; exact J2.hr, by show (z'.δ.set t _)[o]? = _; rw [List.getElem?_set_ne ho]; exact J2.ho, J2.ro, p, qs, by rw [wipe_one e2 hr]; exact h1, h2, h3, h4, h5, h6, fun i' hi' => ?_⟩, ms i d z' hd hm,
      ⟨fun z3 σ3 S3 H3 e3 I3 hM => ⟨S3, z3, (e1.trans g2.s).trans e3, I3, hM⟩, k.rt⟩⟩
    · by_cases hj : t = j
      · subst hj
        have e' : (z'.δ.set t (st d))[t]? = some (some cc) := e
        have hl : t < z'.δ.length := by
          have := (List.getElem?_eq_some_iff.mp e').1
          rwa [List.length_set] at this
        rw [List.getElem?_set_self hl] at e'
        cases e'
        rfl
      · have e' : (z'.δ.set t (st d))[j]? = some (some cc) := e
        rw [List.getElem?_set_ne hj] at e'
        exact J2.nown j cc e'
    · obtain ⟨q, a1, a2⟩ := h7 i' hi'
      exact ⟨q, a1, by rw [wipe_one e2 ho]; exact a2⟩
  · have e2 : i = items.length := by omega
    subst e2
    exact .inl ⟨yi.stop _ S' H' e1 I'.base.sh (Nat.le_refl _), k.nx z' σ' S' H' (g1.s.trans e1) I' (md z' hm)⟩
end
end Mi
namespace Mi
open PySem L2 Evl PySem.Spec PyProof.Rows
section
variable {X : Cx} {b : Bs} {K : PySem.W.Frag} {g : G} {S S' H H' : Hp} {δ : Env} {σ : L2.St} {z : Gs} {r o : Nat} {a e tg : Expr} {ss : List Stmt} {u : WZ} {wi : WI} {wg : WG} {we : WE} {pos p : Pos}
theorem repA_ints : ∀ ns : List Int, RepA K g S (ns.map V.int) (ns.map D.int)
  | [] => .nil
  | n :: ns => .cons (.int n) (repA_ints ns)
def wInitZ (r o : Nat) (wi : WI) (wg : WG) (we : WE) (vs : List Nat) (u : WZ) : WS := fun δ EX C => wi δ EX fun items => items.length < 10000000 ∧ (∀ (i : Nat) (c : Cell), δ[i]? = some (some c) → c.own = false) ∧ δ[r]? = some none ∧ δ[o]? = some none ∧ r ≠ o ∧
  ∃ row : List Int, (∀ (i : Nat) (d : D) (R : D → Prop), items[i]? = some d → R (.lst (row.map D.int)) → wg d (wipeE δ vs) fun δ2 => we δ2 (fun _ => False) R) ∧ u ⟨δ, List.replicate items.length (row.map D.int), none⟩ EX ⟨fun _ => False, C.rt⟩
theorem mz_init {y : Str} {py spos : Pos} {scope : Scope} {own : List (Str × Nat)} (hc : X.calm = true) (hN : X.N.Nodup) (hi : MI X b tg e wi) (ok : BlkOk X.N X.env.scope scope own)
    (hg : ∀ (s : Shared) (H : Hp) (C : Addr) (cl : List (Str × Addr)) (fp : List Addr), MG (X.blk s H scope (compEnvC scope cl C X.env) fp) b.calm (own.map (·.2)) tg wg)
    (he : ∀ (s : Shared) (H : Hp) (C : Addr) (cl : List (Str × Addr)) (fp : List Addr), MF (X.blk s H scope (compEnvC scope cl C X.env) fp) b.calm a we) (hrest : MZs X b r o ss u)
    (hy : X.N[r]? = some y := by rfl) (hyl : X.env.scope.names.lookup y = some .local := by rfl)
    (hsw : swapsWith (.ListComp a [⟨tg, e, [], 0⟩] scope pos) (some (.Name y py)) spos.line X.env = pure true := by exact sw_true rfl rfl rfl (by decide +kernel)) (hs : ∀ x, foldedSetIterable e X.env x = pure x := by intro _; rfl) :
    MSs X b (.Assign [.Name y py] (.ListComp a [⟨tg, e, [], 0⟩] scope pos) spos :: ss) (wInitZ r o wi wg we (own.map (·.2)) u) :=
  PSs.imp (pss_cons (ps_setLc (g := tGt X.K b.calm (own.map fun (q : Str × Nat) => q.2) wg) (tt := tM X.K b.calm wYes) (te := tF X.K b.calm we) hc hN hy hyl hsw hi ok hg (fun _ _ _ _ _ => mts_nil) he hs) hrest) fun Dn σ H ⟨S, δ, C, I, hw, k⟩ => by
    refine ⟨S, δ, _, I, hw, fun items J S1 H1 g1 yi ⟨hl, hno, hr, ho, hro, row, hs, hu⟩ => ?_⟩
    intro Dl hD
    have J1 := I.grow g1
    refine ⟨fun i m H' => m = items.length - i ∧ i ≤ items.length ∧ ∃ qs : List Addr, Ex H1 H' ∧ H' Dl = some (.lst (qs.map V.ref)) ∧ (Dl :: qs).Nodup ∧ (∀ q ∈ qs, H1 q = none) ∧ qs.length = i ∧ ∀ q ∈ qs, H' q = some (.lst (row.map V.int)),
      ⟨items.length, by simp, Nat.zero_le _, [], Ex.new hD, upd_same, by simp, (fun q hq => by simp at hq), rfl, (fun q hq => by simp at hq)⟩, ?_⟩
    rintro i m H' ⟨rfl, hi, qs, eH, hDl, hnd, hf, hql, hqs⟩
    by_cases hlt : i < items.length
    · refine .inr ⟨yi.go i S1 H' (Ex.refl _) (g1.sh.trans eH) hlt, fun H2 => ∃ qs : List Addr, Ex H1 H2 ∧ H2 Dl = some (.lst (qs.map V.ref)) ∧ (Dl :: qs).Nodup ∧ (∀ q ∈ qs, H1 q = none) ∧ qs.length = i + 1 ∧ ∀ q ∈ qs, H2 q = some (.lst (row.map V.int)),
        fun H2 ⟨qs, z1, z2, z3, z4, z5, z6⟩ => ⟨items.length - (i + 1), by omega, rfl, hlt, qs, z1, z2, z3, z4, z5, z6⟩, fun v H2 y => ?_⟩
      obtain ⟨d, S2, hd, g2, rv⟩ := yi.yld i S1 H' v H2 hlt (Ex.refl _) (g1.sh.trans eH) y
      have J2 : StR X.K b.calm (wipeE δ (own.map (·.2))) (L2.wipe σ (own.map (·.2))) S2 H2 := (((J1.grow (Grow.keepS J1.sh eH)).grow g2).wipe _).calm
      refine ⟨S2, _, d, _, J2, rv, hs i d (fun y => y = .lst (row.map D.int)) hd rfl, fun δ2 σ2 I2 e2 h2 => ?_⟩
      refine ⟨by rw [e2]; exact wipe_wipe σ _, S2, δ2, fun c => c = true, I2, rfl, fun c S3 H3 g3 h3 => ?_⟩
      subst h3
      show (if true = true then _ else _)
      rw [if_pos rfl]
      refine ⟨S3, δ2, _, I2.grow g3, h2, fun yd q' S4 H4 g4 hq' sq' ow hyd => ?_⟩
      subst hyd
      obtain ⟨xs, hx, ra⟩ := ow
      obtain rfl := ints_of ra
      have e24 : Ex H2 H4 := g3.h.trans g4.h
      have eh4 : Ex H' H4 := g2.h.trans e24
      have h4D : H4 Dl = some (.lst (qs.map V.ref)) := eh4 _ _ hDl
      have h3D : H3 Dl = some (.lst (qs.map V.ref)) := g3.h _ _ (g2.h _ _ hDl)
      have nqD : q' ≠ Dl := fun z => by rw [z, h3D] at hq'; cases hq'
      have h3q : ∀ q ∈ qs, H3 q = some (.lst (row.map V.int)) := fun q hq => g3.h _ _ (g2.h _ _ (hqs q hq))
      have nqq : q' ∉ qs := fun z => by rw [h3q q' z] at hq'; cases hq'
      have hD0 : Dl ∉ qs := (List.nodup_cons.mp hnd).1
      refine ⟨qs.map V.ref, h4D, by rw [List.length_map]; exact lt_line (ltL (by omega)), qs ++ [q'], fun p u hp => ?_, by rw [upd_same, List.map_append]; rfl, ?_, fun q hq => ?_, by rw [List.length_append, hql]; rfl, fun q hq => ?_⟩
      · rw [upd_ne (ne_of_none hp hD)]
        exact eh4 _ _ (eH _ _ hp)
      · refine List.nodup_cons.mpr ⟨fun z => ?_, List.nodup_append.mpr ⟨(List.nodup_cons.mp hnd).2, by simp, fun a ha c hc => ?_⟩⟩
        · rcases List.mem_append.mp z with z | z
          · exact hD0 z
          · exact nqD (List.mem_singleton.mp z).symm
        · cases List.mem_singleton.mp hc
          exact fun z => nqq (by rw [← z]; exact ha)
      · rcases List.mem_append.mp hq with hq | hq
        · exact hf q hq
        · cases List.mem_singleton.mp hq
          exact none_of_ex (eH.trans (g2.h.trans g3.h)) hq'
      · rcases List.mem_append.mp hq with hq | hq
        · rw [upd_ne (fun z => hD0 (by rw [← z]; exact hq))]
          exact eh4 _ _ (hqs q hq)
        · cases List.mem_singleton.mp hq
          rw [upd_ne nqD]
          exact hx
    · have e2 : i = items.length := by omega
      subst e2
      refine .inl ⟨yi.stop _ S1 H' (Ex.refl _) (g1.sh.trans eH) (Nat.le_refl _), ?_⟩
      have hrl : r < σ.length := by
        have h1 := J1.len
        have h2 := (List.getElem?_eq_some_iff.mp hr).1
        omega
      have fr : ∀ a, H1 a = none → b.H0 a = none ∧ S1 a = none := fun a ha => ⟨none_of_ex J1.h0 ha, none_of_ex g1.sh ha⟩
      have J3 := J1.grow (Grow.keepS J1.sh eH)
      refine ⟨S1, ⟨δ, List.replicate items.length (row.map D.int), none⟩, _, ⟨⟨J3.sh, J3.h0, J3.s0, J3.old, by rw [List.length_set]; exact J3.len, fun j cc e => ?_, fun j1 j2 c1 c2 p _ hj _ oj _ _ _ => by rw [hno j1 c1 hj] at oj; cases oj⟩, hno, hr, ho, hro, Dl, qs, List.getElem?_set_self hrl, hDl, hnd, fun a ha => ?_, by rw [List.length_replicate]; exact hql, fun k' q hq => ?_, fun i' hi' => by cases hi'⟩, hu, ⟨fun _ _ _ _ _ _ z => z.elim, k.rt⟩⟩
      · obtain ⟨v, hv, rv⟩ := J3.slot j cc e
        have hjr : r ≠ j := fun h => by
          subst h
          rw [hr] at e
          cases e
        exact ⟨v, by rw [List.getElem?_set_ne hjr]; exact hv, rv⟩
      · rcases List.mem_cons.mp ha with rfl | ha
        · exact fr _ hD
        · exact fr _ (hf a ha)
      · have hk := (List.getElem?_eq_some_iff.mp hq).1
        exact ⟨_, _, hqs q (List.mem_of_getElem? hq), by rw [List.getElem?_replicate, if_pos (by omega)], repA_ints row⟩
end
end Mi
namespace Mi
open PySem L2 Evl PySem.Spec PyProof.Rows
/-! ### enumerate(text) -/
def Ites (x : Str) : It :=
  ⟨fun i _ => i < x.cps.size, fun i H v H' => ∃ T c, v = .ref T ∧ H T = none ∧ H' = upd H T (.tup [.int (i : Nat), .str ⟨#[c]⟩]) ∧ x.cps[i]? = some c, fun i _ => x.cps.size ≤ i⟩
theorem draws_text {prog : Program} {w : World} {A : Around} (hh : A.handled = none) {ty : String} (hty : ty = "str_ascii_iterator" ∨ ty = "str_iterator") (it : Addr) (x : Str) (t : Tok) :
    Draws prog w A it [it] x.cps.size (SignAt x) (fun i h => h.IsStrIter it ty x t i) := by
  rcases hty with e | e
  · rw [e]; exact Draws.strAscii hh it x t
  · rw [e]; exact Draws.strWide hh it x t
theorem next_text_end {prog : Program} {w : World} {A : Around} {E : Value → Shared → Prop} {s : Shared} {Q : Value → Shared → Prop} (hh : A.handled = none) {ty : String} (hty : ty = "str_ascii_iterator" ∨ ty = "str_iterator") {it : Addr} {x : Str} {t : Tok} {i : Nat} (hit : s.heap.IsStrIter it ty x t i) (hx : x.cps[i]? = none)
    (hE : ∀ h' e, Heap.ExtBut it s.heap h' → (∃ o, h'.get? e = some o ∧ o.cls = .type "StopIteration") → E (.ref e) { s with heap := h' }) : wpAny (model prog w) A (Builtin.SmallTypes.nextOf (.ref it)) Q E s := by
  rcases hty with e | e
  · subst e; exact wpAny_nextOf_ascii_end hh hit hx hE
  · subst e; exact wpAny_nextOf_wide_end hh hit hx hE
theorem enumS_end {prog : Program} {w : World} {A : Around} {E : Value → Shared → Prop} {s : Shared} {Q : Option Value → Shared → Prop} {e it : Addr} {k : Int} {old : Value} (hh : A.handled = none) {ty : String} (hty : ty = "str_ascii_iterator" ∨ ty = "str_iterator") {x : Str} {t : Tok} {i : Nat}
    (he : IsEnum s.heap e it k old) (hit : s.heap.IsStrIter it ty x t i) (hx : x.cps[i]? = none) (hQ : ∀ h', Heap.ExtBut it s.heap h' → Q none { s with heap := h' }) : wpAny (model prog w) A (pyNext (.ref e)) Q E s := by
  have D : Draws prog w A.in1 it [it] i (fun _ _ => False) (fun j h => j = i ∧ h.IsStrIter it ty x t i) := {
    live := fun _ _ st => let ⟨_, o, ho, _⟩ := st; ⟨o, ho⟩
    frame := fun _ _ _ st hk => let ⟨j, o, ho, r⟩ := st; ⟨j, o, hk it (by simp) o ho, r⟩
    item := fun j s Q E hj st _ => absurd st.1 (Nat.ne_of_lt hj)
    done := fun s Q E st hE => next_text_end (A := A.in1) hh hty st.2 hx hE }
  exact wpAny_pyNext_enum_endD D he ⟨rfl, hit⟩ hQ
theorem turn_enumS {P : Program} {w : World} {K : PySem.W.Frag} {elts : List Expr} {kk : Nat} {tpos : Pos} (e it : Addr) (x : Str) (t : Tok) (ty : String) (hty : ty = "str_ascii_iterator" ∨ ty = "str_iterator") :
    Turn P w K (.Tuple elts kk tpos) (Ites x) [e, it] e (fun i h => (∃ old, IsEnum h e it ((i : Nat) : Int) old) ∧ h.IsStrIter it ty x t i ∧ e ≠ it) where
  mem := by simp
  obj := fun i h st b hb => by
    obtain ⟨⟨old, he⟩, ⟨o, ho, hc, hd⟩, _⟩ := st
    rcases (by simpa using hb : b = e ∨ b = it) with rfl | rfl
    · exact ⟨_, he, fun v q => nomatch q⟩
    · exact ⟨o, ho, fun v q => by rw [hd] at q; cases q⟩
  keep := fun i h h' st k => let ⟨⟨old, he⟩, ⟨o, ho, q⟩, hne⟩ := st; ⟨⟨old, k e (by simp) _ he⟩, ⟨o, k it (by simp) o ho, q⟩, hne⟩
  item := by
    intro X hP hw hK hc i pins s σ H E I hf st hg
    subst hP hw hK
    obtain ⟨⟨old, he⟩, hit, hne⟩ := st
    have hel : e < s.heap.objs.size := Heap.lt_size he
    have hil : it < s.heap.objs.size := by obtain ⟨_, q, _⟩ := hit; exact Heap.lt_size q
    have D : Draws X.prog X.w X.A.in1 it [it] x.cps.size (SignAt x) (fun i h => h.IsStrIter it ty x t i) := draws_text (A := X.A.in1) (I.ok.hd hc) hty it x t
    refine wpAny_pyNext_enum_itemD D he hit hg hne (by simpa using hne) fun u h' tk hu ho hit' hT hsz hk => ?_
    obtain ⟨c, tu, hcx, rfl⟩ := hu
    refine ⟨_, rfl, wpAny_letOwnedTupleGo_enum (s := { s with heap := h', toks := tk + 1 }) ho fun h'' he' sb => ?_⟩
    have hT2 : h''.get? s.heap.objs.size = some { cls := .type "tuple", data := .seq #[.int i tk, .str ⟨#[c]⟩ tu] } := (sb.2 _ (Nat.ne_of_gt hel)).trans hT
    have new : ObjOk X.prog X.w (upd H s.heap.objs.size (.tup [.int (i : Nat), .str ⟨#[c]⟩])) h'' s.heap.objs.size (.tup [.int (i : Nat), .str ⟨#[c]⟩]) :=
      ⟨by show 2 ≤ sizeLine; decide, [.int i tk, .str ⟨#[c]⟩ tu], .cons ⟨_, rfl⟩ (.cons ⟨_, rfl⟩ .nil), ⟨_, hT2, rfl, _, rfl⟩⟩
    have I1 : Inv X pins σ (upd H s.heap.objs.size (.tup [.int (i : Nat), .str ⟨#[c]⟩])) { s with heap := h'', toks := tk + 1 } :=
      I.turnedNew (ch := [e, it]) (fun b ob hb q => (sb.2 b (fun z => hb (by simp [z]))).trans (hk b ob (fun z => hb (by simp [z])) (fun z => hb (by simp [z])) q)) hf (Nat.le_refl _) new
    refine ⟨.ref s.heap.objs.size, _, I1, rfl, ⟨_, c, rfl, I.hok.fresh (Nat.le_refl _), rfl, hcx⟩, ⟨⟨.str ⟨#[c]⟩ tu, ?_⟩, ?_, hne⟩, fun b hb => ?_⟩
    · have e1 : ((i + 1 : Nat) : Int) = (i : Int) + 1 := by omega
      rw [e1]; exact he'
    · obtain ⟨o, ho2, q⟩ := hit'
      exact ⟨o, (sb.2 it (Ne.symm hne)).trans ho2, q⟩
    · have hb' : b < s.heap.objs.size := by
        rcases (by simpa using hb : b = e ∨ b = it) with z | z
        · rw [z]; exact hel
        · rw [z]; exact hil
      rw [upd_ne (Nat.ne_of_lt hb')]
      exact (hf b hb).1
  done := by
    intro X hP hw hK hc i pins s σ H E I hf st hg
    subst hP hw hK
    obtain ⟨⟨old, he⟩, hit, hne⟩ := st
    obtain ⟨f0, f1, f2, f3, f4, f5⟩ := hf it (by simp)
    exact enumS_end (I.ok.hd hc) hty he hit (Array.getElem?_eq_none hg) fun h' eb => ⟨rfl, I.turned (t' := s.toks) (fun b o hb q => eb b o (by simpa using hb) q) f0 f1 f3 f4 f5⟩
  self := fun A i s Q E st h => let ⟨⟨_, he⟩, _⟩ := st; wpAny_pyIter_enum he h
def iEnumS (ta : TA) : TI := fun σ H R => ta σ H fun vs H1 => ∃ x, vs = [.str x] ∧ R (Ites x) H1
theorem ty_text (x : Str) : strIterType x = "str_ascii_iterator" ∨ strIterType x = "str_iterator" := by
  unfold strIterType; split
  · exact .inl rfl
  · exact .inr rfl
theorem pi_enumS {X : Cx} {e : Expr} {ta : TA} {p pos tpos : Pos} {elts : List Expr} {kk : Nat} (hg : Gl X "enumerate") (hm : X.mg "enumerate" = none) (ha : PA X [e] ta) (hs : starEach [e] X.env = [(false, eval e X.env)] := by rfl) :
    PI X (.Tuple elts kk tpos) (.Call (.Name "enumerate" p) [e] [] pos) (iEnumS ta) := by
  refine ⟨fun pins s σ H R I h => ?_⟩
  refine Call_ (ld_blt I hg hm boot_enumerate (PyProof.Rows.callWith_type1 (thn (ha.run pos pins s σ H _ I h) fun us s1 ⟨vs, H1, I1, r1, x, ex, q⟩ => ?_) hs rfl))
  subst ex
  cases r1 with
  | cons r rr =>
    cases rr
    obtain ⟨t, rfl⟩ := r
    refine call_enumerate_str fun h' he hit hsz hk => wpAny_pyIter_enum he ?_
    have I2 : Inv X pins σ H1 { s1 with heap := h' } := I1.kept (t' := s1.toks) hk
    refine ⟨s1.heap.objs.size + 1, [s1.heap.objs.size + 1, s1.heap.objs.size], _, _, H1, rfl, I2, turn_enumS (s1.heap.objs.size + 1) s1.heap.objs.size x t (strIterType x) (ty_text x), ⟨⟨.none, he⟩, hit, Nat.succ_ne_self _⟩, fun b hb => ?_, q⟩
    have hle : s1.heap.objs.size ≤ b := by
      rcases (by simpa using hb : b = s1.heap.objs.size + 1 ∨ b = s1.heap.objs.size) with z | z
      · rw [z]; exact Nat.le_add_right _ _
      · rw [z]; exact Nat.le_refl _
    exact I1.fpOk hle (I1.hok.fresh hle)
def wEnumS (wa : WE) : WI := fun δ EX P => wa δ EX fun x => match x with
  | .str s => P (enumD (signs s))
  | _ => False
section
variable {X : Cx} {b : Bs} {K : PySem.W.Frag} {g : G} {S H : Hp} {a : Expr} {wa : WE} {p pos tpos : Pos}
theorem yi_enumS {x : Str} : Yi K g (Ites x) (enumD (signs x)) S where
  go := fun i S' H' e1 e2 h => by
    rw [enumD_len] at h
    show i < x.cps.size
    simpa [signs] using h
  yld := fun i S' H' v H2 h e1 e2 ⟨T, c, hv, hT, hH, hc⟩ => by
    subst hv hH
    have hg : (signs x)[i]? = some (.str ⟨#[c]⟩) := by
      unfold signs
      rw [List.getElem?_map, Array.getElem?_toList, hc]; rfl
    refine ⟨_, upd S' T (.tup [.int (i : Nat), .str ⟨#[c]⟩]), enumD_get hg, Grow.new e2 hT, ?_⟩
    exact .tup (st_of upd_same) (.cons (.int _) (.cons (.str _) .nil))
  stop := fun i S' H' e1 e2 h => by
    rw [enumD_len] at h
    show x.cps.size ≤ i
    simpa [signs] using h
theorem mi_enumS {elts : List Expr} {kk : Nat} (hg : Gl X "enumerate") (hm : X.mg "enumerate" = none) (ha : ME X b a wa) (hs : starEach [a] X.env = [(false, eval a X.env)] := by rfl) : MI X b (.Tuple elts kk tpos) (.Call (.Name "enumerate" p) [a] [] pos) (wEnumS wa) :=
  PI.imp (pi_enumS hg hm (pa_cons ha pa_nil hs) hs) fun σ H R ⟨S, δ, P, I, hw, k⟩ => by
    refine ⟨S, δ, _, I, hw, fun x v S1 H1 g1 r h1 => ?_⟩
    split at h1
    · cases r
      exact ⟨_, rfl, k _ _ S1 H1 g1 yi_enumS h1⟩
    · exact h1.elim
end
end Mi
namespace Mi
open PySem L2 Evl PySem.Spec PyProof.Rows
section
variable {X : Cx} {b : Bs} {K : PySem.W.Frag} {g : G} {S H : Hp} {a : Expr} {wa : WE} {p p2 pos pos2 : Pos}
/-! ### list(range(n)) -/
def wListR (wa : WE) : WE := fun δ EX P => wa δ EX fun x => match x with
  | .int j => 0 ≤ j ∧ j ≤ 16777216 ∧ P (.lst (rangeD 0 j.toNat))
  | _ => False
theorem mf_listR (hc : X.calm = true) (hm : X.mg "list" = none) (hm2 : X.mg "range" = none) (hg : Gl X "list") (hg2 : Gl X "range") (ha : MO X b a wa) (na : starEach [a] X.env = (false, eval a X.env) :: starEach [] X.env := by rfl)
    (na2 : starEach [.Call (.Name "range" p2) [a] [] pos2] X.env = (false, eval (.Call (.Name "range" p2) [a] [] pos2) X.env) :: starEach [] X.env := by rfl) : MF X b (.Call (.Name "list" p) [.Call (.Name "range" p2) [a] [] pos2] [] pos) (wListR wa) :=
  PE.imp (pe_listRg hc hg hm (prg_1 hg2 hm2 ha na) na2) fun σ H Q ⟨S, δ, P, I, hw, k⟩ => by
    refine ⟨S, δ, _, I, hw, fun x v S1 H1 g1 r1 h1 => ?_⟩
    split at h1
    · rename_i j
      obtain rfl := r1.int
      obtain ⟨h0, h2, hP⟩ := h1
      refine ⟨j, rfl, RgOk.of_le (by omega) h2 (by omega) h0, fun q hq => ?_⟩
      refine k (.lst (rangeD 0 j.toNat)) q S1 _ (g1.trans (Grow.newO g1.sh hq)) (none_of_ex g1.h hq) (none_of_ex g1.sh hq) ⟨_, upd_same, ?_⟩ hP
      have e : rgV 0 j = (List.range j.toNat).map fun k : Nat => V.int (0 + (k : Int)) := by unfold rgV; rw [Int.sub_zero]
      rw [e]
      refine repA_get (by simp [rangeD]) fun k v d hv hd => ?_
      unfold rangeD at hd
      rw [List.getElem?_map] at hv hd
      obtain ⟨n, hn, rfl⟩ := Option.map_eq_some_iff.mp hv
      rw [hn] at hd
      cases hd
      exact .int _
    · exact h1.elim
end
end Mi
namespace Mi
open PySem L2 Evl PySem.Spec PyProof.Rows
section
variable {X : Cx} {b : Bs} {K : PySem.W.Frag} {g : G} {S H : Hp} {a : Expr} {wa : WE} {p pos : Pos}
/-! ### sorted of texts -/
theorem RepA.strs : ∀ {vs : List V} {xs : List Str}, RepA K g S vs (xs.map D.str) → vs = xs.map V.str
  | [], [], _ => rfl
  | _, [], .nil => rfl
  | _, _ :: _, .cons h r => by cases h; rw [List.map_cons, r.strs]
theorem RepA.ofStrs : ∀ xs : List Str, RepA K g S (xs.map V.str) (xs.map D.str)
  | [] => .nil
  | _ :: xs => .cons (.str _) (RepA.ofStrs xs)
def qSortS (x : D) (P : D → Prop) : Prop := match x with
  | .lst ds => ∃ xs : List Str, ds = xs.map D.str ∧ xs.length < 64 ∧ ∀ ys : List Str, ys.Perm xs → sortedS ys = true → P (.lst (ys.map .str))
  | .dic kvs => ∃ ks : List Str, kvs.map (·.1) = ks.map Sum.inr ∧ ks.length < 64 ∧ ∀ ys : List Str, ys.Perm ks → sortedS ys = true → P (.lst (ys.map .str))
  | _ => False
theorem CallR.or {f : Value} {r r' : List V → Hp → VK → Prop} (h : CallR X f r) (h' : CallR X f r') : CallR X f (fun xs H Q => r xs H Q ∨ r' xs H Q) :=
  fun pins s σ H xs us Q I rv q => q.elim (fun z => h pins s σ H xs us Q I rv z) fun z => h' pins s σ H xs us Q I rv z
def rSortTxt (K : PySem.W.Frag) : List V → Hp → VK → Prop := fun xs H Q => rSortedS K xs H Q ∨ ∃ (a : Addr) (kvs : List (Key × V)) (ks : List Str), xs = [.ref a] ∧ Rd H a (.dK kvs) ∧ kvs.map (·.1) = ks.map Sum.inr ∧ ks.length < 64 ∧
    ∀ ys p, ys.Perm ks → sortedS ys = true → H p = none → Q (.ref p) (upd H p (.lst (ys.map V.str)))
theorem b1_sortS : B1F K g (rSortTxt K) qSortS := by
  intro S H x v P Q e rv hq k
  unfold qSortS at hq
  split at hq
  · obtain ⟨p, xs, rfl, hx, ra⟩ := rv.lst e
    obtain ⟨zs, rfl, h64, h⟩ := hq
    obtain rfl := ra.strs
    exact .inl ⟨p, zs, rfl, sq_of hx, h64, fun ys q hp hs hn => k (.lst _) q S _ (Grow.newO e hn) hn (none_of_ex e hn) ⟨_, upd_same, RepA.ofStrs ys⟩ (h ys hp hs)⟩
  · obtain ⟨p, xs, rfl, hx, ra⟩ := rv.dic e
    obtain ⟨ks, hk, h64, h⟩ := hq
    exact .inr ⟨p, xs, ks, rfl, Rd.of hx, ra.keys.trans hk, h64, fun ys q hp hs hn => k (.lst _) q S _ (Grow.newO e hn) hn (none_of_ex e hn) ⟨_, upd_same, RepA.ofStrs ys⟩ (h ys hp hs)⟩
  · exact hq.elim
theorem mf_sortS (hcm : X.calm = true) (hm : X.mg "sorted" = none) (hg : Gl X "sorted") (ha : MO X b a wa) (hs : starEach [a] X.env = (false, eval a X.env) :: starEach [] X.env := by rfl) (hpl : (backTo pos (starEach [] X.env)).any (·.1) = false := by rfl) : MF X b (.Call (.Name "sorted" p) [a] [] pos) (wUn qSortS wa) :=
  mf_b1 (CallR.or cr_sortedS (call_sortedD hcm)) b1_sortS hg hm (by rfl) ha (by decide) (by decide) hs hpl
end
end Mi
/-! a set of texts, made of a list, sorted -/
namespace Mi
open PySem L2 Evl PySem.Spec PyProof.Rows
open PySem.Froz (TxOk SD sObj tailTx addTx add_ok add_x is_str get_upd)
structure TxR (P : Program) (w : World) (D : SD) (l : List Str) : Prop where
  ok : TxOk P w D l
  nd : l.Nodup
  ris : Ris D.2.2.place.toList
  led : w.params.followText "set-order" = true ∨ D.2.2.led = true
section
variable {P : Program} {w : World} {A : Around} {E : Value → Shared → Prop} {s : Shared}
theorem tailTx_ris {ep : Nat} {es1 : Array (Int × Value)} {t2 : SetTable} {wd : Bool} (r : Ris t2.place.toList) : Ris (tailTx ep es1 t2 wd).2.2.place.toList := by
  unfold tailTx
  split
  · exact relayAll_ris t2 es1 _
  · exact r
theorem tailTx_led {ep : Nat} {es1 : Array (Int × Value)} {t2 : SetTable} {wd : Bool} : (tailTx ep es1 t2 wd).2.2.led = t2.led := by
  unfold tailTx
  split
  · exact relayAll_led t2 es1 _
  · rfl
theorem TxR.add {D : SD} {l : List Str} {k : Str} (u : Tok) (F : TxR P w D l) (hk : k ∉ l) : TxR P w (addTx (hashStr w k) (.str k u) D) (k :: l) where
  ok := add_ok u F.ok
  nd := List.nodup_cons.mpr ⟨hk, F.nd⟩
  ris := by
    refine tailTx_ris ?_
    have q := layNew_ris D.2.2 D.1 (hashStr w k) (.str k u) F.ris
    split <;> exact q
  led := F.led.imp id fun z => by
    unfold addTx
    rw [tailTx_led]
    have q := layNew_led D.2.2 D.1 (hashStr w k) (.str k u)
    split <;> exact q.trans z
theorem TxR.fresh : TxR P w (#[], 0, .fresh 0 0 (!w.params.followText "set-order")) [] where
  ok := TxOk.nil rfl
  nd := List.nodup_nil
  ris := List.Pairwise.nil
  led := by
    show _ ∨ (!w.params.followText "set-order") = true
    cases w.params.followText "set-order"
    · exact .inr rfl
    · exact .inl rfl
/-- what is in it already changes nothing -/
theorem add_old {a : Addr} {T : String} {D : SD} {l : List Str} {k : Str} {u : Tok} {Q : Bool → Shared → Prop} (ho : s.heap.get? a = some (sObj T D)) (F : TxOk P w D l) (hk : k ∈ l) (hb : l.length < scanBound)
    (h : Q false s) : wpAny (model P w) A (setAddHashed a (.str k u) (hashStr w k)) Q E s := by
  obtain ⟨es, ep, t⟩ := D
  have hd : (sObj T (es, ep, t)).data = .set es ep t := rfl
  have hf : t.fits es.size = true := F.fit
  have hel : ElemsOf (strKind P w) es.toList := F.el
  have hsz : es.size = l.length := F.sz
  have hkey : (strKind P w).is k (.str k u) = true := is_str k u
  unfold setAddHashed setAddHashedIn
  refine wpAny_holding (wpAny_bind (wpAny_setState_of ho hd hf ?_))
  dsimp only
  rw [byScan_of rfl (by omega) hel]
  simp only [↓reduceIte]
  unfold setAddByScan
  refine wpAny_bind ?_
  refine wpAny_bind (wpAny_rule ?_)
  refine wpAny_bind (wpAny_setScan_of (knd := strKind P w) (k := k) hkey ho hd hf hel ?_)
  cases hfi : List.findIdx? (fun e => (strKind P w).is k e.2) es.toList with
  | some j =>
    dsimp only
    exact wpAny_pure (wpAny_pure h)
  | none =>
    obtain ⟨e, he, q⟩ := (F.mem k).mp hk
    have c := List.findIdx?_eq_none_iff.mp hfi e he
    rw [q] at c
    cases c
/-- set.update's loop over texts -/
theorem set_update_txt {I : Addr} {fp wr : List Addr} {G : Array GenState → Array GenState → Prop} {n : Nat} {Pv : Nat → Value → Prop} {St : Nat → Shared → Prop} {R : Result → Shared → Prop}
    (W : WalksS P w A.in1 I fp wr G n Pv St) (S : Addr) (hSf : S ∉ fp) (xs : List Str) (hn : n = xs.length) (hfew : xs.length + 1 < scanBound) (hval : ∀ i v, Pv i v → ∃ x t, xs[i]? = some x ∧ v = .str x t) :
    ∀ (k i : Nat) (s : Shared), n - i = k → i ≤ n → St i s → (∃ D l, s.heap.get? S = some (sObj "set" D) ∧ TxR P w D l ∧ l.length ≤ i ∧ ∀ x, x ∈ l ↔ x ∈ xs.take i) →
      (∀ s' D l, Moved (S :: wr) G s s' → s'.heap.get? S = some (sObj "set" D) → TxR P w D l → l.length ≤ n → (∀ x, x ∈ l ↔ x ∈ xs) → R (.ok (.ret .none)) s') →
      codeAny (model P w) A (.builtin "set.update.loop" ⟨[.ref S, .ref I], []⟩) R s := by
  have hSw : S ∉ wr := fun h => hSf (W.sub _ h)
  have hsub : ∀ b ∈ wr, b ∈ S :: wr := fun b hb => List.mem_cons_of_mem _ hb
  intro k
  induction k with
  | zero =>
    intro i s hk' hi hst ⟨D, l, hS, Z, hl, hm0⟩ hR
    have hin : i = n := by omega
    subst hin
    refine codeAny_builtin F.entry_set_update_loop ?_
    rw [Around.under_plainId F.plain_set_update_loop _]
    show wpAny _ A.in1 (pyNext (.ref I) >>= _) _ _ s
    refine wpAny_bind (W.done s _ _ hst fun s' hm => ?_)
    show wpAny _ A.in1 (ret Value.none) _ _ s'
    refine wpAny_pure (hR s' D l (hm.mono hsub) (hm.heap S _ hSw hS) Z hl fun x => ?_)
    rw [hm0 x, hn, List.take_length]
  | succ k ih =>
    intro i s hk' hi hst ⟨D, l, hS, Z, hl, hm0⟩ hR
    have hlt : i < n := by omega
    refine codeAny_builtin F.entry_set_update_loop ?_
    rw [Around.under_plainId F.plain_set_update_loop _]
    show wpAny _ A.in1 (pyNext (.ref I) >>= _) _ _ s
    refine wpAny_bind (W.item i s _ _ hlt hst fun v s' hP hst' hm => ?_)
    obtain ⟨x, t, hx, rfl⟩ := hval i v hP
    have hS' := hm.heap S _ hSw hS
    have htk : ∀ y, y ∈ xs.take (i + 1) ↔ y ∈ xs.take i ∨ y = x := fun y => by
      rw [List.take_succ, hx]; simp
    show wpAny _ A.in1 (holding [Value.str x t] (setAdd S (.str x t)) >>= _) _ _ s'
    refine wpAny_bind (wpAny_holding ?_)
    unfold setAdd
    refine wpAny_holding ?_
    refine wpAny_bind ((strKind P w).pyHash (k := x) (is_str x t) ?_)
    show wpAny _ A.in1 (setAddHashed S (.str x t) (hashStr w x)) _ _ _
    by_cases c : x ∈ l
    · refine add_old (s := { s' with toks := s'.toks + 1 }) hS' Z.ok c (by omega) ?_
      refine wpAny_pure ⟨plainId_quiet F.plain_set_update_loop _, ih (i + 1) _ (by omega) hlt (W.frame _ s' _ _ hst' (Nat.le_succ _) fun b hb o e => e) ⟨D, l, hS', Z, by omega, fun y => ?_⟩ fun s'' D2 l2 hm'' hS'' Z'' hl'' g'' => ?_⟩
      · rw [htk, hm0]
        exact ⟨.inl, fun z => z.elim id fun z => by rw [z, ← hm0]; exact c⟩
      · exact hR s'' D2 l2 (Moved.trans W.gtrans ((hm.mono hsub).then_heap (Nat.le_succ _) fun b o hb e => e) hm'') hS'' Z'' hl'' g''
    · refine add_x (s := { s' with toks := s'.toks + 1 }) hS' Z.ok c (by omega) ?_
      have sb : ∀ b, b ≠ S → (s'.heap.update S (fun _ => sObj "set" (addTx (hashStr w x) (.str x t) D))).get? b = s'.heap.get? b := fun b hb => (Heap.SameBut.update s'.heap S _).2 b hb
      refine wpAny_pure ⟨plainId_quiet F.plain_set_update_loop _, ih (i + 1) _ (by omega) hlt (W.frame _ s' _ _ hst' (Nat.le_succ _) fun b hb o e => ?_) ⟨_, x :: l, get_upd _ hS' rfl, Z.add t c, by rw [List.length_cons]; omega, fun y => ?_⟩ fun s'' D2 l2 hm'' hS'' Z'' hl'' g'' => ?_⟩
      · rw [sb b (fun h : b = S => hSf (by rw [← h]; exact hb))]; exact e
      · rw [htk, List.mem_cons, hm0]; exact Or.comm
      · refine hR s'' D2 l2 (Moved.trans W.gtrans ((hm.mono hsub).then_heap (Nat.le_succ _) fun b o hb e => ?_) hm'') hS'' Z'' hl'' g''
        rw [sb b (fun h : b = S => hb (by rw [h]; exact List.mem_cons_self))]; exact e
set_option maxHeartbeats 3200000 in
/-- set(xs), xs a list of texts -/
theorem call_set_txt {l : Addr} {items : Array Value} (xs : List Str) {Q : Value → Shared → Prop} (hh : A.handled = none) (hl : s.heap.IsList l items) (hit : StrsAre items.toList xs) (hfew : xs.length + 1 < scanBound)
    (h : ∀ (h' : Heap) (tk : Nat) D L, h'.get? s.heap.objs.size = some (sObj "set" D) → TxR P w D L → L.length ≤ xs.length → (∀ x, x ∈ L ↔ x ∈ xs) → (∀ b o, s.heap.get? b = some o → h'.get? b = some o) → Q (.ref s.heap.objs.size) { s with heap := h', toks := tk }) :
    wpAny (model P w) A (call (.type "set") [.ref l]) Q E s := by
  have hisz : items.size = xs.length := by rw [← Array.length_toList]; exact hit.length
  obtain ⟨c, tl, hmro⟩ := F.called_set.mro
  have hmade := F.called_set.made
  have hsub := F.called_set.sub
  refine wpAny_call (codeAny_of_tree ?_)
  show wpAny _ _ (callAny (.type "set") _) _ _ _
  refine wpAny_pure ⟨Code.quiet_builtin _ (by decide +kernel), codeAny_builtin F.entry_type_call ?_⟩
  rw [Around.under_plain (weight_type_call_type "set" [.ref l] []) rfl]
  have h1 := F.called_set.notType
  have h2 := F.called_set.canCreate
  have hct := F.typeCall_set_1 (.ref l)
  repeat (any_goals (first | assumption | wp_step))

  refine codeAny_mono (code_set_led1 (.ref l) (E := E) (Q₁ := fun obj s₁ => obj = .ref s.heap.objs.size ∧ s₁ = { s with heap := s.heap.push { cls := .type "set", dict := none, data := .set #[] 0 (.fresh 0 0 (!w.params.followText "set-order")) } }) ⟨rfl, rfl⟩) fun r s₁ hr => ?_
  cases r with
  | error e => exact hr
  | ok fl =>
    cases fl with
    | ret obj =>
      obtain ⟨rfl, rfl⟩ := hr
      have hS : (s.heap.push { cls := .type "set", dict := none, data := .set #[] 0 (.fresh 0 0 (!w.params.followText "set-order")) }).get? s.heap.objs.size = some { cls := .type "set", dict := none, data := .set #[] 0 (.fresh 0 0 (!w.params.followText "set-order")) } := Heap.get?_push_size _ rfl
      have hT : Shared.TypeIs { s with heap := s.heap.push { cls := .type "set", dict := none, data := .set #[] 0 (.fresh 0 0 (!w.params.followText "set-order")) } } (.ref s.heap.objs.size) "set" := ⟨_, hS, rfl⟩
      have hli := F.called_set.init.lookup
      have hbi := F.called_set.init.bind (.ref s.heap.objs.size)
      repeat (any_goals (first | assumption | wp_step))

      refine codeAny_mono (codeAny_call_builtin (R := wants (fun r s₂ => r = .none ∧ ∃ h' tk D L, s₂ = { s with heap := h', toks := tk } ∧ h'.get? s.heap.objs.size = some (sObj "set" D) ∧ TxR P w D L ∧ L.length ≤ xs.length ∧ (∀ x, x ∈ L ↔ x ∈ xs) ∧
          (∀ b o, s.heap.get? b = some o → h'.get? b = some o)) E) F.called_set.init.plain F.entry_set_init (check_set_init_1 hT ?_)) fun r₂ s₂ hr₂ => ?_
      · obtain ⟨ol, hol, hcl, nl, hdl⟩ := hl
        obtain ⟨ocls, odict, odata, oslots⟩ := ol
        simp only at hcl hdl
        subst hcl; subst hdl
        have hol' : (s.heap.push { cls := .type "set", dict := none, data := .set #[] 0 (.fresh 0 0 (!w.params.followText "set-order")) }).get? l = some { cls := .type "list", dict := odict, data := .seq items nl, slots := oslots } := Heap.get?_push_of_some _ hol
        have hsls := F.sub_list_set
        have hslf := F.sub_list_frozenset
        have hne : (Value.type "list" == Value.type "dict") = false := by decide
        have hl1 : (s.heap.push { cls := .type "set", dict := none, data := .set #[] 0 (.fresh 0 0 (!w.params.followText "set-order")) }).IsList l items := ⟨_, hol', rfl, nl, rfl⟩
        unfold Builtin.«set.__init__» noKeywords Builtin.Frozenset.updateFrom
        generalize hPI : pyIter = PI
        wp_walk
        subst hPI

        refine wpAny_pyIter_list hl1 ?_
        refine wpAny_bind (wpAny_runValue ?_)
        have hlS : l < s.heap.objs.size := Heap.lt_size hol
        have hh3 : A.in1.in1.in1.handled = none := by simp [hh]
        have hneI : l ≠ (s.heap.push { cls := .type "set", dict := none, data := .set #[] 0 (.fresh 0 0 (!w.params.followText "set-order")) }).objs.size := by
          rw [Heap.size_push]; exact Nat.ne_of_lt (Nat.lt_succ_of_lt hlS)
        have hSf : s.heap.objs.size ∉ [(s.heap.push { cls := .type "set", dict := none, data := .set #[] 0 (.fresh 0 0 (!w.params.followText "set-order")) }).objs.size, l] := by
          rw [Heap.size_push]; simp only [List.mem_cons, List.mem_singleton, List.not_mem_nil, or_false, not_or]
          exact ⟨Nat.ne_of_lt (Nat.lt_succ_self _), Nat.ne_of_gt hlS⟩
        have hval : ∀ (i : Nat) (v : Value), items[i]? = some v → ∃ x t, xs[i]? = some x ∧ v = .str x t := fun i v hv => by
          have q : items.toList[i]? = some v := by rw [Array.getElem?_toList]; exact hv
          obtain ⟨t, e⟩ := SS.strs_at hit i v q
          have hi : i < xs.length := by
            have z := (List.getElem?_eq_some_iff.mp q).1
            rw [Array.length_toList, hisz] at z
            exact z
          refine ⟨xs[i], t, List.getElem?_eq_getElem hi, ?_⟩
          rw [e, List.getD_eq_getElem?_getD, List.getElem?_eq_getElem hi] <;> rfl
        refine set_update_txt ((Walks.list hh3 _ l hneI items).toS) s.heap.objs.size
          hSf xs hisz hfew hval (items.size - 0) 0 _ (by omega) (Nat.zero_le _)
          ⟨⟨_, Heap.get?_push_size _ rfl, rfl, rfl⟩, (hl1.push _)⟩ ?hS0 ?hR
        case hS0 =>
          have hget : ((s.heap.push { cls := .type "set", dict := none, data := .set #[] 0 (.fresh 0 0 (!w.params.followText "set-order")) }).push { cls := .type "list_iterator", data := .fields #[.ref l, .int 0 0] }).get? s.heap.objs.size
              = some { cls := .type "set", dict := none, data := .set #[] 0 (.fresh 0 0 (!w.params.followText "set-order")) } := Heap.get?_push_of_some _ hS
          exact ⟨(#[], 0, .fresh 0 0 (!w.params.followText "set-order")), [], hget, TxR.fresh, Nat.le_refl _, fun x => by simp⟩
        case hR =>
          intro s' D L hm hS' Z' hl' g'
          obtain ⟨h', g2, d', tk', os'⟩ := s'
          have eg : g2 = s.gens := hm.gens
          have ed : d' = s.drawn := hm.drawn
          have eo : os' = s.os := hm.os
          subst eg; subst ed; subst eo
          show wpAny _ _ _ _ _ _
          refine wpAny_pure ?_
          show wpAny _ _ (ret Value.none) _ _ _
          refine wpAny_pure ⟨rfl, h', tk', D, L, rfl, hS', Z', by omega, g', fun b o e => ?_⟩
          have hb : b < s.heap.objs.size := Heap.lt_size e
          refine hm.heap b o (fun hb' => ?_) (Heap.get?_push_of_some _ (Heap.get?_push_of_some _ e))
          rcases List.mem_cons.mp hb' with z | z
          · exact absurd hb (by rw [z]; exact Nat.lt_irrefl _)
          · have z := List.mem_singleton.mp z
            rw [Heap.size_push] at z
            exact absurd hb (by rw [z]; exact Nat.not_lt_of_le (Nat.le_succ _))

      · cases r₂ with
        | error e => exact hr₂
        | ok fl₂ =>
          cases fl₂ with
          | ret r =>
            obtain ⟨rfl, h', tk, D, L, rfl, hS', Z', hl', g', hk'⟩ := hr₂
            repeat (any_goals (first | assumption | wp_step))
            exact h _ _ _ _ hS' Z' hl' g' hk'
          | _ => exact hr₂.elim
    | _ => exact hr.elim
end
end Mi
namespace Mi
open PySem L2 Evl PySem.Spec PyProof.Rows
open PySem.Froz (TxOk SD sObj tailTx addTx add_ok add_x is_str get_upd)
section
variable {P : Program} {w : World} {A : Around} {E : Value → Shared → Prop} {s : Shared}
theorem el_strs : ∀ {es : List (Int × Value)}, ElemsOf (strKind P w) es → ∃ ks : List Str, StrsAre (es.map (·.2)) ks ∧ ∀ k, k ∈ ks ↔ ∃ e ∈ es, (strKind P w).is k e.2 = true
  | [], _ => ⟨[], .nil, fun k => by simp⟩
  | e :: es, h => by
    obtain ⟨ks, r, m⟩ := el_strs (es := es) fun x hx => h x (List.mem_cons_of_mem _ hx)
    obtain ⟨⟨k, hk, _⟩, _⟩ := h e List.mem_cons_self
    obtain ⟨t, ev⟩ := Value.isStrOf_shape (x := k) (v := e.2) hk
    refine ⟨k :: ks, by rw [List.map_cons, ev]; exact .cons _ _ r, fun j => ?_⟩
    rw [List.mem_cons, m]
    constructor
    · rintro (z | ⟨x, hx, q⟩)
      · exact ⟨e, List.mem_cons_self, by rw [z]; exact hk⟩
      · exact ⟨x, List.mem_cons_of_mem _ hx, q⟩
    · rintro ⟨x, hx, q⟩
      rcases List.mem_cons.mp hx with z | z
      · rw [z] at q
        exact .inl ((strKind P w).inj _ j k q hk)
      · exact .inr ⟨x, z, q⟩
theorem strs_perm : ∀ {us vs : List Value}, us.Perm vs → ∀ {ks : List Str}, StrsAre vs ks → ∃ js, StrsAre us js ∧ js.Perm ks := by
  intro us vs h
  induction h with
  | nil => intro ks r; exact ⟨ks, r, .refl _⟩
  | cons x _ ih =>
    intro ks r
    cases r with
    | cons n t r => obtain ⟨js, a, b⟩ := ih r; exact ⟨n :: js, .cons _ _ a, b.cons _⟩
  | swap x y l =>
    intro ks r
    cases r with
    | cons n t r => cases r with
      | cons n2 t2 r => exact ⟨n2 :: n :: _, .cons _ _ (.cons _ _ r), .swap ..⟩
  | trans _ _ ih1 ih2 =>
    intro ks r
    obtain ⟨js, a, b⟩ := ih2 r
    obtain ⟨is, c, d⟩ := ih1 a
    exact ⟨is, c, d.trans b⟩
theorem perm_of_sub {α : Type} [DecidableEq α] : ∀ {l ks : List α}, l.Nodup → (∀ x ∈ l, x ∈ ks) → ks.length ≤ l.length → l.Perm ks
  | [], ks, _, _, h => by
    have e : ks = [] := List.length_eq_zero_iff.mp (Nat.le_zero.mp h)
    rw [e]
  | x :: l, ks, hn, hs, hl => by
    obtain ⟨h1, h2⟩ := List.nodup_cons.mp hn
    have hx : x ∈ ks := hs x List.mem_cons_self
    refine ((perm_of_sub h2 (ks := ks.erase x) (fun y hy => ?_) ?_).cons x).trans (List.perm_cons_erase hx).symm
    · exact (List.mem_erase_of_ne (fun e : y = x => h1 (e ▸ hy))).mpr (hs y (List.mem_cons_of_mem _ hy))
    · rw [List.length_erase_of_mem hx]
      rw [List.length_cons] at hl
      omega
theorem sorted_txt {a : Addr} {D : SD} {l : List Str} {Q : Value → Shared → Prop} (ho : s.heap.get? a = some (sObj "set" D)) (R : TxR P w D l) (hh : A.handled = none) (h64 : l.length < 64)
    (hQ : ∀ s' p (out : Array Value) (c : Nat) (ys : List Str), (∀ b o, s.heap.get? b = some o → s'.heap.get? b = some o) → s'.gens = s.gens → s'.os = s.os → s.heap.objs.size ≤ p →
      s'.heap.get? p = some (seqObj "list" out c) → StrsAre out.toList ys → ys.Perm l → sortedS ys = true → Q (.ref p) s') :
    wpAny (model P w) A (call (.builtin "sorted") [.ref a]) Q E s := by
  obtain ⟨es, ep, t⟩ := D
  obtain ⟨F9, nd, hr, hl⟩ := R
  have hn : es.size = l.length := F9.sz
  refine Calls.call_function_entry kind_sorted plain_sorted entry_sorted (args_sorted1 _) ?_
  unfold Builtin.«sorted»
  refine wpAny_bind (m := checkCount "sorted" 1 1 _) (wpAny_pure ?_)
  refine wpAny_bind (collect_set (A := A.in1) hh ⟨_, ho, rfl, rfl⟩ F9.fit (by rw [hn]; exact Nat.lt_trans h64 (by decide)) hr hl fun s1 vs k1 hz g1 o1 pm => ?_)
  obtain ⟨ks, rk, mk⟩ := el_strs (P := P) (w := w) F9.el
  have hkl : ks.length = l.length := by rw [← rk.length, List.length_map, Array.length_toList]; exact hn
  have pk : ks.Perm l := (perm_of_sub nd (fun x hx => (mk x).mpr ((F9.mem x).mp hx)) (by omega)).symm
  obtain ⟨js, hS, pj⟩ := strs_perm pm rk
  have hvl : vs.length < 64 := by rw [hS.length, pj.length_eq, hkl]; exact h64
  refine wpAny_bind (wpAny_newList ?_ (by rw [sizeLine_eq]; omega))
  have hoL : (s1.heap.push (seqObj "list" vs.toArray 0)).get? s1.heap.objs.size = some (seqObj "list" vs.toArray 0) := Heap.get?_push_size _ rfl
  refine wpAny_bind (wpAny_holding (wpAny_call_entry slot_list_sort ⟨_, hoL, rfl⟩ entry_list_sort
    (list_sort_treeK strKind_oneLt (s := { s1 with heap := s1.heap.push (seqObj "list" vs.toArray 0) }) hoL hS.keysOf (fun v₁ v₂ rest e => keyKind_strs (by rw [← e]; exact hS)) hvl fun st' hp hs => ⟨_, rfl, ?_⟩)
    (args_list_sort _)))
  obtain ⟨ys, a1, a2, a3⟩ := sorted_out_str hS hp hs
  obtain ⟨c, hc⟩ := sortedHeap_at (vs := vs) (out := (arrOf st').map (·.2)) hoL
  refine wpAny_pure ⟨_, rfl, hQ _ s1.heap.objs.size _ c ys (fun b u e => ?_) g1 o1 hz hc a1 (a2.trans (pj.trans pk)) a3⟩
  have q := k1 b u e
  have hlt := Heap.lt_size q
  show (sortedHeap (s1.heap.push (seqObj "list" vs.toArray 0)) s1.heap.objs.size vs _).get? b = some u
  rw [sortedHeap_old (Nat.ne_of_lt hlt) (by rw [size_push']; exact Nat.lt_succ_of_lt hlt)]
  exact Heap.get?_push_of_some _ q
end
end Mi
namespace Mi
open PySem L2 Evl PySem.Spec PyProof.Rows
open PySem.Froz (TxOk SD sObj tailTx addTx add_ok add_x is_str get_upd)
def SetX0 (P : Program) (w : World) (h : Heap) (a : Addr) (l : List Str) : Prop := ∃ D, h.get? a = some (sObj "set" D) ∧ TxR P w D l
def SetXO (P : Program) (w : World) (a : Addr) (l : List Str) : HO := .ext fun h => SetX0 P w h a l
theorem setXO_new {P : Program} {w : World} {H : Hp} {h : Heap} {a : Addr} {l : List Str} (R : SetX0 P w h a l) : ObjOk P w H h a (SetXO P w a l) := by
  have ⟨D, ho, q⟩ := R
  refine ⟨R, ⟨_, ho⟩, fun h1 h2 p k => ?_⟩
  have ⟨D', ho', q'⟩ := p
  exact ⟨D', k _ ho', q'⟩
section
variable {X : Cx} {b : Bs} {K : PySem.W.Frag} {g : G} {a : Expr} {wa : WE} {p p2 pos pos2 : Pos}
def rSetX (K : PySem.W.Frag) (P : Program) (w : World) : List V → Hp → VK → Prop := fun vs H Q => ∃ (l : Addr) (xs : List Str), vs = [V.ref l] ∧ SqL K H l (xs.map V.str) ∧ xs.length < 64 ∧
  ∀ a L, H a = none → L.length ≤ xs.length → (∀ x, x ∈ L ↔ x ∈ xs) → L.Nodup → Q (.ref a) (upd H a (SetXO P w a L))
theorem cr_setX (hc : X.calm = true) : CallR X (.type "set") (rSetX X.K X.prog X.w) := by
  intro pins s σ H xs us Q I r h
  obtain ⟨l, zs, rfl, hl, hf, q⟩ := h
  rw [Vals.ref1 r]
  obtain ⟨its, rv, pl, hz⟩ := I.list hl
  have hn : H s.heap.objs.size = none := I.hok.fresh (Nat.le_refl _)
  refine call_set_txt (P := X.prog) (w := X.w) zs (I.ok.hd hc) pl.isList rv.strs (Nat.lt_of_le_of_lt hf (by decide)) fun h' tk D L ho R hl hm k => ?_
  exact ⟨.ref s.heap.objs.size, upd H s.heap.objs.size (SetXO X.prog X.w s.heap.objs.size L), I.laid (t' := tk) k (Nat.le_refl _) (setXO_new ⟨D, ho, R⟩), rfl, q _ L hn hl hm R.nd⟩
def rSortX (P : Program) (w : World) : List V → Hp → VK → Prop := fun vs H Q => ∃ (a : Addr) (L : List Str), vs = [V.ref a] ∧ H a = some (SetXO P w a L) ∧ L.length < 64 ∧
  ∀ (ys : List Str) (p : Addr), ys.Perm L → sortedS ys = true → H p = none → Q (.ref p) (upd H p (.lst (ys.map V.str)))
theorem cr_sortX (hc : X.calm = true) : CallR X (.builtin "sorted") (rSortX X.prog X.w) := by
  intro pins s σ H vs us Q I r h
  obtain ⟨a, L, rfl, ha, h64, q⟩ := h
  obtain ⟨D, ho, R⟩ : SetX0 X.prog X.w s.heap a L := (I.hok a _ ha).1
  rw [Vals.ref1 r]
  refine sorted_txt ho R (I.ok.hd hc) h64 fun s' p out c ys k g o hp hg hi pm hs => ?_
  have hlen : (ys.map V.str).length ≤ sizeLine := by rw [List.length_map, pm.length_eq, sizeLine_eq]; omega
  have hn : H p = none := I.hok.fresh hp
  have J : Inv X pins σ (upd H p (.lst (ys.map V.str))) { s with heap := s'.heap, gens := s'.gens, drawn := s'.drawn, toks := s'.toks } :=
    I.call (ch := []) (Un.laid k hp hn) (I.hok.laid k hp ⟨hlen, out.toList, c, vals_of_strs hi, hg⟩) (by rw [g]; exact I.bare) (fun _ z => nomatch z)
  have e : s' = { s with heap := s'.heap, gens := s'.gens, drawn := s'.drawn, toks := s'.toks } := by
    cases s'
    cases s
    cases o
    rfl
  rw [e]
  exact ⟨.ref p, _, J, rfl, q ys p pm hs hn⟩
end
end Mi
namespace Mi
open PySem L2 Evl PySem.Spec PyProof.Rows
section
variable {X : Cx} {b : Bs} {K : PySem.W.Frag} {g : G} {a : Expr} {wa : WE} {p p2 pos pos2 : Pos}
/-- sorted(set(xs)), xs texts -/
def qSortX (x : D) (P : D → Prop) : Prop := match x with
  | .lst ds => ∃ xs : List Str, ds = xs.map D.str ∧ xs.length < 64 ∧ ∀ ys : List Str, ys.Nodup → (∀ x, x ∈ ys ↔ x ∈ xs) → sortedS ys = true → P (.lst (ys.map .str))
  | _ => False
theorem mf_sortX (hcm : X.calm = true) (hm : X.mg "sorted" = none) (hm2 : X.mg "set" = none) (hg : Gl X "sorted") (hg2 : Gl X "set") (ha : MO X b a wa) (hs : starEach [a] X.env = (false, eval a X.env) :: starEach [] X.env := by rfl) (hpl : (backTo pos2 (starEach [] X.env)).any (·.1) = false := by rfl)
    (hs2 : starEach [.Call (.Name "set" p2) [a] [] pos2] X.env = (false, eval (.Call (.Name "set" p2) [a] [] pos2) X.env) :: starEach [] X.env := by rfl) (hpl2 : (backTo pos (starEach [] X.env)).any (·.1) = false := by rfl) :
    MF X b (.Call (.Name "sorted" p) [.Call (.Name "set" p2) [a] [] pos2] [] pos) (wUn qSortX wa) :=
  PE.imp (pe_callB (cr_sortX hcm) hg hm (by rfl) (pa_cons (pe_callTy (cr_setX hcm) hg2 hm2 (by rfl) (paO ha hs) (by decide) (by decide) hs hpl) pa_nil hs2) (by decide) (by decide) hs2 hpl2) fun σ H Q ⟨S, δ, P, I, hw, k⟩ => by
    refine ⟨S, δ, _, I, hw, fun x v S1 H1 g1 r1 h1 => ?_⟩
    unfold qSortX at h1
    split at h1
    · obtain ⟨q, vs, rfl, hx, ra⟩ := r1.lst g1.sh
      obtain ⟨zs, rfl, h64, h⟩ := h1
      obtain rfl := ra.strs
      refine ⟨q, zs, rfl, sq_of hx, h64, fun a L ha hl hm nd => ?_⟩
      refine ⟨a, L, rfl, upd_same, by omega, fun ys c pm so hc => ?_⟩
      have g2 := Grow.newO (o := SetXO X.prog X.w a L) g1.sh ha
      have g3 := g2.trans (Grow.newO (o := .lst (ys.map V.str)) g2.sh hc)
      exact k (.lst _) c S1 _ (g1.trans g3) (none_of_ex (g1.h.trans g2.h) hc) (none_of_ex g2.sh hc) ⟨_, upd_same, RepA.ofStrs ys⟩ (h ys (pm.nodup_iff.mpr nd) (fun x => pm.mem_iff.trans (hm x)) so)
    · exact h1.elim
end
end Mi
namespace Mi
open PySem L2 Evl PySem.Spec PyProof.Rows
section
variable {X : Cx} {b : Bs} {K : PySem.W.Frag} {g : G} {o a : Expr} {wo wa : WE} {p pos apos : Pos}
/-- sep.join(xs) -/
def qJoin (s : Str) (y : D) (P : D → Prop) : Prop := match y with
  | .lst ds => ∃ ys : List Str, ds = ys.map D.str ∧ (ys.map (·.length)).sum + ys.length * s.length ≤ 16777216 ∧ P (.str (Txt.join s ys))
  | .tup ds => ∃ ys : List Str, ds = ys.map D.str ∧ (ys.map (·.length)).sum + ys.length * s.length ≤ 16777216 ∧ P (.str (Txt.join s ys))
  | _ => False
def wJoin (wo wa : WE) : WE := fun δ EX P => wo δ EX fun x => match x with
  | .str s => wa δ EX fun y => qJoin s y P
  | _ => False
theorem me_join (ho : ME X b o wo) (ha : MO X b a wa) (hs : starEach [a] X.env = [(false, eval a X.env)] := by rfl) (hbase : attributeBase o "join" X.env (eval o X.env) = eval o X.env := by rfl) (hline : (apos.endLine == pos.line) = true := by rfl) :
    ME X b (.Call (.Attribute o "join" apos) [a] [] pos) (wJoin wo wa) :=
  PE.imp (pe_join ho ha hs hbase hline) fun σ H Q ⟨S, δ, P, I, hw, k⟩ => by
    refine ⟨S, δ, _, I, hw, fun x v S1 H1 g1 r1 h1 => ?_⟩
    split at h1
    · cases r1
      refine ⟨⟨_, rfl⟩, S1, δ, _, I.grow g1, h1, fun y u S2 H2 g2 r2 h2 => ?_⟩
      unfold qJoin at h2
      split at h2
      · obtain ⟨q, vs, rfl, hx, ra⟩ := r2.lst g2.sh
        obtain ⟨ys, rfl, hz, h⟩ := h2
        obtain rfl := ra.strs
        exact ⟨_, q, ys, rfl, rfl, .inl (sq_of hx), hz, k _ _ S2 H2 (g1.trans g2) (.str _) h⟩
      · obtain ⟨q, vs, rfl, hx, _, ra⟩ := r2.tup g2.sh
        obtain ⟨ys, rfl, hz, h⟩ := h2
        obtain rfl := ra.strs
        exact ⟨_, q, ys, rfl, rfl, .inr hx, hz, k _ _ S2 H2 (g1.trans g2) (.str _) h⟩
      · exact h2.elim
    · exact h1.elim
end
end Mi
/-! sorted of pairs (a number, a text) -/
namespace Mi
open PySem L2 Evl PySem.Spec PyProof.Rows
def IsPairS (h : Heap) (v : Value) (x : Int) (y : Str) : Prop := ∃ a o t u n, v = .ref a ∧ h.get? a = some o ∧ o.cls = .type "tuple" ∧ o.data = .seq #[.int x t, .str y u] n
theorem IsPairS.keeps {h h' : Heap} {v : Value} {x : Int} {y : Str} (p : IsPairS h v x y) (k : ∀ b o, h.get? b = some o → o.cls = .type "tuple" → h'.get? b = some o) : IsPairS h' v x y := by
  obtain ⟨a, o, t, u, n, e, ho, hc, hd⟩ := p
  exact ⟨a, o, t, u, n, e, k _ _ ho hc, hc, hd⟩
theorem firstsS {h : Heap} : ∀ {vs : List Value}, (∀ v ∈ vs, ∃ x y, IsPairS h v x y) → ∃ fs : List Value, PySem.W.KatTups h vs fs ∧ fs.length = vs.length ∧ ∀ f ∈ fs, ∃ x t, f = Value.int x t
  | [], _ => ⟨[], PySem.W.KatTups.nil, rfl, fun _ hm => by simp at hm⟩
  | v :: vs, hp => by
    obtain ⟨fs, h1, h2, h3⟩ := firstsS (vs := vs) fun v' hm => hp v' (List.mem_cons_of_mem _ hm)
    obtain ⟨x, y, a, o, t, u, n, e, ho, hc, hd⟩ := hp v (List.mem_cons_self ..)
    subst e
    refine ⟨.int x t :: fs, PySem.W.KatTups.cons ho hc hd rfl h1, by rw [List.length_cons, List.length_cons, h2], fun f hm => ?_⟩
    rcases List.mem_cons.mp hm with e | e
    · exact ⟨x, t, e⟩
    · exact h3 f e
/-- by the number, then by the text -/
def lexS (p q : Int × Str) : Bool := if p.1 = q.1 then decide (p.2.cps.toList < q.2.cps.toList) else decide (p.1 < q.1)
theorem lexS_iff {p q : Int × Str} : lexS p q = true ↔ p.1 < q.1 ∨ (p.1 = q.1 ∧ p.2.cps.toList < q.2.cps.toList) := by
  unfold lexS
  by_cases e : p.1 = q.1
  · rw [if_pos e, decide_eq_true_eq]
    exact ⟨fun h => .inr ⟨e, h⟩, fun h => h.elim (fun z => absurd e (by omega)) fun z => z.2⟩
  · rw [if_neg e, decide_eq_true_eq]
    exact ⟨.inl, fun h => h.elim id fun z => absurd z.1 e⟩
theorem lexS_no {p q : Int × Str} : lexS p q = false ↔ ¬ (p.1 < q.1 ∨ (p.1 = q.1 ∧ p.2.cps.toList < q.2.cps.toList)) := by
  rw [← lexS_iff]
  cases lexS p q <;> simp
theorem swo_lexS {α : Type} (k : α → Int × Str) : SrtO.Swo fun v u => lexS (k v) (k u) := by
  refine ⟨fun x y h => ?_, fun z y x h2 h1 => ?_⟩
  · have a := lexS_iff.mp h
    refine lexS_no.mpr fun c => ?_
    rcases a with a | ⟨a, a'⟩
    · rcases c with c | ⟨c, c'⟩ <;> omega
    · rcases c with c | ⟨c, c'⟩
      · omega
      · exact absurd c' (List.lt_asymm a')
  · have a := lexS_no.mp h1
    have c := lexS_no.mp h2
    refine lexS_no.mpr fun d => ?_
    by_cases e1 : (k x).1 = (k y).1
    · by_cases e2 : (k y).1 = (k z).1
      · have l1 : ¬ (k x).2.cps.toList < (k y).2.cps.toList := fun z => a (.inr ⟨e1, z⟩)
        have l2 : ¬ (k y).2.cps.toList < (k z).2.cps.toList := fun z => c (.inr ⟨e2, z⟩)
        have l3 : ¬ (k x).2.cps.toList < (k z).2.cps.toList := List.le_trans l2 l1
        rcases d with d | ⟨_, d⟩
        · omega
        · exact l3 d
      · have : ¬ (k y).1 < (k z).1 := fun z => c (.inl z)
        rcases d with d | ⟨d, _⟩ <;> omega
    · have h3 : ¬ (k x).1 < (k y).1 := fun z => a (.inl z)
      have h4 : ¬ (k y).1 < (k z).1 := fun z => c (.inl z)
      rcases d with d | ⟨d, _⟩ <;> omega
end Mi
namespace Mi
open PySem L2 Evl PySem.Spec PyProof.Rows SrtO
section
variable {prog : Program} {w : World} {A : Around} {E : Value → Shared → Prop} {s : Shared}
theorem pairS_cmp {vs : List Value} {k : Value → Int × Str} (hp : ∀ v ∈ vs, IsPairS s.heap v (k v).1 (k v).2) : Cmp prog w A s (tuples' true) (fun p => p.1 ∈ vs) (lt2 fun v u => lexS (k v) (k u)) := by
  intro p q hm hm'
  have h1 := hp _ hm
  have h2 := hp _ hm'
  show wpAny (model prog w) A (keyLt' (tuples' true) p.1 q.1) (fun r s' => s' = s ∧ r = lexS (k p.1) (k q.1)) (fun _ _ => False) s
  unfold lexS
  generalize (k p.1).1 = x at h1 ⊢
  generalize (k p.1).2 = y at h1 ⊢
  generalize (k q.1).1 = x' at h2 ⊢
  generalize (k q.1).2 = y' at h2 ⊢
  obtain ⟨a, o, t, u, n, e, ho, hc, hd⟩ := h1
  obtain ⟨a', o', t', u', n', e', ho', hc', hd'⟩ := h2
  rw [e, e']
  refine PySem.W.kat_lt ho hd ho' hd' ?_
  show PySem.W.KatLex prog w A true (decide (2 < 2)) _ [(.int x t, .int x' t'), (.str y u, .str y' u')] 0 s
  refine PySem.W.kat_cons (SeqAt.EqAt.int_int x t x' t' prog w _ _ ?_)
  refine PySem.W.kat_go (fun e1 => ?_) (fun e1 => ?_)
  · have ex : x = x' := by simpa using e1
    refine PySem.W.kat_yes (PySem.W.kat_cons (SeqAt.EqAt.str_str y u y' u' prog w _ _ ?_))
    refine PySem.W.kat_go (fun e2 => ?_) (fun e2 => ?_)
    · have ey : y = y' := by simpa using e2
      have e3 : (if x = x' then decide (y.cps.toList < y'.cps.toList) else decide (x < x')) = false := by
        rw [if_pos ex, ey]
        exact decide_eq_false (List.lt_irrefl _)
      exact PySem.W.kat_yes (PySem.W.kat_nil ⟨rfl, e3.symm⟩)
    · have e3 : (if x = x' then decide (y.cps.toList < y'.cps.toList) else decide (x < x')) = decide (y.cps.toList < y'.cps.toList) := if_pos ex
      refine PySem.W.kat_no (PySem.W.kat_one _ _ (lt_str ?_))
      exact (show s = s ∧ _ = (if x = x' then decide (y.cps.toList < y'.cps.toList) else decide (x < x')) from ⟨rfl, e3.symm⟩)
  · have ex : ¬ x = x' := by simpa using e1
    have e3 : (if x = x' then decide (y.cps.toList < y'.cps.toList) else decide (x < x')) = decide (x < x') := if_neg ex
    exact PySem.W.kat_no (oneLt_int ⟨rfl, e3.symm⟩)
theorem pairsS_sortable {a : Addr} {vs : List Value} {k : Value → Int × Str} (h0 : 0 < vs.length) (hp : ∀ v ∈ vs, IsPairS s.heap v (k v).1 (k v).2) (ha : ∀ o, s.heap.get? a = some o → o.cls ≠ .type "tuple") : SortableO prog w A s a vs fun v u => lexS (k v) (k u) := by
  intro h' keep
  have hp' : ∀ v ∈ vs, IsPairS h' v (k v).1 (k v).2 := fun v hm => (hp v hm).keeps fun b o e c => keep b o (fun z => by subst z; exact ha o e c) e
  obtain ⟨fs, h1, h2, h3⟩ := firstsS fun v hm => ⟨_, _, hp' v hm⟩
  refine ⟨tuples' true, fun Q E hq => ?_, pairS_cmp hp'⟩
  refine PySem.W.kat_kind (T := .type "int") h1 (by omega) (fun f hm => ?_) (by rfl) ?_
  · obtain ⟨x, t, rfl⟩ := h3 f hm
    exact PySem.W.Looks.now
  · have e : (Value.type "int" != Value.type "tuple") = true := by first | decide +kernel | rfl | decide
    rw [e]
    exact hq
end
end Mi
namespace Mi
open PySem L2 Evl PySem.Spec PyProof.Rows SrtO
section
variable {prog : Program} {w : World} {A : Around} {E : Value → Shared → Prop} {s : Shared}
theorem sorted_pairsS {l : Addr} {vs : List Value} {k : Value → Int × Str} {Q : Value → Shared → Prop} (hl : s.heap.IsList l vs.toArray) (hz : vs.length ≤ sizeLine) (hp : ∀ v ∈ vs, IsPairS s.heap v (k v).1 (k v).2)
    (h : ∀ (h' : Heap) (d : Addr) (out : List Value), Srtd (fun v u => lexS (k v) (k u)) out → Stb (fun v u => lexS (k v) (k u)) out vs → (∀ b o, s.heap.get? b = some o → h'.get? b = some o) → s.heap.objs.size ≤ d → (∃ n, h'.get? d = some (seqObj "list" out.toArray n)) → Q (.ref d) { s with heap := h' }) :
    wpAny (model prog w) A (call (.builtin "sorted") [.ref l]) Q E s := by
  refine sorted_ord (swo_lexS k) hl hz (fun h2 h₁ a ha kk => ?_) fun out hs hb => ?_
  · refine pairsS_sortable (s := { s with heap := h₁ }) (by omega) (fun v hm => (hp v hm).keeps fun b o e _ => (kk b o e).2) fun o e => ?_
    have e' : some o = some (seqObj "list" vs.toArray 0) := e.symm.trans ha
    cases e'
    intro c
    exact absurd (Value.type.inj c) (by decide)
  · exact h _ _ out hs hb (fun b o e => sortedAll_old e) (Nat.le_succ _) (sortedAll_at s.heap vs out.toArray)
end
def rSortedPS (K : PySem.W.Frag) : List V → Hp → VK → Prop := fun vs H Q => ∃ (a : Addr) (xs : List V) (k : V → Int × Str), vs = [V.ref a] ∧ SqL K H a xs ∧ (∀ x ∈ xs, ∃ t, x = V.ref t ∧ SqT K H t [.int (k x).1, .str (k x).2]) ∧
  ∀ ys p, Srtd (fun x y => lexS (k x) (k y)) ys → Stb (fun x y => lexS (k x) (k y)) ys xs → H p = none → Q (.ref p) (upd H p (.lst ys))
section
variable {X : Cx}
theorem cr_sortedPS : CallR X (.builtin "sorted") (rSortedPS X.K) := by
  intro pins s σ H vs us Q I r h
  obtain ⟨a, xs, k, rfl, hs, hx, q⟩ := h
  obtain ⟨its, rv, hl, hz⟩ := I.list hs
  obtain ⟨u, rfl, ru⟩ := vals1 r
  obtain rfl : u = Value.ref a := ru
  obtain ⟨e1, e2⟩ := refs_back rv fun x m => by
    obtain ⟨t, e, _⟩ := hx x m
    exact ⟨t, e⟩
  refine sorted_pairsS (k := fun u => k (backV u)) hl.isList (by rw [← rv.length]; exact hz) (fun v hv => ?_) fun h' d out h1 h2 kp hd hn => ?_
  · obtain ⟨t, rfl⟩ := e2 v hv
    have hm : V.ref t ∈ xs := by rw [e1]; exact List.mem_map.mpr ⟨_, hv, rfl⟩
    obtain ⟨t', e, ht⟩ := hx _ hm
    cases e
    obtain ⟨its2, r2, ⟨o, ho, hc, n, hd⟩, _⟩ := I.tuple ht
    obtain ⟨u1, u2, rfl, ri, rj⟩ := vals2 r2
    obtain ⟨t1, rfl⟩ := ri
    obtain ⟨t2, rfl⟩ := rj
    exact ⟨t, o, t1, t2, n, rfl, ho, hc, hd⟩
  · have h3 : ∀ u ∈ out, ∃ a, u = Value.ref a := fun u hu => e2 u (h2.perm.mem_iff.mp hu)
    obtain ⟨n, hn⟩ := hn
    have hb : Stb (fun x y => lexS (k x) (k y)) (out.map backV) xs := by
      rw [e1]
      exact SrtO.Stb.map (swo_lexS k) backV h2
    refine ⟨.ref d, upd H d (.lst (out.map backV)), I.laid (t' := s.toks) kp hd ⟨?_, out, n, vals_back h3, hn⟩, rfl, q _ d (SrtO.srtd_map h1) hb (I.hok.fresh hd)⟩
    rw [hb.len]
    exact hz
end
end Mi
namespace Mi
open PySem L2 Evl PySem.Spec PyProof.Rows SrtO
/-- xs: references to pairs, ps beside them -/
inductive PairsS (K : PySem.W.Frag) (H : Hp) : List V → List (Int × Str) → Prop
  | nil : PairsS K H [] []
  | cons {t xs p ps} (h : SqT K H t [.int p.1, .str p.2]) (r : PairsS K H xs ps) : PairsS K H (.ref t :: xs) (p :: ps)
section
variable {K : PySem.W.Frag} {H : Hp} {X : Cx}
theorem PairsS.len : ∀ {xs ps}, PairsS K H xs ps → xs.length = ps.length
  | _, _, .nil => rfl
  | _, _, .cons _ r => by rw [List.length_cons, List.length_cons, r.len]
theorem PairsS.mem : ∀ {xs ps}, PairsS K H xs ps → ∀ x ∈ xs, ∃ (t : Addr) (p : Int × Str), x = V.ref t ∧ SqT K H t [.int p.1, .str p.2]
  | _, _, .nil, x, hx => nomatch hx
  | _, _, .cons h r, x, hx => by
    rcases List.mem_cons.mp hx with z | z
    · exact ⟨_, _, z, h⟩
    · exact r.mem x z
theorem PairsS.map {k : V → Int × Str} : ∀ {xs ps}, PairsS K H xs ps → (∀ t p, SqT K H t [.int p.1, .str p.2] → k (.ref t) = p) → ps = xs.map k
  | _, _, .nil, _ => rfl
  | _, _, .cons h r, hk => by rw [List.map_cons, hk _ _ h, r.map hk]
theorem PairsS.of {k : V → Int × Str} : ∀ {xs : List V}, (∀ x ∈ xs, ∃ t, x = V.ref t ∧ SqT K H t [.int (k x).1, .str (k x).2]) → PairsS K H xs (xs.map k)
  | [], _ => .nil
  | x :: xs, h => by
    obtain ⟨t, e, q⟩ := h x List.mem_cons_self
    subst e
    exact .cons q (PairsS.of fun y hy => h y (List.mem_cons_of_mem _ hy))
end
end Mi
namespace Mi
open PySem L2 Evl PySem.Spec PyProof.Rows SrtO
section
variable {X : Cx}
def rSortedPQ (K : PySem.W.Frag) : List V → Hp → VK → Prop := fun vs H Q => ∃ (a : Addr) (xs : List V) (ps : List (Int × Str)), vs = [V.ref a] ∧ SqL K H a xs ∧ PairsS K H xs ps ∧
  ∀ ys qs p, PairsS K H ys qs → Srtd lexS qs → qs.Perm ps → H p = none → Q (.ref p) (upd H p (.lst ys))
open Classical in
theorem cr_sortedPQ : CallR X (.builtin "sorted") (rSortedPQ X.K) := by
  intro pins s σ H vs us Q I r h
  obtain ⟨a, xs, ps, rfl, hs, hx, q⟩ := h
  let k : V → Int × Str := fun v => if h : ∃ (t : Addr) (p : Int × Str), v = V.ref t ∧ SqT X.K H t [.int p.1, .str p.2] then h.choose_spec.choose else (0, Str.empty)
  have hk : ∀ (t : Addr) (p : Int × Str), SqT X.K H t [.int p.1, .str p.2] → k (.ref t) = p := fun t p hp => by
    have e : ∃ (t' : Addr) (p : Int × Str), V.ref t = V.ref t' ∧ SqT X.K H t' [.int p.1, .str p.2] := ⟨t, p, rfl, hp⟩
    have z := e.choose_spec.choose_spec
    have ek : k (.ref t) = e.choose_spec.choose := dif_pos e
    rw [ek]
    generalize e.choose_spec.choose = p' at z ⊢
    obtain ⟨et, z⟩ := z
    rw [← V.ref.inj et] at z
    have z := I.tuple_inj z hp
    injection z with z1 z2
    injection z2 with z2 _
    exact Prod.ext (V.int.inj z1) (V.str.inj z2)
  refine cr_sortedPS pins s σ H _ us Q I r ⟨a, xs, k, rfl, hs, fun x hm => ?_, fun ys p h1 h2 hn => ?_⟩
  · obtain ⟨t, p, e, hp⟩ := hx.mem x hm
    refine ⟨t, e, ?_⟩
    rw [e, hk t p hp]
    exact hp
  · refine q ys (ys.map k) p (PairsS.of fun x hm => ?_) (List.pairwise_map.mpr h1) ?_ hn
    · obtain ⟨t, p, e, hp⟩ := hx.mem x (h2.perm.mem_iff.mp hm)
      refine ⟨t, e, ?_⟩
      rw [e, hk t p hp]
      exact hp
    · rw [hx.map hk]
      exact h2.perm.map k
end
end Mi
namespace Mi
open PySem L2 Evl PySem.Spec PyProof.Rows SrtO
/-! ### sorted of pairs (a number, a text), as a rule -/
def pairD (p : Int × Str) : D := .tup [.int p.1, .str p.2]
section
variable {K : PySem.W.Frag} {H H' S : Hp} {X : Cx} {b : Bs} {g : G} {a : Expr} {wa : WE} {p pos : Pos}
theorem PairsS.mono (e : Ex H H') : ∀ {xs ps}, PairsS K H xs ps → PairsS K H' xs ps
  | _, _, .nil => .nil
  | _, _, .cons h r => .cons (ex_t e h) (r.mono e)
def rSortedPR (K : PySem.W.Frag) : List V → Hp → VK → Prop := fun vs H Q => ∃ (S : Hp) (a : Addr) (xs : List V) (ps : List (Int × Str)), Ex S H ∧ vs = [V.ref a] ∧ SqL K H a xs ∧ PairsS K S xs ps ∧
  ∀ ys qs p, PairsS K S ys qs → Srtd lexS qs → qs.Perm ps → H p = none → Q (.ref p) (upd H p (.lst ys))
open Classical in
theorem cr_sortedPR : CallR X (.builtin "sorted") (rSortedPR X.K) := by
  intro pins s σ H vs us Q I r h
  obtain ⟨S, a, xs, ps, eS, rfl, hs, hx, q⟩ := h
  let k : V → Int × Str := fun v => if h : ∃ (t : Addr) (p : Int × Str), v = V.ref t ∧ SqT X.K H t [.int p.1, .str p.2] then h.choose_spec.choose else (0, Str.empty)
  have hk : ∀ (t : Addr) (p : Int × Str), SqT X.K H t [.int p.1, .str p.2] → k (.ref t) = p := fun t p hp => by
    have e : ∃ (t' : Addr) (p : Int × Str), V.ref t = V.ref t' ∧ SqT X.K H t' [.int p.1, .str p.2] := ⟨t, p, rfl, hp⟩
    have z := e.choose_spec.choose_spec
    have ek : k (.ref t) = e.choose_spec.choose := dif_pos e
    rw [ek]
    generalize e.choose_spec.choose = p' at z ⊢
    obtain ⟨et, z⟩ := z
    rw [← V.ref.inj et] at z
    have z := I.tuple_inj z hp
    injection z with z1 z2
    injection z2 with z2 _
    exact Prod.ext (V.int.inj z1) (V.str.inj z2)
  refine cr_sortedPS pins s σ H _ us Q I r ⟨a, xs, k, rfl, hs, fun x hm => ?_, fun ys p h1 h2 hn => ?_⟩
  · obtain ⟨t, p, e, hp⟩ := hx.mem x hm
    refine ⟨t, e, ?_⟩
    rw [e, hk t p (ex_t eS hp)]
    exact ex_t eS hp
  · refine q ys (ys.map k) p (PairsS.of fun x hm => ?_) (List.pairwise_map.mpr h1) ?_ hn
    · obtain ⟨t, p, e, hp⟩ := hx.mem x (h2.perm.mem_iff.mp hm)
      refine ⟨t, e, ?_⟩
      rw [e, hk t p (ex_t eS hp)]
      exact hp
    · rw [hx.map fun t p hp => hk t p (ex_t eS hp)]
      exact h2.perm.map k
theorem RepA.pairs : ∀ {xs : List V} {ps : List (Int × Str)}, RepA K g S xs (ps.map pairD) → PairsS K S xs ps
  | [], [], _ => .nil
  | _, [], .nil => .nil
  | _, _ :: _, .cons h r => by
    cases h with
    | tup h1 h2 =>
      cases h2 with
      | cons h3 h4 =>
        cases h3
        cases h4 with
        | cons h5 h6 =>
          cases h5
          cases h6
          exact .cons h1 r.pairs
theorem PairsS.rep : ∀ {xs : List V} {ps : List (Int × Str)}, PairsS K S xs ps → RepA K g S xs (ps.map pairD)
  | _, _, .nil => .nil
  | _, _, .cons h r => .cons (.tup h (.cons (.int _) (.cons (.str _) .nil))) r.rep
def qSortPS (x : D) (P : D → Prop) : Prop := match x with
  | .lst ds => ∃ ps : List (Int × Str), ds = ps.map pairD ∧ ∀ qs : List (Int × Str), qs.Perm ps → Srtd lexS qs → P (.lst (qs.map pairD))
  | _ => False
theorem b1_sortPS : B1F K g (rSortedPR K) qSortPS := by
  intro S H x v P Q e rv hq k
  unfold qSortPS at hq
  split at hq
  · obtain ⟨p, xs, rfl, hx, ra⟩ := rv.lst e
    obtain ⟨ps, rfl, h⟩ := hq
    exact ⟨S, p, xs, ps, e, rfl, sq_of hx, ra.pairs, fun ys qs q hy hs hp hn => k (.lst _) q S _ (Grow.newO e hn) hn (none_of_ex e hn) ⟨_, upd_same, hy.rep⟩ (h qs hp hs)⟩
  · exact hq.elim
theorem mf_sortPS (hm : X.mg "sorted" = none) (hg : Gl X "sorted") (ha : MO X b a wa) (hs : starEach [a] X.env = (false, eval a X.env) :: starEach [] X.env := by rfl) (hpl : (backTo pos (starEach [] X.env)).any (·.1) = false := by rfl) : MF X b (.Call (.Name "sorted" p) [a] [] pos) (wUn qSortPS wa) :=
  mf_b1 cr_sortedPR b1_sortPS hg hm (by rfl) ha (by decide) (by decide) hs hpl
end
/-- two ordered lists of the same pairs are one -/
theorem lexS_same {a c : List (Int × Str)} (hp : a.Perm c) (ha : Srtd lexS a) (hc : Srtd lexS c) : a = c := by
  refine hp.eq_of_pairwise (le := fun x y => lexS y x = false) (fun x y _ _ h1 h2 => ?_) ha hc
  have h1 := lexS_no.mp h1
  have h2 := lexS_no.mp h2
  have e1 : x.1 = y.1 := by
    by_cases q : x.1 < y.1
    · exact absurd (.inl q) h2
    · by_cases q2 : y.1 < x.1
      · exact absurd (.inl q2) h1
      · omega
  have e2 : x.2.cps.toList = y.2.cps.toList := List.le_antisymm (fun z => h1 (.inr ⟨e1.symm, z⟩)) (fun z => h2 (.inr ⟨e1, z⟩))
  obtain ⟨x1, ⟨x2⟩⟩ := x
  obtain ⟨y1, ⟨y2⟩⟩ := y
  have e3 : x2 = y2 := Array.toList_inj.mp e2
  subst e1 e3
  rfl
end Mi
namespace Mi
open PySem L2 Evl PySem.Spec PyProof.Rows
/-! ### instances that are not changed any more: kind n stands for the list of the fields' data -/
structure InstK (K : PySem.W.Frag) (g : G) (n : Nat) (C : Addr) (fs : List Str) : Prop where
  rd : ∀ a S d, g.R n a S d → ∃ dx vs ds, d = .tup ds ∧ S a = some (.ins C dx (fs.zip vs)) ∧ vs.length = fs.length ∧ RepA K g S vs ds
  cl : Cls K C
  no : ∀ f ∈ fs, NoAttr K C f
  nd : fs.Nodup
theorem zip_lookup : ∀ {fs : List Str} {vs : List V} {i : Nat} {f : Str} {v : V}, fs.Nodup → fs[i]? = some f → vs[i]? = some v → (fs.zip vs).lookup f = some v
  | [], _, _, _, _, _, h, _ => by simp at h
  | _ :: _, [], _, _, _, _, _, h => by simp at h
  | f' :: fs, v' :: vs, 0, f, v, _, h1, h2 => by
    simp at h1 h2
    subst h1 h2
    simp
  | f' :: fs, v' :: vs, i + 1, f, v, hn, h1, h2 => by
    simp at h1 h2
    have hne : f ≠ f' := fun e => by
      subst e
      exact (List.nodup_cons.mp hn).1 (List.mem_of_getElem? h1)
    rw [List.zip_cons_cons, lookup_cons, if_neg hne]
    exact zip_lookup (List.nodup_cons.mp hn).2 h1 h2
theorem zip_none : ∀ {fs : List Str} {vs : List V} {m : Str}, m ∉ fs → (fs.zip vs).lookup m = none
  | [], _, _, _ => by simp
  | _ :: _, [], _, _ => by simp
  | f :: fs, v :: vs, m, h => by
    rw [List.zip_cons_cons, lookup_cons, if_neg fun e => h (by rw [e]; exact List.mem_cons_self)]
    exact zip_none fun q => h (List.mem_cons_of_mem _ q)
def qAttr (n i : Nat) (x : D) (P : D → Prop) : Prop := match x with
  | .ext m (.tup ds) => m = n ∧ match ds[i]? with | some d => P d | none => False
  | _ => False
section
variable {X : Cx} {b : Bs} {K : PySem.W.Frag} {g : G} {S S' H H' : Hp} {δ : Env} {σ : L2.St} {e a c : Expr} {es : List Expr} {w wa wo : WE} {wr : WA} {pos apos p : Pos} {x m f : Str} {ct : CT} {n k : Nat} {C : Addr} {fs : List Str}
theorem me_attr (i : Nat) (I : InstK X.K b.g n C fs) (ha : ME X b e wa) (hf : fs[i]? = some f := by rfl) (hb : attributeBase e f X.env (eval e X.env) = eval e X.env := by rfl) : ME X b (.Attribute e f pos) (wUn (qAttr n i) wa) :=
  PE.imp (pe_fld ha hb) fun σ H Q ⟨S, δ, P, J, hw, k⟩ => by
    refine ⟨S, δ, _, J, hw, fun d v S1 H1 g1 r1 h1 => ?_⟩
    unfold qAttr at h1
    split at h1
    · obtain ⟨rfl, h1⟩ := h1
      split at h1
      · rename_i d hd
        cases r1 with
        | ext hR =>
          obtain ⟨dx, vs, ds', e1, hS, hl, ra⟩ := I.rd _ _ _ hR
          cases e1
          obtain ⟨v, hv, rv⟩ := ra.get hd
          exact ⟨_, C, dx, _, v, rfl, g1.sh _ _ hS, I.cl, I.no f (List.mem_of_getElem? hf), zip_lookup I.nd hf hv, k d v S1 H1 g1 rv h1⟩
      · exact h1.elim
    · exact h1.elim
/-! ### methods that raise nothing -/
structure MetC (P : Program) (w : World) (K : PySem.W.Frag) (mg : Str → Option Value) (base : Heap) (g : G) (fr : Bool) (C : Addr) (m : Str) (k : Nat) (c : CT) : Prop where
  out : ∃ f fd ps, FnOk P w K mg base CX0 k f fd ps (spD K g fr c) ∧ Meth K C m f ∧ Binds K fd ps []
def wMet (n : Nat) (c : CT) (wo : WE) (wr : WA) : WE := fun δ _ P => wo δ (fun _ => False) fun x => match x with
  | .ext n' d => n' = n ∧ wr δ (fun _ => False) fun ds => c (.ext n' d :: ds) (fun _ => False) P
  | _ => False
def wMet0 (n : Nat) (c : CT) (wo : WE) : WE := fun δ _ P => wo δ (fun _ => False) fun x => match x with
  | .ext n' d => n' = n ∧ c [.ext n' d] (fun _ => False) P
  | _ => False
theorem InstK.at (I : InstK K g n C fs) {a : Addr} {d : D} (h : g.R n a S d) : ∃ dx l, S a = some (.ins C dx l) ∧ ∀ m, m ∉ fs → l.lookup m = none := by
  obtain ⟨dx, vs, ds, _, hS, _, _⟩ := I.rd _ _ _ h
  exact ⟨dx, _, hS, fun m hm => zip_none hm⟩
theorem me_met {pl : Sem Bool} (I : InstK X.K b.g n C fs) (hm : m ∉ fs) (Z : MetC X.prog X.w X.K X.mg X.base b.g false C m k ct) (hr : Room k X.A) (ho : ME X b.calm e wo) (ha : MA X b.calm (a :: es) wr)
    (he : starEach (a :: es) X.env = (false, eval a X.env) :: starEach es X.env := by rfl) (hpl : (backTo pos (starEach es X.env)).any (·.1) = false := by rfl)
    (ht : eval (.Call (.Attribute e m apos) (a :: es) [] pos) X.env = (do
      let ov ← eval e X.env
      standAt apos.atName
      let (f, first) ← holding [ov] (getMethod ov m pl)
      callWith pos f first (backTo pos (starEach (a :: es) X.env)) (backToKw pos (keywordEach [] X.env))) := by rfl) : ME X b (.Call (.Attribute e m apos) (a :: es) [] pos) (wMet n ct wo wr) := by
  obtain ⟨f, fd, ps, F, hM, hb⟩ := Z.out
  refine PE.imp (pe_meth ho I.cl hM F hr hb .nil pass0 ha he hpl ht) fun σ H Q ⟨S, δ, P, J, hw, k⟩ => ?_
  refine ⟨S, δ, _, J.calm, hw, fun d v S1 H1 g1 r1 h1 => ?_⟩
  split at h1
  · obtain ⟨rfl, h1⟩ := h1
    cases r1 with
    | ext hR =>
      obtain ⟨dx, l, hS, hl⟩ := I.at hR
      refine ⟨_, dx, l, rfl, g1.sh _ _ hS, hl m hm, S1, δ, _, J.calm.grow g1, h1, fun ds vs S2 H2 g2 r2 h2 => ?_⟩
      refine ⟨S2, _, _, P, g2.sh, by rw [List.append_nil]; exact .cons ((Rep.ext hR).mono g2.s) r2, h2, fun d v S3 H3 rt hd => ?_, fun cls d H' z => ?_⟩
      · have r := rt.r
        rw [if_neg Bool.false_ne_true] at r
        exact k d v S3 H3 ((g1.trans g2).trans (rt.grow g2.sh)) r hd
      · obtain ⟨x, S', hx, _⟩ := z.out
        exact hx.elim
  · exact h1.elim
theorem mf_met {pl : Sem Bool} (I : InstK X.K b.g n C fs) (hm : m ∉ fs) (Z : MetC X.prog X.w X.K X.mg X.base b.g true C m k ct) (hr : Room k X.A) (ho : ME X b.calm e wo) (ha : MA X b.calm (a :: es) wr)
    (he : starEach (a :: es) X.env = (false, eval a X.env) :: starEach es X.env := by rfl) (hpl : (backTo pos (starEach es X.env)).any (·.1) = false := by rfl)
    (ht : eval (.Call (.Attribute e m apos) (a :: es) [] pos) X.env = (do
      let ov ← eval e X.env
      standAt apos.atName
      let (f, first) ← holding [ov] (getMethod ov m pl)
      callWith pos f first (backTo pos (starEach (a :: es) X.env)) (backToKw pos (keywordEach [] X.env))) := by rfl) : MF X b (.Call (.Attribute e m apos) (a :: es) [] pos) (wMet n ct wo wr) := by
  obtain ⟨f, fd, ps, F, hM, hb⟩ := Z.out
  refine PE.imp (pe_meth ho I.cl hM F hr hb .nil pass0 ha he hpl ht) fun σ H Q ⟨S, δ, P, J, hw, k⟩ => ?_
  refine ⟨S, δ, _, J.calm, hw, fun d v S1 H1 g1 r1 h1 => ?_⟩
  split at h1
  · obtain ⟨rfl, h1⟩ := h1
    cases r1 with
    | ext hR =>
      obtain ⟨dx, l, hS, hl⟩ := I.at hR
      refine ⟨_, dx, l, rfl, g1.sh _ _ hS, hl m hm, S1, δ, _, J.calm.grow g1, h1, fun ds vs S2 H2 g2 r2 h2 => ?_⟩
      refine ⟨S2, _, _, P, g2.sh, by rw [List.append_nil]; exact .cons ((Rep.ext hR).mono g2.s) r2, h2, fun d v S3 H3 rt hd => ?_, fun cls d H' z => ?_⟩
      · have r := rt.r
        rw [if_pos rfl] at r
        obtain ⟨q, rfl, h0, s0, o⟩ := r
        exact k d q S3 H3 ((g1.trans g2).trans (rt.grow g2.sh)) (none_of_ex (g1.trans g2).h h0) s0 o hd
      · obtain ⟨x, S', hx, _⟩ := z.out
        exact hx.elim
  · exact h1.elim
theorem me_met0 {pl : Sem Bool} (I : InstK X.K b.g n C fs) (hm : m ∉ fs) (Z : MetC X.prog X.w X.K X.mg X.base b.g false C m k ct) (hr : Room k X.A) (ho : ME X b.calm e wo)
    (ht : eval (.Call (.Attribute e m apos) [] [] pos) X.env = (do
      let ov ← eval e X.env
      standAt apos.atName
      let (f, first) ← holding [ov] (getMethod ov m pl)
      callWith pos f first (backTo pos (starEach [] X.env)) (backToKw pos (keywordEach [] X.env))) := by rfl) : ME X b (.Call (.Attribute e m apos) [] [] pos) (wMet0 n ct wo) := by
  obtain ⟨f, fd, ps, F, hM, hb⟩ := Z.out
  refine PE.imp (pe_meth0 ho I.cl hM F hr hb .nil pass0 ht) fun σ H Q ⟨S, δ, P, J, hw, k⟩ => ?_
  refine ⟨S, δ, _, J.calm, hw, fun d v S1 H1 g1 r1 h1 => ?_⟩
  split at h1
  · obtain ⟨rfl, h1⟩ := h1
    cases r1 with
    | ext hR =>
      obtain ⟨dx, l, hS, hl⟩ := I.at hR
      refine ⟨_, dx, l, rfl, g1.sh _ _ hS, hl m hm, S1, _, _, P, g1.sh, .cons (Rep.ext hR) .nil, h1, fun d v S3 H3 rt hd => ?_, fun cls d H' z => ?_⟩
      · have r := rt.r
        rw [if_neg Bool.false_ne_true] at r
        exact k d v S3 H3 (g1.trans (rt.grow g1.sh)) r hd
      · obtain ⟨x, S', hx, _⟩ := z.out
        exact hx.elim
  · exact h1.elim
/-! ### a new instance, made by an __init__ that may raise -/
def spMk (K : PySem.W.Frag) (g : G) (n : Nat) (C : Addr) (c : CT) : Sp := fun vs H Q E => ∃ S H0 q dx ws ds EX P, vs = .ref q :: ws ∧ Ex S H0 ∧ H = upd (upd H0 dx (.own q)) q (.ins C dx []) ∧ H0 q = none ∧ H0 dx = none ∧ dx ≠ q ∧ RepA K g S ws ds ∧ c ds EX P ∧
  (∀ d S' H', Grow S H0 S' H' → g.R n q S' d → P (.ext n d) → Q .non H') ∧ ∀ cls d H', EWish K ⟨g, S, H0, EX, false⟩ cls d H' → E cls d H'
structure MakX (P : Program) (w : World) (K : PySem.W.Frag) (mg : Str → Option Value) (base : Heap) (g : G) (x : Str) (n : Nat) (C : Addr) (k : Nat) (c : CT) : Prop where
  out : ∃ f fd ps, L2.Mk K C f ∧ FnOk P w K mg base (L2.CX P w) k f fd ps (spMk K g n C c) ∧ mg x = some (.ref C) ∧ Binds K fd ps []
theorem me_makX (Z : MakX X.prog X.w X.K X.mg X.base b.g x n C k ct) (tk : Takes X fun cls d _ H => EWish X.K b cls d H) (hr : Room (k + 1) X.A) (hg : Gl X x) (ha : MA X b (a :: es) wr) (hdb : (x == ("__debug__" : Str)) = false := by decide)
    (he : starEach (a :: es) X.env = (false, eval a X.env) :: starEach es X.env := by rfl) (hpl : (backTo pos (starEach es X.env)).any (·.1) = false := by rfl) : ME X b (.Call (.Name x p) (a :: es) [] pos) (wCallX ct wr) := by
  obtain ⟨f, fd, ps, M, F, hm, hb⟩ := Z.out
  refine PE.imp (pe_make M F hr hg hm hb .nil (passes_call tk (E := EWish X.K b) fun _ _ _ _ h => h) ha hdb he hpl) fun σ H Q ⟨S, δ, P, I, hw, k⟩ => ?_
  refine ⟨S, δ, _, I, hw, fun ds vs S1 H1 g1 r1 h1 => ?_⟩
  intro q dx hq hdx hne
  refine ⟨S1, H1, q, dx, vs, ds, _, P, by rw [List.append_nil], g1.sh, rfl, hq, hdx, hne, r1, h1, fun d S2 H2 g2 hR hd => ⟨rfl, ?_⟩, fun cls d H' z => ?_⟩
  · exact k (.ext n d) (.ref q) S2 H2 (g1.trans g2) (.ext hR) hd
  · obtain ⟨y, S', hx, hl, s0, sh, h0, old⟩ := z.out
    have J := I.grow g1
    exact ⟨y, S', hx, hl, J.s0.trans s0, sh, J.h0.trans h0, fun p o e => (old p o (J.h0 p o e)).trans (J.old p o e)⟩
/-! ### target = xs.pop(), xs owned -/
def wPop (i : Nat) (wg : WG) : WS := fun δ _ C => match δ[i]? with
  | some (some ⟨.lst ds, true⟩) => ∃ ini d, ds = ini ++ [d] ∧ wg d (δ.set i (ow (.lst ini))) C.nx
  | _ => False
theorem ms_pop (i : Nat) {tg : Expr} {p' apos cpos : Pos} {vs : List Nat} {wg : WG} (hg : MG X b vs tg wg) (hN : X.N[i]? = some x := by rfl) (hv : Vis X.env.scope x := by first | exact Or.inl rfl | exact Or.inr (Or.inl rfl) | exact Or.inr (Or.inr rfl)) (hd : (x == ("__debug__" : Str)) = false := by decide)
    (hcd : (x == ("__classdict__" : Str)) = false := by decide)
    (hbase : attributeBase (.Name x p') "pop" X.env (eval (.Name x p') X.env) = eval (.Name x p') X.env := by rfl) (hline : (apos.endLine == cpos.line) = true := by rfl)
    (hs : swapsWithSole [tg] (.Call (.Attribute (.Name x p') "pop" apos) [] [] cpos) pos.line X.env = pure false := by rfl) (hw : swappedStores [tg] (.Call (.Attribute (.Name x p') "pop" apos) [] [] cpos) X.env = pure none := by rfl)
    (h1 : (assignEach [tg] X.env).map (·.2) = [assign tg X.env] := by rfl) : MS X b (.Assign [tg] (.Call (.Attribute (.Name x p') "pop" apos) [] [] cpos) pos) (wPop i wg) :=
  PS.imp (ps_asg (pe_bm0 PySem.F.plainAttrs_list PySem.F.slot_list_pop PySem.F.type_list_pop mt_pop (pe_var hN hv hd hcd) hbase hline) hg hs hw h1) fun Dn σ H ⟨S, δ, C, I, hw, k⟩ => by
    unfold wPop at hw
    split at hw
    · rename_i ds he
      obtain ⟨ini, d, rfl, hw⟩ := hw
      obtain ⟨q, e1, h0, s0, xs, hx, ra⟩ := I.getO he
      obtain ⟨y, hy, ry⟩ := ra.get (i := ini.length) (d := d) (by simp)
      have hxl : xs.length = ini.length + 1 := by rw [ra.len]; simp
      refine ⟨_, e1, .inl ⟨rfl, _, SqL.of hx⟩, q, xs, y, rfl, rfl, hx, by rw [hxl]; exact hy, ?_⟩
      have rd := ra.dropLast
      rw [List.dropLast_concat] at rd
      refine ⟨S, _, d, _, I.mut he e1 (d' := .lst ini) fun H2 h2 => ⟨_, h2, rd⟩, ry, hw, fun δ' σ' I' _ h' => k.nx δ' σ' S _ (Ex.refl _) I' h'⟩
    · exact hw.elim
/-! ### {k: e} with one key that is a text -/
end
end Mi
namespace Mi
open PySem L2 Evl PySem.Spec PyProof.Rows
section
variable {X : Cx} {b : Bs} {K : PySem.W.Frag} {g : G} {S S' H H' : Hp} {δ : Env} {σ : L2.St} {wv : WE} {pos kp : Pos} {v : Expr} {ks : List (Option Expr)} {vs : List Expr} {kt : Nat}
/-! ### displays of dicts, the keys written texts -/
abbrev WD := Env → (Exc → Prop) → (List (Key × D) → Prop) → Prop
def wdNil : WD := fun _ _ P => P []
def wdCons (s : Str) (wv : WE) (wr : WD) : WD := fun δ EX P => wv δ EX fun d => wr δ EX fun l => P ((.inr s, d) :: l)
def tDs (K : PySem.W.Frag) (b : Bs) (w : WD) (σ : L2.St) (H : Hp) (Q : List (V × V) → Hp → Prop) : Prop := ∃ S δ P, StR K b δ σ S H ∧ w δ b.EX P ∧ ∀ l kvs S' H', Grow S H S' H' → RepK K b.g S' kvs l → P l → Q (kvs.map fun kv => (kV kv.1, kv.2)) H'
def MDs (X : Cx) (b : Bs) (pos : Pos) (ks : List (Option Expr)) (vs : List Expr) (w : WD) : Prop := ∃ trs, PPs X pos ks vs trs ∧ ∀ σ H Q, tDs X.K b w σ H Q → tPairs trs σ H Q
theorem md_nil : MDs X b pos [] [] wdNil := ⟨_, pps_nil, fun σ H Q ⟨S, δ, P, I, hw, k⟩ => k [] [] S H (Grow.refl I.sh) .nil hw⟩
theorem md_cons {s : Str} {wr : WD} (hv : ME X b v wv) (hr : MDs X b pos ks vs wr) : MDs X b pos (some (.Constant (.str s) kt kp) :: ks) (v :: vs) (wdCons s wv wr) := by
  obtain ⟨trs, h1, h2⟩ := hr
  refine ⟨_, pps_cons pe_str hv h1, fun σ H Q ⟨S, δ, P, I, hw, k⟩ => ?_⟩
  refine ⟨S, δ, _, I, hw, fun d v S1 H1 g1 r1 w1 => ?_⟩
  refine h2 σ H1 _ ⟨S1, δ, _, I.grow g1, w1, fun l kvs S2 H2 g2 r2 w2 => ?_⟩
  exact k ((.inr s, d) :: l) ((.inr s, v) :: kvs) S2 H2 (g1.trans g2) (.cons (r1.mono g2.s) r2) w2
def mergeD (ds more : List (Key × D)) : List (Key × D) := more.foldl (fun acc kv => putD acc kv.1 kv.2) ds
theorem RepK.merge {m : List (Key × V)} {n : List (Key × D)} : ∀ {vs : List (Key × V)} {ds : List (Key × D)}, RepK K g S m n → RepK K g S vs ds → RepK K g S (mergeK vs m) (mergeD ds n) := by
  induction m generalizing n with
  | nil => intro vs ds r h; cases r; exact h
  | cons p m ih =>
    intro vs ds r h
    cases r with
    | @cons k _ _ _ _ q r =>
      have z := ih r (RepK.put (k := k) q h)
      exact z
def wDisp (w : WD) : WE := fun δ EX P => w δ EX fun l => l.length ≤ 15 ∧ P (.dic (mergeD [] l))
theorem mf_disp {w : WD} (h : MDs X b pos ks vs w) (hall : ks.all (·.isSome) = true := by rfl) (hl : ks.length = vs.length := by rfl) (h0 : ks ≠ [] := by exact List.cons_ne_nil _ _) (h15 : ks.length ≤ 15 := by decide) : MF X b (.Dict ks vs pos) (wDisp w) := by
  obtain ⟨trs, h1, h2⟩ := h
  refine PE.imp (pe_disp h1 hall hl h0 h15) fun σ H Q ⟨S, δ, P, I, hw, k⟩ p hp => ?_
  have g0 : Grow S H S (upd H p (.dK [])) := Grow.newO I.sh hp
  refine h2 σ _ _ ⟨S, δ, _, I.grow g0, hw, fun l kvs S2 H2 g2 r2 w2 => ?_⟩
  have hp2 : H2 p = some (.dK []) := g2.h _ _ upd_same
  have sp : S2 p = none := (g2.old p _ upd_same).trans (none_of_ex I.sh hp)
  refine ⟨hp2, kvs, rfl, by rw [r2.len]; exact w2.1, ?_⟩
  refine k (.dic (mergeD [] l)) p S2 _ ⟨g2.s, fun a u e => ?_, fun a u e => ?_, fun a u e => ?_⟩ hp sp ⟨_, upd_same, RepK.merge r2 .nil⟩ w2.2
  · rw [upd_ne (ne_of_none e hp)]; exact (g0.h.trans g2.h) a u e
  · rw [upd_ne (fun z => by rw [z, sp] at e; cases e)]; exact g2.sh a u e
  · exact (g2.old a u (g0.h a u e)).trans rfl
end
end Mi
namespace Mi
open PySem L2 Evl PySem.Spec PyProof.Rows
theorem isi_list_bl {c : Bool} {P : D → Prop} : qIsi "list" (.bl c) P = P (.bl false) := rfl
theorem isi_str_lst {xs : List D} {P : D → Prop} : qIsi "str" (.lst xs) P = P (.bl false) := rfl
theorem isi_str_tup {xs : List D} {P : D → Prop} : qIsi "str" (.tup xs) P = P (.bl false) := rfl
theorem isi_str_bl {c : Bool} {P : D → Prop} : qIsi "str" (.bl c) P = P (.bl false) := rfl
theorem isi_int_lst {xs : List D} {P : D → Prop} : qIsi "int" (.lst xs) P = P (.bl false) := rfl
theorem isi_int_tup {xs : List D} {P : D → Prop} : qIsi "int" (.tup xs) P = P (.bl false) := rfl
theorem isi_bool_non {P : D → Prop} : qIsi "bool" .non P = P (.bl false) := rfl
theorem isi_bool_str {s : Str} {P : D → Prop} : qIsi "bool" (.str s) P = P (.bl false) := rfl
theorem isi_bool_lst {xs : List D} {P : D → Prop} : qIsi "bool" (.lst xs) P = P (.bl false) := rfl
theorem isi_bool_tup {xs : List D} {P : D → Prop} : qIsi "bool" (.tup xs) P = P (.bl false) := rfl
theorem isi_tup_lst {xs : List D} {P : D → Prop} : qIsi "tuple" (.lst xs) P = P (.bl false) := rfl
theorem isi_tup_non {P : D → Prop} : qIsi "tuple" .non P = P (.bl false) := rfl
theorem isi_tup_str {s : Str} {P : D → Prop} : qIsi "tuple" (.str s) P = P (.bl false) := rfl
theorem isi_tup_int {i : Int} {P : D → Prop} : qIsi "tuple" (.int i) P = P (.bl false) := rfl
theorem isi_tup_bl {c : Bool} {P : D → Prop} : qIsi "tuple" (.bl c) P = P (.bl false) := rfl
/-- there, and so -/
def optD (o : Option D) (P : D → Prop) : Prop := match o with
  | some d => P d
  | none => False
theorem optD_some {d : D} {P : D → Prop} : optD (some d) P = P d := rfl
theorem e_attr {n i : Nat} {ds : List D} {P : D → Prop} : qAttr n i (.ext n (.tup ds)) P = optD ds[i]? P := by
  unfold qAttr
  simp only [true_and]
  cases ds[i]? <;> rfl
theorem e_in1 {s t : Str} {P : Bool → Prop} {c : Nat} (h : s.cps.toList = [c]) : qIn (.str s) (.str t) P = P (decide (c ∈ t.cps.toList)) := by
  unfold qIn; simp only [h]
theorem e_inD {s : Str} {kvs : List (Key × D)} {P : Bool → Prop} : qIn (.str s) (.dic kvs) P = P (valD kvs (Sum.inr s)).isSome := rfl
theorem e_ixD {s : Str} {kvs : List (Key × D)} {P : D → Prop} : qIx (.dic kvs) (.str s) P = optD (valD kvs (Sum.inr s)) P := by
  unfold qIx
  show (match valD kvs (Sum.inr s) with | some d => P d | none => False) = _
  cases valD kvs (Sum.inr s) <;> rfl
theorem e_ixS1 {s : Str} {i : Int} {P : D → Prop} : qIx (.str s) (.int i) P = (s.length ≤ Line ∧ optD ((atI s.cps.toList i).map fun c => .str ⟨#[c]⟩) P) := by
  show (s.length ≤ Line ∧ (match atI s.cps.toList i with | some c => P (.str ⟨#[c]⟩) | none => False)) = _
  cases atI s.cps.toList i <;> rfl
theorem signs_get {s : Str} {i : Nat} {d : D} (h : (signs s)[i]? = some d) : ∃ c, s.cps.toList[i]? = some c ∧ d = .str ⟨#[c]⟩ := by
  unfold signs at h
  rw [List.getElem?_map] at h
  obtain ⟨c, hc, e⟩ := Option.map_eq_some_iff.mp h
  exact ⟨c, hc, e.symm⟩
theorem signs_len (s : Str) : (signs s).length = s.cps.size := by simp [signs]
theorem str_len (s : Str) : s.length = s.cps.toList.length := by simp [Str.length]
end Mi
namespace Mi
open PySem L2 Evl PySem.Spec PyProof.Rows
/-! ### slices -/
theorem cut_map {α β : Type} (f : α → β) (xs : List α) (l r : Option Int) : cutD (xs.map f) l r = (cutD xs l r).map f := by
  unfold cutD; rw [List.length_map, ← List.map_drop, ← List.map_take]
theorem cut_le {α : Type} (xs : List α) (lo hi : Nat) : (cutD xs (some (lo : Int)) (some (hi : Int))).length ≤ hi - lo := by
  unfold cutD
  rw [HT.sIx_nat, HT.sIx_nat, List.length_take]
  omega
theorem cut_eq {α : Type} (xs : List α) (lo hi : Nat) (h : hi ≤ xs.length) : (cutD xs (some (lo : Int)) (some (hi : Int))).length = hi - lo := by
  unfold cutD
  rw [HT.sIx_nat, HT.sIx_nat, List.length_take, List.length_drop]
  omega
theorem cut_from {α : Type} (xs : List α) (n : Nat) : cutD xs (some (n : Int)) none = xs.drop n := by
  unfold cutD
  rw [HT.sIx_nat, HT.sIx_none]
  by_cases h : n ≤ xs.length
  · rw [Nat.min_eq_left h, List.take_of_length_le (by rw [List.length_drop]; exact Nat.le_refl _)]
  · rw [Nat.min_eq_right (by omega), List.drop_of_length_le (Nat.le_refl _), List.drop_of_length_le (by omega)]; simp
theorem cut_to {α : Type} (xs : List α) (n : Nat) : cutD xs none (some (n : Int)) = xs.take n := by
  unfold cutD
  rw [HT.sIx_nat, HT.sIx_none, Nat.sub_zero, List.drop_zero]
  by_cases h : n ≤ xs.length
  · rw [Nat.min_eq_left h]
  · rw [Nat.min_eq_right (by omega), List.take_of_length_le (Nat.le_refl _), List.take_of_length_le (by omega)]
theorem cut_both {α : Type} (xs : List α) (m n : Nat) : cutD xs (some (m : Int)) (some (n : Int)) = (xs.take n).drop m := by
  unfold cutD
  rw [HT.sIx_nat, HT.sIx_nat, List.drop_take]
  by_cases h : m ≤ xs.length
  · rw [Nat.min_eq_left h]
    by_cases h2 : n ≤ xs.length
    · rw [Nat.min_eq_left h2]
    · rw [Nat.min_eq_right (by omega), List.take_of_length_le (by rw [List.length_drop]; exact Nat.le_refl _), List.take_of_length_le (by rw [List.length_drop]; omega)]
  · rw [Nat.min_eq_right (a := m) (b := xs.length) (by omega), List.drop_of_length_le (Nat.le_refl _), List.drop_of_length_le (l := xs) (i := m) (by omega)]; simp
theorem cut_but {α : Type} (xs : List α) : cutD xs none (some (-1)) = xs.dropLast := by
  unfold cutD
  rw [HT.sIx_none, Nat.sub_zero, List.drop_zero, List.dropLast_eq_take]
  congr 1
  show (if (-1 : Int) < 0 then ((-1 : Int) + (xs.length : Int)).toNat else min (-1 : Int).toNat xs.length) = _
  rw [if_pos (by decide)]
  omega
theorem mem_cut {α : Type} {xs : List α} {l r : Option Int} {x : α} (h : x ∈ cutD xs l r) : x ∈ xs := by
  unfold cutD at h
  exact List.mem_of_mem_drop (List.mem_of_mem_take h)
theorem cut_len {α : Type} (xs : List α) (l r : Option Int) : (cutD xs l r).length ≤ xs.length := by
  unfold cutD
  rw [List.length_take, List.length_drop]; omega
theorem qIx_any {xs : List D} {i : Int} {P : D → Prop} (h0 : 0 ≤ i) (h1 : i < xs.length) (h : ∀ d ∈ xs, P d) : qIx (.lst xs) (.int i) P := by
  obtain ⟨k, rfl⟩ := Int.eq_ofNat_of_zero_le h0
  have hk : k < xs.length := by omega
  exact qIx_lst (List.getElem?_eq_getElem hk) (h _ (List.getElem_mem hk))
/-! ### texts by their signs -/
theorem scut (s : Str) (lo hi : Option Int) : (cutS s lo hi).cps.toList = cutD s.cps.toList lo hi := by
  unfold cutS cutD
  rw [show s.length = s.cps.toList.length from str_len s]
theorem sapp (s t : Str) : (s ++ t).cps.toList = s.cps.toList ++ t.cps.toList := by
  show (Str.append s t).cps.toList = _
  unfold Str.append
  simp
theorem str_ext {s t : Str} (h : s.cps.toList = t.cps.toList) : s = t := by
  obtain ⟨a⟩ := s
  obtain ⟨c⟩ := t
  have h : a = c := Array.toList_inj.mp h
  rw [h]
theorem join_nil (s : Str) (hs : s.cps.toList = []) : ∀ ys : List Str, (Txt.join s ys).cps.toList = (ys.map fun y => y.cps.toList).flatten := by
  intro ys
  rw [show Txt.join s ys = Str.join s ys from PySem.StrLaws.glued_eq_join s ys]
  induction ys with
  | nil => rfl
  | cons y ys ih =>
    cases ys with
    | nil => simp [Str.join]
    | cons z zs =>
      show ((y ++ s) ++ Str.join s (z :: zs)).cps.toList = _
      rw [sapp, sapp, hs, List.append_nil, ih]
      simp
theorem sh_tupS {n : Nat} {xs : List D} (h : ∀ x ∈ xs, Sh n x) : Sh (n + 1) (.tup xs) := sh_tup h
end Mi
namespace Mi
open PySem L2 Evl PySem.Spec PyProof.Rows
/-! ### a text times an int -/
section
variable {X : Cx} {b : Bs} {K : PySem.W.Frag} {g : G} {a c : Expr} {wa wb : WE} {pos : Pos}
theorem op_mulS : OpR X (binaryOp .Mult) (fun x y H Q => ∃ s n, x = .str s ∧ y = .int n ∧ PySem.MulOk s n ∧ Q (.str (Txt.mul s n)) H) := by
  intro pins s σ H x y v u Q I rx ry h
  obtain ⟨z, n, rfl, rfl, hc, q⟩ := h
  obtain ⟨t, rfl⟩ := rx
  obtain ⟨t', rfl⟩ := ry
  exact PySem.SB.mul hc fun t2 k => ⟨.str _, H, I.tok _, ⟨_, rfl⟩, q⟩
def qMulS : D → D → (D → Prop) → Prop := fun x y P => match x, y with
  | .str s, .int n => -1000000 ≤ n ∧ n ≤ 1000000 ∧ s.length * n.toNat ≤ 10000000 ∧ P (.str (Txt.mul s n))
  | _, _ => False
theorem mulS_ok {s : Str} {n : Int} (h1 : -1000000 ≤ n) (h2 : n ≤ 1000000) (h3 : s.length * n.toNat ≤ 10000000) : PySem.MulOk s n := by
  refine ⟨by rw [decide_eq_false (by omega), decide_eq_false (by omega)]; rfl, fun h _ => ?_, fun h _ => ?_⟩
  · have hn : 0 < n := by omega
    have : (s.length : Int) ≤ (2 ^ 63 - 1) / n := by
      refine Int.le_ediv_of_mul_le hn ?_
      obtain ⟨k, rfl⟩ := Int.eq_ofNat_of_zero_le (Int.le_of_lt hn)
      rw [Int.toNat_natCast] at h3
      have : ((s.length * k : Nat) : Int) ≤ ((10000000 : Nat) : Int) := Int.ofNat_le.mpr h3
      rw [Int.natCast_mul] at this
      exact Int.le_trans this (by decide)
    exact fun z => absurd this (Int.not_le.mpr z)
  · show decide (s.length * n.toNat > sizeLine) = false
    refine decide_eq_false fun z => ?_
    have : (10000000 : Nat) ≤ sizeLine := by rw [line_eq]; decide
    omega
theorem od_mulS : OpD K g (fun x y H Q => ∃ s n, x = .str s ∧ y = .int n ∧ PySem.MulOk s n ∧ Q (.str (Txt.mul s n)) H) qMulS := by
  intro S H x y v u P Q e rv ru hq k
  unfold qMulS at hq
  split at hq
  · cases rv.str; cases ru.int
    exact ⟨_, _, rfl, rfl, mulS_ok hq.1 hq.2.1 hq.2.2.1, k _ _ S H (Grow.refl e) (.str _) hq.2.2.2⟩
  · exact hq.elim
theorem me_mulS (ha : MO X b a wa) (hb : MO X b c wb) : ME X b (.BinOp a .Mult c pos) (wOp qMulS wa wb) := me_op op_mulS od_mulS ha hb
theorem e_mulS {s : Str} {n : Int} {P : D → Prop} : qMulS (.str s) (.int n) P = (-1000000 ≤ n ∧ n ≤ 1000000 ∧ s.length * n.toNat ≤ 10000000 ∧ P (.str (Txt.mul s n))) := rfl
end
end Mi
namespace K87
/-! ### the distance, over reversed lists -/
def lv : List Nat → List Nat → Nat
  | [], b => b.length
  | a, [] => a.length
  | x :: a, y :: b => min (min (lv a (y :: b) + 1) (lv (x :: a) b + 1)) (lv a b + if x = y then 0 else 1)
termination_by a b => a.length + b.length
theorem lv_nil (b : List Nat) : lv [] b = b.length := by rw [lv]
theorem lv_nil' (a : List Nat) : lv a [] = a.length := by cases a <;> rw [lv] <;> simp
theorem lv_cons (x y : Nat) (a b : List Nat) : lv (x :: a) (y :: b) = min (min (lv a (y :: b) + 1) (lv (x :: a) b + 1)) (lv a b + if x = y then 0 else 1) := by rw [lv]
theorem lv_symm : ∀ (n : Nat) (a b : List Nat), a.length + b.length ≤ n → lv a b = lv b a
  | _, [], b, _ => by rw [lv_nil, lv_nil']
  | _, x :: a, [], _ => by rw [lv_nil, lv_nil']
  | 0, x :: a, y :: b, h => by simp at h
  | n + 1, x :: a, y :: b, h => by
    simp only [List.length_cons] at h
    rw [lv_cons, lv_cons, lv_symm n a (y :: b) (by simp only [List.length_cons]; omega), lv_symm n (x :: a) b (by simp only [List.length_cons]; omega), lv_symm n a b (by omega)]
    by_cases e : x = y
    · rw [if_pos e, if_pos e.symm]; omega
    · rw [if_neg e, if_neg (Ne.symm e)]; omega
def dist (t w : List Nat) : Nat := lv t.reverse w.reverse
theorem dist_symm (t w : List Nat) : dist t w = dist w t := lv_symm _ _ _ (Nat.le_refl _)
/-- the distances of t from the beginnings of w -/
def rowAt (t w : List Nat) (k : Nat) : Nat := lv t.reverse (w.take k).reverse
def rowOf (t w : List Nat) : List Nat := (List.range (w.length + 1)).map (rowAt t w)
theorem rowOf_len (t w : List Nat) : (rowOf t w).length = w.length + 1 := by simp [rowOf]
theorem rowOf_get {t w : List Nat} {k : Nat} (h : k ≤ w.length) : (rowOf t w)[k]? = some (rowAt t w k) := by
  unfold rowOf
  rw [List.getElem?_map, List.getElem?_range (by omega)]; rfl
theorem rowOf_nil (w : List Nat) : rowOf [] w = List.range (w.length + 1) := by
  unfold rowOf
  apply List.ext_getElem?
  intro k
  rw [List.getElem?_map]
  by_cases h : k < w.length + 1
  · rw [List.getElem?_range h]
    show some (rowAt [] w k) = some k
    unfold rowAt
    rw [List.reverse_nil, lv_nil, List.length_reverse, List.length_take]
    congr 1; omega
  · rw [List.getElem?_eq_none (by simp; omega)]; rfl
theorem rowAt_last (t w : List Nat) : rowAt t w w.length = dist t w := by
  unfold rowAt dist; rw [List.take_length]
theorem rowOf_last (t w : List Nat) : (rowOf t w).getLast? = some (dist t w) := by
  rw [List.getLast?_eq_getElem?, rowOf_len, Nat.add_sub_cancel, rowOf_get (Nat.le_refl _), rowAt_last]
theorem rowAt_zero (t w : List Nat) : rowAt t w 0 = t.length := by
  unfold rowAt; rw [List.take_zero, List.reverse_nil, lv_nil', List.length_reverse]
theorem take_rev {w : List Nat} {k : Nat} (h : k < w.length) : (w.take (k + 1)).reverse = w[k] :: (w.take k).reverse := by
  rw [List.take_succ_eq_append_getElem h, List.reverse_append]; rfl
theorem rowAt_step {t w : List Nat} {k c : Nat} (h : k < w.length) :
    rowAt (t ++ [c]) w (k + 1) = min (min (rowAt t w (k + 1) + 1) (rowAt (t ++ [c]) w k + 1)) (rowAt t w k + if w[k] = c then 0 else 1) := by
  unfold rowAt
  rw [take_rev h, List.reverse_append]
  show lv (c :: t.reverse) _ = _
  rw [lv_cons]
  have e : (if c = w[k] then 0 else 1) = if w[k] = c then 0 else 1 := by
    by_cases q : c = w[k]
    · rw [if_pos q, if_pos q.symm]
    · rw [if_neg q, if_neg (Ne.symm q)]
  rw [e]; rfl
/-! ### the least of a row never falls -/
def Near (w : List Nat) (m : Nat) (t : List Nat) : Prop := ∃ k, k ≤ w.length ∧ rowAt t w k ≤ m
instance (w : List Nat) (m : Nat) (t : List Nat) : Decidable (Near w m t) :=
  decidable_of_iff ((List.range (w.length + 1)).any (fun k => decide (rowAt t w k ≤ m)) = true) (by simp [Near, Nat.lt_succ_iff])
theorem near_one {w t : List Nat} {m c : Nat} (h : Near w m (t ++ [c])) : Near w m t := by
  obtain ⟨k, hk, h⟩ := h
  induction k with
  | zero =>
    rw [rowAt_zero, List.length_append] at h
    exact ⟨0, Nat.zero_le _, by rw [rowAt_zero]; omega⟩
  | succ k ih =>
    rw [rowAt_step (by omega)] at h
    by_cases h1 : rowAt t w (k + 1) + 1 ≤ m
    · exact ⟨k + 1, hk, by omega⟩
    · by_cases h2 : rowAt (t ++ [c]) w k + 1 ≤ m
      · exact ih (by omega) (by omega)
      · exact ⟨k, by omega, by omega⟩
theorem near_pre {w : List Nat} {m : Nat} (t : List Nat) : ∀ u : List Nat, Near w m (t ++ u) → Near w m t := by
  intro u
  induction u generalizing t with
  | nil => intro h; rwa [List.append_nil] at h
  | cons c u ih => intro h; exact near_one (ih (t ++ [c]) (by rwa [List.append_assoc]))
theorem near_of {w t : List Nat} {m : Nat} (h : dist t w ≤ m) : Near w m t := ⟨w.length, Nat.le_refl _, by rw [rowAt_last]; exact h⟩
theorem near_pre' {w p q : List Nat} {m : Nat} (h : dist p w ≤ m) (hq : q <+: p) : Near w m q := by
  obtain ⟨u, rfl⟩ := hq
  exact near_pre q u (near_of h)
theorem near_iff {w t : List Nat} {m : Nat} : Near w m t ↔ ∃ x ∈ rowOf t w, x ≤ m := by
  unfold Near rowOf
  constructor
  · rintro ⟨k, hk, h⟩
    exact ⟨_, List.mem_map.mpr ⟨k, List.mem_range.mpr (by omega), rfl⟩, h⟩
  · rintro ⟨x, hx, h⟩
    obtain ⟨k, hk, rfl⟩ := List.mem_map.mp hx
    exact ⟨k, by have := List.mem_range.mp hk; omega, h⟩
/-! ### a lower bound -/
theorem lv_low : ∀ (n : Nat) (a b : List Nat), a.length + b.length ≤ n → b.length ≤ lv a b + a.length
  | _, [], b, _ => by rw [lv_nil]; simp
  | _, x :: a, [], _ => by simp
  | 0, x :: a, y :: b, h => by simp at h
  | n + 1, x :: a, y :: b, h => by
    simp only [List.length_cons] at h
    rw [lv_cons]
    have h1 := lv_low n a (y :: b) (by simp only [List.length_cons]; omega)
    have h2 := lv_low n (x :: a) b (by simp only [List.length_cons]; omega)
    have h3 := lv_low n a b (by omega)
    simp only [List.length_cons] at *
    omega
/-! ### the tree of the beginnings -/
abbrev Dct := List (Nat × Nat)
structure Tr (A : List Dct) (B : List Bool) (ps : List (List Nat)) (M Wd : List Nat → Prop) : Prop where
  lenA : A.length = ps.length
  lenB : B.length = ps.length
  nd : ps.Nodup
  zero : ps[0]? = some []
  go : ∀ (s : Nat) (d : Dct) (p : List Nat) (c s' : Nat), A[s]? = some d → ps[s]? = some p → (d.lookup c = some s' ↔ ps[s']? = some (p ++ [c]))
  keys : ∀ (s : Nat) (d : Dct), A[s]? = some d → (d.map (·.1)).Nodup
  word : ∀ (s : Nat) (b : Bool) (p : List Nat), B[s]? = some b → ps[s]? = some p → (b = true ↔ Wd p)
  mem : ∀ p, p ∈ ps ↔ M p
  sub : ∀ p, Wd p → M p
  up : ∀ p c, M (p ++ [c]) → M p
theorem nodup_get {α : Type} {l : List α} (h : l.Nodup) {i j : Nat} {a : α} (hi : l[i]? = some a) (hj : l[j]? = some a) : i = j := by
  obtain ⟨l1, e1⟩ := List.getElem?_eq_some_iff.mp hi
  obtain ⟨l2, e2⟩ := List.getElem?_eq_some_iff.mp hj
  have hp := List.pairwise_iff_getElem.mp h
  rcases Nat.lt_trichotomy i j with c | c | c
  · exact absurd (e1.trans e2.symm) (hp i j l1 l2 c)
  · exact c
  · exact absurd (e2.trans e1.symm) (hp j i l2 l1 c)
theorem Tr.start : Tr [[]] [false] [[]] (fun p => p = []) (fun _ => False) where
  lenA := rfl
  lenB := rfl
  nd := by simp
  zero := rfl
  go := fun s d p c s' hd hp => by
    have h0 : s = 0 := by
      have := (List.getElem?_eq_some_iff.mp hd).1
      simp at this; exact this
    subst h0
    simp at hd hp
    subst hd hp
    simp
    intro h
    cases s' <;> simp at h
  keys := fun s d hd => by
    have h0 : s = 0 := by
      have := (List.getElem?_eq_some_iff.mp hd).1
      simp at this; exact this
    subst h0
    simp at hd
    subst hd
    simp
  word := fun s b p hb hp => by
    have h0 : s = 0 := by
      have := (List.getElem?_eq_some_iff.mp hb).1
      simp at this; exact this
    subst h0
    simp at hb
    subst hb
    simp
  mem := fun p => by simp
  sub := fun p h => h.elim
  up := fun p c h => by simp at h
section
variable {A : List Dct} {B : List Bool} {ps : List (List Nat)} {M Wd : List Nat → Prop}
theorem Tr.congr {M' Wd' : List Nat → Prop} (T : Tr A B ps M Wd) (hM : ∀ p, M p ↔ M' p) (hW : ∀ p, Wd p ↔ Wd' p) : Tr A B ps M' Wd' :=
  ⟨T.lenA, T.lenB, T.nd, T.zero, T.go, T.keys, fun s b p hb hp => (T.word s b p hb hp).trans (hW p), fun p => (T.mem p).trans (hM p), fun p h => (hM p).mp (T.sub p ((hW p).mpr h)), fun p c h => (hM p).mp (T.up p c ((hM _).mpr h))⟩
theorem Tr.at (T : Tr A B ps M Wd) {s : Nat} {p : List Nat} (h : ps[s]? = some p) : ∃ d b, A[s]? = some d ∧ B[s]? = some b := by
  have hl := (List.getElem?_eq_some_iff.mp h).1
  exact ⟨A[s]'(by rw [T.lenA]; exact hl), B[s]'(by rw [T.lenB]; exact hl), by simp, by simp⟩
theorem lookup_append {d e : Dct} {c : Nat} : (d ++ e).lookup c = (d.lookup c).or (e.lookup c) := by
  induction d with
  | nil => simp
  | cons x d ih =>
    obtain ⟨k, v⟩ := x
    simp only [List.cons_append, List.lookup_cons]
    cases c == k <;> simp [ih]
theorem lookup_none {d : Dct} {c : Nat} (h : d.lookup c = none) : c ∉ d.map (·.1) := by
  induction d with
  | nil => simp
  | cons x d ih =>
    obtain ⟨k, v⟩ := x
    rw [List.lookup_cons] at h
    by_cases q : c = k
    · subst q; simp at h
    · have : (c == k) = false := by simpa using q
      rw [this] at h
      simp only [List.map_cons, List.mem_cons, not_or]
      exact ⟨q, ih h⟩
theorem lookup_mem {d : Dct} {c : Nat} (h : c ∈ d.map (·.1)) : ∃ s, d.lookup c = some s := by
  cases e : d.lookup c with
  | some s => exact ⟨s, rfl⟩
  | none => exact absurd h (lookup_none e)
theorem mem_lookup {d : Dct} {c s : Nat} (h : d.lookup c = some s) : c ∈ d.map (·.1) := by
  induction d with
  | nil => simp at h
  | cons x d ih =>
    obtain ⟨k, v⟩ := x
    rw [List.lookup_cons] at h
    by_cases q : c = k
    · subst q; simp
    · have : (c == k) = false := by simpa using q
      rw [this] at h
      exact List.mem_cons_of_mem _ (ih h)
/-- the sign is there -/
theorem Tr.there (T : Tr A B ps M Wd) {s c s' : Nat} {p : List Nat} {d : Dct} (hp : ps[s]? = some p) (hd : A[s]? = some d) (hl : d.lookup c = some s') : ps[s']? = some (p ++ [c]) ∧ Tr A B ps (fun x => M x ∨ x = p ++ [c]) Wd := by
  have h1 := (T.go s d p c s' hd hp).mp hl
  refine ⟨h1, T.congr (fun x => ⟨.inl, fun h => h.elim id fun e => ?_⟩) fun _ => Iff.rfl⟩
  subst e
  exact (T.mem _).mp (List.mem_of_getElem? h1)
/-- .. is put -/
theorem Tr.put (T : Tr A B ps M Wd) {s c : Nat} {p : List Nat} {d : Dct} (hp : ps[s]? = some p) (hd : A[s]? = some d) (hl : d.lookup c = none) :
    Tr (A.set s (d ++ [(c, A.length)]) ++ [[]]) (B ++ [false]) (ps ++ [p ++ [c]]) (fun x => M x ∨ x = p ++ [c]) Wd := by
  have hs : s < A.length := (List.getElem?_eq_some_iff.mp hd).1
  have hn : p ++ [c] ∉ ps := fun h => by
    obtain ⟨j, hj⟩ := List.mem_iff_getElem?.mp h
    have := (T.go s d p c j hd hp).mpr hj
    rw [hl] at this; cases this
  have hM : ¬ M (p ++ [c]) := fun h => hn ((T.mem _).mpr h)
  have psn : ∀ j x, ps[j]? = some x → (ps ++ [p ++ [c]])[j]? = some x := fun j x h => by
    rw [List.getElem?_append_left (List.getElem?_eq_some_iff.mp h).1]; exact h
  have psb : ∀ j x, (ps ++ [p ++ [c]])[j]? = some x → ps[j]? = some x ∨ (j = ps.length ∧ x = p ++ [c]) := fun j x h => by
    by_cases hj : j < ps.length
    · rw [List.getElem?_append_left hj] at h; exact .inl h
    · rw [List.getElem?_append_right (by omega)] at h
      have : j - ps.length = 0 := by
        have := (List.getElem?_eq_some_iff.mp h).1
        simpa using this
      rw [this] at h
      exact .inr ⟨by omega, by simpa using h.symm⟩
  refine ⟨by simp [T.lenA], by simp [T.lenB], ?_, psn 0 [] T.zero, ?_, ?_, ?_, ?_, fun q h => .inl (T.sub q h), ?_⟩
  · refine List.nodup_append.mpr ⟨T.nd, by simp, fun a ha b hb => ?_⟩
    rw [List.mem_singleton] at hb
    subst hb
    exact fun e => hn (e ▸ ha)
  · intro j d' q c' s' hd' hq
    by_cases hj : j < A.length
    · have hq0 : ps[j]? = some q := by
        rcases psb j q hq with h | h
        · exact h
        · have := T.lenA; omega
      rw [List.getElem?_append_left (by simpa using hj)] at hd'
      by_cases hjs : s = j
      · subst hjs
        rw [List.getElem?_set_self hj] at hd'
        cases hd'
        rw [hp] at hq0; cases hq0
        rw [lookup_append]
        by_cases hc : c' = c
        · subst hc
          rw [hl]
          simp only [Option.none_or, List.lookup_cons_self]
          constructor
          · intro e; cases e
            rw [T.lenA]
            rw [List.getElem?_append_right (Nat.le_refl _)]; simp
          · intro h
            rcases psb _ _ h with h | ⟨h, _⟩
            · exact absurd (List.mem_of_getElem? h) hn
            · rw [h, T.lenA]
        · have e0 : List.lookup c' [(c, A.length)] = none := by
            have q : (c' == c) = false := by simpa using hc
            simp [List.lookup, q]
          rw [e0, Option.or_none, T.go s d p c' s' hd hp]
          constructor
          · exact psn _ _
          · intro h
            rcases psb _ _ h with h | ⟨_, h⟩
            · exact h
            · have := List.append_inj_right h rfl
              simp at this
              exact absurd this hc
      · rw [List.getElem?_set_ne hjs] at hd'
        rw [T.go j d' q c' s' hd' hq0]
        constructor
        · exact psn _ _
        · intro h
          rcases psb _ _ h with h | ⟨_, h⟩
          · exact h
          · have h2 : q = p := List.append_inj_left' h rfl
            subst h2
            exact absurd (nodup_get T.nd hp hq0) hjs
    · rw [List.getElem?_append_right (by simpa using hj)] at hd'
      have hj0 : j - (A.set s (d ++ [(c, A.length)])).length = 0 := by
        have := (List.getElem?_eq_some_iff.mp hd').1
        simpa using this
      rw [hj0] at hd'
      simp at hd'
      subst hd'
      have hjl : j = ps.length := by
        have := (List.getElem?_eq_some_iff.mp hq).1
        have := T.lenA
        simp at *; omega
      have hqe : q = p ++ [c] := by
        rcases psb j q hq with h | h
        · have := (List.getElem?_eq_some_iff.mp h).1; omega
        · exact h.2
      subst hqe
      simp only [List.lookup_nil, reduceCtorEq, false_iff]
      intro h
      rcases psb _ _ h with h | ⟨_, h⟩
      · have h1 := (T.mem _).mp (List.mem_of_getElem? h)
        exact hM (T.up _ _ h1)
      · have := congrArg List.length h
        simp at this
  · intro j d' hd'
    by_cases hj : j < A.length
    · rw [List.getElem?_append_left (by simpa using hj)] at hd'
      by_cases hjs : s = j
      · subst hjs
        rw [List.getElem?_set_self hj] at hd'
        cases hd'
        rw [List.map_append]
        refine List.nodup_append.mpr ⟨T.keys s d hd, by simp, fun a ha b hb => ?_⟩
        simp at hb
        subst hb
        exact fun e => lookup_none hl (e ▸ ha)
      · rw [List.getElem?_set_ne hjs] at hd'
        exact T.keys j d' hd'
    · rw [List.getElem?_append_right (by simpa using hj)] at hd'
      have hj0 : j - (A.set s (d ++ [(c, A.length)])).length = 0 := by
        have := (List.getElem?_eq_some_iff.mp hd').1
        simpa using this
      rw [hj0] at hd'
      simp at hd'
      subst hd'
      simp
  · intro j b q hb hq
    rcases psb j q hq with h | ⟨h, rfl⟩
    · have hj := (List.getElem?_eq_some_iff.mp h).1
      rw [List.getElem?_append_left (by rw [T.lenB]; exact hj)] at hb
      exact T.word j b q hb h
    · rw [List.getElem?_append_right (by rw [T.lenB]; omega), T.lenB, h, Nat.sub_self] at hb
      simp at hb
      subst hb
      simp
      exact fun h => hM (T.sub _ h)
  · intro q
    rw [List.mem_append, T.mem, List.mem_singleton]
  · intro q c' h
    rcases h with h | h
    · exact .inl (T.up q c' h)
    · have := List.append_inj_left' h rfl
      subst this
      exact .inl ((T.mem _).mp (List.mem_of_getElem? hp))
/-- the word ends here -/
theorem Tr.mark (T : Tr A B ps M Wd) {s : Nat} {p : List Nat} (hp : ps[s]? = some p) : Tr A (B.set s true) ps M (fun x => Wd x ∨ x = p) := by
  refine ⟨T.lenA, by simp [T.lenB], T.nd, T.zero, T.go, T.keys, fun j b q hb hq => ?_, T.mem, fun q h => h.elim (T.sub q) fun e => ?_, T.up⟩
  · by_cases hj : s = j
    · subst hj
      rw [hp] at hq; cases hq
      rw [List.getElem?_set_self (by have := (List.getElem?_eq_some_iff.mp hp).1; rw [T.lenB]; exact this)] at hb
      cases hb
      simp
    · rw [List.getElem?_set_ne hj] at hb
      rw [T.word j b q hb hq]
      exact ⟨.inl, fun h => h.elim id fun e => by subst e; exact absurd (nodup_get T.nd hp hq) hj⟩
  · subst e
    exact (T.mem _).mp (List.mem_of_getElem? hp)
end
/-- the tree of the words W -/
def MW (W : List (List Nat)) (p : List Nat) : Prop := p = [] ∨ ∃ w ∈ W, p <+: w
def Full (A : List Dct) (B : List Bool) (ps W : List (List Nat)) : Prop := Tr A B ps (MW W) (· ∈ W)
theorem full_start : Full [[]] [false] [[]] [] := Tr.start.congr (fun p => by simp [MW]) (fun p => by simp)
/-- in the midst of putting w: i signs are put -/
def Mid (A : List Dct) (B : List Bool) (ps W : List (List Nat)) (w : List Nat) (i : Nat) : Prop := Tr A B ps (fun p => MW W p ∨ p <+: w.take i) (· ∈ W)
theorem mid_start {A B ps W} (w : List Nat) (T : Full A B ps W) : Mid A B ps W w 0 :=
  Tr.congr T (fun p => ⟨.inl, fun h => h.elim id fun e => .inl (by simpa using e)⟩) fun _ => Iff.rfl
theorem pre_step {w p : List Nat} {i : Nat} (h : i < w.length) : p <+: w.take (i + 1) ↔ p <+: w.take i ∨ p = w.take i ++ [w[i]] := by
  rw [List.take_succ_eq_append_getElem h, List.prefix_concat_iff]
  exact ⟨fun q => q.elim .inr .inl, fun q => q.elim .inr .inl⟩
theorem mid_step {A B ps W} {w : List Nat} {i : Nat} (h : i < w.length) {M : List Nat → Prop} (T : Tr A B ps (fun x => M x ∨ x = w.take i ++ [w[i]]) (· ∈ W)) (hM : ∀ p, M p ↔ MW W p ∨ p <+: w.take i) : Mid A B ps W w (i + 1) :=
  T.congr (fun p => by rw [pre_step h, hM, or_assoc]) fun _ => Iff.rfl
theorem mid_there {A B ps W} {w : List Nat} {i s s' : Nat} {d : Dct} (h : i < w.length) (T : Mid A B ps W w i) (hp : ps[s]? = some (w.take i)) (hd : A[s]? = some d) (hl : d.lookup w[i] = some s') :
    Mid A B ps W w (i + 1) ∧ ps[s']? = some (w.take (i + 1)) := by
  obtain ⟨h1, h2⟩ := Tr.there T hp hd hl
  exact ⟨mid_step h h2 fun _ => Iff.rfl, by rw [List.take_succ_eq_append_getElem h]; exact h1⟩
theorem mid_put {A B ps W} {w : List Nat} {i s : Nat} {d : Dct} (h : i < w.length) (T : Mid A B ps W w i) (hp : ps[s]? = some (w.take i)) (hd : A[s]? = some d) (hl : d.lookup w[i] = none) :
    Mid (A.set s (d ++ [(w[i], A.length)]) ++ [[]]) (B ++ [false]) (ps ++ [w.take (i + 1)]) W w (i + 1) ∧ (ps ++ [w.take (i + 1)])[A.length]? = some (w.take (i + 1)) := by
  have h2 := Tr.put T hp hd hl
  rw [← List.take_succ_eq_append_getElem h] at h2
  refine ⟨Tr.congr h2 (fun p => by rw [pre_step h, ← List.take_succ_eq_append_getElem h, or_assoc]) fun _ => Iff.rfl, ?_⟩
  rw [T.lenA, List.getElem?_append_right (Nat.le_refl _), Nat.sub_self]; rfl
theorem mid_end {A B ps W} {w : List Nat} {s : Nat} (T : Mid A B ps W w w.length) (hp : ps[s]? = some w) : Full A (B.set s true) ps (W ++ [w]) := by
  refine Tr.congr (Tr.mark T hp) (fun p => ?_) fun p => by simp
  unfold MW
  rw [List.take_length]
  constructor
  · rintro ((h | ⟨v, hv, h⟩) | h)
    · exact .inl h
    · exact .inr ⟨v, List.mem_append_left _ hv, h⟩
    · exact .inr ⟨w, by simp, h⟩
  · rintro (h | ⟨v, hv, h⟩)
    · exact .inl (.inl h)
    · rcases List.mem_append.mp hv with hv | hv
      · exact .inl (.inr ⟨v, hv, h⟩)
      · rw [List.mem_singleton] at hv
        subst hv
        exact .inr h
end K87
namespace K87
section
variable {A : List Dct} {B : List Bool} {ps W : List (List Nat)}
/-! ### a word is sought -/
theorem has_none (T : Full A B ps W) {t : List Nat} {i s : Nat} {d : Dct} (h : i < t.length) (hp : ps[s]? = some (t.take i)) (hd : A[s]? = some d) (hl : d.lookup t[i] = none) : t ∉ W := fun ht => by
  have h1 : t.take i ++ [t[i]] ∈ ps := (T.mem _).mpr (.inr ⟨t, ht, by rw [← List.take_succ_eq_append_getElem h]; exact List.take_prefix _ _⟩)
  obtain ⟨j, hj⟩ := List.mem_iff_getElem?.mp h1
  have := (T.go s d _ _ j hd hp).mpr hj
  rw [hl] at this; cases this
theorem has_some (T : Full A B ps W) {t : List Nat} {i s s' : Nat} {d : Dct} (h : i < t.length) (hp : ps[s]? = some (t.take i)) (hd : A[s]? = some d) (hl : d.lookup t[i] = some s') : ps[s']? = some (t.take (i + 1)) := by
  rw [List.take_succ_eq_append_getElem h]
  exact (T.go s d _ _ s' hd hp).mp hl
theorem has_end (T : Full A B ps W) {t : List Nat} {s : Nat} {b : Bool} (hp : ps[s]? = some t) (hb : B[s]? = some b) : b = decide (t ∈ W) := by
  have := T.word s b t hb hp
  by_cases h : t ∈ W
  · rw [this.mpr h]; simp [h]
  · cases b with
    | false => simp [h]
    | true => exact absurd (this.mp rfl) h
/-! ### the search -/
def hit (W : List (List Nat)) (w : List Nat) (m : Nat) (p : List Nat) : Bool := decide (p ∈ W) && decide (dist p w ≤ m)
def pr (w p : List Nat) : Nat × List Nat := (dist p w, p)
structure Dfs (ps W : List (List Nat)) (w : List Nat) (m : Nat) (found : List (Nat × List Nat)) (wait : List (List Nat × Nat)) (vis : List (List Nat)) : Prop where
  fnd : found = (vis.filter (hit W w m)).map (pr w)
  wt : ∀ p s, (p, s) ∈ wait → ps[s]? = some p
  nd : (vis ++ wait.map (·.1)).Nodup
  inn : ∀ x ∈ vis ++ wait.map (·.1), x ∈ ps ∧ (x = [] ∨ x.dropLast ∈ vis)
  root : [] ∈ vis ++ wait.map (·.1)
  cl : ∀ p ∈ vis, ∀ c, p ++ [c] ∈ ps → Near w m (p ++ [c]) → p ++ [c] ∈ vis ++ wait.map (·.1)
theorem dfs_start {w : List Nat} {m : Nat} (T : Full A B ps W) : Dfs ps W w m [] [([], 0)] [] where
  fnd := rfl
  wt := fun p s h => by
    simp at h
    obtain ⟨rfl, rfl⟩ := h
    exact T.zero
  nd := by simp
  inn := fun x h => by
    simp at h
    subst h
    exact ⟨(T.mem _).mpr (.inl rfl), .inl rfl⟩
  root := by simp
  cl := fun p h => by simp at h
def kids (d : Dct) (w : List Nat) (m : Nat) (p : List Nat) (ys : List Nat) : List (List Nat × Nat) := (ys.filter fun c => decide (Near w m (p ++ [c]))).map fun c => (p ++ [c], (d.lookup c).getD 0)
theorem dfs_step {w p : List Nat} {m s : Nat} {found : List (Nat × List Nat)} {wait : List (List Nat × Nat)} {vis : List (List Nat)} {d : Dct} {ys : List Nat} (T : Full A B ps W) (I : Dfs ps W w m found (wait ++ [(p, s)]) vis)
    (hd : A[s]? = some d) (hy : ys.Perm (d.map (·.1))) : Dfs ps W w m (found ++ if hit W w m p = true then [pr w p] else []) (wait ++ kids d w m p ys) (vis ++ [p]) := by
  have hp : ps[s]? = some p := I.wt p s (by simp)
  have ynd : ys.Nodup := hy.nodup_iff.mpr (T.keys s d hd)
  have kid : ∀ q j, (q, j) ∈ kids d w m p ys → ∃ c, c ∈ ys ∧ Near w m (p ++ [c]) ∧ q = p ++ [c] ∧ ps[j]? = some q := fun q j h => by
    unfold kids at h
    obtain ⟨c, hc, e⟩ := List.mem_map.mp h
    obtain ⟨hc, hn⟩ := List.mem_filter.mp hc
    obtain ⟨s', hs'⟩ := lookup_mem (hy.mem_iff.mp hc)
    rw [hs'] at e
    cases e
    exact ⟨c, hc, of_decide_eq_true hn, rfl, (T.go s d p c _ hd hp).mp hs'⟩
  have nv : p ∉ vis := fun h => by
    have := I.nd
    rw [List.map_append] at this
    exact (List.nodup_append.mp this).2.2 p h p (by simp) rfl
  refine ⟨?_, ?_, ?_, ?_, ?_, ?_⟩
  · rw [I.fnd, List.filter_append, List.map_append]
    congr 1
    by_cases h : hit W w m p = true
    · rw [if_pos h, List.filter_cons_of_pos h]; rfl
    · rw [if_neg h, List.filter_cons_of_neg h]; rfl
  · intro q j h
    rcases List.mem_append.mp h with h | h
    · exact I.wt q j (List.mem_append_left _ h)
    · obtain ⟨c, _, _, _, e⟩ := kid q j h
      exact e
  · have e : (vis ++ [p]) ++ (wait ++ kids d w m p ys).map (·.1) = ((vis ++ [p]) ++ wait.map (·.1)) ++ (kids d w m p ys).map (·.1) := by rw [List.map_append, List.append_assoc, List.append_assoc, List.append_assoc]
    rw [e]
    have pm : ((vis ++ [p]) ++ wait.map (·.1)).Perm (vis ++ (wait ++ [(p, s)]).map (·.1)) := by
      rw [List.map_append, List.append_assoc]
      exact List.Perm.append_left vis (List.perm_append_comm)
    refine List.nodup_append.mpr ⟨pm.nodup_iff.mpr I.nd, ?_, fun x hx y hy2 => ?_⟩
    · have e2 : (kids d w m p ys).map (·.1) = (ys.filter fun c => decide (Near w m (p ++ [c]))).map fun c => p ++ [c] := by
        unfold kids; rw [List.map_map]; rfl
      rw [e2]
      refine List.pairwise_map.mpr ((ynd.filter _).imp fun h e => h ?_)
      have := List.append_inj_right e rfl
      simpa using this
    · intro e
      subst e
      obtain ⟨⟨q, j⟩, hq, e⟩ := List.mem_map.mp hy2
      obtain ⟨c, hc, _, e3, _⟩ := kid q j hq
      have e4 : x = p ++ [c] := by rw [← e, ← e3]
      obtain ⟨_, h3⟩ := I.inn x (pm.mem_iff.mp hx)
      rcases h3 with h3 | h3
      · rw [e4] at h3; simp at h3
      · rw [e4, List.dropLast_concat] at h3; exact nv h3
  · intro x hx
    rw [List.map_append, ← List.append_assoc] at hx
    rcases List.mem_append.mp hx with hx | hx
    · obtain ⟨h1, h2⟩ := I.inn x (by
        rw [List.map_append]
        simp only [List.mem_append, List.map_cons, List.map_nil, List.mem_singleton] at hx ⊢
        rcases hx with (h | h) | h
        · exact .inl h
        · exact .inr (.inr h)
        · exact .inr (.inl h))
      exact ⟨h1, h2.elim .inl fun h => .inr (List.mem_append_left _ h)⟩
    · obtain ⟨⟨q, j⟩, hq, e⟩ := List.mem_map.mp hx
      obtain ⟨c, hc, _, e3, e5⟩ := kid q j hq
      have e4 : x = p ++ [c] := by rw [← e, ← e3]
      exact ⟨by rw [e4, ← e3]; exact List.mem_of_getElem? e5, .inr (by rw [e4, List.dropLast_concat]; simp)⟩
  · have := I.root
    rw [List.map_append] at this ⊢
    simp only [List.mem_append, List.map_cons, List.map_nil, List.mem_singleton] at this ⊢
    rcases this with h | h | h
    · exact .inl (.inl h)
    · exact .inr (.inl h)
    · exact .inl (.inr h)
  · intro q hq c hc hn
    rcases List.mem_append.mp hq with hq | hq
    · have := I.cl q hq c hc hn
      rw [List.map_append] at this ⊢
      simp only [List.mem_append, List.map_cons, List.map_nil, List.mem_singleton] at this ⊢
      rcases this with h | h | h
      · exact .inl (.inl h)
      · exact .inr (.inl h)
      · exact .inl (.inr h)
    · rw [List.mem_singleton] at hq
      subst hq
      obtain ⟨j, hj⟩ := List.mem_iff_getElem?.mp hc
      have hl := (T.go s d q c j hd hp).mpr hj
      refine List.mem_append_right _ ?_
      rw [List.map_append]
      refine List.mem_append_right _ (List.mem_map.mpr ⟨(q ++ [c], j), List.mem_map.mpr ⟨c, List.mem_filter.mpr ⟨hy.mem_iff.mpr (mem_lookup hl), decide_eq_true hn⟩, by rw [hl]; rfl⟩, rfl⟩)
theorem dfs_low {w : List Nat} {m : Nat} {found : List (Nat × List Nat)} {wait : List (List Nat × Nat)} {vis : List (List Nat)} {x : List Nat × Nat} (I : Dfs ps W w m found (wait ++ [x]) vis) : vis.length < ps.length := by
  have h1 := List.Nodup.length_le_of_subset I.nd (fun y hy => (I.inn y hy).1)
  simp at h1
  omega
theorem dfs_le {w : List Nat} {m : Nat} {found : List (Nat × List Nat)} {wait : List (List Nat × Nat)} {vis : List (List Nat)} (I : Dfs ps W w m found wait vis) : vis.length + wait.length ≤ ps.length := by
  have h1 := List.Nodup.length_le_of_subset I.nd (fun y hy => (I.inn y hy).1)
  simpa using h1
theorem dfs_all {w : List Nat} {m : Nat} {found : List (Nat × List Nat)} {vis : List (List Nat)} (I : Dfs ps W w m found [] vis) (T : Full A B ps W) : ∀ (n : Nat) (p : List Nat), p.length = n → p ∈ ps → (∀ q, q <+: p → Near w m q) → p ∈ vis
  | 0, p, hn, hp, _ => by
    have := I.root
    rw [List.length_eq_zero_iff] at hn
    subst hn
    simpa using this
  | n + 1, p, hn, hp, h => by
    have hne : p ≠ [] := fun e => by subst e; simp at hn
    have e := List.dropLast_concat_getLast hne
    have hM := (T.mem p).mp hp
    have hu := T.up p.dropLast (p.getLast hne) (by rw [e]; exact hM)
    have h1 := dfs_all I T n p.dropLast (by rw [List.length_dropLast]; omega) ((T.mem _).mpr hu) fun q hq => h q (hq.trans (List.dropLast_prefix p))
    have := I.cl _ h1 (p.getLast hne) (by rw [e]; exact hp) (by rw [e]; exact h p (List.prefix_refl p))
    rw [e] at this
    simpa using this
/-- what the law itself asks -/
def due (W : List (List Nat)) (w : List Nat) (m : Nat) : List (Nat × List Nat) := (W.filter fun p => decide (dist p w ≤ m)).map (pr w)
theorem dfs_end {w : List Nat} {m : Nat} {found : List (Nat × List Nat)} {vis : List (List Nat)} (I : Dfs ps W w m found [] vis) (T : Full A B ps W) (hW : W.Nodup) : found.Perm (due W w m) := by
  rw [I.fnd]
  unfold due
  refine List.Perm.map _ ((List.perm_ext_iff_of_nodup ?_ (hW.filter _)).mpr fun p => ?_)
  · have := I.nd
    simp at this
    exact this.filter _
  · simp only [List.mem_filter, hit, Bool.and_eq_true, decide_eq_true_eq]
    constructor
    · exact fun h => ⟨h.2.1, h.2.2⟩
    · rintro ⟨h1, h2⟩
      exact ⟨dfs_all I T _ p rfl ((T.mem p).mpr (.inr ⟨p, h1, List.prefix_refl p⟩)) fun q hq => near_pre' h2 hq, h1, h2⟩
/-! ### how many states -/
theorem full_len (T : Full A B ps W) {ks : List (List Nat)} (hn : ks.Nodup) (hk : ∀ p, p ∈ ks ↔ p = [] ∨ ∃ w ∈ W, p <+: w) : A.length = ks.length := by
  rw [T.lenA]
  exact ((List.perm_ext_iff_of_nodup T.nd hn).mpr fun p => (T.mem p).trans (hk p).symm).length_eq
/-- few signs, few keys -/
theorem keys_few (T : Full A B ps W) {L : List Nat} (hL : ∀ w ∈ W, ∀ c ∈ w, c ∈ L) {s : Nat} {d : Dct} (hd : A[s]? = some d) : d.length ≤ L.length := by
  have h1 : d.length = (d.map (·.1)).length := by simp
  rw [h1]
  refine List.Nodup.length_le_of_subset (T.keys s d hd) fun c hc => ?_
  obtain ⟨s', hl⟩ := lookup_mem hc
  have hs := (List.getElem?_eq_some_iff.mp hd).1
  have hp : ps[s]? = some (ps[s]'(by rw [← T.lenA]; exact hs)) := by simp
  have h2 := (T.go s d _ c s' hd hp).mp hl
  rcases (T.mem _).mp (List.mem_of_getElem? h2) with h | ⟨w, hw, h⟩
  · simp at h
  · exact hL w hw c (h.subset (by simp))
end
end K87
namespace K87
open PySem L2 Evl Mi
def topS (i : Nat) : Stmt := PySem.Challenge.pw_inkedtrue_k87_near_words.main.body.getD i (.Pass ⟨0, 0, 0, 0⟩)
/-! ### the tree's object -/
def sg (c : Nat) : Str := ⟨#[c]⟩
def dctV (d : Dct) : List (Key × V) := d.map fun x => (Sum.inr (sg x.1), V.int (x.2 : Nat))
def dctD (d : Dct) : List (Key × D) := d.map fun x => (Sum.inr (sg x.1), D.int (x.2 : Nat))
theorem sg_inj {a b : Nat} (h : sg a = sg b) : a = b := by
  unfold sg at h
  injection h with h
  simpa using h
theorem val_dct (d : Dct) (c : Nat) : valV (dctV d) (Sum.inr (sg c)) = (d.lookup c).map fun (s : Nat) => V.int s := by
  induction d with
  | nil => rfl
  | cons x d ih =>
    obtain ⟨k, v⟩ := x
    rw [List.lookup_cons]
    by_cases e : c = k
    · subst e
      rw [beq_self_eq_true]
      exact valV_pos (p := (Sum.inr (sg c), V.int (v : Nat))) rfl
    · have q : (c == k) = false := by simpa using e
      rw [q]
      refine Eq.trans (valV_neg (p := (Sum.inr (sg k), V.int (v : Nat))) fun z => e ?_) ih
      exact (sg_inj (Sum.inr.inj z)).symm
theorem put_dct {d : Dct} {c n : Nat} (h : d.lookup c = none) : putK (dctV d) (Sum.inr (sg c)) (V.int (n : Nat)) = dctV (d ++ [(c, n)]) := by
  unfold putK
  rw [valV_any, val_dct, h]
  simp [dctV]
theorem repK_dct {K : PySem.W.Frag} {g : G} {S : Hp} : ∀ d : Dct, RepK K g S (dctV d) (dctD d)
  | [] => .nil
  | _ :: d => .cons (.int _) (repK_dct d)
def tf (la lb : Addr) : List (Str × V) := [("_after", .ref la), ("_words", .ref lb)]
theorem ne_aw : ¬ (("_words" : Str) = "_after") := by decide +kernel
theorem tf_a (la lb : Addr) : (tf la lb).lookup ("_after" : Str) = some (V.ref la) := by
  unfold tf; rw [lookup_cons, if_pos rfl]
theorem tf_w (la lb : Addr) : (tf la lb).lookup ("_words" : Str) = some (V.ref lb) := by
  unfold tf; rw [lookup_cons, if_neg ne_aw, lookup_cons, if_pos rfl]
structure TreeX (C : Addr) (H0 H : Hp) (p dx la lb : Addr) (qs : List Addr) (A : List Dct) (B : List Bool) : Prop where
  ex : Ex H0 H
  hp : H p = some (.ins C dx (tf la lb))
  ha : H la = some (.lst (qs.map V.ref))
  hb : H lb = some (.lst (B.map V.bl))
  ne : la ≠ lb
  nd : qs.Nodup
  fp : H0 p = none
  fa : H0 la = none
  fb : H0 lb = none
  fq : ∀ q ∈ qs, H0 q = none
  len : qs.length = A.length
  at_ : ∀ (k : Nat) q d, qs[k]? = some q → A[k]? = some d → H q = some (.dK (dctV d))
section
variable {C : Addr} {H0 H : Hp} {p dx la lb : Addr} {qs : List Addr} {A : List Dct} {B : List Bool}
theorem TreeX.q (T : TreeX C H0 H p dx la lb qs A B) {s : Nat} {d : Dct} (h : A[s]? = some d) : ∃ q, qs[s]? = some q ∧ H q = some (.dK (dctV d)) := by
  have hl := (List.getElem?_eq_some_iff.mp h).1
  refine ⟨qs[s]'(by rw [T.len]; exact hl), by simp, T.at_ s _ d (by simp) h⟩
theorem TreeX.qd (T : TreeX C H0 H p dx la lb qs A B) {q : Addr} (h : q ∈ qs) : ∃ d, H q = some (.dK (dctV d)) := by
  obtain ⟨k, hk⟩ := List.mem_iff_getElem?.mp h
  have hl := (List.getElem?_eq_some_iff.mp hk).1
  exact ⟨_, T.at_ k q _ hk (show A[k]? = some (A[k]'(by rw [← T.len]; exact hl)) by simp)⟩
theorem TreeX.pa (T : TreeX C H0 H p dx la lb qs A B) : p ≠ la ∧ p ≠ lb ∧ la ∉ qs ∧ lb ∉ qs ∧ p ∉ qs := by
  refine ⟨fun z => ?_, fun z => ?_, fun z => ?_, fun z => ?_, fun z => ?_⟩
  · have := T.hp; rw [z, T.ha] at this; cases this
  · have := T.hp; rw [z, T.hb] at this; cases this
  · obtain ⟨d, h⟩ := T.qd z; rw [T.ha] at h; cases h
  · obtain ⟨d, h⟩ := T.qd z; rw [T.hb] at h; cases h
  · obtain ⟨d, h⟩ := T.qd z; rw [T.hp] at h; cases h
theorem ex_upd {a : Addr} {o : HO} (e : Ex H0 H) (h : H0 a = none) : Ex H0 (upd H a o) := fun b u q => by
  rw [upd_ne (fun z => by rw [z, h] at q; cases q)]
  exact e b u q
theorem ne_m {a q : Addr} {qs : List Addr} (h : a ∉ qs) (hm : q ∈ qs) : a ≠ q := fun z => h (by rw [z]; exact hm)
theorem ne_m' {a q : Addr} {qs : List Addr} (h : a ∉ qs) (hm : q ∈ qs) : q ≠ a := fun z => h (by rw [← z]; exact hm)
/-- self._after[state][sign] = n -/
theorem TreeX.setd (T : TreeX C H0 H p dx la lb qs A B) {s : Nat} {q : Addr} {d : Dct} (hq : qs[s]? = some q) (h : A[s]? = some d) (d' : Dct) : TreeX C H0 (upd H q (.dK (dctV d'))) p dx la lb qs (A.set s d') B := by
  have hm := List.mem_of_getElem? hq
  obtain ⟨n1, n2, n3, n4, n5⟩ := T.pa
  refine ⟨ex_upd T.ex (T.fq q hm), ?_, ?_, ?_, T.ne, T.nd, T.fp, T.fa, T.fb, T.fq, by rw [T.len, List.length_set], fun k q' d2 hq' hd2 => ?_⟩
  · rw [upd_ne (ne_m n5 hm)]; exact T.hp
  · rw [upd_ne (ne_m n3 hm)]; exact T.ha
  · rw [upd_ne (ne_m n4 hm)]; exact T.hb
  · by_cases hk : s = k
    · subst hk
      rw [hq] at hq'; cases hq'
      rw [List.getElem?_set_self (List.getElem?_eq_some_iff.mp h).1] at hd2
      cases hd2
      exact upd_same
    · rw [List.getElem?_set_ne hk] at hd2
      have : q' ≠ q := fun z => by subst z; exact hk (nodup_get T.nd hq hq')
      rw [upd_ne this]
      exact T.at_ k q' d2 hq' hd2
/-- self._after.append({}) -/
theorem TreeX.newd (T : TreeX C H0 H p dx la lb qs A B) {q : Addr} (hq : H q = none) : TreeX C H0 (upd (upd H q (.dK [])) la (.lst (qs.map V.ref ++ [.ref q]))) p dx la lb (qs ++ [q]) (A ++ [[]]) B := by
  obtain ⟨n1, n2, n3, n4, n5⟩ := T.pa
  have q1 : ∀ a o, H a = some o → a ≠ q := fun a o e z => by rw [z, hq] at e; cases e
  refine ⟨ex_upd (ex_upd T.ex (none_of_ex T.ex hq)) T.fa, ?_, ?_, ?_, T.ne, ?_, T.fp, T.fa, T.fb, fun a ha => ?_, by simp [T.len], fun k q' d2 hq' hd2 => ?_⟩
  · rw [upd_ne n1, upd_ne (q1 _ _ T.hp)]; exact T.hp
  · rw [upd_same, List.map_append]; rfl
  · rw [upd_ne (Ne.symm T.ne), upd_ne (q1 _ _ T.hb)]; exact T.hb
  · refine List.nodup_append.mpr ⟨T.nd, by simp, fun a ha b hb z => ?_⟩
    rw [List.mem_singleton] at hb
    obtain ⟨d, hd⟩ := T.qd ha
    exact q1 _ _ hd (z.trans hb)
  · rcases List.mem_append.mp ha with ha | ha
    · exact T.fq a ha
    · rw [List.mem_singleton] at ha
      subst ha
      exact none_of_ex T.ex hq
  · by_cases hk : k < qs.length
    · rw [List.getElem?_append_left hk] at hq'
      rw [List.getElem?_append_left (by rw [← T.len]; exact hk)] at hd2
      have h1 := T.at_ k q' d2 hq' hd2
      rw [upd_ne (ne_m' n3 (List.mem_of_getElem? hq')), upd_ne (q1 _ _ h1)]
      exact h1
    · rw [List.getElem?_append_right (by omega)] at hq'
      rw [List.getElem?_append_right (by rw [← T.len]; omega)] at hd2
      have h0 : k - qs.length = 0 := by
        have := (List.getElem?_eq_some_iff.mp hq').1
        simpa using this
      rw [h0] at hq'
      rw [← T.len, h0] at hd2
      simp at hq' hd2
      subst hq' hd2
      rw [upd_ne (fun z => by have := T.ha; rw [← z, hq] at this; cases this), upd_same]
      rfl
/-- a change of self._words -/
theorem TreeX.setw (T : TreeX C H0 H p dx la lb qs A B) (B' : List Bool) : TreeX C H0 (upd H lb (.lst (B'.map V.bl))) p dx la lb qs A B' := by
  obtain ⟨n1, n2, n3, n4, n5⟩ := T.pa
  refine ⟨ex_upd T.ex T.fb, by rw [upd_ne n2]; exact T.hp, by rw [upd_ne T.ne]; exact T.ha, upd_same, T.ne, T.nd, T.fp, T.fa, T.fb, T.fq, T.len, fun k q' d2 hq' hd2 => ?_⟩
  rw [upd_ne (ne_m' n4 (List.mem_of_getElem? hq'))]
  exact T.at_ k q' d2 hq' hd2
end
end K87
namespace K87
open PySem L2 Evl Mi
/-- over a text -/
theorem for_strX {x : Str} {g : TG} {tb : TS} {D : Ends} {σ : L2.St} {H : Hp} (Pv : Nat → L2.St → Hp → Prop) (h0 : Pv 0 σ H)
    (hs : ∀ i c σ H, x.cps[i]? = some c → Pv i σ H → g (.str (sg c)) σ H fun σ2 H2 => tb { D with nx := Pv (i + 1), ct := Pv (i + 1), bk := D.nx } σ2 H2) (hd : ∀ σ H, Pv x.cps.size σ H → D.nx σ H) :
    ∃ W : Nat → Nat → L2.St → Hp → Prop, (∃ m, W 0 m σ H) ∧ ∀ i m σ H, W i m σ H →
      ((Its x).stop i H ∧ D.nx σ H) ∨ ((Its x).go i H ∧ ∃ N : L2.St → Hp → Prop, (∀ σ' H', N σ' H' → ∃ m', m' < m ∧ W (i + 1) m' σ' H') ∧ ∀ y H', (Its x).yld i H y H' → g y σ H' fun σ2 H2 => tb { D with nx := N, ct := N, bk := D.nx } σ2 H2) := by
  refine ⟨fun i m σ H => m = x.cps.size - i ∧ i ≤ x.cps.size ∧ Pv i σ H, ⟨x.cps.size, by simp, Nat.zero_le _, h0⟩, ?_⟩
  rintro i m σ H ⟨rfl, hi, p⟩
  by_cases hlt : i < x.cps.size
  · refine .inr ⟨hlt, Pv (i + 1), fun σ' H' p' => ⟨x.cps.size - (i + 1), by omega, rfl, hlt, p'⟩, fun y H' q => ?_⟩
    obtain ⟨rfl, c, hc, rfl⟩ := q
    exact hs i c σ _ hc p
  · have e : i = x.cps.size := by omega
    subst e
    exact .inl ⟨Nat.le_refl _, hd σ H p⟩
abbrev s_put : Stmt := inClass (topS 16) 1
abbrev N_put : List Str := ["self", "word", "state", "sign"]
theorem sc_put : FnScope N_put ["self", "word"] (defScope s_put) := ⟨rfl, rfl, rfl, by decide +kernel, rfl, by decide +kernel, by decide +kernel⟩
structure TxC (K : PySem.W.Frag) (mg : Str → Option Value) (C : Addr) : Prop where
  cl : Cls K C
  nA : NoAttr K C "_after"
  nW : NoAttr K C "_words"
  len : mg "len" = none
def codes (s : Str) : List Nat := s.cps.toList
def spPut (C : Addr) : Sp := fun vs H Q _ => ∃ (H0 : Hp) (p dx la lb : Addr) (qs : List Addr) (A : List Dct) (B : List Bool) (ps W : List (List Nat)) (w : Str), vs = [.ref p, .str w] ∧ TreeX C H0 H p dx la lb qs A B ∧ Full A B ps W ∧ A.length + w.cps.size ≤ 1000000 ∧
  (∀ (s : Nat) d, A[s]? = some d → d.length ≤ 1000) ∧
  ∀ H' qs' A' B' ps', TreeX C H0 H' p dx la lb qs' A' B' → Full A' B' ps' (W ++ [codes w]) → A'.length ≤ A.length + w.cps.size → Q .non H'
section
variable {P : Program} {w : World} {K : PySem.W.Frag} {mg : Str → Option Value} {base : Heap} {g : G}
theorem ok_put {f C : Addr} {fd : FuncData} (F : Fun K "put" "WordTree.put" s_put f fd) (T : TxC K mg C) : FnOk P w K mg base CX0 1 f fd ["self", "word"] (spPut C) := by
  refine F.ok sc_put (fun vs H Q E h => ?_) (fun cdv A0 outer s H vs Q E hr h => ?_)
  · obtain ⟨H0, p, dx, la, lb, qs, A, B, ps, W, w, rfl, _⟩ := h
    rfl
  · obtain ⟨H0, p, dx, la, lb, qs, A, B, ps, W, w, rfl, TX, TF, hz, hd, k⟩ := h
    have hu := hu_of hr
    refine ⟨_, pss_cons (ps_set (i := 2) sc_put.nd rfl (Or.inl rfl) pe_int)
      (pss_cons (ps_for PassesOwn.never rfl (pi_str (pv 1)) (pg_name (i := 3) sc_put.nd rfl (Or.inl rfl))
        (pss_cons (ps_if (pt_cmp (pc_dnotin hu (pv 3) (pe_ix ix_list (pe_fld (pv 0) rfl) (pv 2) (fun _ _ => rfl))))
          (pss_cons (ps_dput hu (pe_ix ix_list (pe_fld (pv 0) rfl) (pv 2) (fun _ _ => rfl)) (pv 3) (pe_callB call_len_seq (by rfl) T.len PySem.boot_len (pa_cons (pe_fld (pv 0) rfl) pa_nil)) rfl)
          (pss_cons (ps_expr (pe_bm PySem.F.plainAttrs_list PySem.F.slot_list_append PySem.F.type_list_append mt_append (pe_fld (pv 0) rfl) (pa_cons pe_dnewK pa_nil)))
          (pss_one (ps_expr (pe_bm PySem.F.plainAttrs_list PySem.F.slot_list_append PySem.F.type_list_append mt_append (pe_fld (pv 0) rfl) (pa_cons pe_bl pa_nil))))))
          pss_nil)
        (pss_one (ps_set (i := 2) sc_put.nd rfl (Or.inl rfl) (pe_dget hu (pe_ix ix_list (pe_fld (pv 0) rfl) (pv 2) (fun _ _ => rfl)) (pv 3) (fun _ _ => rfl))))))
      (pss_one (ps_asg pe_bl (pg_sub (pe_fld (pv 0) rfl) (pv 2) set_list)))), ?_⟩
    refine ⟨_, rfl, w, rfl, for_strX (x := w) (fun i σ H' => ∃ (qs' : List Addr) (A' : List Dct) (B' : List Bool) (ps' : List (List Nat)) (st : Nat) (v : Option V), σ = [some (.ref p), some (.str w), some (.int st), v] ∧ TreeX C H0 H' p dx la lb qs' A' B' ∧ Mid A' B' ps' W (codes w) i ∧
      ps'[st]? = some ((codes w).take i) ∧ A'.length ≤ A.length + i ∧ ∀ (s : Nat) d, A'[s]? = some d → d.length ≤ 1000 + i) ⟨qs, A, B, ps, 0, none, rfl, TX, mid_start _ TF, TF.zero, Nat.le_refl _, hd⟩ ?_ ?_⟩
    · rintro i c σ H1 hc ⟨qs', A', B', ps', st, v, rfl, TX1, TM, hst, hA, hd1⟩
      have hi : i < w.cps.size := (Array.getElem?_eq_some_iff.mp hc).1
      have hiw : i < (codes w).length := by unfold codes; simpa using hi
      have hcw : (codes w)[i] = c := by
        have : (codes w)[i]? = some c := by unfold codes; rw [Array.getElem?_toList]; exact hc
        rw [List.getElem?_eq_getElem hiw] at this
        exact Option.some.inj this
      obtain ⟨d, b, hdA, hbB⟩ := TM.at hst
      obtain ⟨q, hq, hqd⟩ := TX1.q hdA
      have hat : atI (qs'.map V.ref) (st : Int) = some (.ref q) := Mi.atI_nat (by rw [List.getElem?_map, hq]; rfl)
      refine ⟨_, rfl, ⟨_, rfl, ⟨p, C, dx, _, _, rfl, TX1.hp, T.cl, T.nA, tf_a la lb, ⟨_, rfl, ⟨la, _, _, _, rfl, rfl, SqL.of TX1.ha, hat, ⟨q, _, rfl, DGet.k (k := Sum.inr (sg c)) hqd, ?_⟩⟩⟩⟩⟩⟩
      refine ⟨_, rfl, ?_⟩
      rw [val_dct]
      cases hl : d.lookup c with
      | none =>
        show (if true = true then _ else _)
        rw [if_pos rfl]
        have hln : (dctV d).length < sizeLine := by
          unfold dctV
          rw [List.length_map, sizeLine_eq]
          have := hd1 st d hdA
          omega
        refine ⟨_, rfl, p, C, dx, _, _, rfl, TX1.hp, T.cl, T.nA, tf_a la lb, la, _, rfl, .inl (SqL.of TX1.ha), _, rfl, p, C, dx, _, _, rfl, TX1.hp, T.cl, T.nA, tf_a la lb, _, rfl, la, _, _, _, rfl, rfl, SqL.of TX1.ha, hat, _, rfl, q, _, rfl, DPut.k (k := Sum.inr (sg c)) hqd hln, ?_⟩
        rw [List.length_map, TX1.len, put_dct hl]
        have TX2 := TX1.setd hq hdA (d ++ [(c, A'.length)])
        refine ⟨_, rfl, p, C, dx, _, _, rfl, TX2.hp, T.cl, T.nA, tf_a la lb, .inl ⟨rfl, _, SqL.of TX2.ha⟩, fun q2 hq2 => ?_⟩
        have n2 : la ≠ q2 := fun z => by rw [← z, TX2.ha] at hq2; cases hq2
        have hql : (qs'.map V.ref).length < sizeLine := by rw [List.length_map, TX1.len, sizeLine_eq]; omega
        refine ⟨la, _, _, rfl, rfl, Eq.trans (upd_ne n2) TX2.ha, hql, ?_⟩
        have TX3 := TX2.newd hq2
        have hbl : (B'.map V.bl).length < sizeLine := by rw [List.length_map, TM.lenB, ← TM.lenA, sizeLine_eq]; omega
        refine ⟨_, rfl, p, C, dx, _, _, rfl, TX3.hp, T.cl, T.nW, tf_w la lb, .inl ⟨rfl, _, SqL.of TX3.hb⟩, lb, _, _, rfl, rfl, TX3.hb, hbl, ?_⟩
        have TX4 := TX3.setw (B' ++ [false])
        rw [List.map_append] at TX4
        have hl' : d.lookup (codes w)[i] = none := by rw [hcw]; exact hl
        obtain ⟨TM4, hst4⟩ := mid_put hiw TM hst hdA hl'
        rw [hcw] at TM4
        have hsA : st < A'.length := (List.getElem?_eq_some_iff.mp hdA).1
        have hdA4 : (A'.set st (d ++ [(c, A'.length)]) ++ [[]])[st]? = some (d ++ [(c, A'.length)]) := by
          rw [List.getElem?_append_left (by simpa using hsA), List.getElem?_set_self hsA]
        obtain ⟨q4, hq4, hqd4⟩ := TX4.q hdA4
        have hat4 : atI ((qs' ++ [q2]).map V.ref) (st : Int) = some (.ref q4) := Mi.atI_nat (by rw [List.getElem?_map, hq4]; rfl)
        have hv : valV (dctV (d ++ [(c, A'.length)])) (Sum.inr (sg c)) = some (V.int (A'.length : Nat)) := by
          rw [val_dct, lookup_append, hl]; simp
        refine ⟨_, rfl, p, C, dx, _, _, rfl, TX4.hp, T.cl, T.nA, tf_a la lb, _, rfl, la, _, _, _, rfl, rfl, SqL.of TX4.ha, hat4, _, rfl, q4, V.int (A'.length : Nat), rfl, (by rw [← hv]; exact DGet.k (k := Sum.inr (sg c)) hqd4), ?_⟩
        refine ⟨_, _, _, _, A'.length, _, rfl, TX4, TM4, hst4, by simp; omega, fun s2 d2 h2 => ?_⟩
        by_cases hs2 : s2 < A'.length
        · rw [List.getElem?_append_left (by simpa using hs2)] at h2
          by_cases hs3 : st = s2
          · subst hs3
            rw [List.getElem?_set_self hsA] at h2
            cases h2
            have := hd1 _ _ hdA
            simp; omega
          · rw [List.getElem?_set_ne hs3] at h2
            have := hd1 _ _ h2
            omega
        · rw [List.getElem?_append_right (by simpa using hs2)] at h2
          have h0 : s2 - (A'.set st (d ++ [(c, A'.length)])).length = 0 := by
            have := (List.getElem?_eq_some_iff.mp h2).1
            simpa using this
          rw [h0] at h2
          simp at h2
          subst h2
          simp
      | some s' =>
        show (if false = true then _ else _)
        rw [if_neg Bool.false_ne_true]
        have hl' : d.lookup (codes w)[i] = some s' := by rw [hcw]; exact hl
        obtain ⟨TM4, hst4⟩ := mid_there hiw TM hst hdA hl'
        have hv : valV (dctV d) (Sum.inr (sg c)) = some (V.int (s' : Nat)) := by rw [val_dct, hl]; rfl
        refine ⟨_, rfl, p, C, dx, _, _, rfl, TX1.hp, T.cl, T.nA, tf_a la lb, _, rfl, la, _, _, _, rfl, rfl, SqL.of TX1.ha, hat, _, rfl, q, V.int (s' : Nat), rfl, (by rw [← hv]; exact DGet.k (k := Sum.inr (sg c)) hqd), ?_⟩
        exact ⟨_, _, _, _, s', _, rfl, TX1, TM4, hst4, by omega, fun s2 d2 h2 => Nat.le_trans (hd1 s2 d2 h2) (by omega)⟩
    · rintro σ H1 ⟨qs', A', B', ps', st, v, rfl, TX1, TM, hst, hA, hd1⟩
      have hsz : w.cps.size = (codes w).length := by unfold codes; simp
      rw [hsz] at TM hst
      rw [List.take_length] at hst
      obtain ⟨d, b, hdA, hbB⟩ := TM.at hst
      have hsB : st < B'.length := (List.getElem?_eq_some_iff.mp hbB).1
      have TX2 := TX1.setw (B'.set st true)
      rw [List.map_set] at TX2
      refine ⟨_, rfl, p, C, dx, _, _, rfl, TX1.hp, T.cl, T.nW, tf_w la lb, _, rfl, lb, _, _, st, rfl, rfl, TX1.hb, Evl.ixN_nat (by rw [List.length_map]; exact hsB), ?_⟩
      exact k _ _ _ _ _ TX2 (mid_end TM hst) hA
end
end K87
namespace K87
open PySem L2 Evl Mi
structure Txt (mg : Str → Option Value) : Prop where
  len : mg "len" = none
  range : mg "range" = none
  min : mg "min" = none
  isinstance : mg "isinstance" = none
  list : mg "list" = none
  sorted : mg "sorted" = none
  set : mg "set" = none
  enumerate : mg "enumerate" = none
  int : mg "int" = none
  bool : mg "bool" = none
  str : mg "str" = none
  all : mg "all" = none
  mw : ∃ t, mg "MOST_WORDS" = some (.int 400 t)
  ma : ∃ t, mg "MOST_APART" = some (.int 3 t)
  letters : ∃ t, mg "LETTERS" = some (.str "abcdefghijklmnopqrstuvwxyz" t)
section
variable {P : Program} {w : World} {K : PySem.W.Frag} {mg : Str → Option Value} {base : Heap} {g : G}
/-- what may be asked for its kind -/
def kind (v : D) : Prop := match v with
  | .dic _ => False
  | .ext _ _ => False
  | _ => True
def wholeD (v : D) : Bool := match v with
  | .int _ => true
  | _ => false
def c_whole : CT := fun ds EX P => ∃ v, ds = [v] ∧ kind v ∧ P (.bl (wholeD v))
abbrev s_is_whole : Stmt := topS 5
abbrev N_is_whole : List Str := ["value"]
theorem sc_is_whole : FnScope N_is_whole ["value"] (defScope s_is_whole) := ⟨rfl, rfl, rfl, by decide +kernel, rfl, by decide +kernel, by decide +kernel⟩
theorem ok_is_whole {f : Addr} {fd : FuncData} (F : Fun K "is_whole" "is_whole" s_is_whole f fd) (T : Txt mg)  : FnOk P w K mg base CX0 (0 + 1) f fd ["value"] (spD K g false c_whole) := by
  refine Mi.Fun.data F sc_is_whole (fun ds EX Q ⟨_, h, _⟩ => by rw [h]; rfl) (fun cdv A outer s H E S0 H0 hr => (ms_one (ms_ret rfl (me_and (me_isi (T := "int") T.isinstance rfl rfl T.int boot_int'' (mo_var 0)) (me_bone (me_not (mo_of (me_isi (T := "bool") T.isinstance rfl rfl T.bool boot_bool'' (mo_var 0))))))))) (fun ds Q h => ?_) (fun ds EX Q h => h)
  obtain ⟨v, rfl, hv, h⟩ := h
  cases v <;> first | exact hv.elim | (simp only [e_qI, e_qIC, e_add1, e_add2, e_add3, e_add4, e_catL, e_aug1, e_aug2, e_mul1, e_mul2, e_rep, e_div, e_mod, e_neg, e_ord1, e_ord2, e_isn, e_nin, e_non1, e_non2, e_non3, e_non4, e_non5, e_non6, e_tru1, e_tru2, e_tru3, e_tru4, e_tru5, e_tru6, e_tru7, e_sl1, e_sl2, e_sl3, e_sl4, e_rev, e_it1, e_it2, e_it3, e_len1, e_len2, e_len3, e_len4, e_int1, e_int2, e_int3, e_min, e_max, e_min3, e_lst1, e_lst2, e_tup1, e_tup2, e_str, e_abs, e_lenS, e_ixS, isi_list_bl, isi_str_lst, isi_str_tup, isi_str_bl, isi_int_lst, isi_int_tup, isi_bool_non, isi_bool_str, isi_bool_lst, isi_bool_tup, isi_tup_lst, isi_tup_non, isi_tup_str, isi_tup_int, isi_tup_bl, e_attr, e_inD, e_ixD, e_ixS1, eq_self, Mi.qNotIn, Mi.qLt, Mi.qLe, Mi.qGt, Mi.qGe, List.map_cons, List.map_nil, List.length_map, true_and, and_true, Bool.false_eq_true, if_false, if_true, Bool.not_true, Bool.not_false, qEq_int, qEq_str, qEq_bl, qNe_int, qNe_str, qNe_bl, line0, line1, line2, line3, line4, line6, line7, line10, isi_list_lst, isi_list_tup, isi_list_non, isi_list_str, isi_list_int, isi_tup_tup, isi_bool_bl, isi_bool_int, isi_int_int, isi_int_bl, isi_int_non, isi_int_str, isi_str_str, isi_str_non, isi_str_int, startE_c, startE_n, startE_e, wFor_e, wLc_e, wipeE, wgName, wgTup, wgCons, wgNil, List.getElem?_cons_zero, List.getElem?_cons_succ, List.set_cons_zero, List.set_cons_succ, List.length_cons, List.length_nil, Mi.wC, Mi.wVar, Mi.wVarO, Mi.wOp, Mi.wUn, Mi.wCmp, Mi.wCmpT, Mi.wChainT, Mi.wChain, Mi.wTru, Mi.wAndT, Mi.wOrT, Mi.wNotT, Mi.wAnd, Mi.wOr, Mi.wNot, Mi.wIfE, Mi.wNoPart, Mi.wPart, Mi.wSl, Mi.wNil, Mi.wCons, Mi.wTup, Mi.wLst, Mi.wNext, Mi.wSeq, Mi.wFreeze, Mi.wForget, Mi.wBreak, Mi.wCont, Mi.wRet, Mi.wRetO, Mi.wRetN, Mi.wDrop, Mi.wIf, Mi.wNever, Mi.wAsg, Mi.wSetO, Mi.wPar, Mi.wAug, Mi.wApp, Mi.wSetIx, Mi.wExt, Mi.wItems, Mi.wRng1, Mi.wRng2, Mi.wRng3, Mi.wEnum, Mi.wZip, Mi.wYes, Mi.wCall, Mi.wCallX, Mi.wB2, Mi.wMin3, Mi.wIsi, Mi.wGuard, Mi.wGuardD, Mi.wRaise, Mi.wEnumS, Mi.wListR, Mi.wJoin, Mi.wMet, Mi.wMet0, Mi.wPop, Mi.wdNil, Mi.wdCons, Mi.wDisp]; exact h)
def isLet (c : Nat) : Bool := decide (97 ≤ c ∧ c ≤ 122)
def plainS (s : Str) : Bool := decide (1 ≤ s.length ∧ s.length ≤ 24) && (codes s).all isLet
def plainD (v : D) : Bool := match v with
  | .str s => plainS s
  | _ => false
theorem letters_mem (c : Nat) : decide (c ∈ (("abcdefghijklmnopqrstuvwxyz" : Str)).cps.toList) = isLet c := by
  have e : (("abcdefghijklmnopqrstuvwxyz" : Str)).cps.toList = (List.range 26).map (97 + ·) := by decide +kernel
  rw [e]
  unfold isLet
  apply decide_eq_decide.mpr
  simp only [List.mem_map, List.mem_range]
  constructor
  · rintro ⟨k, hk, rfl⟩; omega
  · rintro ⟨h1, h2⟩; exact ⟨c - 97, by omega, by omega⟩
def c_plain : CT := fun ds EX P => ∃ v, ds = [v] ∧ kind v ∧ (∀ s, v = .str s → s.length ≤ 1000000) ∧ P (.bl (plainD v))
abbrev s_is_plain_word : Stmt := topS 8
abbrev N_is_plain_word : List Str := ["value", "sign"]
theorem sc_is_plain_word : FnScope N_is_plain_word ["value"] (defScope s_is_plain_word) := ⟨rfl, rfl, rfl, by decide +kernel, rfl, by decide +kernel, by decide +kernel⟩
theorem ok_is_plain_word {f : Addr} {fd : FuncData} (F : Fun K "is_plain_word" "is_plain_word" s_is_plain_word f fd) (T : Txt mg)  : FnOk P w K mg base CX0 (0 + 1) f fd ["value"] (spD K g false c_plain) := by
  refine Mi.Fun.data F sc_is_plain_word (fun ds EX Q ⟨_, h, _⟩ => by rw [h]; rfl) (fun cdv A outer s H E S0 H0 hr => (ms_one (ms_ret rfl (me_and (me_isi (T := "str") T.isinstance rfl rfl T.str boot_str'' (mo_var 0)) (me_and (me_chain (OpR.or op_le op_le_str) ob_ord (OpR.or op_le op_le_str) ob_ord (mo_of me_int) (mo_of (me_len T.len rfl (mo_var 0))) (mo_of me_int)) (me_bone (me_all rfl T.all rfl (mo_of (me_ofF (mf_lc (own := [("sign", 1)]) rfl sc_is_plain_word.nd (mi_any (me_var 0)) (blkOk_by (N := N_is_plain_word) (sc := defScope s_is_plain_word) (by decide +kernel)) (fun _ _ _ _ _ => (mg_name 1 sc_is_plain_word.nd)) (fun _ _ _ _ _ => mts_nil) (fun _ _ _ _ _ => (me_in (units65 hr) (mo_var 1) (mo_of (me_gs T.letters)))))))))))))) (fun ds Q h => ?_) (fun ds EX Q h => h)
  obtain ⟨v, rfl, hv, hs, h⟩ := h
  cases v with
  | dic _ => exact hv.elim
  | ext _ _ => exact hv.elim
  | str s =>
    simp only [e_qI, e_qIC, e_add1, e_add2, e_add3, e_add4, e_catL, e_aug1, e_aug2, e_mul1, e_mul2, e_rep, e_div, e_mod, e_neg, e_ord1, e_ord2, e_isn, e_nin, e_non1, e_non2, e_non3, e_non4, e_non5, e_non6, e_tru1, e_tru2, e_tru3, e_tru4, e_tru5, e_tru6, e_tru7, e_sl1, e_sl2, e_sl3, e_sl4, e_rev, e_it1, e_it2, e_it3, e_len1, e_len2, e_len3, e_len4, e_int1, e_int2, e_int3, e_min, e_max, e_min3, e_lst1, e_lst2, e_tup1, e_tup2, e_str, e_abs, e_lenS, e_ixS, isi_list_bl, isi_str_lst, isi_str_tup, isi_str_bl, isi_int_lst, isi_int_tup, isi_bool_non, isi_bool_str, isi_bool_lst, isi_bool_tup, isi_tup_lst, isi_tup_non, isi_tup_str, isi_tup_int, isi_tup_bl, e_attr, e_inD, e_ixD, e_ixS1, eq_self, Mi.qNotIn, Mi.qLt, Mi.qLe, Mi.qGt, Mi.qGe, List.map_cons, List.map_nil, List.length_map, true_and, and_true, Bool.false_eq_true, if_false, if_true, Bool.not_true, Bool.not_false, qEq_int, qEq_str, qEq_bl, qNe_int, qNe_str, qNe_bl, line0, line1, line2, line3, line4, line6, line7, line10, isi_list_lst, isi_list_tup, isi_list_non, isi_list_str, isi_list_int, isi_tup_tup, isi_bool_bl, isi_bool_int, isi_int_int, isi_int_bl, isi_int_non, isi_int_str, isi_str_str, isi_str_non, isi_str_int, startE_c, startE_n, startE_e, wFor_e, wLc_e, wipeE, wgName, wgTup, wgCons, wgNil, List.getElem?_cons_zero, List.getElem?_cons_succ, List.set_cons_zero, List.set_cons_succ, List.length_cons, List.length_nil, Mi.wC, Mi.wVar, Mi.wVarO, Mi.wOp, Mi.wUn, Mi.wCmp, Mi.wCmpT, Mi.wChainT, Mi.wChain, Mi.wTru, Mi.wAndT, Mi.wOrT, Mi.wNotT, Mi.wAnd, Mi.wOr, Mi.wNot, Mi.wIfE, Mi.wNoPart, Mi.wPart, Mi.wSl, Mi.wNil, Mi.wCons, Mi.wTup, Mi.wLst, Mi.wNext, Mi.wSeq, Mi.wFreeze, Mi.wForget, Mi.wBreak, Mi.wCont, Mi.wRet, Mi.wRetO, Mi.wRetN, Mi.wDrop, Mi.wIf, Mi.wNever, Mi.wAsg, Mi.wSetO, Mi.wPar, Mi.wAug, Mi.wApp, Mi.wSetIx, Mi.wExt, Mi.wItems, Mi.wRng1, Mi.wRng2, Mi.wRng3, Mi.wEnum, Mi.wZip, Mi.wYes, Mi.wCall, Mi.wCallX, Mi.wB2, Mi.wMin3, Mi.wIsi, Mi.wGuard, Mi.wGuardD, Mi.wRaise, Mi.wEnumS, Mi.wListR, Mi.wJoin, Mi.wMet, Mi.wMet0, Mi.wPop, Mi.wdNil, Mi.wdCons, Mi.wDisp]
    have hz := hs s rfl
    have hlen : s.length = (codes s).length := str_len s
    refine ⟨leL (by omega), ite_i (fun h1 => ite_i (fun h2 => ?_) fun h2 => ?_) fun h1 => ?_⟩
    · have h1 := of_decide_eq_true h1
      have h2 := of_decide_eq_true h2
      refine lc_map (fun i => .bl (((codes s)[i]?.map isLet).getD false)) (by rw [signs_len]; exact leL (by show s.length < _; omega)) (fun i d R hi hR => ?_) ?_
      · obtain ⟨c, hc, rfl⟩ := signs_get hi
        simp only [e_qI, e_qIC, e_add1, e_add2, e_add3, e_add4, e_catL, e_aug1, e_aug2, e_mul1, e_mul2, e_rep, e_div, e_mod, e_neg, e_ord1, e_ord2, e_isn, e_nin, e_non1, e_non2, e_non3, e_non4, e_non5, e_non6, e_tru1, e_tru2, e_tru3, e_tru4, e_tru5, e_tru6, e_tru7, e_sl1, e_sl2, e_sl3, e_sl4, e_rev, e_it1, e_it2, e_it3, e_len1, e_len2, e_len3, e_len4, e_int1, e_int2, e_int3, e_min, e_max, e_min3, e_lst1, e_lst2, e_tup1, e_tup2, e_str, e_abs, e_lenS, e_ixS, isi_list_bl, isi_str_lst, isi_str_tup, isi_str_bl, isi_int_lst, isi_int_tup, isi_bool_non, isi_bool_str, isi_bool_lst, isi_bool_tup, isi_tup_lst, isi_tup_non, isi_tup_str, isi_tup_int, isi_tup_bl, e_attr, e_inD, e_ixD, e_ixS1, eq_self, Mi.qNotIn, Mi.qLt, Mi.qLe, Mi.qGt, Mi.qGe, List.map_cons, List.map_nil, List.length_map, true_and, and_true, Bool.false_eq_true, if_false, if_true, Bool.not_true, Bool.not_false, qEq_int, qEq_str, qEq_bl, qNe_int, qNe_str, qNe_bl, line0, line1, line2, line3, line4, line6, line7, line10, isi_list_lst, isi_list_tup, isi_list_non, isi_list_str, isi_list_int, isi_tup_tup, isi_bool_bl, isi_bool_int, isi_int_int, isi_int_bl, isi_int_non, isi_int_str, isi_str_str, isi_str_non, isi_str_int, startE_c, startE_n, startE_e, wFor_e, wLc_e, wipeE, wgName, wgTup, wgCons, wgNil, List.getElem?_cons_zero, List.getElem?_cons_succ, List.set_cons_zero, List.set_cons_succ, List.length_cons, List.length_nil, Mi.wC, Mi.wVar, Mi.wVarO, Mi.wOp, Mi.wUn, Mi.wCmp, Mi.wCmpT, Mi.wChainT, Mi.wChain, Mi.wTru, Mi.wAndT, Mi.wOrT, Mi.wNotT, Mi.wAnd, Mi.wOr, Mi.wNot, Mi.wIfE, Mi.wNoPart, Mi.wPart, Mi.wSl, Mi.wNil, Mi.wCons, Mi.wTup, Mi.wLst, Mi.wNext, Mi.wSeq, Mi.wFreeze, Mi.wForget, Mi.wBreak, Mi.wCont, Mi.wRet, Mi.wRetO, Mi.wRetN, Mi.wDrop, Mi.wIf, Mi.wNever, Mi.wAsg, Mi.wSetO, Mi.wPar, Mi.wAug, Mi.wApp, Mi.wSetIx, Mi.wExt, Mi.wItems, Mi.wRng1, Mi.wRng2, Mi.wRng3, Mi.wEnum, Mi.wZip, Mi.wYes, Mi.wCall, Mi.wCallX, Mi.wB2, Mi.wMin3, Mi.wIsi, Mi.wGuard, Mi.wGuardD, Mi.wRaise, Mi.wEnumS, Mi.wListR, Mi.wJoin, Mi.wMet, Mi.wMet0, Mi.wPop, Mi.wdNil, Mi.wdCons, Mi.wDisp]
        rw [e_in1 (c := c) rfl, letters_mem]
        have hc' : (codes s)[i]? = some c := hc
        simp only [hc', Option.map_some, Option.getD_some] at hR
        exact hR
      · have e : (List.range (signs s).length).map (fun i => D.bl (((codes s)[i]?.map isLet).getD false)) = ((codes s).map isLet).map D.bl := by
          apply List.ext_getElem?
          intro i
          rw [signs_len]
          simp only [List.getElem?_map]
          by_cases hi : i < (codes s).length
          · rw [List.getElem?_range (show i < s.cps.size from by rw [← hlen] at hi; exact hi), List.getElem?_eq_getElem hi]
            simp only [Option.map_some, List.getElem?_eq_getElem hi, Option.getD_some]
          · rw [List.getElem?_eq_none (l := List.range _) (by rw [List.length_range]; rw [← hlen] at hi; exact Nat.le_of_not_lt hi), List.getElem?_eq_none (l := codes s) (Nat.le_of_not_lt hi)]; rfl
        rw [e]
        refine ⟨_, rfl, ?_⟩
        have e2 : ((codes s).map isLet).all id = plainS s := by
          unfold plainS
          rw [decide_eq_true (by omega), Bool.true_and, List.all_map]; rfl
        rw [e2]
        exact h
    · have e : decide ((s.length : Int) ≤ 24) = plainS s := by
        rw [h2]
        have := of_decide_eq_false h2
        unfold plainS
        rw [decide_eq_false (by omega)]; rfl
      rw [e]; exact h
    · have e : false = plainS s := by
        have := of_decide_eq_false h1
        unfold plainS
        rw [decide_eq_false (by omega)]; rfl
      rw [e]; exact h
  | _ => simp only [e_qI, e_qIC, e_add1, e_add2, e_add3, e_add4, e_catL, e_aug1, e_aug2, e_mul1, e_mul2, e_rep, e_div, e_mod, e_neg, e_ord1, e_ord2, e_isn, e_nin, e_non1, e_non2, e_non3, e_non4, e_non5, e_non6, e_tru1, e_tru2, e_tru3, e_tru4, e_tru5, e_tru6, e_tru7, e_sl1, e_sl2, e_sl3, e_sl4, e_rev, e_it1, e_it2, e_it3, e_len1, e_len2, e_len3, e_len4, e_int1, e_int2, e_int3, e_min, e_max, e_min3, e_lst1, e_lst2, e_tup1, e_tup2, e_str, e_abs, e_lenS, e_ixS, isi_list_bl, isi_str_lst, isi_str_tup, isi_str_bl, isi_int_lst, isi_int_tup, isi_bool_non, isi_bool_str, isi_bool_lst, isi_bool_tup, isi_tup_lst, isi_tup_non, isi_tup_str, isi_tup_int, isi_tup_bl, e_attr, e_inD, e_ixD, e_ixS1, eq_self, Mi.qNotIn, Mi.qLt, Mi.qLe, Mi.qGt, Mi.qGe, List.map_cons, List.map_nil, List.length_map, true_and, and_true, Bool.false_eq_true, if_false, if_true, Bool.not_true, Bool.not_false, qEq_int, qEq_str, qEq_bl, qNe_int, qNe_str, qNe_bl, line0, line1, line2, line3, line4, line6, line7, line10, isi_list_lst, isi_list_tup, isi_list_non, isi_list_str, isi_list_int, isi_tup_tup, isi_bool_bl, isi_bool_int, isi_int_int, isi_int_bl, isi_int_non, isi_int_str, isi_str_str, isi_str_non, isi_str_int, startE_c, startE_n, startE_e, wFor_e, wLc_e, wipeE, wgName, wgTup, wgCons, wgNil, List.getElem?_cons_zero, List.getElem?_cons_succ, List.set_cons_zero, List.set_cons_succ, List.length_cons, List.length_nil, Mi.wC, Mi.wVar, Mi.wVarO, Mi.wOp, Mi.wUn, Mi.wCmp, Mi.wCmpT, Mi.wChainT, Mi.wChain, Mi.wTru, Mi.wAndT, Mi.wOrT, Mi.wNotT, Mi.wAnd, Mi.wOr, Mi.wNot, Mi.wIfE, Mi.wNoPart, Mi.wPart, Mi.wSl, Mi.wNil, Mi.wCons, Mi.wTup, Mi.wLst, Mi.wNext, Mi.wSeq, Mi.wFreeze, Mi.wForget, Mi.wBreak, Mi.wCont, Mi.wRet, Mi.wRetO, Mi.wRetN, Mi.wDrop, Mi.wIf, Mi.wNever, Mi.wAsg, Mi.wSetO, Mi.wPar, Mi.wAug, Mi.wApp, Mi.wSetIx, Mi.wExt, Mi.wItems, Mi.wRng1, Mi.wRng2, Mi.wRng3, Mi.wEnum, Mi.wZip, Mi.wYes, Mi.wCall, Mi.wCallX, Mi.wB2, Mi.wMin3, Mi.wIsi, Mi.wGuard, Mi.wGuardD, Mi.wRaise, Mi.wEnumS, Mi.wListR, Mi.wJoin, Mi.wMet, Mi.wMet0, Mi.wPop, Mi.wdNil, Mi.wdCons, Mi.wDisp]; exact h
/-! ### the list is looked at -/
theorem enumD_of {xs : List D} {i : Nat} {d : D} (h : (enumD xs)[i]? = some d) : ∃ x, xs[i]? = some x ∧ d = .tup [.int (i : Nat), x] := by
  have hl := (List.getElem?_eq_some_iff.mp h).1
  rw [enumD_len] at hl
  have hx : xs[i]? = some xs[i] := by simp
  rw [enumD_get hx] at h
  exact ⟨_, hx, (Option.some.inj h).symm⟩
def okS (prev : Option Str) (s : Str) : Bool := plainS s && (match prev with | none => true | some t => strLt t s)
def fb : Option Str → Nat → List D → Option Int
  | _, _, [] => none
  | prev, i, d :: r => match d with
    | .str s => if okS prev s = true then fb (some s) (i + 1) r else some (i : Int)
    | _ => some (i : Int)
def told (v : D) : Option Int := match v with
  | .lst xs => if xs.length > 400 then some (-1) else fb none 0 xs
  | _ => some (-1)
def small (x : D) : Prop := kind x ∧ ∀ s, x = .str s → s.length ≤ 1000000
def smallL (v : D) : Prop := kind v ∧ ∀ xs, v = .lst xs → ∀ x ∈ xs, small x
def c_check (CB : Addr) : CT := fun ds EX P => ∃ v, ds = [v] ∧ smallL v ∧ (∀ i, told v = some i → EX ⟨CB, [(("index" : Str), D.int i)], false⟩) ∧ (told v = none → P .non)
abbrev s_check_list : Stmt := topS 12
abbrev N_check_list : List Str := ["value", "index", "word"]
theorem sc_check_list : FnScope N_check_list ["value"] (defScope s_check_list) := ⟨rfl, rfl, rfl, by decide +kernel, rfl, by decide +kernel, by decide +kernel⟩
theorem ok_check_list {f : Addr} {fd : FuncData} (F : Fun K "check_list" "check_list" s_check_list f fd) (T : Txt mg) {CB : Addr} (Z : OwnX P w K mg base "BadWord" CB ["index"] 1) (Z1 : Cal P w K mg base g false "is_plain_word" 1 c_plain) : FnOk P w K mg base (L2.CX P w) (2 + 1) f fd ["value"] (spD K g false (c_check CB)) := by
  refine Mi.Fun.dataX F sc_check_list (fun ds EX Q ⟨_, h, _⟩ => by rw [h]; rfl) (fun cdv A outer s H E S0 H0 EX hr tk po => (ms_cons (ms_ifD (mt_w (mw_or (mt_not (mt_tru (mo_of (me_isi (T := "list") T.isinstance rfl rfl T.list boot_list'' (mo_var 0))))) (mw_or1 (mt_gt (mo_of (me_len T.len rfl (mo_var 0))) (mo_of (me_gi T.mw))))))
  (ms_one (ms_raise rfl tk Z hr rfl (ma_cons (me_neg (mo_of me_int)) ma_nil)))
  ms_nil)
  (ms_one (ms_for (vs := [1, 2]) po rfl (mi_enum rfl T.enumerate (me_var 0)) (mg_tup 2 rfl (mgs_cons (mg_name 1 sc_check_list.nd) (mgs_cons (mg_name 2 sc_check_list.nd) mgs_nil)) rfl rfl (fun _ _ _ h => wgCons_len (fun _ _ _ h => wgCons_len (fun _ _ _ h => wgNil_len h) wgName_ex h) wgName_ex h))
  (ms_one (ms_ifD (mt_w (mw_or (mt_not (mt_tru (mo_of (me_call Z1 (hr.mono (by decide)) rfl (ma_cons (me_var 2) ma_nil))))) (mw_or1 (mt_w (mw_and (mt_gt (mo_var 1) (mo_of me_int)) (mw_and1 (mt_le (mo_var 2) (mo_of (me_ix hr.units (mo_var 0) (mo_of (me_sub (mo_var 1) (mo_of me_int))))))))))))
  (ms_one (ms_raise rfl tk Z hr rfl (ma_cons (me_var 1) ma_nil)))
  ms_nil)))))) (fun ds EX Q h => ?_)
  obtain ⟨v, rfl, ⟨hk, hv⟩, hE, hP⟩ := h
  cases v with
  | dic _ => exact hk.elim
  | ext _ _ => exact hk.elim
  | lst xs =>
    simp only [e_qI, e_qIC, e_add1, e_add2, e_add3, e_add4, e_catL, e_aug1, e_aug2, e_mul1, e_mul2, e_rep, e_div, e_mod, e_neg, e_ord1, e_ord2, e_isn, e_nin, e_non1, e_non2, e_non3, e_non4, e_non5, e_non6, e_tru1, e_tru2, e_tru3, e_tru4, e_tru5, e_tru6, e_tru7, e_sl1, e_sl2, e_sl3, e_sl4, e_rev, e_it1, e_it2, e_it3, e_len1, e_len2, e_len3, e_len4, e_int1, e_int2, e_int3, e_min, e_max, e_min3, e_lst1, e_lst2, e_tup1, e_tup2, e_str, e_abs, e_lenS, e_ixS, isi_list_bl, isi_str_lst, isi_str_tup, isi_str_bl, isi_int_lst, isi_int_tup, isi_bool_non, isi_bool_str, isi_bool_lst, isi_bool_tup, isi_tup_lst, isi_tup_non, isi_tup_str, isi_tup_int, isi_tup_bl, e_attr, e_inD, e_ixD, e_ixS1, eq_self, Mi.qNotIn, Mi.qLt, Mi.qLe, Mi.qGt, Mi.qGe, List.map_cons, List.map_nil, List.length_map, true_and, and_true, Bool.false_eq_true, if_false, if_true, Bool.not_true, Bool.not_false, qEq_int, qEq_str, qEq_bl, qNe_int, qNe_str, qNe_bl, line0, line1, line2, line3, line4, line6, line7, line10, isi_list_lst, isi_list_tup, isi_list_non, isi_list_str, isi_list_int, isi_tup_tup, isi_bool_bl, isi_bool_int, isi_int_int, isi_int_bl, isi_int_non, isi_int_str, isi_str_str, isi_str_non, isi_str_int, startE_c, startE_n, startE_e, wFor_e, wLc_e, wipeE, wgName, wgTup, wgCons, wgNil, List.getElem?_cons_zero, List.getElem?_cons_succ, List.set_cons_zero, List.set_cons_succ, List.length_cons, List.length_nil, Mi.wC, Mi.wVar, Mi.wVarO, Mi.wOp, Mi.wUn, Mi.wCmp, Mi.wCmpT, Mi.wChainT, Mi.wChain, Mi.wTru, Mi.wAndT, Mi.wOrT, Mi.wNotT, Mi.wAnd, Mi.wOr, Mi.wNot, Mi.wIfE, Mi.wNoPart, Mi.wPart, Mi.wSl, Mi.wNil, Mi.wCons, Mi.wTup, Mi.wLst, Mi.wNext, Mi.wSeq, Mi.wFreeze, Mi.wForget, Mi.wBreak, Mi.wCont, Mi.wRet, Mi.wRetO, Mi.wRetN, Mi.wDrop, Mi.wIf, Mi.wNever, Mi.wAsg, Mi.wSetO, Mi.wPar, Mi.wAug, Mi.wApp, Mi.wSetIx, Mi.wExt, Mi.wItems, Mi.wRng1, Mi.wRng2, Mi.wRng3, Mi.wEnum, Mi.wZip, Mi.wYes, Mi.wCall, Mi.wCallX, Mi.wB2, Mi.wMin3, Mi.wIsi, Mi.wGuard, Mi.wGuardD, Mi.wRaise, Mi.wEnumS, Mi.wListR, Mi.wJoin, Mi.wMet, Mi.wMet0, Mi.wPop, Mi.wdNil, Mi.wdCons, Mi.wDisp]
    refine ifD_i _ rfl (fun h => ⟨rfl, by decide, ?_⟩) fun h => ?_
    · have h := of_decide_eq_true h
      exact hE (-1) (by show (if xs.length > 400 then some (-1) else fb none 0 xs) = _; rw [if_pos (by omega)])
    · have h := of_decide_eq_false h
      have et : told (.lst xs) = fb none 0 xs := by show (if xs.length > 400 then some (-1) else fb none 0 xs) = _; rw [if_neg (by omega)]
      rw [et] at hE hP
      refine for_i (fun k δ' => ∃ c1 c2 prev, δ' = [st (.lst xs), c1, c2] ∧ fb none 0 xs = fb prev k (xs.drop k) ∧ (match prev with | none => k = 0 | some t => 0 < k ∧ xs[k - 1]? = some (D.str t))) ⟨none, none, none, rfl, rfl, rfl⟩ ?_ ?_
      · rintro k d δ' hk ⟨c1, c2, prev, rfl, hfb, hp⟩
        obtain ⟨x, hx, rfl⟩ := enumD_of hk
        have hxl := (List.getElem?_eq_some_iff.mp hx).1
        obtain ⟨k1, k2⟩ := hv xs rfl x (List.mem_of_getElem? hx)
        have ed : xs.drop k = x :: xs.drop (k + 1) := by
          rw [List.drop_eq_getElem_cons hxl]
          have := (List.getElem?_eq_some_iff.mp hx).2
          rw [this]
        rw [ed] at hfb
        cases x with
        | dic _ => exact k1.elim
        | ext _ _ => exact k1.elim
        | str s =>
          have hs : fb prev k (D.str s :: xs.drop (k + 1)) = if okS prev s = true then fb (some s) (k + 1) (xs.drop (k + 1)) else some (k : Int) := rfl
          rw [hs] at hfb
          simp only [e_qI, e_qIC, e_add1, e_add2, e_add3, e_add4, e_catL, e_aug1, e_aug2, e_mul1, e_mul2, e_rep, e_div, e_mod, e_neg, e_ord1, e_ord2, e_isn, e_nin, e_non1, e_non2, e_non3, e_non4, e_non5, e_non6, e_tru1, e_tru2, e_tru3, e_tru4, e_tru5, e_tru6, e_tru7, e_sl1, e_sl2, e_sl3, e_sl4, e_rev, e_it1, e_it2, e_it3, e_len1, e_len2, e_len3, e_len4, e_int1, e_int2, e_int3, e_min, e_max, e_min3, e_lst1, e_lst2, e_tup1, e_tup2, e_str, e_abs, e_lenS, e_ixS, isi_list_bl, isi_str_lst, isi_str_tup, isi_str_bl, isi_int_lst, isi_int_tup, isi_bool_non, isi_bool_str, isi_bool_lst, isi_bool_tup, isi_tup_lst, isi_tup_non, isi_tup_str, isi_tup_int, isi_tup_bl, e_attr, e_inD, e_ixD, e_ixS1, eq_self, Mi.qNotIn, Mi.qLt, Mi.qLe, Mi.qGt, Mi.qGe, List.map_cons, List.map_nil, List.length_map, true_and, and_true, Bool.false_eq_true, if_false, if_true, Bool.not_true, Bool.not_false, qEq_int, qEq_str, qEq_bl, qNe_int, qNe_str, qNe_bl, line0, line1, line2, line3, line4, line6, line7, line10, isi_list_lst, isi_list_tup, isi_list_non, isi_list_str, isi_list_int, isi_tup_tup, isi_bool_bl, isi_bool_int, isi_int_int, isi_int_bl, isi_int_non, isi_int_str, isi_str_str, isi_str_non, isi_str_int, startE_c, startE_n, startE_e, wFor_e, wLc_e, wipeE, wgName, wgTup, wgCons, wgNil, List.getElem?_cons_zero, List.getElem?_cons_succ, List.set_cons_zero, List.set_cons_succ, List.length_cons, List.length_nil, Mi.wC, Mi.wVar, Mi.wVarO, Mi.wOp, Mi.wUn, Mi.wCmp, Mi.wCmpT, Mi.wChainT, Mi.wChain, Mi.wTru, Mi.wAndT, Mi.wOrT, Mi.wNotT, Mi.wAnd, Mi.wOr, Mi.wNot, Mi.wIfE, Mi.wNoPart, Mi.wPart, Mi.wSl, Mi.wNil, Mi.wCons, Mi.wTup, Mi.wLst, Mi.wNext, Mi.wSeq, Mi.wFreeze, Mi.wForget, Mi.wBreak, Mi.wCont, Mi.wRet, Mi.wRetO, Mi.wRetN, Mi.wDrop, Mi.wIf, Mi.wNever, Mi.wAsg, Mi.wSetO, Mi.wPar, Mi.wAug, Mi.wApp, Mi.wSetIx, Mi.wExt, Mi.wItems, Mi.wRng1, Mi.wRng2, Mi.wRng3, Mi.wEnum, Mi.wZip, Mi.wYes, Mi.wCall, Mi.wCallX, Mi.wB2, Mi.wMin3, Mi.wIsi, Mi.wGuard, Mi.wGuardD, Mi.wRaise, Mi.wEnumS, Mi.wListR, Mi.wJoin, Mi.wMet, Mi.wMet0, Mi.wPop, Mi.wdNil, Mi.wdCons, Mi.wDisp]
          refine ifD_i (!okS prev s) ?_ (fun h => ?_) fun h => ?_
          · refine ⟨_, rfl, k1, k2, ?_⟩
            simp only [e_qI, e_qIC, e_add1, e_add2, e_add3, e_add4, e_catL, e_aug1, e_aug2, e_mul1, e_mul2, e_rep, e_div, e_mod, e_neg, e_ord1, e_ord2, e_isn, e_nin, e_non1, e_non2, e_non3, e_non4, e_non5, e_non6, e_tru1, e_tru2, e_tru3, e_tru4, e_tru5, e_tru6, e_tru7, e_sl1, e_sl2, e_sl3, e_sl4, e_rev, e_it1, e_it2, e_it3, e_len1, e_len2, e_len3, e_len4, e_int1, e_int2, e_int3, e_min, e_max, e_min3, e_lst1, e_lst2, e_tup1, e_tup2, e_str, e_abs, e_lenS, e_ixS, isi_list_bl, isi_str_lst, isi_str_tup, isi_str_bl, isi_int_lst, isi_int_tup, isi_bool_non, isi_bool_str, isi_bool_lst, isi_bool_tup, isi_tup_lst, isi_tup_non, isi_tup_str, isi_tup_int, isi_tup_bl, e_attr, e_inD, e_ixD, e_ixS1, eq_self, Mi.qNotIn, Mi.qLt, Mi.qLe, Mi.qGt, Mi.qGe, List.map_cons, List.map_nil, List.length_map, true_and, and_true, Bool.false_eq_true, if_false, if_true, Bool.not_true, Bool.not_false, qEq_int, qEq_str, qEq_bl, qNe_int, qNe_str, qNe_bl, line0, line1, line2, line3, line4, line6, line7, line10, isi_list_lst, isi_list_tup, isi_list_non, isi_list_str, isi_list_int, isi_tup_tup, isi_bool_bl, isi_bool_int, isi_int_int, isi_int_bl, isi_int_non, isi_int_str, isi_str_str, isi_str_non, isi_str_int, startE_c, startE_n, startE_e, wFor_e, wLc_e, wipeE, wgName, wgTup, wgCons, wgNil, List.getElem?_cons_zero, List.getElem?_cons_succ, List.set_cons_zero, List.set_cons_succ, List.length_cons, List.length_nil, Mi.wC, Mi.wVar, Mi.wVarO, Mi.wOp, Mi.wUn, Mi.wCmp, Mi.wCmpT, Mi.wChainT, Mi.wChain, Mi.wTru, Mi.wAndT, Mi.wOrT, Mi.wNotT, Mi.wAnd, Mi.wOr, Mi.wNot, Mi.wIfE, Mi.wNoPart, Mi.wPart, Mi.wSl, Mi.wNil, Mi.wCons, Mi.wTup, Mi.wLst, Mi.wNext, Mi.wSeq, Mi.wFreeze, Mi.wForget, Mi.wBreak, Mi.wCont, Mi.wRet, Mi.wRetO, Mi.wRetN, Mi.wDrop, Mi.wIf, Mi.wNever, Mi.wAsg, Mi.wSetO, Mi.wPar, Mi.wAug, Mi.wApp, Mi.wSetIx, Mi.wExt, Mi.wItems, Mi.wRng1, Mi.wRng2, Mi.wRng3, Mi.wEnum, Mi.wZip, Mi.wYes, Mi.wCall, Mi.wCallX, Mi.wB2, Mi.wMin3, Mi.wIsi, Mi.wGuard, Mi.wGuardD, Mi.wRaise, Mi.wEnumS, Mi.wListR, Mi.wJoin, Mi.wMet, Mi.wMet0, Mi.wPop, Mi.wdNil, Mi.wdCons, Mi.wDisp]
            show (if (!plainS s) = true then _ else _)
            refine ite_i (fun h => ?_) fun h => ?_
            · have h : plainS s = false := by simpa using h
              unfold okS; rw [h]; rfl
            · have h : plainS s = true := by simpa using h
              refine ite_i (fun h0 => ?_) fun h0 => ?_
              · have h0 := of_decide_eq_true h0
                cases prev with
                | none => simp only at hp; omega
                | some t =>
                  obtain ⟨h1, h2⟩ := hp
                  have e1 : (k : Int) - 1 = ((k - 1 : Nat) : Int) := by omega
                  rw [e1]
                  refine qIx_lst h2 ?_
                  simp only [e_qI, e_qIC, e_add1, e_add2, e_add3, e_add4, e_catL, e_aug1, e_aug2, e_mul1, e_mul2, e_rep, e_div, e_mod, e_neg, e_ord1, e_ord2, e_isn, e_nin, e_non1, e_non2, e_non3, e_non4, e_non5, e_non6, e_tru1, e_tru2, e_tru3, e_tru4, e_tru5, e_tru6, e_tru7, e_sl1, e_sl2, e_sl3, e_sl4, e_rev, e_it1, e_it2, e_it3, e_len1, e_len2, e_len3, e_len4, e_int1, e_int2, e_int3, e_min, e_max, e_min3, e_lst1, e_lst2, e_tup1, e_tup2, e_str, e_abs, e_lenS, e_ixS, isi_list_bl, isi_str_lst, isi_str_tup, isi_str_bl, isi_int_lst, isi_int_tup, isi_bool_non, isi_bool_str, isi_bool_lst, isi_bool_tup, isi_tup_lst, isi_tup_non, isi_tup_str, isi_tup_int, isi_tup_bl, e_attr, e_inD, e_ixD, e_ixS1, eq_self, Mi.qNotIn, Mi.qLt, Mi.qLe, Mi.qGt, Mi.qGe, List.map_cons, List.map_nil, List.length_map, true_and, and_true, Bool.false_eq_true, if_false, if_true, Bool.not_true, Bool.not_false, qEq_int, qEq_str, qEq_bl, qNe_int, qNe_str, qNe_bl, line0, line1, line2, line3, line4, line6, line7, line10, isi_list_lst, isi_list_tup, isi_list_non, isi_list_str, isi_list_int, isi_tup_tup, isi_bool_bl, isi_bool_int, isi_int_int, isi_int_bl, isi_int_non, isi_int_str, isi_str_str, isi_str_non, isi_str_int, startE_c, startE_n, startE_e, wFor_e, wLc_e, wipeE, wgName, wgTup, wgCons, wgNil, List.getElem?_cons_zero, List.getElem?_cons_succ, List.set_cons_zero, List.set_cons_succ, List.length_cons, List.length_nil, Mi.wC, Mi.wVar, Mi.wVarO, Mi.wOp, Mi.wUn, Mi.wCmp, Mi.wCmpT, Mi.wChainT, Mi.wChain, Mi.wTru, Mi.wAndT, Mi.wOrT, Mi.wNotT, Mi.wAnd, Mi.wOr, Mi.wNot, Mi.wIfE, Mi.wNoPart, Mi.wPart, Mi.wSl, Mi.wNil, Mi.wCons, Mi.wTup, Mi.wLst, Mi.wNext, Mi.wSeq, Mi.wFreeze, Mi.wForget, Mi.wBreak, Mi.wCont, Mi.wRet, Mi.wRetO, Mi.wRetN, Mi.wDrop, Mi.wIf, Mi.wNever, Mi.wAsg, Mi.wSetO, Mi.wPar, Mi.wAug, Mi.wApp, Mi.wSetIx, Mi.wExt, Mi.wItems, Mi.wRng1, Mi.wRng2, Mi.wRng3, Mi.wEnum, Mi.wZip, Mi.wYes, Mi.wCall, Mi.wCallX, Mi.wB2, Mi.wMin3, Mi.wIsi, Mi.wGuard, Mi.wGuardD, Mi.wRaise, Mi.wEnumS, Mi.wListR, Mi.wJoin, Mi.wMet, Mi.wMet0, Mi.wPop, Mi.wdNil, Mi.wdCons, Mi.wDisp]
                  unfold okS; rw [h]; rfl
              · have h0 := of_decide_eq_false h0
                cases prev with
                | none => unfold okS; rw [h]; rfl
                | some t => obtain ⟨h1, h2⟩ := hp; omega
          · have h : okS prev s = false := by simpa using h
            rw [h, if_neg Bool.false_ne_true] at hfb
            exact ⟨rfl, (by show (1 : Nat) ≤ 1000; decide), hE k hfb⟩
          · have h : okS prev s = true := by simpa using h
            rw [h, if_pos rfl] at hfb
            exact ⟨_, _, some s, rfl, hfb, Nat.succ_pos _, hx⟩
        | _ =>
          simp only [e_qI, e_qIC, e_add1, e_add2, e_add3, e_add4, e_catL, e_aug1, e_aug2, e_mul1, e_mul2, e_rep, e_div, e_mod, e_neg, e_ord1, e_ord2, e_isn, e_nin, e_non1, e_non2, e_non3, e_non4, e_non5, e_non6, e_tru1, e_tru2, e_tru3, e_tru4, e_tru5, e_tru6, e_tru7, e_sl1, e_sl2, e_sl3, e_sl4, e_rev, e_it1, e_it2, e_it3, e_len1, e_len2, e_len3, e_len4, e_int1, e_int2, e_int3, e_min, e_max, e_min3, e_lst1, e_lst2, e_tup1, e_tup2, e_str, e_abs, e_lenS, e_ixS, isi_list_bl, isi_str_lst, isi_str_tup, isi_str_bl, isi_int_lst, isi_int_tup, isi_bool_non, isi_bool_str, isi_bool_lst, isi_bool_tup, isi_tup_lst, isi_tup_non, isi_tup_str, isi_tup_int, isi_tup_bl, e_attr, e_inD, e_ixD, e_ixS1, eq_self, Mi.qNotIn, Mi.qLt, Mi.qLe, Mi.qGt, Mi.qGe, List.map_cons, List.map_nil, List.length_map, true_and, and_true, Bool.false_eq_true, if_false, if_true, Bool.not_true, Bool.not_false, qEq_int, qEq_str, qEq_bl, qNe_int, qNe_str, qNe_bl, line0, line1, line2, line3, line4, line6, line7, line10, isi_list_lst, isi_list_tup, isi_list_non, isi_list_str, isi_list_int, isi_tup_tup, isi_bool_bl, isi_bool_int, isi_int_int, isi_int_bl, isi_int_non, isi_int_str, isi_str_str, isi_str_non, isi_str_int, startE_c, startE_n, startE_e, wFor_e, wLc_e, wipeE, wgName, wgTup, wgCons, wgNil, List.getElem?_cons_zero, List.getElem?_cons_succ, List.set_cons_zero, List.set_cons_succ, List.length_cons, List.length_nil, Mi.wC, Mi.wVar, Mi.wVarO, Mi.wOp, Mi.wUn, Mi.wCmp, Mi.wCmpT, Mi.wChainT, Mi.wChain, Mi.wTru, Mi.wAndT, Mi.wOrT, Mi.wNotT, Mi.wAnd, Mi.wOr, Mi.wNot, Mi.wIfE, Mi.wNoPart, Mi.wPart, Mi.wSl, Mi.wNil, Mi.wCons, Mi.wTup, Mi.wLst, Mi.wNext, Mi.wSeq, Mi.wFreeze, Mi.wForget, Mi.wBreak, Mi.wCont, Mi.wRet, Mi.wRetO, Mi.wRetN, Mi.wDrop, Mi.wIf, Mi.wNever, Mi.wAsg, Mi.wSetO, Mi.wPar, Mi.wAug, Mi.wApp, Mi.wSetIx, Mi.wExt, Mi.wItems, Mi.wRng1, Mi.wRng2, Mi.wRng3, Mi.wEnum, Mi.wZip, Mi.wYes, Mi.wCall, Mi.wCallX, Mi.wB2, Mi.wMin3, Mi.wIsi, Mi.wGuard, Mi.wGuardD, Mi.wRaise, Mi.wEnumS, Mi.wListR, Mi.wJoin, Mi.wMet, Mi.wMet0, Mi.wPop, Mi.wdNil, Mi.wdCons, Mi.wDisp]
          refine ifD_i true ⟨_, rfl, k1, k2, ?_⟩ (fun _ => ⟨rfl, (by show (1 : Nat) ≤ 1000; decide), hE k hfb⟩) (fun h => by cases h)
          simp only [e_qI, e_qIC, e_add1, e_add2, e_add3, e_add4, e_catL, e_aug1, e_aug2, e_mul1, e_mul2, e_rep, e_div, e_mod, e_neg, e_ord1, e_ord2, e_isn, e_nin, e_non1, e_non2, e_non3, e_non4, e_non5, e_non6, e_tru1, e_tru2, e_tru3, e_tru4, e_tru5, e_tru6, e_tru7, e_sl1, e_sl2, e_sl3, e_sl4, e_rev, e_it1, e_it2, e_it3, e_len1, e_len2, e_len3, e_len4, e_int1, e_int2, e_int3, e_min, e_max, e_min3, e_lst1, e_lst2, e_tup1, e_tup2, e_str, e_abs, e_lenS, e_ixS, isi_list_bl, isi_str_lst, isi_str_tup, isi_str_bl, isi_int_lst, isi_int_tup, isi_bool_non, isi_bool_str, isi_bool_lst, isi_bool_tup, isi_tup_lst, isi_tup_non, isi_tup_str, isi_tup_int, isi_tup_bl, e_attr, e_inD, e_ixD, e_ixS1, eq_self, Mi.qNotIn, Mi.qLt, Mi.qLe, Mi.qGt, Mi.qGe, List.map_cons, List.map_nil, List.length_map, true_and, and_true, Bool.false_eq_true, if_false, if_true, Bool.not_true, Bool.not_false, qEq_int, qEq_str, qEq_bl, qNe_int, qNe_str, qNe_bl, line0, line1, line2, line3, line4, line6, line7, line10, isi_list_lst, isi_list_tup, isi_list_non, isi_list_str, isi_list_int, isi_tup_tup, isi_bool_bl, isi_bool_int, isi_int_int, isi_int_bl, isi_int_non, isi_int_str, isi_str_str, isi_str_non, isi_str_int, startE_c, startE_n, startE_e, wFor_e, wLc_e, wipeE, wgName, wgTup, wgCons, wgNil, List.getElem?_cons_zero, List.getElem?_cons_succ, List.set_cons_zero, List.set_cons_succ, List.length_cons, List.length_nil, Mi.wC, Mi.wVar, Mi.wVarO, Mi.wOp, Mi.wUn, Mi.wCmp, Mi.wCmpT, Mi.wChainT, Mi.wChain, Mi.wTru, Mi.wAndT, Mi.wOrT, Mi.wNotT, Mi.wAnd, Mi.wOr, Mi.wNot, Mi.wIfE, Mi.wNoPart, Mi.wPart, Mi.wSl, Mi.wNil, Mi.wCons, Mi.wTup, Mi.wLst, Mi.wNext, Mi.wSeq, Mi.wFreeze, Mi.wForget, Mi.wBreak, Mi.wCont, Mi.wRet, Mi.wRetO, Mi.wRetN, Mi.wDrop, Mi.wIf, Mi.wNever, Mi.wAsg, Mi.wSetO, Mi.wPar, Mi.wAug, Mi.wApp, Mi.wSetIx, Mi.wExt, Mi.wItems, Mi.wRng1, Mi.wRng2, Mi.wRng3, Mi.wEnum, Mi.wZip, Mi.wYes, Mi.wCall, Mi.wCallX, Mi.wB2, Mi.wMin3, Mi.wIsi, Mi.wGuard, Mi.wGuardD, Mi.wRaise, Mi.wEnumS, Mi.wListR, Mi.wJoin, Mi.wMet, Mi.wMet0, Mi.wPop, Mi.wdNil, Mi.wdCons, Mi.wDisp]
          rw [if_pos (by rfl)]; trivial
      · rintro δ' ⟨c1, c2, prev, rfl, hfb, hp⟩
        rw [enumD_len, List.drop_length] at hfb
        exact hP (by rw [hfb]; cases prev <;> rfl)
  | _ => simp only [e_qI, e_qIC, e_add1, e_add2, e_add3, e_add4, e_catL, e_aug1, e_aug2, e_mul1, e_mul2, e_rep, e_div, e_mod, e_neg, e_ord1, e_ord2, e_isn, e_nin, e_non1, e_non2, e_non3, e_non4, e_non5, e_non6, e_tru1, e_tru2, e_tru3, e_tru4, e_tru5, e_tru6, e_tru7, e_sl1, e_sl2, e_sl3, e_sl4, e_rev, e_it1, e_it2, e_it3, e_len1, e_len2, e_len3, e_len4, e_int1, e_int2, e_int3, e_min, e_max, e_min3, e_lst1, e_lst2, e_tup1, e_tup2, e_str, e_abs, e_lenS, e_ixS, isi_list_bl, isi_str_lst, isi_str_tup, isi_str_bl, isi_int_lst, isi_int_tup, isi_bool_non, isi_bool_str, isi_bool_lst, isi_bool_tup, isi_tup_lst, isi_tup_non, isi_tup_str, isi_tup_int, isi_tup_bl, e_attr, e_inD, e_ixD, e_ixS1, eq_self, Mi.qNotIn, Mi.qLt, Mi.qLe, Mi.qGt, Mi.qGe, List.map_cons, List.map_nil, List.length_map, true_and, and_true, Bool.false_eq_true, if_false, if_true, Bool.not_true, Bool.not_false, qEq_int, qEq_str, qEq_bl, qNe_int, qNe_str, qNe_bl, line0, line1, line2, line3, line4, line6, line7, line10, isi_list_lst, isi_list_tup, isi_list_non, isi_list_str, isi_list_int, isi_tup_tup, isi_bool_bl, isi_bool_int, isi_int_int, isi_int_bl, isi_int_non, isi_int_str, isi_str_str, isi_str_non, isi_str_int, startE_c, startE_n, startE_e, wFor_e, wLc_e, wipeE, wgName, wgTup, wgCons, wgNil, List.getElem?_cons_zero, List.getElem?_cons_succ, List.set_cons_zero, List.set_cons_succ, List.length_cons, List.length_nil, Mi.wC, Mi.wVar, Mi.wVarO, Mi.wOp, Mi.wUn, Mi.wCmp, Mi.wCmpT, Mi.wChainT, Mi.wChain, Mi.wTru, Mi.wAndT, Mi.wOrT, Mi.wNotT, Mi.wAnd, Mi.wOr, Mi.wNot, Mi.wIfE, Mi.wNoPart, Mi.wPart, Mi.wSl, Mi.wNil, Mi.wCons, Mi.wTup, Mi.wLst, Mi.wNext, Mi.wSeq, Mi.wFreeze, Mi.wForget, Mi.wBreak, Mi.wCont, Mi.wRet, Mi.wRetO, Mi.wRetN, Mi.wDrop, Mi.wIf, Mi.wNever, Mi.wAsg, Mi.wSetO, Mi.wPar, Mi.wAug, Mi.wApp, Mi.wSetIx, Mi.wExt, Mi.wItems, Mi.wRng1, Mi.wRng2, Mi.wRng3, Mi.wEnum, Mi.wZip, Mi.wYes, Mi.wCall, Mi.wCallX, Mi.wB2, Mi.wMin3, Mi.wIsi, Mi.wGuard, Mi.wGuardD, Mi.wRaise, Mi.wEnumS, Mi.wListR, Mi.wJoin, Mi.wMet, Mi.wMet0, Mi.wPop, Mi.wdNil, Mi.wdCons, Mi.wDisp]; exact ifD_i true rfl (fun _ => ⟨rfl, by decide, hE (-1) rfl⟩) (fun h => by cases h)
def rowD (l : List Nat) : D := .lst (l.map fun (n : Nat) => D.int n)
def c_first : CT := fun ds EX P => ∃ s : Str, ds = [.str s] ∧ s.length ≤ 1000000 ∧ P (rowD (rowOf [] (codes s)))
abbrev s_first_row : Stmt := topS 13
abbrev N_first_row : List Str := ["word"]
theorem sc_first_row : FnScope N_first_row ["word"] (defScope s_first_row) := ⟨rfl, rfl, rfl, by decide +kernel, rfl, by decide +kernel, by decide +kernel⟩
theorem ok_first_row {f : Addr} {fd : FuncData} (F : Fun K "first_row" "first_row" s_first_row f fd) (T : Txt mg)  : FnOk P w K mg base CX0 (0 + 1) f fd ["word"] (spD K g true c_first) := by
  refine Mi.Fun.data F sc_first_row (fun ds EX Q ⟨_, h, _⟩ => by rw [h]; rfl) (fun cdv A outer s H E S0 H0 hr => (ms_one (ms_retF rfl (mf_listR rfl T.list T.range rfl rfl (mo_of (me_add (mo_of (me_len T.len rfl (mo_var 0))) (mo_of me_int))))))) (fun ds Q h => ?_) (fun ds EX Q h => h)
  obtain ⟨s, rfl, hz, h⟩ := h
  simp only [e_qI, e_qIC, e_add1, e_add2, e_add3, e_add4, e_catL, e_aug1, e_aug2, e_mul1, e_mul2, e_rep, e_div, e_mod, e_neg, e_ord1, e_ord2, e_isn, e_nin, e_non1, e_non2, e_non3, e_non4, e_non5, e_non6, e_tru1, e_tru2, e_tru3, e_tru4, e_tru5, e_tru6, e_tru7, e_sl1, e_sl2, e_sl3, e_sl4, e_rev, e_it1, e_it2, e_it3, e_len1, e_len2, e_len3, e_len4, e_int1, e_int2, e_int3, e_min, e_max, e_min3, e_lst1, e_lst2, e_tup1, e_tup2, e_str, e_abs, e_lenS, e_ixS, isi_list_bl, isi_str_lst, isi_str_tup, isi_str_bl, isi_int_lst, isi_int_tup, isi_bool_non, isi_bool_str, isi_bool_lst, isi_bool_tup, isi_tup_lst, isi_tup_non, isi_tup_str, isi_tup_int, isi_tup_bl, e_attr, e_inD, e_ixD, e_ixS1, eq_self, Mi.qNotIn, Mi.qLt, Mi.qLe, Mi.qGt, Mi.qGe, List.map_cons, List.map_nil, List.length_map, true_and, and_true, Bool.false_eq_true, if_false, if_true, Bool.not_true, Bool.not_false, qEq_int, qEq_str, qEq_bl, qNe_int, qNe_str, qNe_bl, line0, line1, line2, line3, line4, line6, line7, line10, isi_list_lst, isi_list_tup, isi_list_non, isi_list_str, isi_list_int, isi_tup_tup, isi_bool_bl, isi_bool_int, isi_int_int, isi_int_bl, isi_int_non, isi_int_str, isi_str_str, isi_str_non, isi_str_int, startE_c, startE_n, startE_e, wFor_e, wLc_e, wipeE, wgName, wgTup, wgCons, wgNil, List.getElem?_cons_zero, List.getElem?_cons_succ, List.set_cons_zero, List.set_cons_succ, List.length_cons, List.length_nil, Mi.wC, Mi.wVar, Mi.wVarO, Mi.wOp, Mi.wUn, Mi.wCmp, Mi.wCmpT, Mi.wChainT, Mi.wChain, Mi.wTru, Mi.wAndT, Mi.wOrT, Mi.wNotT, Mi.wAnd, Mi.wOr, Mi.wNot, Mi.wIfE, Mi.wNoPart, Mi.wPart, Mi.wSl, Mi.wNil, Mi.wCons, Mi.wTup, Mi.wLst, Mi.wNext, Mi.wSeq, Mi.wFreeze, Mi.wForget, Mi.wBreak, Mi.wCont, Mi.wRet, Mi.wRetO, Mi.wRetN, Mi.wDrop, Mi.wIf, Mi.wNever, Mi.wAsg, Mi.wSetO, Mi.wPar, Mi.wAug, Mi.wApp, Mi.wSetIx, Mi.wExt, Mi.wItems, Mi.wRng1, Mi.wRng2, Mi.wRng3, Mi.wEnum, Mi.wZip, Mi.wYes, Mi.wCall, Mi.wCallX, Mi.wB2, Mi.wMin3, Mi.wIsi, Mi.wGuard, Mi.wGuardD, Mi.wRaise, Mi.wEnumS, Mi.wListR, Mi.wJoin, Mi.wMet, Mi.wMet0, Mi.wPop, Mi.wdNil, Mi.wdCons, Mi.wDisp]
  have hlen : s.length = (codes s).length := str_len s
  refine ⟨leL (by omega), by omega, by omega, ?_⟩
  rw [rowOf_nil, ← hlen] at h
  have e : rangeD 0 ((s.length : Int) + 1).toNat = (List.range (s.length + 1)).map fun (n : Nat) => D.int n := by
    unfold rangeD
    have e1 : ((s.length : Int) + 1).toNat = s.length + 1 := by omega
    rw [e1]
    exact List.map_congr_left fun k _ => by rw [Int.zero_add]
  rw [e]
  exact h
theorem rowD_eq (s : Str) (t : List Nat) : rowD (rowOf t (codes s)) = .lst ((List.range (s.length + 1)).map fun j => D.int (rowAt t (codes s) j : Nat)) := by
  have hlen : s.length = (codes s).length := str_len s
  unfold rowD rowOf
  rw [List.map_map, ← hlen]
  rfl
def c_next : CT := fun ds EX P => ∃ (t : List Nat) (s : Str) (c : Nat), ds = [rowD (rowOf t (codes s)), .str s, .str (sg c)] ∧ s.length ≤ 1000000 ∧ P (rowD (rowOf (t ++ [c]) (codes s)))
abbrev s_next_row : Stmt := topS 14
abbrev N_next_row : List Str := ["row", "word", "sign", "found", "k", "own"]
theorem sc_next_row : FnScope N_next_row ["row", "word", "sign"] (defScope s_next_row) := ⟨rfl, rfl, rfl, by decide +kernel, rfl, by decide +kernel, by decide +kernel⟩
theorem ok_next_row {f : Addr} {fd : FuncData} (F : Fun K "next_row" "next_row" s_next_row f fd) (T : Txt mg)  : FnOk P w K mg base CX0 (0 + 1) f fd ["row", "word", "sign"] (spD K g true c_next) := by
  refine Mi.Fun.data F sc_next_row (fun ds EX Q ⟨_, _, _, h, _⟩ => by rw [h]; rfl) (fun cdv A outer s H E S0 H0 hr => (ms_cons (ms_setO 3 sc_next_row.nd (mf_lst (ma_cons (me_add (mo_of (me_ix hr.units (mo_var 0) (mo_of me_int))) (mo_of me_int)) ma_nil)))
  (ms_cut (ms_for (vs := [4, 5]) PassesOwn.never rfl (mi_enumS rfl T.enumerate (me_var 1)) (mg_tup 2 rfl (mgs_cons (mg_name 4 sc_next_row.nd) (mgs_cons (mg_name 5 sc_next_row.nd) mgs_nil)) rfl rfl (fun _ _ _ h => wgCons_len (fun _ _ _ h => wgCons_len (fun _ _ _ h => wgNil_len h) wgName_ex h) wgName_ex h))
  (ms_one (ms_app 3 (me_min3 rfl T.min rfl (mo_of (me_add (mo_of (me_ix hr.units (mo_var 0) (mo_of (me_add (mo_var 4) (mo_of me_int))))) (mo_of me_int))) (mo_of (me_add (mo_of (me_ix hr.units (mo_var 3) (mo_var 4))) (mo_of me_int))) (mo_of (me_add (mo_of (me_ix hr.units (mo_var 0) (mo_var 4))) (mo_of (me_int1 T.int rfl (mo_of (me_ne hr.units (mo_var 5) (mo_var 2)))))))))))
  (ms_one (ms_retO rfl 3))))) (fun ds Q h => ?_) (fun ds EX Q h => h)
  obtain ⟨t, s, c, rfl, hz, h⟩ := h
  have hlen : s.length = (codes s).length := str_len s
  have rget : ∀ (t : List Nat) (k : Nat), k ≤ s.length → ((rowOf t (codes s)).map fun (n : Nat) => D.int n)[k]? = some (.int (rowAt t (codes s) k : Nat)) := fun t k hk => by
    rw [List.getElem?_map, rowOf_get (by omega)]; rfl
  unfold rowD
  simp only [e_qI, e_qIC, e_add1, e_add2, e_add3, e_add4, e_catL, e_aug1, e_aug2, e_mul1, e_mul2, e_rep, e_div, e_mod, e_neg, e_ord1, e_ord2, e_isn, e_nin, e_non1, e_non2, e_non3, e_non4, e_non5, e_non6, e_tru1, e_tru2, e_tru3, e_tru4, e_tru5, e_tru6, e_tru7, e_sl1, e_sl2, e_sl3, e_sl4, e_rev, e_it1, e_it2, e_it3, e_len1, e_len2, e_len3, e_len4, e_int1, e_int2, e_int3, e_min, e_max, e_min3, e_lst1, e_lst2, e_tup1, e_tup2, e_str, e_abs, e_lenS, e_ixS, isi_list_bl, isi_str_lst, isi_str_tup, isi_str_bl, isi_int_lst, isi_int_tup, isi_bool_non, isi_bool_str, isi_bool_lst, isi_bool_tup, isi_tup_lst, isi_tup_non, isi_tup_str, isi_tup_int, isi_tup_bl, e_attr, e_inD, e_ixD, e_ixS1, eq_self, Mi.qNotIn, Mi.qLt, Mi.qLe, Mi.qGt, Mi.qGe, List.map_cons, List.map_nil, List.length_map, true_and, and_true, Bool.false_eq_true, if_false, if_true, Bool.not_true, Bool.not_false, qEq_int, qEq_str, qEq_bl, qNe_int, qNe_str, qNe_bl, line0, line1, line2, line3, line4, line6, line7, line10, isi_list_lst, isi_list_tup, isi_list_non, isi_list_str, isi_list_int, isi_tup_tup, isi_bool_bl, isi_bool_int, isi_int_int, isi_int_bl, isi_int_non, isi_int_str, isi_str_str, isi_str_non, isi_str_int, startE_c, startE_n, startE_e, wFor_e, wLc_e, wipeE, wgName, wgTup, wgCons, wgNil, List.getElem?_cons_zero, List.getElem?_cons_succ, List.set_cons_zero, List.set_cons_succ, List.length_cons, List.length_nil, Mi.wC, Mi.wVar, Mi.wVarO, Mi.wOp, Mi.wUn, Mi.wCmp, Mi.wCmpT, Mi.wChainT, Mi.wChain, Mi.wTru, Mi.wAndT, Mi.wOrT, Mi.wNotT, Mi.wAnd, Mi.wOr, Mi.wNot, Mi.wIfE, Mi.wNoPart, Mi.wPart, Mi.wSl, Mi.wNil, Mi.wCons, Mi.wTup, Mi.wLst, Mi.wNext, Mi.wSeq, Mi.wFreeze, Mi.wForget, Mi.wBreak, Mi.wCont, Mi.wRet, Mi.wRetO, Mi.wRetN, Mi.wDrop, Mi.wIf, Mi.wNever, Mi.wAsg, Mi.wSetO, Mi.wPar, Mi.wAug, Mi.wApp, Mi.wSetIx, Mi.wExt, Mi.wItems, Mi.wRng1, Mi.wRng2, Mi.wRng3, Mi.wEnum, Mi.wZip, Mi.wYes, Mi.wCall, Mi.wCallX, Mi.wB2, Mi.wMin3, Mi.wIsi, Mi.wGuard, Mi.wGuardD, Mi.wRaise, Mi.wEnumS, Mi.wListR, Mi.wJoin, Mi.wMet, Mi.wMet0, Mi.wPop, Mi.wdNil, Mi.wdCons, Mi.wDisp]
  refine qIx_lst (i := 0) (rget t 0 (Nat.zero_le _)) ?_
  simp only [e_qI, e_qIC, e_add1, e_add2, e_add3, e_add4, e_catL, e_aug1, e_aug2, e_mul1, e_mul2, e_rep, e_div, e_mod, e_neg, e_ord1, e_ord2, e_isn, e_nin, e_non1, e_non2, e_non3, e_non4, e_non5, e_non6, e_tru1, e_tru2, e_tru3, e_tru4, e_tru5, e_tru6, e_tru7, e_sl1, e_sl2, e_sl3, e_sl4, e_rev, e_it1, e_it2, e_it3, e_len1, e_len2, e_len3, e_len4, e_int1, e_int2, e_int3, e_min, e_max, e_min3, e_lst1, e_lst2, e_tup1, e_tup2, e_str, e_abs, e_lenS, e_ixS, isi_list_bl, isi_str_lst, isi_str_tup, isi_str_bl, isi_int_lst, isi_int_tup, isi_bool_non, isi_bool_str, isi_bool_lst, isi_bool_tup, isi_tup_lst, isi_tup_non, isi_tup_str, isi_tup_int, isi_tup_bl, e_attr, e_inD, e_ixD, e_ixS1, eq_self, Mi.qNotIn, Mi.qLt, Mi.qLe, Mi.qGt, Mi.qGe, List.map_cons, List.map_nil, List.length_map, true_and, and_true, Bool.false_eq_true, if_false, if_true, Bool.not_true, Bool.not_false, qEq_int, qEq_str, qEq_bl, qNe_int, qNe_str, qNe_bl, line0, line1, line2, line3, line4, line6, line7, line10, isi_list_lst, isi_list_tup, isi_list_non, isi_list_str, isi_list_int, isi_tup_tup, isi_bool_bl, isi_bool_int, isi_int_int, isi_int_bl, isi_int_non, isi_int_str, isi_str_str, isi_str_non, isi_str_int, startE_c, startE_n, startE_e, wFor_e, wLc_e, wipeE, wgName, wgTup, wgCons, wgNil, List.getElem?_cons_zero, List.getElem?_cons_succ, List.set_cons_zero, List.set_cons_succ, List.length_cons, List.length_nil, Mi.wC, Mi.wVar, Mi.wVarO, Mi.wOp, Mi.wUn, Mi.wCmp, Mi.wCmpT, Mi.wChainT, Mi.wChain, Mi.wTru, Mi.wAndT, Mi.wOrT, Mi.wNotT, Mi.wAnd, Mi.wOr, Mi.wNot, Mi.wIfE, Mi.wNoPart, Mi.wPart, Mi.wSl, Mi.wNil, Mi.wCons, Mi.wTup, Mi.wLst, Mi.wNext, Mi.wSeq, Mi.wFreeze, Mi.wForget, Mi.wBreak, Mi.wCont, Mi.wRet, Mi.wRetO, Mi.wRetN, Mi.wDrop, Mi.wIf, Mi.wNever, Mi.wAsg, Mi.wSetO, Mi.wPar, Mi.wAug, Mi.wApp, Mi.wSetIx, Mi.wExt, Mi.wItems, Mi.wRng1, Mi.wRng2, Mi.wRng3, Mi.wEnum, Mi.wZip, Mi.wYes, Mi.wCall, Mi.wCallX, Mi.wB2, Mi.wMin3, Mi.wIsi, Mi.wGuard, Mi.wGuardD, Mi.wRaise, Mi.wEnumS, Mi.wListR, Mi.wJoin, Mi.wMet, Mi.wMet0, Mi.wPop, Mi.wdNil, Mi.wdCons, Mi.wDisp]
  refine cut_i (fun δ' => ∃ c4 c5, δ' = [st (rowD (rowOf t (codes s))), st (.str s), st (.str (sg c)), ow (rowD (rowOf (t ++ [c]) (codes s))), c4, c5]) ?_ ?_
  · refine for_i (fun k δ' => ∃ c4 c5, δ' = [st (rowD (rowOf t (codes s))), st (.str s), st (.str (sg c)), ow (.lst ((List.range (k + 1)).map fun j => D.int (rowAt (t ++ [c]) (codes s) j : Nat))), c4, c5]) ⟨none, none, ?_⟩ ?_ ?_
    · rw [rowAt_zero]
      show _ = [_, _, _, ow (.lst [D.int (rowAt (t ++ [c]) (codes s) 0 : Nat)]), _, _]
      rw [rowAt_zero, List.length_append]
      simp [rowD]
    · rintro k d δ' hk ⟨c4, c5, rfl⟩
      obtain ⟨x, hx, rfl⟩ := enumD_of hk
      obtain ⟨e, he, rfl⟩ := signs_get hx
      have hks : k < s.length := by
        have := (List.getElem?_eq_some_iff.mp hx).1
        rw [signs_len] at this
        exact this
      have hkc : k < (codes s).length := by omega
      have hee : (codes s)[k] = e := by
        have : (codes s)[k]? = some e := he
        rw [List.getElem?_eq_getElem hkc] at this
        exact Option.some.inj this
      unfold rowD
      simp only [e_qI, e_qIC, e_add1, e_add2, e_add3, e_add4, e_catL, e_aug1, e_aug2, e_mul1, e_mul2, e_rep, e_div, e_mod, e_neg, e_ord1, e_ord2, e_isn, e_nin, e_non1, e_non2, e_non3, e_non4, e_non5, e_non6, e_tru1, e_tru2, e_tru3, e_tru4, e_tru5, e_tru6, e_tru7, e_sl1, e_sl2, e_sl3, e_sl4, e_rev, e_it1, e_it2, e_it3, e_len1, e_len2, e_len3, e_len4, e_int1, e_int2, e_int3, e_min, e_max, e_min3, e_lst1, e_lst2, e_tup1, e_tup2, e_str, e_abs, e_lenS, e_ixS, isi_list_bl, isi_str_lst, isi_str_tup, isi_str_bl, isi_int_lst, isi_int_tup, isi_bool_non, isi_bool_str, isi_bool_lst, isi_bool_tup, isi_tup_lst, isi_tup_non, isi_tup_str, isi_tup_int, isi_tup_bl, e_attr, e_inD, e_ixD, e_ixS1, eq_self, Mi.qNotIn, Mi.qLt, Mi.qLe, Mi.qGt, Mi.qGe, List.map_cons, List.map_nil, List.length_map, true_and, and_true, Bool.false_eq_true, if_false, if_true, Bool.not_true, Bool.not_false, qEq_int, qEq_str, qEq_bl, qNe_int, qNe_str, qNe_bl, line0, line1, line2, line3, line4, line6, line7, line10, isi_list_lst, isi_list_tup, isi_list_non, isi_list_str, isi_list_int, isi_tup_tup, isi_bool_bl, isi_bool_int, isi_int_int, isi_int_bl, isi_int_non, isi_int_str, isi_str_str, isi_str_non, isi_str_int, startE_c, startE_n, startE_e, wFor_e, wLc_e, wipeE, wgName, wgTup, wgCons, wgNil, List.getElem?_cons_zero, List.getElem?_cons_succ, List.set_cons_zero, List.set_cons_succ, List.length_cons, List.length_nil, Mi.wC, Mi.wVar, Mi.wVarO, Mi.wOp, Mi.wUn, Mi.wCmp, Mi.wCmpT, Mi.wChainT, Mi.wChain, Mi.wTru, Mi.wAndT, Mi.wOrT, Mi.wNotT, Mi.wAnd, Mi.wOr, Mi.wNot, Mi.wIfE, Mi.wNoPart, Mi.wPart, Mi.wSl, Mi.wNil, Mi.wCons, Mi.wTup, Mi.wLst, Mi.wNext, Mi.wSeq, Mi.wFreeze, Mi.wForget, Mi.wBreak, Mi.wCont, Mi.wRet, Mi.wRetO, Mi.wRetN, Mi.wDrop, Mi.wIf, Mi.wNever, Mi.wAsg, Mi.wSetO, Mi.wPar, Mi.wAug, Mi.wApp, Mi.wSetIx, Mi.wExt, Mi.wItems, Mi.wRng1, Mi.wRng2, Mi.wRng3, Mi.wEnum, Mi.wZip, Mi.wYes, Mi.wCall, Mi.wCallX, Mi.wB2, Mi.wMin3, Mi.wIsi, Mi.wGuard, Mi.wGuardD, Mi.wRaise, Mi.wEnumS, Mi.wListR, Mi.wJoin, Mi.wMet, Mi.wMet0, Mi.wPop, Mi.wdNil, Mi.wdCons, Mi.wDisp]
      refine qIx_lst (i := k + 1) (rget t (k + 1) hks) ?_
      simp only [e_qI, e_qIC, e_add1, e_add2, e_add3, e_add4, e_catL, e_aug1, e_aug2, e_mul1, e_mul2, e_rep, e_div, e_mod, e_neg, e_ord1, e_ord2, e_isn, e_nin, e_non1, e_non2, e_non3, e_non4, e_non5, e_non6, e_tru1, e_tru2, e_tru3, e_tru4, e_tru5, e_tru6, e_tru7, e_sl1, e_sl2, e_sl3, e_sl4, e_rev, e_it1, e_it2, e_it3, e_len1, e_len2, e_len3, e_len4, e_int1, e_int2, e_int3, e_min, e_max, e_min3, e_lst1, e_lst2, e_tup1, e_tup2, e_str, e_abs, e_lenS, e_ixS, isi_list_bl, isi_str_lst, isi_str_tup, isi_str_bl, isi_int_lst, isi_int_tup, isi_bool_non, isi_bool_str, isi_bool_lst, isi_bool_tup, isi_tup_lst, isi_tup_non, isi_tup_str, isi_tup_int, isi_tup_bl, e_attr, e_inD, e_ixD, e_ixS1, eq_self, Mi.qNotIn, Mi.qLt, Mi.qLe, Mi.qGt, Mi.qGe, List.map_cons, List.map_nil, List.length_map, true_and, and_true, Bool.false_eq_true, if_false, if_true, Bool.not_true, Bool.not_false, qEq_int, qEq_str, qEq_bl, qNe_int, qNe_str, qNe_bl, line0, line1, line2, line3, line4, line6, line7, line10, isi_list_lst, isi_list_tup, isi_list_non, isi_list_str, isi_list_int, isi_tup_tup, isi_bool_bl, isi_bool_int, isi_int_int, isi_int_bl, isi_int_non, isi_int_str, isi_str_str, isi_str_non, isi_str_int, startE_c, startE_n, startE_e, wFor_e, wLc_e, wipeE, wgName, wgTup, wgCons, wgNil, List.getElem?_cons_zero, List.getElem?_cons_succ, List.set_cons_zero, List.set_cons_succ, List.length_cons, List.length_nil, Mi.wC, Mi.wVar, Mi.wVarO, Mi.wOp, Mi.wUn, Mi.wCmp, Mi.wCmpT, Mi.wChainT, Mi.wChain, Mi.wTru, Mi.wAndT, Mi.wOrT, Mi.wNotT, Mi.wAnd, Mi.wOr, Mi.wNot, Mi.wIfE, Mi.wNoPart, Mi.wPart, Mi.wSl, Mi.wNil, Mi.wCons, Mi.wTup, Mi.wLst, Mi.wNext, Mi.wSeq, Mi.wFreeze, Mi.wForget, Mi.wBreak, Mi.wCont, Mi.wRet, Mi.wRetO, Mi.wRetN, Mi.wDrop, Mi.wIf, Mi.wNever, Mi.wAsg, Mi.wSetO, Mi.wPar, Mi.wAug, Mi.wApp, Mi.wSetIx, Mi.wExt, Mi.wItems, Mi.wRng1, Mi.wRng2, Mi.wRng3, Mi.wEnum, Mi.wZip, Mi.wYes, Mi.wCall, Mi.wCallX, Mi.wB2, Mi.wMin3, Mi.wIsi, Mi.wGuard, Mi.wGuardD, Mi.wRaise, Mi.wEnumS, Mi.wListR, Mi.wJoin, Mi.wMet, Mi.wMet0, Mi.wPop, Mi.wdNil, Mi.wdCons, Mi.wDisp]
      refine qIx_lst (i := k) (d := .int (rowAt (t ++ [c]) (codes s) k : Nat)) (by simp) ?_
      simp only [e_qI, e_qIC, e_add1, e_add2, e_add3, e_add4, e_catL, e_aug1, e_aug2, e_mul1, e_mul2, e_rep, e_div, e_mod, e_neg, e_ord1, e_ord2, e_isn, e_nin, e_non1, e_non2, e_non3, e_non4, e_non5, e_non6, e_tru1, e_tru2, e_tru3, e_tru4, e_tru5, e_tru6, e_tru7, e_sl1, e_sl2, e_sl3, e_sl4, e_rev, e_it1, e_it2, e_it3, e_len1, e_len2, e_len3, e_len4, e_int1, e_int2, e_int3, e_min, e_max, e_min3, e_lst1, e_lst2, e_tup1, e_tup2, e_str, e_abs, e_lenS, e_ixS, isi_list_bl, isi_str_lst, isi_str_tup, isi_str_bl, isi_int_lst, isi_int_tup, isi_bool_non, isi_bool_str, isi_bool_lst, isi_bool_tup, isi_tup_lst, isi_tup_non, isi_tup_str, isi_tup_int, isi_tup_bl, e_attr, e_inD, e_ixD, e_ixS1, eq_self, Mi.qNotIn, Mi.qLt, Mi.qLe, Mi.qGt, Mi.qGe, List.map_cons, List.map_nil, List.length_map, true_and, and_true, Bool.false_eq_true, if_false, if_true, Bool.not_true, Bool.not_false, qEq_int, qEq_str, qEq_bl, qNe_int, qNe_str, qNe_bl, line0, line1, line2, line3, line4, line6, line7, line10, isi_list_lst, isi_list_tup, isi_list_non, isi_list_str, isi_list_int, isi_tup_tup, isi_bool_bl, isi_bool_int, isi_int_int, isi_int_bl, isi_int_non, isi_int_str, isi_str_str, isi_str_non, isi_str_int, startE_c, startE_n, startE_e, wFor_e, wLc_e, wipeE, wgName, wgTup, wgCons, wgNil, List.getElem?_cons_zero, List.getElem?_cons_succ, List.set_cons_zero, List.set_cons_succ, List.length_cons, List.length_nil, Mi.wC, Mi.wVar, Mi.wVarO, Mi.wOp, Mi.wUn, Mi.wCmp, Mi.wCmpT, Mi.wChainT, Mi.wChain, Mi.wTru, Mi.wAndT, Mi.wOrT, Mi.wNotT, Mi.wAnd, Mi.wOr, Mi.wNot, Mi.wIfE, Mi.wNoPart, Mi.wPart, Mi.wSl, Mi.wNil, Mi.wCons, Mi.wTup, Mi.wLst, Mi.wNext, Mi.wSeq, Mi.wFreeze, Mi.wForget, Mi.wBreak, Mi.wCont, Mi.wRet, Mi.wRetO, Mi.wRetN, Mi.wDrop, Mi.wIf, Mi.wNever, Mi.wAsg, Mi.wSetO, Mi.wPar, Mi.wAug, Mi.wApp, Mi.wSetIx, Mi.wExt, Mi.wItems, Mi.wRng1, Mi.wRng2, Mi.wRng3, Mi.wEnum, Mi.wZip, Mi.wYes, Mi.wCall, Mi.wCallX, Mi.wB2, Mi.wMin3, Mi.wIsi, Mi.wGuard, Mi.wGuardD, Mi.wRaise, Mi.wEnumS, Mi.wListR, Mi.wJoin, Mi.wMet, Mi.wMet0, Mi.wPop, Mi.wdNil, Mi.wdCons, Mi.wDisp]
      refine qIx_lst (i := k) (rget t k (by omega)) ?_
      simp only [e_qI, e_qIC, e_add1, e_add2, e_add3, e_add4, e_catL, e_aug1, e_aug2, e_mul1, e_mul2, e_rep, e_div, e_mod, e_neg, e_ord1, e_ord2, e_isn, e_nin, e_non1, e_non2, e_non3, e_non4, e_non5, e_non6, e_tru1, e_tru2, e_tru3, e_tru4, e_tru5, e_tru6, e_tru7, e_sl1, e_sl2, e_sl3, e_sl4, e_rev, e_it1, e_it2, e_it3, e_len1, e_len2, e_len3, e_len4, e_int1, e_int2, e_int3, e_min, e_max, e_min3, e_lst1, e_lst2, e_tup1, e_tup2, e_str, e_abs, e_lenS, e_ixS, isi_list_bl, isi_str_lst, isi_str_tup, isi_str_bl, isi_int_lst, isi_int_tup, isi_bool_non, isi_bool_str, isi_bool_lst, isi_bool_tup, isi_tup_lst, isi_tup_non, isi_tup_str, isi_tup_int, isi_tup_bl, e_attr, e_inD, e_ixD, e_ixS1, eq_self, Mi.qNotIn, Mi.qLt, Mi.qLe, Mi.qGt, Mi.qGe, List.map_cons, List.map_nil, List.length_map, true_and, and_true, Bool.false_eq_true, if_false, if_true, Bool.not_true, Bool.not_false, qEq_int, qEq_str, qEq_bl, qNe_int, qNe_str, qNe_bl, line0, line1, line2, line3, line4, line6, line7, line10, isi_list_lst, isi_list_tup, isi_list_non, isi_list_str, isi_list_int, isi_tup_tup, isi_bool_bl, isi_bool_int, isi_int_int, isi_int_bl, isi_int_non, isi_int_str, isi_str_str, isi_str_non, isi_str_int, startE_c, startE_n, startE_e, wFor_e, wLc_e, wipeE, wgName, wgTup, wgCons, wgNil, List.getElem?_cons_zero, List.getElem?_cons_succ, List.set_cons_zero, List.set_cons_succ, List.length_cons, List.length_nil, Mi.wC, Mi.wVar, Mi.wVarO, Mi.wOp, Mi.wUn, Mi.wCmp, Mi.wCmpT, Mi.wChainT, Mi.wChain, Mi.wTru, Mi.wAndT, Mi.wOrT, Mi.wNotT, Mi.wAnd, Mi.wOr, Mi.wNot, Mi.wIfE, Mi.wNoPart, Mi.wPart, Mi.wSl, Mi.wNil, Mi.wCons, Mi.wTup, Mi.wLst, Mi.wNext, Mi.wSeq, Mi.wFreeze, Mi.wForget, Mi.wBreak, Mi.wCont, Mi.wRet, Mi.wRetO, Mi.wRetN, Mi.wDrop, Mi.wIf, Mi.wNever, Mi.wAsg, Mi.wSetO, Mi.wPar, Mi.wAug, Mi.wApp, Mi.wSetIx, Mi.wExt, Mi.wItems, Mi.wRng1, Mi.wRng2, Mi.wRng3, Mi.wEnum, Mi.wZip, Mi.wYes, Mi.wCall, Mi.wCallX, Mi.wB2, Mi.wMin3, Mi.wIsi, Mi.wGuard, Mi.wGuardD, Mi.wRaise, Mi.wEnumS, Mi.wListR, Mi.wJoin, Mi.wMet, Mi.wMet0, Mi.wPop, Mi.wdNil, Mi.wdCons, Mi.wDisp]
      refine ⟨ltL (by simp; omega), st (.int (k : Nat)), st (.str (sg e)), ?_⟩
      have hst := rowAt_step (t := t) (c := c) hkc
      rw [hee] at hst
      rw [List.range_succ (n := k + 1), List.map_append]
      show _ = [_, _, _, ow (.lst (_ ++ [D.int (rowAt (t ++ [c]) (codes s) (k + 1) : Nat)])), _, _]
      have e2 : min (min ((rowAt t (codes s) (k + 1) : Int) + 1) ((rowAt (t ++ [c]) (codes s) k : Int) + 1)) ((rowAt t (codes s) k : Int) + if (!decide ((⟨#[e]⟩ : Str) = sg c)) = true then 1 else 0) = ((rowAt (t ++ [c]) (codes s) (k + 1) : Nat) : Int) := by
        rw [hst]
        by_cases q : e = c
        · subst q
          have : decide ((⟨#[e]⟩ : Str) = sg e) = true := decide_eq_true rfl
          rw [this, if_pos rfl]; simp only [Bool.not_true, Bool.false_eq_true, if_false]; omega
        · have : decide ((⟨#[e]⟩ : Str) = sg c) = false := decide_eq_false fun z => q (sg_inj z)
          rw [this, if_neg q]; simp only [Bool.not_false, if_true]; omega
      rw [e2]
      rfl
    · rintro δ' ⟨c4, c5, rfl⟩
      rw [enumD_len, signs_len]
      refine ⟨c4, c5, ?_⟩
      rw [rowD_eq s (t ++ [c])]
      rfl
  · rintro δ' ⟨c4, c5, rfl⟩
    simp only [e_qI, e_qIC, e_add1, e_add2, e_add3, e_add4, e_catL, e_aug1, e_aug2, e_mul1, e_mul2, e_rep, e_div, e_mod, e_neg, e_ord1, e_ord2, e_isn, e_nin, e_non1, e_non2, e_non3, e_non4, e_non5, e_non6, e_tru1, e_tru2, e_tru3, e_tru4, e_tru5, e_tru6, e_tru7, e_sl1, e_sl2, e_sl3, e_sl4, e_rev, e_it1, e_it2, e_it3, e_len1, e_len2, e_len3, e_len4, e_int1, e_int2, e_int3, e_min, e_max, e_min3, e_lst1, e_lst2, e_tup1, e_tup2, e_str, e_abs, e_lenS, e_ixS, isi_list_bl, isi_str_lst, isi_str_tup, isi_str_bl, isi_int_lst, isi_int_tup, isi_bool_non, isi_bool_str, isi_bool_lst, isi_bool_tup, isi_tup_lst, isi_tup_non, isi_tup_str, isi_tup_int, isi_tup_bl, e_attr, e_inD, e_ixD, e_ixS1, eq_self, Mi.qNotIn, Mi.qLt, Mi.qLe, Mi.qGt, Mi.qGe, List.map_cons, List.map_nil, List.length_map, true_and, and_true, Bool.false_eq_true, if_false, if_true, Bool.not_true, Bool.not_false, qEq_int, qEq_str, qEq_bl, qNe_int, qNe_str, qNe_bl, line0, line1, line2, line3, line4, line6, line7, line10, isi_list_lst, isi_list_tup, isi_list_non, isi_list_str, isi_list_int, isi_tup_tup, isi_bool_bl, isi_bool_int, isi_int_int, isi_int_bl, isi_int_non, isi_int_str, isi_str_str, isi_str_non, isi_str_int, startE_c, startE_n, startE_e, wFor_e, wLc_e, wipeE, wgName, wgTup, wgCons, wgNil, List.getElem?_cons_zero, List.getElem?_cons_succ, List.set_cons_zero, List.set_cons_succ, List.length_cons, List.length_nil, Mi.wC, Mi.wVar, Mi.wVarO, Mi.wOp, Mi.wUn, Mi.wCmp, Mi.wCmpT, Mi.wChainT, Mi.wChain, Mi.wTru, Mi.wAndT, Mi.wOrT, Mi.wNotT, Mi.wAnd, Mi.wOr, Mi.wNot, Mi.wIfE, Mi.wNoPart, Mi.wPart, Mi.wSl, Mi.wNil, Mi.wCons, Mi.wTup, Mi.wLst, Mi.wNext, Mi.wSeq, Mi.wFreeze, Mi.wForget, Mi.wBreak, Mi.wCont, Mi.wRet, Mi.wRetO, Mi.wRetN, Mi.wDrop, Mi.wIf, Mi.wNever, Mi.wAsg, Mi.wSetO, Mi.wPar, Mi.wAug, Mi.wApp, Mi.wSetIx, Mi.wExt, Mi.wItems, Mi.wRng1, Mi.wRng2, Mi.wRng3, Mi.wEnum, Mi.wZip, Mi.wYes, Mi.wCall, Mi.wCallX, Mi.wB2, Mi.wMin3, Mi.wIsi, Mi.wGuard, Mi.wGuardD, Mi.wRaise, Mi.wEnumS, Mi.wListR, Mi.wJoin, Mi.wMet, Mi.wMet0, Mi.wPop, Mi.wdNil, Mi.wdCons, Mi.wDisp]
    exact h
def c_dist : CT := fun ds EX P => ∃ s t : Str, ds = [.str s, .str t] ∧ t.length ≤ 1000000 ∧ P (.int (dist (codes s) (codes t) : Nat))
abbrev s_distance : Stmt := topS 15
abbrev N_distance : List Str := ["first", "second", "row", "sign"]
theorem sc_distance : FnScope N_distance ["first", "second"] (defScope s_distance) := ⟨rfl, rfl, rfl, by decide +kernel, rfl, by decide +kernel, by decide +kernel⟩
theorem ok_distance {f : Addr} {fd : FuncData} (F : Fun K "distance" "distance" s_distance f fd) (T : Txt mg) (Z1 : Cal P w K mg base g true "first_row" 1 c_first) (Z2 : Cal P w K mg base g true "next_row" 1 c_next) : FnOk P w K mg base CX0 (1 + 1) f fd ["first", "second"] (spD K g false c_dist) := by
  refine Mi.Fun.data F sc_distance (fun ds EX Q ⟨_, _, h, _⟩ => by rw [h]; rfl) (fun cdv A outer s H E S0 H0 hr => (ms_cons (ms_set 2 sc_distance.nd (me_ofF (mf_call Z1 hr rfl (ma_cons (me_var 1) ma_nil))))
  (ms_cut (ms_for (vs := [3]) PassesOwn.never rfl (mi_any (me_var 0)) (mg_name 3 sc_distance.nd)
  (ms_one (ms_set 2 sc_distance.nd (me_ofF (mf_call Z2 hr rfl (ma_cons (me_var 2) (ma_cons (me_var 1) (ma_cons (me_var 3) ma_nil))))))))
  (ms_one (ms_ret rfl (me_ix hr.units (mo_var 2) (mo_of (me_neg (mo_of me_int))))))))) (fun ds Q h => ?_) (fun ds EX Q h => h)
  obtain ⟨s, t, rfl, hz, h⟩ := h
  simp only [e_qI, e_qIC, e_add1, e_add2, e_add3, e_add4, e_catL, e_aug1, e_aug2, e_mul1, e_mul2, e_rep, e_div, e_mod, e_neg, e_ord1, e_ord2, e_isn, e_nin, e_non1, e_non2, e_non3, e_non4, e_non5, e_non6, e_tru1, e_tru2, e_tru3, e_tru4, e_tru5, e_tru6, e_tru7, e_sl1, e_sl2, e_sl3, e_sl4, e_rev, e_it1, e_it2, e_it3, e_len1, e_len2, e_len3, e_len4, e_int1, e_int2, e_int3, e_min, e_max, e_min3, e_lst1, e_lst2, e_tup1, e_tup2, e_str, e_abs, e_lenS, e_ixS, isi_list_bl, isi_str_lst, isi_str_tup, isi_str_bl, isi_int_lst, isi_int_tup, isi_bool_non, isi_bool_str, isi_bool_lst, isi_bool_tup, isi_tup_lst, isi_tup_non, isi_tup_str, isi_tup_int, isi_tup_bl, e_attr, e_inD, e_ixD, e_ixS1, eq_self, Mi.qNotIn, Mi.qLt, Mi.qLe, Mi.qGt, Mi.qGe, List.map_cons, List.map_nil, List.length_map, true_and, and_true, Bool.false_eq_true, if_false, if_true, Bool.not_true, Bool.not_false, qEq_int, qEq_str, qEq_bl, qNe_int, qNe_str, qNe_bl, line0, line1, line2, line3, line4, line6, line7, line10, isi_list_lst, isi_list_tup, isi_list_non, isi_list_str, isi_list_int, isi_tup_tup, isi_bool_bl, isi_bool_int, isi_int_int, isi_int_bl, isi_int_non, isi_int_str, isi_str_str, isi_str_non, isi_str_int, startE_c, startE_n, startE_e, wFor_e, wLc_e, wipeE, wgName, wgTup, wgCons, wgNil, List.getElem?_cons_zero, List.getElem?_cons_succ, List.set_cons_zero, List.set_cons_succ, List.length_cons, List.length_nil, Mi.wC, Mi.wVar, Mi.wVarO, Mi.wOp, Mi.wUn, Mi.wCmp, Mi.wCmpT, Mi.wChainT, Mi.wChain, Mi.wTru, Mi.wAndT, Mi.wOrT, Mi.wNotT, Mi.wAnd, Mi.wOr, Mi.wNot, Mi.wIfE, Mi.wNoPart, Mi.wPart, Mi.wSl, Mi.wNil, Mi.wCons, Mi.wTup, Mi.wLst, Mi.wNext, Mi.wSeq, Mi.wFreeze, Mi.wForget, Mi.wBreak, Mi.wCont, Mi.wRet, Mi.wRetO, Mi.wRetN, Mi.wDrop, Mi.wIf, Mi.wNever, Mi.wAsg, Mi.wSetO, Mi.wPar, Mi.wAug, Mi.wApp, Mi.wSetIx, Mi.wExt, Mi.wItems, Mi.wRng1, Mi.wRng2, Mi.wRng3, Mi.wEnum, Mi.wZip, Mi.wYes, Mi.wCall, Mi.wCallX, Mi.wB2, Mi.wMin3, Mi.wIsi, Mi.wGuard, Mi.wGuardD, Mi.wRaise, Mi.wEnumS, Mi.wListR, Mi.wJoin, Mi.wMet, Mi.wMet0, Mi.wPop, Mi.wdNil, Mi.wdCons, Mi.wDisp]
  refine ⟨t, rfl, hz, ?_⟩
  refine cut_i (fun δ' => ∃ c3, δ' = [st (.str s), st (.str t), st (rowD (rowOf (codes s) (codes t))), c3]) ?_ ?_
  · refine for_i (fun k δ' => ∃ c3, δ' = [st (.str s), st (.str t), st (rowD (rowOf ((codes s).take k) (codes t))), c3]) ⟨none, by rw [List.take_zero]⟩ ?_ ?_
    · rintro k d δ' hk ⟨c3, rfl⟩
      obtain ⟨e, he, rfl⟩ := signs_get hk
      have hkc : k < (codes s).length := (List.getElem?_eq_some_iff.mp he).1
      have hee : (codes s)[k] = e := (List.getElem?_eq_some_iff.mp he).2
      simp only [e_qI, e_qIC, e_add1, e_add2, e_add3, e_add4, e_catL, e_aug1, e_aug2, e_mul1, e_mul2, e_rep, e_div, e_mod, e_neg, e_ord1, e_ord2, e_isn, e_nin, e_non1, e_non2, e_non3, e_non4, e_non5, e_non6, e_tru1, e_tru2, e_tru3, e_tru4, e_tru5, e_tru6, e_tru7, e_sl1, e_sl2, e_sl3, e_sl4, e_rev, e_it1, e_it2, e_it3, e_len1, e_len2, e_len3, e_len4, e_int1, e_int2, e_int3, e_min, e_max, e_min3, e_lst1, e_lst2, e_tup1, e_tup2, e_str, e_abs, e_lenS, e_ixS, isi_list_bl, isi_str_lst, isi_str_tup, isi_str_bl, isi_int_lst, isi_int_tup, isi_bool_non, isi_bool_str, isi_bool_lst, isi_bool_tup, isi_tup_lst, isi_tup_non, isi_tup_str, isi_tup_int, isi_tup_bl, e_attr, e_inD, e_ixD, e_ixS1, eq_self, Mi.qNotIn, Mi.qLt, Mi.qLe, Mi.qGt, Mi.qGe, List.map_cons, List.map_nil, List.length_map, true_and, and_true, Bool.false_eq_true, if_false, if_true, Bool.not_true, Bool.not_false, qEq_int, qEq_str, qEq_bl, qNe_int, qNe_str, qNe_bl, line0, line1, line2, line3, line4, line6, line7, line10, isi_list_lst, isi_list_tup, isi_list_non, isi_list_str, isi_list_int, isi_tup_tup, isi_bool_bl, isi_bool_int, isi_int_int, isi_int_bl, isi_int_non, isi_int_str, isi_str_str, isi_str_non, isi_str_int, startE_c, startE_n, startE_e, wFor_e, wLc_e, wipeE, wgName, wgTup, wgCons, wgNil, List.getElem?_cons_zero, List.getElem?_cons_succ, List.set_cons_zero, List.set_cons_succ, List.length_cons, List.length_nil, Mi.wC, Mi.wVar, Mi.wVarO, Mi.wOp, Mi.wUn, Mi.wCmp, Mi.wCmpT, Mi.wChainT, Mi.wChain, Mi.wTru, Mi.wAndT, Mi.wOrT, Mi.wNotT, Mi.wAnd, Mi.wOr, Mi.wNot, Mi.wIfE, Mi.wNoPart, Mi.wPart, Mi.wSl, Mi.wNil, Mi.wCons, Mi.wTup, Mi.wLst, Mi.wNext, Mi.wSeq, Mi.wFreeze, Mi.wForget, Mi.wBreak, Mi.wCont, Mi.wRet, Mi.wRetO, Mi.wRetN, Mi.wDrop, Mi.wIf, Mi.wNever, Mi.wAsg, Mi.wSetO, Mi.wPar, Mi.wAug, Mi.wApp, Mi.wSetIx, Mi.wExt, Mi.wItems, Mi.wRng1, Mi.wRng2, Mi.wRng3, Mi.wEnum, Mi.wZip, Mi.wYes, Mi.wCall, Mi.wCallX, Mi.wB2, Mi.wMin3, Mi.wIsi, Mi.wGuard, Mi.wGuardD, Mi.wRaise, Mi.wEnumS, Mi.wListR, Mi.wJoin, Mi.wMet, Mi.wMet0, Mi.wPop, Mi.wdNil, Mi.wdCons, Mi.wDisp]
      refine ⟨(codes s).take k, t, e, rfl, hz, ?_⟩
      refine ⟨st (.str (sg e)), ?_⟩
      rw [List.take_succ_eq_append_getElem hkc, hee]
      rfl
    · rintro δ' ⟨c3, rfl⟩
      refine ⟨c3, ?_⟩
      rw [signs_len, show s.cps.size = (codes s).length from str_len s, List.take_length]
  · rintro δ' ⟨c3, rfl⟩
    simp only [e_qI, e_qIC, e_add1, e_add2, e_add3, e_add4, e_catL, e_aug1, e_aug2, e_mul1, e_mul2, e_rep, e_div, e_mod, e_neg, e_ord1, e_ord2, e_isn, e_nin, e_non1, e_non2, e_non3, e_non4, e_non5, e_non6, e_tru1, e_tru2, e_tru3, e_tru4, e_tru5, e_tru6, e_tru7, e_sl1, e_sl2, e_sl3, e_sl4, e_rev, e_it1, e_it2, e_it3, e_len1, e_len2, e_len3, e_len4, e_int1, e_int2, e_int3, e_min, e_max, e_min3, e_lst1, e_lst2, e_tup1, e_tup2, e_str, e_abs, e_lenS, e_ixS, isi_list_bl, isi_str_lst, isi_str_tup, isi_str_bl, isi_int_lst, isi_int_tup, isi_bool_non, isi_bool_str, isi_bool_lst, isi_bool_tup, isi_tup_lst, isi_tup_non, isi_tup_str, isi_tup_int, isi_tup_bl, e_attr, e_inD, e_ixD, e_ixS1, eq_self, Mi.qNotIn, Mi.qLt, Mi.qLe, Mi.qGt, Mi.qGe, List.map_cons, List.map_nil, List.length_map, true_and, and_true, Bool.false_eq_true, if_false, if_true, Bool.not_true, Bool.not_false, qEq_int, qEq_str, qEq_bl, qNe_int, qNe_str, qNe_bl, line0, line1, line2, line3, line4, line6, line7, line10, isi_list_lst, isi_list_tup, isi_list_non, isi_list_str, isi_list_int, isi_tup_tup, isi_bool_bl, isi_bool_int, isi_int_int, isi_int_bl, isi_int_non, isi_int_str, isi_str_str, isi_str_non, isi_str_int, startE_c, startE_n, startE_e, wFor_e, wLc_e, wipeE, wgName, wgTup, wgCons, wgNil, List.getElem?_cons_zero, List.getElem?_cons_succ, List.set_cons_zero, List.set_cons_succ, List.length_cons, List.length_nil, Mi.wC, Mi.wVar, Mi.wVarO, Mi.wOp, Mi.wUn, Mi.wCmp, Mi.wCmpT, Mi.wChainT, Mi.wChain, Mi.wTru, Mi.wAndT, Mi.wOrT, Mi.wNotT, Mi.wAnd, Mi.wOr, Mi.wNot, Mi.wIfE, Mi.wNoPart, Mi.wPart, Mi.wSl, Mi.wNil, Mi.wCons, Mi.wTup, Mi.wLst, Mi.wNext, Mi.wSeq, Mi.wFreeze, Mi.wForget, Mi.wBreak, Mi.wCont, Mi.wRet, Mi.wRetO, Mi.wRetN, Mi.wDrop, Mi.wIf, Mi.wNever, Mi.wAsg, Mi.wSetO, Mi.wPar, Mi.wAug, Mi.wApp, Mi.wSetIx, Mi.wExt, Mi.wItems, Mi.wRng1, Mi.wRng2, Mi.wRng3, Mi.wEnum, Mi.wZip, Mi.wYes, Mi.wCall, Mi.wCallX, Mi.wB2, Mi.wMin3, Mi.wIsi, Mi.wGuard, Mi.wGuardD, Mi.wRaise, Mi.wEnumS, Mi.wListR, Mi.wJoin, Mi.wMet, Mi.wMet0, Mi.wPop, Mi.wdNil, Mi.wdCons, Mi.wDisp]
    refine qIx_last (d := .int (dist (codes s) (codes t) : Nat)) ?_ h
    rw [List.getLast?_map, rowOf_last]; rfl
end
end K87
namespace K87
open PySem L2 Evl Mi
/-! ### the tree, made: kind 1 -/
def treeD (A : List Dct) (B : List Bool) : D := .tup [.lst (A.map fun d => .dic (dctD d)), .lst (B.map D.bl)]
def TreeAt (C : Addr) (a : Addr) (S : Hp) (d : D) : Prop := ∃ (A : List Dct) (B : List Bool) (dx la lb : Addr) (qs : List Addr), d = treeD A B ∧ S a = some (.ins C dx (tf la lb)) ∧ S la = some (.lst (qs.map V.ref)) ∧ S lb = some (.lst (B.map V.bl)) ∧ qs.length = A.length ∧
  ∀ (k : Nat) q d, qs[k]? = some q → A[k]? = some d → S q = some (.dK (dctV d))
def gT (K : PySem.W.Frag) (C : Addr) : G := ⟨fun n a S d => (n = 0 ∧ ∃ ns : List Int, d = D.lst (List.map D.int ns) ∧ SqL K S a (List.map V.int ns)) ∨ (n = 1 ∧ TreeAt C a S d), fun n a H H' d e h => by
  rcases h with ⟨h, ns, q1, q2⟩ | ⟨h, A, B, dx, la, lb, qs, h1, h2, h3, h4, h5, h6⟩
  · exact .inl ⟨h, ns, q1, ex_l e q2⟩
  · exact .inr ⟨h, A, B, dx, la, lb, qs, h1, e _ _ h2, e _ _ h3, e _ _ h4, h5, fun k q d hq hd => e _ _ (h6 k q d hq hd)⟩⟩
theorem gT_scr (K : PySem.W.Frag) (C : Addr) : HScr K (gT K C) := fun a S d h => by
  rcases h with ⟨_, h⟩ | ⟨h, _⟩
  · exact h
  · cases h
theorem repA_bl {K : PySem.W.Frag} {g : G} {S : Hp} : ∀ B : List Bool, RepA K g S (B.map V.bl) (B.map D.bl)
  | [] => .nil
  | _ :: B => .cons (.bl _) (repA_bl B)
theorem instT (K : PySem.W.Frag) (C : Addr) {mg : Str → Option Value} (T : TxC K mg C) : InstK K (gT K C) 1 C ["_after", "_words"] where
  rd := fun a S d h => by
    rcases h with ⟨h, _⟩ | ⟨_, A, B, dx, la, lb, qs, h1, h2, h3, h4, h5, h6⟩
    · cases h
    · refine ⟨dx, [.ref la, .ref lb], _, h1, h2, rfl, .cons (.lst h3 (repA_get (by simp [h5]) fun k v d hv hd => ?_)) (.cons (.lst h4 (repA_bl B)) .nil)⟩
      rw [List.getElem?_map] at hv hd
      obtain ⟨q, hq, rfl⟩ := Option.map_eq_some_iff.mp hv
      obtain ⟨d2, hd2, rfl⟩ := Option.map_eq_some_iff.mp hd
      exact .dic (h6 k q d2 hq hd2) (repK_dct d2)
  cl := T.cl
  no := fun f hf => by
    rcases List.mem_cons.mp hf with rfl | hf
    · exact T.nA
    · rcases List.mem_cons.mp hf with rfl | hf
      · exact T.nW
      · cases hf
  nd := by decide +kernel
/-- a tree that is not changed any more -/
theorem tree_stab {C : Addr} {S H0 H : Hp} {p dx la lb : Addr} {qs : List Addr} {A : List Dct} {B : List Bool} (T : TreeX C H0 H p dx la lb qs A B) (e : Ex S H0) : ∃ S', Grow S H0 S' H ∧ TreeAt C p S' (treeD A B) := by
  classical
  let S1 : Hp := fun a => if a ∈ p :: la :: lb :: qs then H a else S a
  have in1 : ∀ a, a ∈ p :: la :: lb :: qs → S1 a = H a := fun a ha => if_pos ha
  have out1 : ∀ a, a ∉ p :: la :: lb :: qs → S1 a = S a := fun a ha => if_neg ha
  have fr : ∀ a, a ∈ p :: la :: lb :: qs → H0 a = none := fun a ha => by
    rcases List.mem_cons.mp ha with rfl | ha
    · exact T.fp
    · rcases List.mem_cons.mp ha with rfl | ha
      · exact T.fa
      · rcases List.mem_cons.mp ha with rfl | ha
        · exact T.fb
        · exact T.fq a ha
  refine ⟨S1, ⟨fun a u q => ?_, T.ex, fun a u q => ?_, fun a u q => ?_⟩, A, B, dx, la, lb, qs, rfl, ?_, ?_, ?_, T.len, fun k q d hq hd => ?_⟩
  · rw [out1 a fun z => by have := fr a z; rw [e a u q] at this; cases this]; exact q
  · by_cases ha : a ∈ p :: la :: lb :: qs
    · rw [in1 a ha] at q; exact q
    · rw [out1 a ha] at q; exact T.ex a u (e a u q)
  · exact out1 a fun z => by have := fr a z; rw [q] at this; cases this
  · rw [in1 p (by simp)]; exact T.hp
  · rw [in1 la (by simp)]; exact T.ha
  · rw [in1 lb (by simp)]; exact T.hb
  · rw [in1 q (List.mem_cons_of_mem _ (List.mem_cons_of_mem _ (List.mem_cons_of_mem _ (List.mem_of_getElem? hq))))]; exact T.at_ k q d hq hd
theorem tf_put (la lb : Addr) : (tf la lb).lookup ("put" : Str) = none := by
  unfold tf; rw [lookup_cons, if_neg (by decide +kernel), lookup_cons, if_neg (by decide +kernel)]; rfl
abbrev s_initT : Stmt := inClass (topS 16) 0
abbrev N_initT : List Str := ["self", "listed", "word"]
theorem sc_initT : FnScope N_initT ["self", "listed"] (defScope s_initT) := ⟨rfl, rfl, rfl, by decide +kernel, rfl, by decide +kernel, by decide +kernel⟩
/-- the words of a list that was looked at -/
def wordsD (ws : List Str) : D := .lst (ws.map D.str)
def c_tree (CB : Addr) : CT := fun ds EX P => ∃ v, ds = [v] ∧ smallL v ∧ (∀ i, told v = some i → EX ⟨CB, [(("index" : Str), D.int i)], false⟩) ∧
  (told v = none → ∀ ws A B ps, v = wordsD ws → (∀ s ∈ ws, plainS s = true) → ws.length ≤ 400 → Full A B ps (ws.map codes) → A.length ≤ 10000 → P (.ext 1 (treeD A B)))
theorem fb_words : ∀ (xs : List D) (prev : Option Str) (i : Nat), fb prev i xs = none → ∃ ws : List Str, xs = ws.map D.str ∧ ∀ s ∈ ws, plainS s = true
  | [], _, _, _ => ⟨[], rfl, by simp⟩
  | .str s :: r, prev, i, h => by
    have hs : fb prev i (D.str s :: r) = if okS prev s = true then fb (some s) (i + 1) r else some (i : Int) := rfl
    rw [hs] at h
    by_cases q : okS prev s = true
    · rw [if_pos q] at h
      obtain ⟨ws, rfl, hw⟩ := fb_words r _ _ h
      refine ⟨s :: ws, rfl, fun t ht => ?_⟩
      rcases List.mem_cons.mp ht with rfl | ht
      · unfold okS at q
        rw [Bool.and_eq_true] at q
        exact q.1
      · exact hw t ht
    · rw [if_neg q] at h; cases h
  | .non :: _, _, _, h => by cases h
  | .bl _ :: _, _, _, h => by cases h
  | .int _ :: _, _, _, h => by cases h
  | .lst _ :: _, _, _, h => by cases h
  | .tup _ :: _, _, _, h => by cases h
  | .dic _ :: _, _, _, h => by cases h
  | .ext _ _ :: _, _, _, h => by cases h
theorem told_words {v : D} (h : told v = none) : ∃ ws : List Str, v = wordsD ws ∧ (∀ s ∈ ws, plainS s = true) ∧ ws.length ≤ 400 := by
  cases v with
  | lst xs =>
    have e : told (.lst xs) = if xs.length > 400 then some (-1) else fb none 0 xs := rfl
    rw [e] at h
    by_cases q : xs.length > 400
    · rw [if_pos q] at h; cases h
    · rw [if_neg q] at h
      obtain ⟨ws, rfl, hw⟩ := fb_words xs _ _ h
      exact ⟨ws, rfl, hw, by simpa using q⟩
  | _ => cases h
theorem plain_len {s : Str} (h : plainS s = true) : s.cps.size ≤ 24 := by
  unfold plainS at h
  rw [Bool.and_eq_true] at h
  exact (of_decide_eq_true h.1).2
section
variable {P : Program} {w : World} {K : PySem.W.Frag} {mg : Str → Option Value} {base : Heap}
theorem ok_initT {f fP C CB : Addr} {fd fdP : FuncData} (F : Fun K "__init__" "WordTree.__init__" s_initT f fd) (T : TxC K mg C) (Z : CalX P w K mg base (gT K C) false "check_list" 3 (c_check CB))
    (FP : FnOk P w K mg base CX0 1 fP fdP ["self", "word"] (spPut C)) (mP : Meth K C "put" fP) (bP : Binds K fdP ["self", "word"] []) : FnOk P w K mg base (L2.CX P w) 4 f fd ["self", "listed"] (spMk K (gT K C) 1 C (c_tree CB)) := by
  refine F.okX sc_initT (fun vs H Q E h => ?_) (fun cdv A0 outer s H vs Q E hr h => ?_)
  · obtain ⟨S, H0, q, dx, ws, ds, EX, P', rfl, _, _, _, _, _, ra, ⟨v, rfl, _⟩, _⟩ := h
    obtain ⟨v, rfl, _⟩ := ra.one
    rfl
  · obtain ⟨S, H0, p, dx, ws, ds, EX, P', rfl, e0, rfl, hp, hdx, hne, ra, ⟨v, rfl, hv, hE, hP⟩, hret, hexc⟩ := h
    obtain ⟨u, rfl, ru⟩ := ra.one
    have es : Ex S (upd (upd H0 dx (.own p)) p (.ins C dx [])) := fun a o q => by
      have q0 := e0 a o q
      rw [upd_ne (ne_of_none q0 hp), upd_ne (ne_of_none q0 hdx)]
      exact q0
    have eh : Ex H0 (upd (upd H0 dx (.own p)) p (.ins C dx [])) := fun a o q => by
      rw [upd_ne (ne_of_none q hp), upd_ne (ne_of_none q hdx)]
      exact q
    let b : Bs := ⟨gT K C, S, H0, EX, false⟩
    have tk : Takes (cxOf (L2.CX P w) P w K mg base N_initT "WordTree.__init__" (defScope s_initT) f cdv A0 outer s (upd (upd H0 dx (HO.own p)) p (HO.ins C dx [])) E) (fun cls d _ H => EWish K b cls d H) := (takes_of rfl rfl rfl rfl).imp fun cls d _ H' z => hexc cls d H' z
    refine ⟨_, pss_cons (ps_expr (me_callX (b := b) Z tk hr rfl (ma_cons (me_var 1) ma_nil)))
      (pss_cons (ps_fld (pv 0) (pe_lst (pa_cons pe_dnewK pa_nil)) rfl)
      (pss_cons (ps_fld (pv 0) (pe_lst (pa_cons pe_bl pa_nil)) rfl)
      (pss_one (ps_for (passes_of rfl) rfl (pi_list (pv 1)) (pg_name (i := 2) sc_initT.nd rfl (Or.inl rfl))
        (pss_one (ps_expr (pe_meth (pv 0) T.cl mP FP (hr.mono (by decide)) bP .nil pass0 (pa_cons (pv 2) pa_nil)))))))), ?_⟩
    refine ⟨S, [none, st v, none], fun _ => told v = none, ⟨es, eh, Ex.refl _, fun _ _ _ => rfl, rfl, fun i c hi => ?_, fun i j ci cj q _ hi _ oi _ _ _ => ?_⟩, ⟨v, rfl, hv, hE, fun h => h⟩, fun d x S1 H1 g1 _ ht => ?_⟩
    · match i, hi with
      | 0, hi => cases hi
      | 1, hi =>
        cases hi
        refine ⟨u, rfl, ?_⟩
        unfold CellR
        rw [if_neg Bool.false_ne_true]
        exact ru
      | 2, hi => cases hi
      | n + 3, hi => cases hi
    · match i, hi with
      | 0, hi => cases hi
      | 1, hi => cases hi; cases oi
      | 2, hi => cases hi
      | n + 3, hi => cases hi
    obtain ⟨ws, rfl, hw, hwl⟩ := told_words ht
    have hp1 : H1 p = some (.ins C dx []) := g1.h _ _ upd_same
    have e1 : Ex H0 H1 := eh.trans g1.h
    intro q hq
    have hqp : p ≠ q := ne_of_none hp1 hq
    refine ⟨Nat.succ_le_of_lt (by decide), fun la hla => ?_⟩
    have hlq : la ≠ q := fun z => by rw [z, upd_same] at hla; cases hla
    rw [upd_ne hlq] at hla
    have hpl : p ≠ la := ne_of_none hp1 hla
    refine ⟨_, rfl, p, C, dx, [], rfl, (by rw [upd_ne hpl, upd_ne hqp]; exact hp1), T.cl, T.nA, (by show 0 < 1000; decide), ?_⟩
    refine ⟨Nat.succ_le_of_lt (by decide), fun lb hlb => ?_⟩
    have hbp : lb ≠ p := fun z => by rw [z, upd_same] at hlb; cases hlb
    rw [upd_ne hbp] at hlb
    have hba : lb ≠ la := fun z => by rw [z, upd_same] at hlb; cases hlb
    rw [upd_ne hba] at hlb
    have hbq : lb ≠ q := fun z => by rw [z, upd_same] at hlb; cases hlb
    rw [upd_ne hbq] at hlb
    refine ⟨_, rfl, p, C, dx, putF "_after" (.ref la) [], rfl, (by rw [upd_ne hbp.symm]; exact upd_same), T.cl, T.nW, (by show 1 < 1000; decide), ?_⟩
    have etf : putF "_words" (V.ref lb) (putF "_after" (V.ref la) []) = tf la lb := by
      show (if ("_after" : Str) = "_words" then _ else (("_after" : Str), V.ref la) :: [(("_words" : Str), V.ref lb)]) = tf la lb
      rw [if_neg fun z => ne_aw z.symm]
      rfl
    rw [etf]
    generalize hH3 : upd (upd (upd (upd (upd H1 q (HO.dK [])) la (HO.lst [V.ref q])) p (HO.ins C dx (putF "_after" (V.ref la) []))) lb (HO.lst [V.bl false])) p (HO.ins C dx (tf la lb)) = H3
    have TX : TreeX C H0 H3 p dx la lb [q] [[]] [false] := by
      subst hH3
      refine ⟨fun a o z => ?_, upd_same, ?_, ?_, hba.symm, by simp, hp, none_of_ex e1 hla, none_of_ex e1 hlb, fun a ha => ?_, rfl, fun k q' d hq' hd => ?_⟩
      · have z1 := e1 a o z
        have n1 := ne_of_none z hp
        rw [upd_ne n1, upd_ne (ne_of_none z1 hlb), upd_ne n1, upd_ne (ne_of_none z1 hla), upd_ne (ne_of_none z1 hq)]
        exact z1
      · rw [upd_ne hpl.symm, upd_ne hba.symm, upd_ne hpl.symm, upd_same]; rfl
      · rw [upd_ne hbp, upd_same]; rfl
      · rw [List.mem_singleton] at ha
        subst ha
        exact none_of_ex e1 hq
      · have h0 : k = 0 := by
          have := (List.getElem?_eq_some_iff.mp hd).1
          simp at this; exact this
        subst h0
        simp at hq' hd
        subst hq' hd
        rw [upd_ne hqp.symm, upd_ne hbq.symm, upd_ne hqp.symm, upd_ne hlq.symm, upd_same]; rfl
    clear hH3
    obtain ⟨a, rfl, ha⟩ : ∃ a, u = .ref a ∧ S a = some (.lst (ws.map V.str)) := by
      cases ru with
      | lst h r => exact ⟨_, rfl, by rw [h, r.strs]⟩
    have ha0 : H0 a = some (.lst (ws.map V.str)) := e0 _ _ ha
    refine ⟨_, rfl, a, rfl, ⟨_, SqL.of (TX.ex _ _ ha0)⟩, for_list (K := K) (a := a) (xs := ws.map V.str) (fun i σ H' => ∃ (qs : List Addr) (A : List Dct) (B : List Bool) (ps : List (List Nat)) (x : Option V), σ = [some (.ref p), some (.ref a), x] ∧ TreeX C H0 H' p dx la lb qs A B ∧ Full A B ps ((ws.take i).map codes) ∧ A.length ≤ 1 + 24 * i)
      ⟨_, _, _, _, none, rfl, TX, full_start, Nat.le_refl _⟩ (fun i σ H' _ ⟨_, _, _, _, _, _, TX', _⟩ => SqL.of (TX'.ex _ _ ha0)) ?_ ?_⟩
    · rintro i y σ H' hi ⟨qs, A, B, ps, x, rfl, TX', TF, hA⟩
      rw [List.getElem?_map] at hi
      obtain ⟨s', hs, rfl⟩ := Option.map_eq_some_iff.mp hi
      have hil := (List.getElem?_eq_some_iff.mp hs).1
      have hpl := hw s' (List.mem_of_getElem? hs)
      have hsz := plain_len hpl
      refine ⟨_, rfl, p, dx, _, rfl, TX'.hp, tf_put la lb, _, rfl, ?_⟩
      refine ⟨H0, p, dx, la, lb, qs, A, B, ps, _, s', rfl, TX', TF, by omega, fun j d hd => ?_, fun H2 qs2 A2 B2 ps2 TX2 TF2 hA2 => ?_⟩
      · refine Nat.le_trans (keys_few TF (L := (List.range 26).map (97 + ·)) (fun w hw' c hc => ?_) hd) (by simp)
        obtain ⟨s2, hs2, rfl⟩ := List.mem_map.mp hw'
        have h1 := hw s2 (List.mem_of_mem_take hs2)
        unfold plainS at h1
        rw [Bool.and_eq_true, List.all_eq_true] at h1
        have h2 := of_decide_eq_true (h1.2 c hc)
        exact List.mem_map.mpr ⟨c - 97, by simp; omega, by omega⟩
      · refine ⟨qs2, A2, B2, ps2, _, rfl, TX2, ?_, by omega⟩
        rw [List.take_succ_eq_append_getElem hil, List.map_append]
        have e2 := (List.getElem?_eq_some_iff.mp hs).2
        rw [e2]
        exact TF2
    · rintro σ H' ⟨qs, A, B, ps, x, rfl, TX', TF, hA⟩
      rw [List.length_map] at TF hA
      rw [List.take_length] at TF
      obtain ⟨S2, g2, hT⟩ := tree_stab TX' e0
      exact hret _ S2 H' g2 (.inr ⟨rfl, hT⟩) (hP ht ws A B ps rfl hw hwl TF (by omega))
end
end K87
namespace K87
open PySem L2 Evl Mi SrtO
section
variable {P : Program} {w : World} {K : PySem.W.Frag} {mg : Str → Option Value} {base : Heap}
theorem valD_dct (d : Dct) (c : Nat) : valD (dctD d) (Sum.inr (sg c)) = (d.lookup c).map fun (s : Nat) => D.int s := by
  induction d with
  | nil => rfl
  | cons x d ih =>
    obtain ⟨k, v⟩ := x
    rw [List.lookup_cons]
    by_cases e : c = k
    · subst e
      simp [valD, dctD]
    · have q : (c == k) = false := by simpa using e
      rw [q]
      have e2 : ¬ (Sum.inr (sg k) : Key) = Sum.inr (sg c) := fun z => e (sg_inj (Sum.inr.inj z)).symm
      refine Eq.trans ?_ ih
      simp [valD, dctD, e2]
def c_size : CT := fun ds EX P => ∃ A B, ds = [.ext 1 (treeD A B)] ∧ P (.int (A.length : Nat))
abbrev s_WordTree_size : Stmt := inClass (topS 16) 2
abbrev N_WordTree_size : List Str := ["self"]
theorem sc_WordTree_size : FnScope N_WordTree_size ["self"] (defScope s_WordTree_size) := ⟨rfl, rfl, rfl, by decide +kernel, rfl, by decide +kernel, by decide +kernel⟩
theorem ok_WordTree_size {f : Addr} {fd : FuncData} (F : Fun K "size" "WordTree.size" s_WordTree_size f fd) (T : Txt mg) {C : Addr} (TC : TxC K mg C) : FnOk P w K mg base CX0 (0 + 1) f fd ["self"] (spD K (gT K C) false c_size) := by
  refine Mi.Fun.data F sc_WordTree_size (fun ds EX Q ⟨_, _, h, _⟩ => by rw [h]; rfl) (fun cdv A outer s H E S0 H0 hr => (ms_one (ms_ret rfl (me_len T.len rfl (mo_of (me_attr 0 (instT K C TC) (me_var 0))))))) (fun ds Q h => ?_) (fun ds EX Q h => h)
  obtain ⟨A, B, rfl, h⟩ := h
  unfold treeD
  simp only [e_qI, e_qIC, e_add1, e_add2, e_add3, e_add4, e_catL, e_aug1, e_aug2, e_mul1, e_mul2, e_rep, e_div, e_mod, e_neg, e_ord1, e_ord2, e_isn, e_nin, e_non1, e_non2, e_non3, e_non4, e_non5, e_non6, e_tru1, e_tru2, e_tru3, e_tru4, e_tru5, e_tru6, e_tru7, e_sl1, e_sl2, e_sl3, e_sl4, e_rev, e_it1, e_it2, e_it3, e_len1, e_len2, e_len3, e_len4, e_int1, e_int2, e_int3, e_min, e_max, e_min3, e_lst1, e_lst2, e_tup1, e_tup2, e_str, e_abs, e_lenS, e_ixS, isi_list_bl, isi_str_lst, isi_str_tup, isi_str_bl, isi_int_lst, isi_int_tup, isi_bool_non, isi_bool_str, isi_bool_lst, isi_bool_tup, isi_tup_lst, isi_tup_non, isi_tup_str, isi_tup_int, isi_tup_bl, e_attr, e_inD, e_ixD, e_ixS1, eq_self, Mi.qNotIn, Mi.qLt, Mi.qLe, Mi.qGt, Mi.qGe, List.map_cons, List.map_nil, List.length_map, true_and, and_true, Bool.false_eq_true, if_false, if_true, Bool.not_true, Bool.not_false, qEq_int, qEq_str, qEq_bl, qNe_int, qNe_str, qNe_bl, line0, line1, line2, line3, line4, line6, line7, line10, isi_list_lst, isi_list_tup, isi_list_non, isi_list_str, isi_list_int, isi_tup_tup, isi_bool_bl, isi_bool_int, isi_int_int, isi_int_bl, isi_int_non, isi_int_str, isi_str_str, isi_str_non, isi_str_int, startE_c, startE_n, startE_e, wFor_e, wLc_e, wipeE, wgName, wgTup, wgCons, wgNil, List.getElem?_cons_zero, List.getElem?_cons_succ, List.set_cons_zero, List.set_cons_succ, List.length_cons, List.length_nil, Mi.wC, Mi.wVar, Mi.wVarO, Mi.wOp, Mi.wUn, Mi.wCmp, Mi.wCmpT, Mi.wChainT, Mi.wChain, Mi.wTru, Mi.wAndT, Mi.wOrT, Mi.wNotT, Mi.wAnd, Mi.wOr, Mi.wNot, Mi.wIfE, Mi.wNoPart, Mi.wPart, Mi.wSl, Mi.wNil, Mi.wCons, Mi.wTup, Mi.wLst, Mi.wNext, Mi.wSeq, Mi.wFreeze, Mi.wForget, Mi.wBreak, Mi.wCont, Mi.wRet, Mi.wRetO, Mi.wRetN, Mi.wDrop, Mi.wIf, Mi.wNever, Mi.wAsg, Mi.wSetO, Mi.wPar, Mi.wAug, Mi.wApp, Mi.wSetIx, Mi.wExt, Mi.wItems, Mi.wRng1, Mi.wRng2, Mi.wRng3, Mi.wEnum, Mi.wZip, Mi.wYes, Mi.wCall, Mi.wCallX, Mi.wB2, Mi.wMin3, Mi.wIsi, Mi.wGuard, Mi.wGuardD, Mi.wRaise, Mi.wEnumS, Mi.wListR, Mi.wJoin, Mi.wMet, Mi.wMet0, Mi.wPop, Mi.wdNil, Mi.wdCons, Mi.wDisp, optD_some]
  exact h
def c_has : CT := fun ds EX P => ∃ (A : List Dct) (B : List Bool) (ps W : List (List Nat)) (t : Str), ds = [.ext 1 (treeD A B), .str t] ∧ Full A B ps W ∧ P (.bl (decide (codes t ∈ W)))
abbrev s_WordTree_has : Stmt := inClass (topS 16) 3
abbrev N_WordTree_has : List Str := ["self", "word", "state", "sign"]
theorem sc_WordTree_has : FnScope N_WordTree_has ["self", "word"] (defScope s_WordTree_has) := ⟨rfl, rfl, rfl, by decide +kernel, rfl, by decide +kernel, by decide +kernel⟩
theorem ok_WordTree_has {f : Addr} {fd : FuncData} (F : Fun K "has" "WordTree.has" s_WordTree_has f fd) (T : Txt mg) {C : Addr} (TC : TxC K mg C) : FnOk P w K mg base CX0 (0 + 1) f fd ["self", "word"] (spD K (gT K C) false c_has) := by
  refine Mi.Fun.data F sc_WordTree_has (fun ds EX Q ⟨_, _, _, _, _, h, _⟩ => by rw [h]; rfl) (fun cdv A outer s H E S0 H0 hr => (ms_cons (ms_set 2 sc_WordTree_has.nd me_int)
  (ms_cut (ms_for (vs := [3]) PassesOwn.never rfl (mi_any (me_var 1)) (mg_name 3 sc_WordTree_has.nd)
  (ms_cons (ms_if (mt_notin (units65 hr) (mo_var 3) (mo_of (me_ix hr.units (mo_of (me_attr 0 (instT K C TC) (me_var 0))) (mo_var 2))))
  (ms_one (ms_ret rfl me_bl))
  ms_nil)
  (ms_one (ms_set 2 sc_WordTree_has.nd (me_ix hr.units (mo_of (me_ix hr.units (mo_of (me_attr 0 (instT K C TC) (me_var 0))) (mo_var 2))) (mo_var 3))))))
  (ms_one (ms_ret rfl (me_ix hr.units (mo_of (me_attr 1 (instT K C TC) (me_var 0))) (mo_var 2))))))) (fun ds Q h => ?_) (fun ds EX Q h => h)
  obtain ⟨A, B, ps, W, t, rfl, TF, h⟩ := h
  have hlen : t.length = (codes t).length := str_len t
  unfold treeD
  simp only [e_qI, e_qIC, e_add1, e_add2, e_add3, e_add4, e_catL, e_aug1, e_aug2, e_mul1, e_mul2, e_rep, e_div, e_mod, e_neg, e_ord1, e_ord2, e_isn, e_nin, e_non1, e_non2, e_non3, e_non4, e_non5, e_non6, e_tru1, e_tru2, e_tru3, e_tru4, e_tru5, e_tru6, e_tru7, e_sl1, e_sl2, e_sl3, e_sl4, e_rev, e_it1, e_it2, e_it3, e_len1, e_len2, e_len3, e_len4, e_int1, e_int2, e_int3, e_min, e_max, e_min3, e_lst1, e_lst2, e_tup1, e_tup2, e_str, e_abs, e_lenS, e_ixS, isi_list_bl, isi_str_lst, isi_str_tup, isi_str_bl, isi_int_lst, isi_int_tup, isi_bool_non, isi_bool_str, isi_bool_lst, isi_bool_tup, isi_tup_lst, isi_tup_non, isi_tup_str, isi_tup_int, isi_tup_bl, e_attr, e_inD, e_ixD, e_ixS1, eq_self, Mi.qNotIn, Mi.qLt, Mi.qLe, Mi.qGt, Mi.qGe, List.map_cons, List.map_nil, List.length_map, true_and, and_true, Bool.false_eq_true, if_false, if_true, Bool.not_true, Bool.not_false, qEq_int, qEq_str, qEq_bl, qNe_int, qNe_str, qNe_bl, line0, line1, line2, line3, line4, line6, line7, line10, isi_list_lst, isi_list_tup, isi_list_non, isi_list_str, isi_list_int, isi_tup_tup, isi_bool_bl, isi_bool_int, isi_int_int, isi_int_bl, isi_int_non, isi_int_str, isi_str_str, isi_str_non, isi_str_int, startE_c, startE_n, startE_e, wFor_e, wLc_e, wipeE, wgName, wgTup, wgCons, wgNil, List.getElem?_cons_zero, List.getElem?_cons_succ, List.set_cons_zero, List.set_cons_succ, List.length_cons, List.length_nil, Mi.wC, Mi.wVar, Mi.wVarO, Mi.wOp, Mi.wUn, Mi.wCmp, Mi.wCmpT, Mi.wChainT, Mi.wChain, Mi.wTru, Mi.wAndT, Mi.wOrT, Mi.wNotT, Mi.wAnd, Mi.wOr, Mi.wNot, Mi.wIfE, Mi.wNoPart, Mi.wPart, Mi.wSl, Mi.wNil, Mi.wCons, Mi.wTup, Mi.wLst, Mi.wNext, Mi.wSeq, Mi.wFreeze, Mi.wForget, Mi.wBreak, Mi.wCont, Mi.wRet, Mi.wRetO, Mi.wRetN, Mi.wDrop, Mi.wIf, Mi.wNever, Mi.wAsg, Mi.wSetO, Mi.wPar, Mi.wAug, Mi.wApp, Mi.wSetIx, Mi.wExt, Mi.wItems, Mi.wRng1, Mi.wRng2, Mi.wRng3, Mi.wEnum, Mi.wZip, Mi.wYes, Mi.wCall, Mi.wCallX, Mi.wB2, Mi.wMin3, Mi.wIsi, Mi.wGuard, Mi.wGuardD, Mi.wRaise, Mi.wEnumS, Mi.wListR, Mi.wJoin, Mi.wMet, Mi.wMet0, Mi.wPop, Mi.wdNil, Mi.wdCons, Mi.wDisp, optD_some]
  refine cut_i (fun δ' => ∃ s c3, δ' = [st (.ext 1 (treeD A B)), st (.str t), st (.int (s : Nat)), c3] ∧ ps[s]? = some (codes t)) ?_ ?_
  · simp only [e_qI, e_qIC, e_add1, e_add2, e_add3, e_add4, e_catL, e_aug1, e_aug2, e_mul1, e_mul2, e_rep, e_div, e_mod, e_neg, e_ord1, e_ord2, e_isn, e_nin, e_non1, e_non2, e_non3, e_non4, e_non5, e_non6, e_tru1, e_tru2, e_tru3, e_tru4, e_tru5, e_tru6, e_tru7, e_sl1, e_sl2, e_sl3, e_sl4, e_rev, e_it1, e_it2, e_it3, e_len1, e_len2, e_len3, e_len4, e_int1, e_int2, e_int3, e_min, e_max, e_min3, e_lst1, e_lst2, e_tup1, e_tup2, e_str, e_abs, e_lenS, e_ixS, isi_list_bl, isi_str_lst, isi_str_tup, isi_str_bl, isi_int_lst, isi_int_tup, isi_bool_non, isi_bool_str, isi_bool_lst, isi_bool_tup, isi_tup_lst, isi_tup_non, isi_tup_str, isi_tup_int, isi_tup_bl, e_attr, e_inD, e_ixD, e_ixS1, eq_self, Mi.qNotIn, Mi.qLt, Mi.qLe, Mi.qGt, Mi.qGe, List.map_cons, List.map_nil, List.length_map, true_and, and_true, Bool.false_eq_true, if_false, if_true, Bool.not_true, Bool.not_false, qEq_int, qEq_str, qEq_bl, qNe_int, qNe_str, qNe_bl, line0, line1, line2, line3, line4, line6, line7, line10, isi_list_lst, isi_list_tup, isi_list_non, isi_list_str, isi_list_int, isi_tup_tup, isi_bool_bl, isi_bool_int, isi_int_int, isi_int_bl, isi_int_non, isi_int_str, isi_str_str, isi_str_non, isi_str_int, startE_c, startE_n, startE_e, wFor_e, wLc_e, wipeE, wgName, wgTup, wgCons, wgNil, List.getElem?_cons_zero, List.getElem?_cons_succ, List.set_cons_zero, List.set_cons_succ, List.length_cons, List.length_nil, Mi.wC, Mi.wVar, Mi.wVarO, Mi.wOp, Mi.wUn, Mi.wCmp, Mi.wCmpT, Mi.wChainT, Mi.wChain, Mi.wTru, Mi.wAndT, Mi.wOrT, Mi.wNotT, Mi.wAnd, Mi.wOr, Mi.wNot, Mi.wIfE, Mi.wNoPart, Mi.wPart, Mi.wSl, Mi.wNil, Mi.wCons, Mi.wTup, Mi.wLst, Mi.wNext, Mi.wSeq, Mi.wFreeze, Mi.wForget, Mi.wBreak, Mi.wCont, Mi.wRet, Mi.wRetO, Mi.wRetN, Mi.wDrop, Mi.wIf, Mi.wNever, Mi.wAsg, Mi.wSetO, Mi.wPar, Mi.wAug, Mi.wApp, Mi.wSetIx, Mi.wExt, Mi.wItems, Mi.wRng1, Mi.wRng2, Mi.wRng3, Mi.wEnum, Mi.wZip, Mi.wYes, Mi.wCall, Mi.wCallX, Mi.wB2, Mi.wMin3, Mi.wIsi, Mi.wGuard, Mi.wGuardD, Mi.wRaise, Mi.wEnumS, Mi.wListR, Mi.wJoin, Mi.wMet, Mi.wMet0, Mi.wPop, Mi.wdNil, Mi.wdCons, Mi.wDisp]
    refine for_i (fun i δ' => ∃ s c3, δ' = [st (.ext 1 (treeD A B)), st (.str t), st (.int (s : Nat)), c3] ∧ ps[s]? = some ((codes t).take i)) ⟨0, none, rfl, TF.zero⟩ ?_ ?_
    · rintro i d δ' hk ⟨s, c3, rfl, hs⟩
      obtain ⟨c, hc, rfl⟩ := signs_get hk
      have hi : i < (codes t).length := (List.getElem?_eq_some_iff.mp hc).1
      have hcc : (codes t)[i] = c := (List.getElem?_eq_some_iff.mp hc).2
      obtain ⟨d, b, hd, hb⟩ := TF.at hs
      have hv := valD_dct d c
      unfold sg at hv
      have hA : (A.map fun d => D.dic (dctD d))[s]? = some (.dic (dctD d)) := by rw [List.getElem?_map, hd]; rfl
      unfold treeD
      simp only [e_qI, e_qIC, e_add1, e_add2, e_add3, e_add4, e_catL, e_aug1, e_aug2, e_mul1, e_mul2, e_rep, e_div, e_mod, e_neg, e_ord1, e_ord2, e_isn, e_nin, e_non1, e_non2, e_non3, e_non4, e_non5, e_non6, e_tru1, e_tru2, e_tru3, e_tru4, e_tru5, e_tru6, e_tru7, e_sl1, e_sl2, e_sl3, e_sl4, e_rev, e_it1, e_it2, e_it3, e_len1, e_len2, e_len3, e_len4, e_int1, e_int2, e_int3, e_min, e_max, e_min3, e_lst1, e_lst2, e_tup1, e_tup2, e_str, e_abs, e_lenS, e_ixS, isi_list_bl, isi_str_lst, isi_str_tup, isi_str_bl, isi_int_lst, isi_int_tup, isi_bool_non, isi_bool_str, isi_bool_lst, isi_bool_tup, isi_tup_lst, isi_tup_non, isi_tup_str, isi_tup_int, isi_tup_bl, e_attr, e_inD, e_ixD, e_ixS1, eq_self, Mi.qNotIn, Mi.qLt, Mi.qLe, Mi.qGt, Mi.qGe, List.map_cons, List.map_nil, List.length_map, true_and, and_true, Bool.false_eq_true, if_false, if_true, Bool.not_true, Bool.not_false, qEq_int, qEq_str, qEq_bl, qNe_int, qNe_str, qNe_bl, line0, line1, line2, line3, line4, line6, line7, line10, isi_list_lst, isi_list_tup, isi_list_non, isi_list_str, isi_list_int, isi_tup_tup, isi_bool_bl, isi_bool_int, isi_int_int, isi_int_bl, isi_int_non, isi_int_str, isi_str_str, isi_str_non, isi_str_int, startE_c, startE_n, startE_e, wFor_e, wLc_e, wipeE, wgName, wgTup, wgCons, wgNil, List.getElem?_cons_zero, List.getElem?_cons_succ, List.set_cons_zero, List.set_cons_succ, List.length_cons, List.length_nil, Mi.wC, Mi.wVar, Mi.wVarO, Mi.wOp, Mi.wUn, Mi.wCmp, Mi.wCmpT, Mi.wChainT, Mi.wChain, Mi.wTru, Mi.wAndT, Mi.wOrT, Mi.wNotT, Mi.wAnd, Mi.wOr, Mi.wNot, Mi.wIfE, Mi.wNoPart, Mi.wPart, Mi.wSl, Mi.wNil, Mi.wCons, Mi.wTup, Mi.wLst, Mi.wNext, Mi.wSeq, Mi.wFreeze, Mi.wForget, Mi.wBreak, Mi.wCont, Mi.wRet, Mi.wRetO, Mi.wRetN, Mi.wDrop, Mi.wIf, Mi.wNever, Mi.wAsg, Mi.wSetO, Mi.wPar, Mi.wAug, Mi.wApp, Mi.wSetIx, Mi.wExt, Mi.wItems, Mi.wRng1, Mi.wRng2, Mi.wRng3, Mi.wEnum, Mi.wZip, Mi.wYes, Mi.wCall, Mi.wCallX, Mi.wB2, Mi.wMin3, Mi.wIsi, Mi.wGuard, Mi.wGuardD, Mi.wRaise, Mi.wEnumS, Mi.wListR, Mi.wJoin, Mi.wMet, Mi.wMet0, Mi.wPop, Mi.wdNil, Mi.wdCons, Mi.wDisp, optD_some]
      refine qIx_lst (i := s) hA ?_
      simp only [e_qI, e_qIC, e_add1, e_add2, e_add3, e_add4, e_catL, e_aug1, e_aug2, e_mul1, e_mul2, e_rep, e_div, e_mod, e_neg, e_ord1, e_ord2, e_isn, e_nin, e_non1, e_non2, e_non3, e_non4, e_non5, e_non6, e_tru1, e_tru2, e_tru3, e_tru4, e_tru5, e_tru6, e_tru7, e_sl1, e_sl2, e_sl3, e_sl4, e_rev, e_it1, e_it2, e_it3, e_len1, e_len2, e_len3, e_len4, e_int1, e_int2, e_int3, e_min, e_max, e_min3, e_lst1, e_lst2, e_tup1, e_tup2, e_str, e_abs, e_lenS, e_ixS, isi_list_bl, isi_str_lst, isi_str_tup, isi_str_bl, isi_int_lst, isi_int_tup, isi_bool_non, isi_bool_str, isi_bool_lst, isi_bool_tup, isi_tup_lst, isi_tup_non, isi_tup_str, isi_tup_int, isi_tup_bl, e_attr, e_inD, e_ixD, e_ixS1, eq_self, Mi.qNotIn, Mi.qLt, Mi.qLe, Mi.qGt, Mi.qGe, List.map_cons, List.map_nil, List.length_map, true_and, and_true, Bool.false_eq_true, if_false, if_true, Bool.not_true, Bool.not_false, qEq_int, qEq_str, qEq_bl, qNe_int, qNe_str, qNe_bl, line0, line1, line2, line3, line4, line6, line7, line10, isi_list_lst, isi_list_tup, isi_list_non, isi_list_str, isi_list_int, isi_tup_tup, isi_bool_bl, isi_bool_int, isi_int_int, isi_int_bl, isi_int_non, isi_int_str, isi_str_str, isi_str_non, isi_str_int, startE_c, startE_n, startE_e, wFor_e, wLc_e, wipeE, wgName, wgTup, wgCons, wgNil, List.getElem?_cons_zero, List.getElem?_cons_succ, List.set_cons_zero, List.set_cons_succ, List.length_cons, List.length_nil, Mi.wC, Mi.wVar, Mi.wVarO, Mi.wOp, Mi.wUn, Mi.wCmp, Mi.wCmpT, Mi.wChainT, Mi.wChain, Mi.wTru, Mi.wAndT, Mi.wOrT, Mi.wNotT, Mi.wAnd, Mi.wOr, Mi.wNot, Mi.wIfE, Mi.wNoPart, Mi.wPart, Mi.wSl, Mi.wNil, Mi.wCons, Mi.wTup, Mi.wLst, Mi.wNext, Mi.wSeq, Mi.wFreeze, Mi.wForget, Mi.wBreak, Mi.wCont, Mi.wRet, Mi.wRetO, Mi.wRetN, Mi.wDrop, Mi.wIf, Mi.wNever, Mi.wAsg, Mi.wSetO, Mi.wPar, Mi.wAug, Mi.wApp, Mi.wSetIx, Mi.wExt, Mi.wItems, Mi.wRng1, Mi.wRng2, Mi.wRng3, Mi.wEnum, Mi.wZip, Mi.wYes, Mi.wCall, Mi.wCallX, Mi.wB2, Mi.wMin3, Mi.wIsi, Mi.wGuard, Mi.wGuardD, Mi.wRaise, Mi.wEnumS, Mi.wListR, Mi.wJoin, Mi.wMet, Mi.wMet0, Mi.wPop, Mi.wdNil, Mi.wdCons, Mi.wDisp]
      rw [hv]
      cases hl : d.lookup c with
      | none =>
        simp only [Option.map_none, Option.isSome_none, Bool.not_false, if_true]
        have hn : codes t ∉ W := has_none TF hi hs hd (by rw [hcc]; exact hl)
        rw [decide_eq_false hn] at h
        exact h
      | some s' =>
        simp only [Option.map_some, Option.isSome_some, Bool.not_true, Bool.false_eq_true, if_false]
        refine qIx_lst (i := s) hA ?_
        simp only [e_qI, e_qIC, e_add1, e_add2, e_add3, e_add4, e_catL, e_aug1, e_aug2, e_mul1, e_mul2, e_rep, e_div, e_mod, e_neg, e_ord1, e_ord2, e_isn, e_nin, e_non1, e_non2, e_non3, e_non4, e_non5, e_non6, e_tru1, e_tru2, e_tru3, e_tru4, e_tru5, e_tru6, e_tru7, e_sl1, e_sl2, e_sl3, e_sl4, e_rev, e_it1, e_it2, e_it3, e_len1, e_len2, e_len3, e_len4, e_int1, e_int2, e_int3, e_min, e_max, e_min3, e_lst1, e_lst2, e_tup1, e_tup2, e_str, e_abs, e_lenS, e_ixS, isi_list_bl, isi_str_lst, isi_str_tup, isi_str_bl, isi_int_lst, isi_int_tup, isi_bool_non, isi_bool_str, isi_bool_lst, isi_bool_tup, isi_tup_lst, isi_tup_non, isi_tup_str, isi_tup_int, isi_tup_bl, e_attr, e_inD, e_ixD, e_ixS1, eq_self, Mi.qNotIn, Mi.qLt, Mi.qLe, Mi.qGt, Mi.qGe, List.map_cons, List.map_nil, List.length_map, true_and, and_true, Bool.false_eq_true, if_false, if_true, Bool.not_true, Bool.not_false, qEq_int, qEq_str, qEq_bl, qNe_int, qNe_str, qNe_bl, line0, line1, line2, line3, line4, line6, line7, line10, isi_list_lst, isi_list_tup, isi_list_non, isi_list_str, isi_list_int, isi_tup_tup, isi_bool_bl, isi_bool_int, isi_int_int, isi_int_bl, isi_int_non, isi_int_str, isi_str_str, isi_str_non, isi_str_int, startE_c, startE_n, startE_e, wFor_e, wLc_e, wipeE, wgName, wgTup, wgCons, wgNil, List.getElem?_cons_zero, List.getElem?_cons_succ, List.set_cons_zero, List.set_cons_succ, List.length_cons, List.length_nil, Mi.wC, Mi.wVar, Mi.wVarO, Mi.wOp, Mi.wUn, Mi.wCmp, Mi.wCmpT, Mi.wChainT, Mi.wChain, Mi.wTru, Mi.wAndT, Mi.wOrT, Mi.wNotT, Mi.wAnd, Mi.wOr, Mi.wNot, Mi.wIfE, Mi.wNoPart, Mi.wPart, Mi.wSl, Mi.wNil, Mi.wCons, Mi.wTup, Mi.wLst, Mi.wNext, Mi.wSeq, Mi.wFreeze, Mi.wForget, Mi.wBreak, Mi.wCont, Mi.wRet, Mi.wRetO, Mi.wRetN, Mi.wDrop, Mi.wIf, Mi.wNever, Mi.wAsg, Mi.wSetO, Mi.wPar, Mi.wAug, Mi.wApp, Mi.wSetIx, Mi.wExt, Mi.wItems, Mi.wRng1, Mi.wRng2, Mi.wRng3, Mi.wEnum, Mi.wZip, Mi.wYes, Mi.wCall, Mi.wCallX, Mi.wB2, Mi.wMin3, Mi.wIsi, Mi.wGuard, Mi.wGuardD, Mi.wRaise, Mi.wEnumS, Mi.wListR, Mi.wJoin, Mi.wMet, Mi.wMet0, Mi.wPop, Mi.wdNil, Mi.wdCons, Mi.wDisp]
        rw [hv, hl]
        exact ⟨s', _, rfl, has_some TF hi hs hd (by rw [hcc]; exact hl)⟩
    · rintro δ' ⟨s, c3, rfl, hs⟩
      refine ⟨s, c3, rfl, ?_⟩
      rw [hs, signs_len, show t.cps.size = (codes t).length from hlen, List.take_length]
  · rintro δ' ⟨s, c3, rfl, hs⟩
    obtain ⟨d, b, hd, hb⟩ := TF.at hs
    unfold treeD
    simp only [e_qI, e_qIC, e_add1, e_add2, e_add3, e_add4, e_catL, e_aug1, e_aug2, e_mul1, e_mul2, e_rep, e_div, e_mod, e_neg, e_ord1, e_ord2, e_isn, e_nin, e_non1, e_non2, e_non3, e_non4, e_non5, e_non6, e_tru1, e_tru2, e_tru3, e_tru4, e_tru5, e_tru6, e_tru7, e_sl1, e_sl2, e_sl3, e_sl4, e_rev, e_it1, e_it2, e_it3, e_len1, e_len2, e_len3, e_len4, e_int1, e_int2, e_int3, e_min, e_max, e_min3, e_lst1, e_lst2, e_tup1, e_tup2, e_str, e_abs, e_lenS, e_ixS, isi_list_bl, isi_str_lst, isi_str_tup, isi_str_bl, isi_int_lst, isi_int_tup, isi_bool_non, isi_bool_str, isi_bool_lst, isi_bool_tup, isi_tup_lst, isi_tup_non, isi_tup_str, isi_tup_int, isi_tup_bl, e_attr, e_inD, e_ixD, e_ixS1, eq_self, Mi.qNotIn, Mi.qLt, Mi.qLe, Mi.qGt, Mi.qGe, List.map_cons, List.map_nil, List.length_map, true_and, and_true, Bool.false_eq_true, if_false, if_true, Bool.not_true, Bool.not_false, qEq_int, qEq_str, qEq_bl, qNe_int, qNe_str, qNe_bl, line0, line1, line2, line3, line4, line6, line7, line10, isi_list_lst, isi_list_tup, isi_list_non, isi_list_str, isi_list_int, isi_tup_tup, isi_bool_bl, isi_bool_int, isi_int_int, isi_int_bl, isi_int_non, isi_int_str, isi_str_str, isi_str_non, isi_str_int, startE_c, startE_n, startE_e, wFor_e, wLc_e, wipeE, wgName, wgTup, wgCons, wgNil, List.getElem?_cons_zero, List.getElem?_cons_succ, List.set_cons_zero, List.set_cons_succ, List.length_cons, List.length_nil, Mi.wC, Mi.wVar, Mi.wVarO, Mi.wOp, Mi.wUn, Mi.wCmp, Mi.wCmpT, Mi.wChainT, Mi.wChain, Mi.wTru, Mi.wAndT, Mi.wOrT, Mi.wNotT, Mi.wAnd, Mi.wOr, Mi.wNot, Mi.wIfE, Mi.wNoPart, Mi.wPart, Mi.wSl, Mi.wNil, Mi.wCons, Mi.wTup, Mi.wLst, Mi.wNext, Mi.wSeq, Mi.wFreeze, Mi.wForget, Mi.wBreak, Mi.wCont, Mi.wRet, Mi.wRetO, Mi.wRetN, Mi.wDrop, Mi.wIf, Mi.wNever, Mi.wAsg, Mi.wSetO, Mi.wPar, Mi.wAug, Mi.wApp, Mi.wSetIx, Mi.wExt, Mi.wItems, Mi.wRng1, Mi.wRng2, Mi.wRng3, Mi.wEnum, Mi.wZip, Mi.wYes, Mi.wCall, Mi.wCallX, Mi.wB2, Mi.wMin3, Mi.wIsi, Mi.wGuard, Mi.wGuardD, Mi.wRaise, Mi.wEnumS, Mi.wListR, Mi.wJoin, Mi.wMet, Mi.wMet0, Mi.wPop, Mi.wdNil, Mi.wdCons, Mi.wDisp, optD_some]
    refine qIx_lst (i := s) (d := .bl b) (by rw [List.getElem?_map, hb]; rfl) ?_
    rw [has_end TF hs hb]
    exact h
def pairN (x : Nat × List Nat) : Int × Str := ((x.1 : Int), ⟨x.2.toArray⟩)
def foundD (x : Nat × List Nat) : D := pairD (pairN x)
def waitD (w : List Nat) (x : List Nat × Nat) : D := .tup [.str ⟨x.1.toArray⟩, .int (x.2 : Nat), rowD (rowOf x.1 w)]
def unsg (s : Str) : Nat := s.cps.toList.headD 0
theorem perm_sg {ys : List Str} {d : Dct} (h : ys.Perm (d.map fun x => sg x.1)) : ∃ zs : List Nat, ys = zs.map sg ∧ zs.Perm (d.map (·.1)) := by
  refine ⟨ys.map unsg, ?_, ?_⟩
  · rw [List.map_map]
    have : ∀ y ∈ ys, (sg ∘ unsg) y = y := fun y hy => by
      obtain ⟨x, _, rfl⟩ := List.mem_map.mp (h.mem_iff.mp hy)
      rfl
    exact (List.map_id ys).symm.trans (List.map_congr_left fun y hy => (this y hy).symm)
  · have := h.map unsg
    rw [List.map_map] at this
    exact this
/-- the answer: the ordered list -/
def AnsL (l : List (Nat × List Nat)) (qs : List (Int × Str)) : Prop := qs.Perm (l.map pairN) ∧ Srtd lexS qs
def c_within : CT := fun ds EX P => ∃ (A : List Dct) (B : List Bool) (ps W : List (List Nat)) (t : Str) (m : Nat), ds = [.ext 1 (treeD A B), .str t, .int m] ∧ Full A B ps W ∧ W.Nodup ∧ (∀ w ∈ W, ∀ c ∈ w, isLet c = true) ∧ (∀ w ∈ W, w.length ≤ 24) ∧ t.length ≤ 1000000 ∧ A.length ≤ 10000 ∧
  ∀ qs, AnsL (due W (codes t) m) qs → P (.lst (qs.map pairD))
abbrev s_WordTree_within : Stmt := inClass (topS 16) 4
abbrev N_WordTree_within : List Str := ["self", "word", "most", "found", "waiting", "sign", "text", "state", "row", "later"]
theorem sc_WordTree_within : FnScope N_WordTree_within ["self", "word", "most"] (defScope s_WordTree_within) := ⟨rfl, rfl, rfl, by decide +kernel, rfl, by decide +kernel, by decide +kernel⟩
theorem ok_WordTree_within {f : Addr} {fd : FuncData} (F : Fun K "within" "WordTree.within" s_WordTree_within f fd) (T : Txt mg) {C : Addr} (TC : TxC K mg C) (Z1 : Cal P w K mg base (gT K C) true "first_row" 1 c_first) (Z2 : Cal P w K mg base (gT K C) true "next_row" 1 c_next) : FnOk P w K mg base CX0 (1 + 1) f fd ["self", "word", "most"] (spD K (gT K C) true c_within) := by
  refine Mi.Fun.data F sc_WordTree_within (fun ds EX Q ⟨_, _, _, _, _, _, h, _⟩ => by rw [h]; rfl) (fun cdv A outer s H E S0 H0 hr => (ms_cons (ms_setO 3 sc_WordTree_within.nd (mf_lst ma_nil))
  (ms_cons (ms_setO 4 sc_WordTree_within.nd (mf_lst (ma_cons (me_tup (ma_cons me_str (ma_cons me_int (ma_cons (me_ofF (mf_call Z1 hr rfl (ma_cons (me_var 1) ma_nil))) ma_nil)))) ma_nil)))
  (ms_cut (ms_while PassesOwn.never (mt_tru (mo_var 4))
  (ms_cons (ms_pop (vs := [6, 7, 8]) 4 (mg_tup 3 rfl (mgs_cons (mg_name 6 sc_WordTree_within.nd) (mgs_cons (mg_name 7 sc_WordTree_within.nd) (mgs_cons (mg_name 8 sc_WordTree_within.nd) mgs_nil))) rfl rfl (fun _ _ _ h => wgCons_len (fun _ _ _ h => wgCons_len (fun _ _ _ h => wgCons_len (fun _ _ _ h => wgNil_len h) wgName_ex h) wgName_ex h) wgName_ex h)))
  (ms_cut (ms_ifD (mt_w (mw_and (mt_tru (mo_of (me_ix hr.units (mo_of (me_attr 1 (instT K C TC) (me_var 0))) (mo_var 7)))) (mw_and1 (mt_le (mo_of (me_ix hr.units (mo_var 8) (mo_of (me_neg (mo_of me_int))))) (mo_var 2)))))
  (ms_one (ms_app 3 (me_tup (ma_cons (me_ix hr.units (mo_var 8) (mo_of (me_neg (mo_of me_int)))) (ma_cons (me_var 6) ma_nil)))))
  ms_nil)
  (ms_one (ms_for (vs := [5]) PassesOwn.never rfl (mi_any (me_ofF (mf_sortS rfl T.sorted rfl (mo_of (me_ix hr.units (mo_of (me_attr 0 (instT K C TC) (me_var 0))) (mo_var 7)))))) (mg_name 5 sc_WordTree_within.nd)
  (ms_cons (ms_set 9 sc_WordTree_within.nd (me_ofF (mf_call Z2 hr rfl (ma_cons (me_var 8) (ma_cons (me_var 1) (ma_cons (me_var 5) ma_nil))))))
  (ms_one (ms_if (mt_le (mo_of (me_minL rfl T.min rfl (mo_var 9))) (mo_var 2))
  (ms_one (ms_app 4 (me_tup (ma_cons (me_add (mo_var 6) (mo_var 5)) (ma_cons (me_ix hr.units (mo_of (me_ix hr.units (mo_of (me_attr 0 (instT K C TC) (me_var 0))) (mo_var 7))) (mo_var 5)) (ma_cons (me_var 9) ma_nil))))))
  ms_nil))))))))
  (ms_one (ms_retF rfl (mf_sortPS T.sorted rfl (mo_var 3)))))))) (fun ds Q h => ?_) (fun ds EX Q h => h)
  obtain ⟨A, B, ps, W, t, m, rfl, TF, hnd, hlt, hln, hz, hA, h⟩ := h
  have hlen : t.length = (codes t).length := str_len t
  unfold treeD
  simp only [e_qI, e_qIC, e_add1, e_add2, e_add3, e_add4, e_catL, e_aug1, e_aug2, e_mul1, e_mul2, e_rep, e_div, e_mod, e_neg, e_ord1, e_ord2, e_isn, e_nin, e_non1, e_non2, e_non3, e_non4, e_non5, e_non6, e_tru1, e_tru2, e_tru3, e_tru4, e_tru5, e_tru6, e_tru7, e_sl1, e_sl2, e_sl3, e_sl4, e_rev, e_it1, e_it2, e_it3, e_len1, e_len2, e_len3, e_len4, e_int1, e_int2, e_int3, e_min, e_max, e_min3, e_lst1, e_lst2, e_tup1, e_tup2, e_str, e_abs, e_lenS, e_ixS, isi_list_bl, isi_str_lst, isi_str_tup, isi_str_bl, isi_int_lst, isi_int_tup, isi_bool_non, isi_bool_str, isi_bool_lst, isi_bool_tup, isi_tup_lst, isi_tup_non, isi_tup_str, isi_tup_int, isi_tup_bl, e_attr, e_inD, e_ixD, e_ixS1, eq_self, Mi.qNotIn, Mi.qLt, Mi.qLe, Mi.qGt, Mi.qGe, List.map_cons, List.map_nil, List.length_map, true_and, and_true, Bool.false_eq_true, if_false, if_true, Bool.not_true, Bool.not_false, qEq_int, qEq_str, qEq_bl, qNe_int, qNe_str, qNe_bl, line0, line1, line2, line3, line4, line6, line7, line10, isi_list_lst, isi_list_tup, isi_list_non, isi_list_str, isi_list_int, isi_tup_tup, isi_bool_bl, isi_bool_int, isi_int_int, isi_int_bl, isi_int_non, isi_int_str, isi_str_str, isi_str_non, isi_str_int, startE_c, startE_n, startE_e, wFor_e, wLc_e, wipeE, wgName, wgTup, wgCons, wgNil, List.getElem?_cons_zero, List.getElem?_cons_succ, List.set_cons_zero, List.set_cons_succ, List.length_cons, List.length_nil, Mi.wC, Mi.wVar, Mi.wVarO, Mi.wOp, Mi.wUn, Mi.wCmp, Mi.wCmpT, Mi.wChainT, Mi.wChain, Mi.wTru, Mi.wAndT, Mi.wOrT, Mi.wNotT, Mi.wAnd, Mi.wOr, Mi.wNot, Mi.wIfE, Mi.wNoPart, Mi.wPart, Mi.wSl, Mi.wNil, Mi.wCons, Mi.wTup, Mi.wLst, Mi.wNext, Mi.wSeq, Mi.wFreeze, Mi.wForget, Mi.wBreak, Mi.wCont, Mi.wRet, Mi.wRetO, Mi.wRetN, Mi.wDrop, Mi.wIf, Mi.wNever, Mi.wAsg, Mi.wSetO, Mi.wPar, Mi.wAug, Mi.wApp, Mi.wSetIx, Mi.wExt, Mi.wItems, Mi.wRng1, Mi.wRng2, Mi.wRng3, Mi.wEnum, Mi.wZip, Mi.wYes, Mi.wCall, Mi.wCallX, Mi.wB2, Mi.wMin3, Mi.wIsi, Mi.wGuard, Mi.wGuardD, Mi.wRaise, Mi.wEnumS, Mi.wListR, Mi.wJoin, Mi.wMet, Mi.wMet0, Mi.wPop, Mi.wdNil, Mi.wdCons, Mi.wDisp, optD_some]
  refine ⟨t, rfl, hz, ?_⟩
  refine cut_i (fun δ' => ∃ found vis c5 c6 c7 c8 c9, δ' = [st (.ext 1 (treeD A B)), st (.str t), st (.int (m : Nat)), ow (.lst (found.map foundD)), ow (.lst []), c5, c6, c7, c8, c9] ∧ Dfs ps W (codes t) m found [] vis) ?_ ?_
  · refine while_i (fun n δ' => ∃ found wait vis c5 c6 c7 c8 c9, δ' = [st (.ext 1 (treeD A B)), st (.str t), st (.int (m : Nat)), ow (.lst (found.map foundD)), ow (.lst (wait.map (waitD (codes t)))), c5, c6, c7, c8, c9] ∧ Dfs ps W (codes t) m found wait vis ∧ n = ps.length - vis.length) (ps.length - 0) ⟨[], [([], 0)], [], none, none, none, none, none, rfl, dfs_start TF, rfl⟩ ?_
    rintro n δ' ⟨found, wait, vis, c5, c6, c7, c8, c9, rfl, I, rfl⟩
    rcases List.eq_nil_or_concat wait with rfl | ⟨wait, ⟨p, s⟩, rfl⟩
    · simp only [e_qI, e_qIC, e_add1, e_add2, e_add3, e_add4, e_catL, e_aug1, e_aug2, e_mul1, e_mul2, e_rep, e_div, e_mod, e_neg, e_ord1, e_ord2, e_isn, e_nin, e_non1, e_non2, e_non3, e_non4, e_non5, e_non6, e_tru1, e_tru2, e_tru3, e_tru4, e_tru5, e_tru6, e_tru7, e_sl1, e_sl2, e_sl3, e_sl4, e_rev, e_it1, e_it2, e_it3, e_len1, e_len2, e_len3, e_len4, e_int1, e_int2, e_int3, e_min, e_max, e_min3, e_lst1, e_lst2, e_tup1, e_tup2, e_str, e_abs, e_lenS, e_ixS, isi_list_bl, isi_str_lst, isi_str_tup, isi_str_bl, isi_int_lst, isi_int_tup, isi_bool_non, isi_bool_str, isi_bool_lst, isi_bool_tup, isi_tup_lst, isi_tup_non, isi_tup_str, isi_tup_int, isi_tup_bl, e_attr, e_inD, e_ixD, e_ixS1, eq_self, Mi.qNotIn, Mi.qLt, Mi.qLe, Mi.qGt, Mi.qGe, List.map_cons, List.map_nil, List.length_map, true_and, and_true, Bool.false_eq_true, if_false, if_true, Bool.not_true, Bool.not_false, qEq_int, qEq_str, qEq_bl, qNe_int, qNe_str, qNe_bl, line0, line1, line2, line3, line4, line6, line7, line10, isi_list_lst, isi_list_tup, isi_list_non, isi_list_str, isi_list_int, isi_tup_tup, isi_bool_bl, isi_bool_int, isi_int_int, isi_int_bl, isi_int_non, isi_int_str, isi_str_str, isi_str_non, isi_str_int, startE_c, startE_n, startE_e, wFor_e, wLc_e, wipeE, wgName, wgTup, wgCons, wgNil, List.getElem?_cons_zero, List.getElem?_cons_succ, List.set_cons_zero, List.set_cons_succ, List.length_cons, List.length_nil, Mi.wC, Mi.wVar, Mi.wVarO, Mi.wOp, Mi.wUn, Mi.wCmp, Mi.wCmpT, Mi.wChainT, Mi.wChain, Mi.wTru, Mi.wAndT, Mi.wOrT, Mi.wNotT, Mi.wAnd, Mi.wOr, Mi.wNot, Mi.wIfE, Mi.wNoPart, Mi.wPart, Mi.wSl, Mi.wNil, Mi.wCons, Mi.wTup, Mi.wLst, Mi.wNext, Mi.wSeq, Mi.wFreeze, Mi.wForget, Mi.wBreak, Mi.wCont, Mi.wRet, Mi.wRetO, Mi.wRetN, Mi.wDrop, Mi.wIf, Mi.wNever, Mi.wAsg, Mi.wSetO, Mi.wPar, Mi.wAug, Mi.wApp, Mi.wSetIx, Mi.wExt, Mi.wItems, Mi.wRng1, Mi.wRng2, Mi.wRng3, Mi.wEnum, Mi.wZip, Mi.wYes, Mi.wCall, Mi.wCallX, Mi.wB2, Mi.wMin3, Mi.wIsi, Mi.wGuard, Mi.wGuardD, Mi.wRaise, Mi.wEnumS, Mi.wListR, Mi.wJoin, Mi.wMet, Mi.wMet0, Mi.wPop, Mi.wdNil, Mi.wdCons, Mi.wDisp]
      exact ⟨found, vis, c5, c6, c7, c8, c9, rfl, I⟩
    · have hne : (!(List.map (waitD (codes t)) (wait.concat (p, s))).isEmpty) = true := by simp
      simp only [e_qI, e_qIC, e_add1, e_add2, e_add3, e_add4, e_catL, e_aug1, e_aug2, e_mul1, e_mul2, e_rep, e_div, e_mod, e_neg, e_ord1, e_ord2, e_isn, e_nin, e_non1, e_non2, e_non3, e_non4, e_non5, e_non6, e_tru1, e_tru2, e_tru3, e_tru4, e_tru5, e_tru6, e_tru7, e_sl1, e_sl2, e_sl3, e_sl4, e_rev, e_it1, e_it2, e_it3, e_len1, e_len2, e_len3, e_len4, e_int1, e_int2, e_int3, e_min, e_max, e_min3, e_lst1, e_lst2, e_tup1, e_tup2, e_str, e_abs, e_lenS, e_ixS, isi_list_bl, isi_str_lst, isi_str_tup, isi_str_bl, isi_int_lst, isi_int_tup, isi_bool_non, isi_bool_str, isi_bool_lst, isi_bool_tup, isi_tup_lst, isi_tup_non, isi_tup_str, isi_tup_int, isi_tup_bl, e_attr, e_inD, e_ixD, e_ixS1, eq_self, Mi.qNotIn, Mi.qLt, Mi.qLe, Mi.qGt, Mi.qGe, List.map_cons, List.map_nil, List.length_map, true_and, and_true, Bool.false_eq_true, if_false, if_true, Bool.not_true, Bool.not_false, qEq_int, qEq_str, qEq_bl, qNe_int, qNe_str, qNe_bl, line0, line1, line2, line3, line4, line6, line7, line10, isi_list_lst, isi_list_tup, isi_list_non, isi_list_str, isi_list_int, isi_tup_tup, isi_bool_bl, isi_bool_int, isi_int_int, isi_int_bl, isi_int_non, isi_int_str, isi_str_str, isi_str_non, isi_str_int, startE_c, startE_n, startE_e, wFor_e, wLc_e, wipeE, wgName, wgTup, wgCons, wgNil, List.getElem?_cons_zero, List.getElem?_cons_succ, List.set_cons_zero, List.set_cons_succ, List.length_cons, List.length_nil, Mi.wC, Mi.wVar, Mi.wVarO, Mi.wOp, Mi.wUn, Mi.wCmp, Mi.wCmpT, Mi.wChainT, Mi.wChain, Mi.wTru, Mi.wAndT, Mi.wOrT, Mi.wNotT, Mi.wAnd, Mi.wOr, Mi.wNot, Mi.wIfE, Mi.wNoPart, Mi.wPart, Mi.wSl, Mi.wNil, Mi.wCons, Mi.wTup, Mi.wLst, Mi.wNext, Mi.wSeq, Mi.wFreeze, Mi.wForget, Mi.wBreak, Mi.wCont, Mi.wRet, Mi.wRetO, Mi.wRetN, Mi.wDrop, Mi.wIf, Mi.wNever, Mi.wAsg, Mi.wSetO, Mi.wPar, Mi.wAug, Mi.wApp, Mi.wSetIx, Mi.wExt, Mi.wItems, Mi.wRng1, Mi.wRng2, Mi.wRng3, Mi.wEnum, Mi.wZip, Mi.wYes, Mi.wCall, Mi.wCallX, Mi.wB2, Mi.wMin3, Mi.wIsi, Mi.wGuard, Mi.wGuardD, Mi.wRaise, Mi.wEnumS, Mi.wListR, Mi.wJoin, Mi.wMet, Mi.wMet0, Mi.wPop, Mi.wdNil, Mi.wdCons, Mi.wDisp]
      rw [if_pos hne]
      rw [List.concat_eq_append] at I ⊢
      refine ⟨wait.map (waitD (codes t)), waitD (codes t) (p, s), by rw [List.map_append]; rfl, ?_⟩
      unfold waitD
      simp only [e_qI, e_qIC, e_add1, e_add2, e_add3, e_add4, e_catL, e_aug1, e_aug2, e_mul1, e_mul2, e_rep, e_div, e_mod, e_neg, e_ord1, e_ord2, e_isn, e_nin, e_non1, e_non2, e_non3, e_non4, e_non5, e_non6, e_tru1, e_tru2, e_tru3, e_tru4, e_tru5, e_tru6, e_tru7, e_sl1, e_sl2, e_sl3, e_sl4, e_rev, e_it1, e_it2, e_it3, e_len1, e_len2, e_len3, e_len4, e_int1, e_int2, e_int3, e_min, e_max, e_min3, e_lst1, e_lst2, e_tup1, e_tup2, e_str, e_abs, e_lenS, e_ixS, isi_list_bl, isi_str_lst, isi_str_tup, isi_str_bl, isi_int_lst, isi_int_tup, isi_bool_non, isi_bool_str, isi_bool_lst, isi_bool_tup, isi_tup_lst, isi_tup_non, isi_tup_str, isi_tup_int, isi_tup_bl, e_attr, e_inD, e_ixD, e_ixS1, eq_self, Mi.qNotIn, Mi.qLt, Mi.qLe, Mi.qGt, Mi.qGe, List.map_cons, List.map_nil, List.length_map, true_and, and_true, Bool.false_eq_true, if_false, if_true, Bool.not_true, Bool.not_false, qEq_int, qEq_str, qEq_bl, qNe_int, qNe_str, qNe_bl, line0, line1, line2, line3, line4, line6, line7, line10, isi_list_lst, isi_list_tup, isi_list_non, isi_list_str, isi_list_int, isi_tup_tup, isi_bool_bl, isi_bool_int, isi_int_int, isi_int_bl, isi_int_non, isi_int_str, isi_str_str, isi_str_non, isi_str_int, startE_c, startE_n, startE_e, wFor_e, wLc_e, wipeE, wgName, wgTup, wgCons, wgNil, List.getElem?_cons_zero, List.getElem?_cons_succ, List.set_cons_zero, List.set_cons_succ, List.length_cons, List.length_nil, Mi.wC, Mi.wVar, Mi.wVarO, Mi.wOp, Mi.wUn, Mi.wCmp, Mi.wCmpT, Mi.wChainT, Mi.wChain, Mi.wTru, Mi.wAndT, Mi.wOrT, Mi.wNotT, Mi.wAnd, Mi.wOr, Mi.wNot, Mi.wIfE, Mi.wNoPart, Mi.wPart, Mi.wSl, Mi.wNil, Mi.wCons, Mi.wTup, Mi.wLst, Mi.wNext, Mi.wSeq, Mi.wFreeze, Mi.wForget, Mi.wBreak, Mi.wCont, Mi.wRet, Mi.wRetO, Mi.wRetN, Mi.wDrop, Mi.wIf, Mi.wNever, Mi.wAsg, Mi.wSetO, Mi.wPar, Mi.wAug, Mi.wApp, Mi.wSetIx, Mi.wExt, Mi.wItems, Mi.wRng1, Mi.wRng2, Mi.wRng3, Mi.wEnum, Mi.wZip, Mi.wYes, Mi.wCall, Mi.wCallX, Mi.wB2, Mi.wMin3, Mi.wIsi, Mi.wGuard, Mi.wGuardD, Mi.wRaise, Mi.wEnumS, Mi.wListR, Mi.wJoin, Mi.wMet, Mi.wMet0, Mi.wPop, Mi.wdNil, Mi.wdCons, Mi.wDisp]
      have hps : ps[s]? = some p := I.wt p s (by simp)
      obtain ⟨d, b, hd, hb⟩ := TF.at hps
      have hbe := has_end TF hps hb
      have hlow := dfs_low I
      have hle := dfs_le I
      have hpl : p.length ≤ 24 := by
        rcases (TF.mem p).mp (List.mem_of_getElem? hps) with rfl | ⟨w, hw, hp⟩
        · exact Nat.zero_le _
        · exact Nat.le_trans hp.length_le (hln w hw)
      have hps0 : ps.length ≤ 10000 := by rw [← TF.lenA]; exact hA
      have hfl : found.length ≤ ps.length := by
        rw [I.fnd, List.length_map]
        refine Nat.le_trans (List.length_filter_le _ _) ?_
        omega
      refine cut_i (fun δ' => δ' = [st (.ext 1 (treeD A B)), st (.str t), st (.int (m : Nat)), ow (.lst ((found ++ if hit W (codes t) m p = true then [pr (codes t) p] else []).map foundD)), ow (.lst (wait.map (waitD (codes t)))), c5, st (.str ⟨p.toArray⟩), st (.int (s : Nat)), st (rowD (rowOf p (codes t))), c9]) ?_ ?_
      · refine ifD_i (hit W (codes t) m p) ?_ (fun hh => ?_) fun hh => ?_
        · unfold treeD
          simp only [e_qI, e_qIC, e_add1, e_add2, e_add3, e_add4, e_catL, e_aug1, e_aug2, e_mul1, e_mul2, e_rep, e_div, e_mod, e_neg, e_ord1, e_ord2, e_isn, e_nin, e_non1, e_non2, e_non3, e_non4, e_non5, e_non6, e_tru1, e_tru2, e_tru3, e_tru4, e_tru5, e_tru6, e_tru7, e_sl1, e_sl2, e_sl3, e_sl4, e_rev, e_it1, e_it2, e_it3, e_len1, e_len2, e_len3, e_len4, e_int1, e_int2, e_int3, e_min, e_max, e_min3, e_lst1, e_lst2, e_tup1, e_tup2, e_str, e_abs, e_lenS, e_ixS, isi_list_bl, isi_str_lst, isi_str_tup, isi_str_bl, isi_int_lst, isi_int_tup, isi_bool_non, isi_bool_str, isi_bool_lst, isi_bool_tup, isi_tup_lst, isi_tup_non, isi_tup_str, isi_tup_int, isi_tup_bl, e_attr, e_inD, e_ixD, e_ixS1, eq_self, Mi.qNotIn, Mi.qLt, Mi.qLe, Mi.qGt, Mi.qGe, List.map_cons, List.map_nil, List.length_map, true_and, and_true, Bool.false_eq_true, if_false, if_true, Bool.not_true, Bool.not_false, qEq_int, qEq_str, qEq_bl, qNe_int, qNe_str, qNe_bl, line0, line1, line2, line3, line4, line6, line7, line10, isi_list_lst, isi_list_tup, isi_list_non, isi_list_str, isi_list_int, isi_tup_tup, isi_bool_bl, isi_bool_int, isi_int_int, isi_int_bl, isi_int_non, isi_int_str, isi_str_str, isi_str_non, isi_str_int, startE_c, startE_n, startE_e, wFor_e, wLc_e, wipeE, wgName, wgTup, wgCons, wgNil, List.getElem?_cons_zero, List.getElem?_cons_succ, List.set_cons_zero, List.set_cons_succ, List.length_cons, List.length_nil, Mi.wC, Mi.wVar, Mi.wVarO, Mi.wOp, Mi.wUn, Mi.wCmp, Mi.wCmpT, Mi.wChainT, Mi.wChain, Mi.wTru, Mi.wAndT, Mi.wOrT, Mi.wNotT, Mi.wAnd, Mi.wOr, Mi.wNot, Mi.wIfE, Mi.wNoPart, Mi.wPart, Mi.wSl, Mi.wNil, Mi.wCons, Mi.wTup, Mi.wLst, Mi.wNext, Mi.wSeq, Mi.wFreeze, Mi.wForget, Mi.wBreak, Mi.wCont, Mi.wRet, Mi.wRetO, Mi.wRetN, Mi.wDrop, Mi.wIf, Mi.wNever, Mi.wAsg, Mi.wSetO, Mi.wPar, Mi.wAug, Mi.wApp, Mi.wSetIx, Mi.wExt, Mi.wItems, Mi.wRng1, Mi.wRng2, Mi.wRng3, Mi.wEnum, Mi.wZip, Mi.wYes, Mi.wCall, Mi.wCallX, Mi.wB2, Mi.wMin3, Mi.wIsi, Mi.wGuard, Mi.wGuardD, Mi.wRaise, Mi.wEnumS, Mi.wListR, Mi.wJoin, Mi.wMet, Mi.wMet0, Mi.wPop, Mi.wdNil, Mi.wdCons, Mi.wDisp, optD_some]
          refine qIx_lst (i := s) (d := .bl b) (by rw [List.getElem?_map, hb]; rfl) ?_
          simp only [e_qI, e_qIC, e_add1, e_add2, e_add3, e_add4, e_catL, e_aug1, e_aug2, e_mul1, e_mul2, e_rep, e_div, e_mod, e_neg, e_ord1, e_ord2, e_isn, e_nin, e_non1, e_non2, e_non3, e_non4, e_non5, e_non6, e_tru1, e_tru2, e_tru3, e_tru4, e_tru5, e_tru6, e_tru7, e_sl1, e_sl2, e_sl3, e_sl4, e_rev, e_it1, e_it2, e_it3, e_len1, e_len2, e_len3, e_len4, e_int1, e_int2, e_int3, e_min, e_max, e_min3, e_lst1, e_lst2, e_tup1, e_tup2, e_str, e_abs, e_lenS, e_ixS, isi_list_bl, isi_str_lst, isi_str_tup, isi_str_bl, isi_int_lst, isi_int_tup, isi_bool_non, isi_bool_str, isi_bool_lst, isi_bool_tup, isi_tup_lst, isi_tup_non, isi_tup_str, isi_tup_int, isi_tup_bl, e_attr, e_inD, e_ixD, e_ixS1, eq_self, Mi.qNotIn, Mi.qLt, Mi.qLe, Mi.qGt, Mi.qGe, List.map_cons, List.map_nil, List.length_map, true_and, and_true, Bool.false_eq_true, if_false, if_true, Bool.not_true, Bool.not_false, qEq_int, qEq_str, qEq_bl, qNe_int, qNe_str, qNe_bl, line0, line1, line2, line3, line4, line6, line7, line10, isi_list_lst, isi_list_tup, isi_list_non, isi_list_str, isi_list_int, isi_tup_tup, isi_bool_bl, isi_bool_int, isi_int_int, isi_int_bl, isi_int_non, isi_int_str, isi_str_str, isi_str_non, isi_str_int, startE_c, startE_n, startE_e, wFor_e, wLc_e, wipeE, wgName, wgTup, wgCons, wgNil, List.getElem?_cons_zero, List.getElem?_cons_succ, List.set_cons_zero, List.set_cons_succ, List.length_cons, List.length_nil, Mi.wC, Mi.wVar, Mi.wVarO, Mi.wOp, Mi.wUn, Mi.wCmp, Mi.wCmpT, Mi.wChainT, Mi.wChain, Mi.wTru, Mi.wAndT, Mi.wOrT, Mi.wNotT, Mi.wAnd, Mi.wOr, Mi.wNot, Mi.wIfE, Mi.wNoPart, Mi.wPart, Mi.wSl, Mi.wNil, Mi.wCons, Mi.wTup, Mi.wLst, Mi.wNext, Mi.wSeq, Mi.wFreeze, Mi.wForget, Mi.wBreak, Mi.wCont, Mi.wRet, Mi.wRetO, Mi.wRetN, Mi.wDrop, Mi.wIf, Mi.wNever, Mi.wAsg, Mi.wSetO, Mi.wPar, Mi.wAug, Mi.wApp, Mi.wSetIx, Mi.wExt, Mi.wItems, Mi.wRng1, Mi.wRng2, Mi.wRng3, Mi.wEnum, Mi.wZip, Mi.wYes, Mi.wCall, Mi.wCallX, Mi.wB2, Mi.wMin3, Mi.wIsi, Mi.wGuard, Mi.wGuardD, Mi.wRaise, Mi.wEnumS, Mi.wListR, Mi.wJoin, Mi.wMet, Mi.wMet0, Mi.wPop, Mi.wdNil, Mi.wdCons, Mi.wDisp]
          rw [hbe]
          refine ite_i (fun h1 => ?_) fun h1 => ?_
          · refine qIx_last (d := .int (dist p (codes t) : Nat)) (by rw [List.getLast?_map, rowOf_last]; rfl) ?_
            simp only [e_qI, e_qIC, e_add1, e_add2, e_add3, e_add4, e_catL, e_aug1, e_aug2, e_mul1, e_mul2, e_rep, e_div, e_mod, e_neg, e_ord1, e_ord2, e_isn, e_nin, e_non1, e_non2, e_non3, e_non4, e_non5, e_non6, e_tru1, e_tru2, e_tru3, e_tru4, e_tru5, e_tru6, e_tru7, e_sl1, e_sl2, e_sl3, e_sl4, e_rev, e_it1, e_it2, e_it3, e_len1, e_len2, e_len3, e_len4, e_int1, e_int2, e_int3, e_min, e_max, e_min3, e_lst1, e_lst2, e_tup1, e_tup2, e_str, e_abs, e_lenS, e_ixS, isi_list_bl, isi_str_lst, isi_str_tup, isi_str_bl, isi_int_lst, isi_int_tup, isi_bool_non, isi_bool_str, isi_bool_lst, isi_bool_tup, isi_tup_lst, isi_tup_non, isi_tup_str, isi_tup_int, isi_tup_bl, e_attr, e_inD, e_ixD, e_ixS1, eq_self, Mi.qNotIn, Mi.qLt, Mi.qLe, Mi.qGt, Mi.qGe, List.map_cons, List.map_nil, List.length_map, true_and, and_true, Bool.false_eq_true, if_false, if_true, Bool.not_true, Bool.not_false, qEq_int, qEq_str, qEq_bl, qNe_int, qNe_str, qNe_bl, line0, line1, line2, line3, line4, line6, line7, line10, isi_list_lst, isi_list_tup, isi_list_non, isi_list_str, isi_list_int, isi_tup_tup, isi_bool_bl, isi_bool_int, isi_int_int, isi_int_bl, isi_int_non, isi_int_str, isi_str_str, isi_str_non, isi_str_int, startE_c, startE_n, startE_e, wFor_e, wLc_e, wipeE, wgName, wgTup, wgCons, wgNil, List.getElem?_cons_zero, List.getElem?_cons_succ, List.set_cons_zero, List.set_cons_succ, List.length_cons, List.length_nil, Mi.wC, Mi.wVar, Mi.wVarO, Mi.wOp, Mi.wUn, Mi.wCmp, Mi.wCmpT, Mi.wChainT, Mi.wChain, Mi.wTru, Mi.wAndT, Mi.wOrT, Mi.wNotT, Mi.wAnd, Mi.wOr, Mi.wNot, Mi.wIfE, Mi.wNoPart, Mi.wPart, Mi.wSl, Mi.wNil, Mi.wCons, Mi.wTup, Mi.wLst, Mi.wNext, Mi.wSeq, Mi.wFreeze, Mi.wForget, Mi.wBreak, Mi.wCont, Mi.wRet, Mi.wRetO, Mi.wRetN, Mi.wDrop, Mi.wIf, Mi.wNever, Mi.wAsg, Mi.wSetO, Mi.wPar, Mi.wAug, Mi.wApp, Mi.wSetIx, Mi.wExt, Mi.wItems, Mi.wRng1, Mi.wRng2, Mi.wRng3, Mi.wEnum, Mi.wZip, Mi.wYes, Mi.wCall, Mi.wCallX, Mi.wB2, Mi.wMin3, Mi.wIsi, Mi.wGuard, Mi.wGuardD, Mi.wRaise, Mi.wEnumS, Mi.wListR, Mi.wJoin, Mi.wMet, Mi.wMet0, Mi.wPop, Mi.wdNil, Mi.wdCons, Mi.wDisp]
            unfold hit
            rw [h1, Bool.true_and]
            apply decide_eq_decide.mpr
            omega
          · unfold hit
            rw [h1]; rfl
        · simp only [e_qI, e_qIC, e_add1, e_add2, e_add3, e_add4, e_catL, e_aug1, e_aug2, e_mul1, e_mul2, e_rep, e_div, e_mod, e_neg, e_ord1, e_ord2, e_isn, e_nin, e_non1, e_non2, e_non3, e_non4, e_non5, e_non6, e_tru1, e_tru2, e_tru3, e_tru4, e_tru5, e_tru6, e_tru7, e_sl1, e_sl2, e_sl3, e_sl4, e_rev, e_it1, e_it2, e_it3, e_len1, e_len2, e_len3, e_len4, e_int1, e_int2, e_int3, e_min, e_max, e_min3, e_lst1, e_lst2, e_tup1, e_tup2, e_str, e_abs, e_lenS, e_ixS, isi_list_bl, isi_str_lst, isi_str_tup, isi_str_bl, isi_int_lst, isi_int_tup, isi_bool_non, isi_bool_str, isi_bool_lst, isi_bool_tup, isi_tup_lst, isi_tup_non, isi_tup_str, isi_tup_int, isi_tup_bl, e_attr, e_inD, e_ixD, e_ixS1, eq_self, Mi.qNotIn, Mi.qLt, Mi.qLe, Mi.qGt, Mi.qGe, List.map_cons, List.map_nil, List.length_map, true_and, and_true, Bool.false_eq_true, if_false, if_true, Bool.not_true, Bool.not_false, qEq_int, qEq_str, qEq_bl, qNe_int, qNe_str, qNe_bl, line0, line1, line2, line3, line4, line6, line7, line10, isi_list_lst, isi_list_tup, isi_list_non, isi_list_str, isi_list_int, isi_tup_tup, isi_bool_bl, isi_bool_int, isi_int_int, isi_int_bl, isi_int_non, isi_int_str, isi_str_str, isi_str_non, isi_str_int, startE_c, startE_n, startE_e, wFor_e, wLc_e, wipeE, wgName, wgTup, wgCons, wgNil, List.getElem?_cons_zero, List.getElem?_cons_succ, List.set_cons_zero, List.set_cons_succ, List.length_cons, List.length_nil, Mi.wC, Mi.wVar, Mi.wVarO, Mi.wOp, Mi.wUn, Mi.wCmp, Mi.wCmpT, Mi.wChainT, Mi.wChain, Mi.wTru, Mi.wAndT, Mi.wOrT, Mi.wNotT, Mi.wAnd, Mi.wOr, Mi.wNot, Mi.wIfE, Mi.wNoPart, Mi.wPart, Mi.wSl, Mi.wNil, Mi.wCons, Mi.wTup, Mi.wLst, Mi.wNext, Mi.wSeq, Mi.wFreeze, Mi.wForget, Mi.wBreak, Mi.wCont, Mi.wRet, Mi.wRetO, Mi.wRetN, Mi.wDrop, Mi.wIf, Mi.wNever, Mi.wAsg, Mi.wSetO, Mi.wPar, Mi.wAug, Mi.wApp, Mi.wSetIx, Mi.wExt, Mi.wItems, Mi.wRng1, Mi.wRng2, Mi.wRng3, Mi.wEnum, Mi.wZip, Mi.wYes, Mi.wCall, Mi.wCallX, Mi.wB2, Mi.wMin3, Mi.wIsi, Mi.wGuard, Mi.wGuardD, Mi.wRaise, Mi.wEnumS, Mi.wListR, Mi.wJoin, Mi.wMet, Mi.wMet0, Mi.wPop, Mi.wdNil, Mi.wdCons, Mi.wDisp]
          refine qIx_last (d := .int (dist p (codes t) : Nat)) (by rw [List.getLast?_map, rowOf_last]; rfl) ?_
          refine ⟨ltL (by omega), ?_⟩
          rw [if_pos hh, List.map_append]
          rfl
        · rw [hh, if_neg Bool.false_ne_true, List.append_nil]
          rfl
      · rintro δ' rfl
        have hkl : d.length ≤ 26 := Nat.le_trans (keys_few TF (L := (List.range 26).map (97 + ·)) (fun w hw c hc => by
          have h2 := of_decide_eq_true (hlt w hw c hc)
          exact List.mem_map.mpr ⟨c - 97, by simp; omega, by omega⟩) hd) (by simp)
        have hAd : (A.map fun d => D.dic (dctD d))[s]? = some (.dic (dctD d)) := by rw [List.getElem?_map, hd]; rfl
        unfold treeD
        simp only [e_qI, e_qIC, e_add1, e_add2, e_add3, e_add4, e_catL, e_aug1, e_aug2, e_mul1, e_mul2, e_rep, e_div, e_mod, e_neg, e_ord1, e_ord2, e_isn, e_nin, e_non1, e_non2, e_non3, e_non4, e_non5, e_non6, e_tru1, e_tru2, e_tru3, e_tru4, e_tru5, e_tru6, e_tru7, e_sl1, e_sl2, e_sl3, e_sl4, e_rev, e_it1, e_it2, e_it3, e_len1, e_len2, e_len3, e_len4, e_int1, e_int2, e_int3, e_min, e_max, e_min3, e_lst1, e_lst2, e_tup1, e_tup2, e_str, e_abs, e_lenS, e_ixS, isi_list_bl, isi_str_lst, isi_str_tup, isi_str_bl, isi_int_lst, isi_int_tup, isi_bool_non, isi_bool_str, isi_bool_lst, isi_bool_tup, isi_tup_lst, isi_tup_non, isi_tup_str, isi_tup_int, isi_tup_bl, e_attr, e_inD, e_ixD, e_ixS1, eq_self, Mi.qNotIn, Mi.qLt, Mi.qLe, Mi.qGt, Mi.qGe, List.map_cons, List.map_nil, List.length_map, true_and, and_true, Bool.false_eq_true, if_false, if_true, Bool.not_true, Bool.not_false, qEq_int, qEq_str, qEq_bl, qNe_int, qNe_str, qNe_bl, line0, line1, line2, line3, line4, line6, line7, line10, isi_list_lst, isi_list_tup, isi_list_non, isi_list_str, isi_list_int, isi_tup_tup, isi_bool_bl, isi_bool_int, isi_int_int, isi_int_bl, isi_int_non, isi_int_str, isi_str_str, isi_str_non, isi_str_int, startE_c, startE_n, startE_e, wFor_e, wLc_e, wipeE, wgName, wgTup, wgCons, wgNil, List.getElem?_cons_zero, List.getElem?_cons_succ, List.set_cons_zero, List.set_cons_succ, List.length_cons, List.length_nil, Mi.wC, Mi.wVar, Mi.wVarO, Mi.wOp, Mi.wUn, Mi.wCmp, Mi.wCmpT, Mi.wChainT, Mi.wChain, Mi.wTru, Mi.wAndT, Mi.wOrT, Mi.wNotT, Mi.wAnd, Mi.wOr, Mi.wNot, Mi.wIfE, Mi.wNoPart, Mi.wPart, Mi.wSl, Mi.wNil, Mi.wCons, Mi.wTup, Mi.wLst, Mi.wNext, Mi.wSeq, Mi.wFreeze, Mi.wForget, Mi.wBreak, Mi.wCont, Mi.wRet, Mi.wRetO, Mi.wRetN, Mi.wDrop, Mi.wIf, Mi.wNever, Mi.wAsg, Mi.wSetO, Mi.wPar, Mi.wAug, Mi.wApp, Mi.wSetIx, Mi.wExt, Mi.wItems, Mi.wRng1, Mi.wRng2, Mi.wRng3, Mi.wEnum, Mi.wZip, Mi.wYes, Mi.wCall, Mi.wCallX, Mi.wB2, Mi.wMin3, Mi.wIsi, Mi.wGuard, Mi.wGuardD, Mi.wRaise, Mi.wEnumS, Mi.wListR, Mi.wJoin, Mi.wMet, Mi.wMet0, Mi.wPop, Mi.wdNil, Mi.wdCons, Mi.wDisp, optD_some]
        refine qIx_lst (i := s) hAd ?_
        refine ⟨d.map fun x => sg x.1, by simp [dctD], by rw [List.length_map]; omega, fun ys hy _ => ?_⟩
        simp only [e_qI, e_qIC, e_add1, e_add2, e_add3, e_add4, e_catL, e_aug1, e_aug2, e_mul1, e_mul2, e_rep, e_div, e_mod, e_neg, e_ord1, e_ord2, e_isn, e_nin, e_non1, e_non2, e_non3, e_non4, e_non5, e_non6, e_tru1, e_tru2, e_tru3, e_tru4, e_tru5, e_tru6, e_tru7, e_sl1, e_sl2, e_sl3, e_sl4, e_rev, e_it1, e_it2, e_it3, e_len1, e_len2, e_len3, e_len4, e_int1, e_int2, e_int3, e_min, e_max, e_min3, e_lst1, e_lst2, e_tup1, e_tup2, e_str, e_abs, e_lenS, e_ixS, isi_list_bl, isi_str_lst, isi_str_tup, isi_str_bl, isi_int_lst, isi_int_tup, isi_bool_non, isi_bool_str, isi_bool_lst, isi_bool_tup, isi_tup_lst, isi_tup_non, isi_tup_str, isi_tup_int, isi_tup_bl, e_attr, e_inD, e_ixD, e_ixS1, eq_self, Mi.qNotIn, Mi.qLt, Mi.qLe, Mi.qGt, Mi.qGe, List.map_cons, List.map_nil, List.length_map, true_and, and_true, Bool.false_eq_true, if_false, if_true, Bool.not_true, Bool.not_false, qEq_int, qEq_str, qEq_bl, qNe_int, qNe_str, qNe_bl, line0, line1, line2, line3, line4, line6, line7, line10, isi_list_lst, isi_list_tup, isi_list_non, isi_list_str, isi_list_int, isi_tup_tup, isi_bool_bl, isi_bool_int, isi_int_int, isi_int_bl, isi_int_non, isi_int_str, isi_str_str, isi_str_non, isi_str_int, startE_c, startE_n, startE_e, wFor_e, wLc_e, wipeE, wgName, wgTup, wgCons, wgNil, List.getElem?_cons_zero, List.getElem?_cons_succ, List.set_cons_zero, List.set_cons_succ, List.length_cons, List.length_nil, Mi.wC, Mi.wVar, Mi.wVarO, Mi.wOp, Mi.wUn, Mi.wCmp, Mi.wCmpT, Mi.wChainT, Mi.wChain, Mi.wTru, Mi.wAndT, Mi.wOrT, Mi.wNotT, Mi.wAnd, Mi.wOr, Mi.wNot, Mi.wIfE, Mi.wNoPart, Mi.wPart, Mi.wSl, Mi.wNil, Mi.wCons, Mi.wTup, Mi.wLst, Mi.wNext, Mi.wSeq, Mi.wFreeze, Mi.wForget, Mi.wBreak, Mi.wCont, Mi.wRet, Mi.wRetO, Mi.wRetN, Mi.wDrop, Mi.wIf, Mi.wNever, Mi.wAsg, Mi.wSetO, Mi.wPar, Mi.wAug, Mi.wApp, Mi.wSetIx, Mi.wExt, Mi.wItems, Mi.wRng1, Mi.wRng2, Mi.wRng3, Mi.wEnum, Mi.wZip, Mi.wYes, Mi.wCall, Mi.wCallX, Mi.wB2, Mi.wMin3, Mi.wIsi, Mi.wGuard, Mi.wGuardD, Mi.wRaise, Mi.wEnumS, Mi.wListR, Mi.wJoin, Mi.wMet, Mi.wMet0, Mi.wPop, Mi.wdNil, Mi.wdCons, Mi.wDisp]
        obtain ⟨zs, rfl, hzs⟩ := perm_sg hy
        have hzl : zs.length ≤ 26 := by rw [hzs.length_eq, List.length_map]; exact hkl
        generalize hfd : (found ++ if hit W (codes t) m p = true then [pr (codes t) p] else []) = found2
        refine for_i (fun i δ' => ∃ c5 c9, δ' = [st (.ext 1 (treeD A B)), st (.str t), st (.int (m : Nat)), ow (.lst (found2.map foundD)), ow (.lst ((wait ++ kids d (codes t) m p (zs.take i)).map (waitD (codes t)))), c5, st (.str ⟨p.toArray⟩), st (.int (s : Nat)), st (rowD (rowOf p (codes t))), c9]) ⟨c5, c9, ?_⟩ ?_ ?_
        · rw [List.take_zero]
          simp [kids, treeD]
        · rintro i x δ' hx ⟨c5, c9, rfl⟩
          rw [List.getElem?_map, List.getElem?_map] at hx
          obtain ⟨y, hy1, rfl⟩ := Option.map_eq_some_iff.mp hx
          obtain ⟨c, hc, rfl⟩ := Option.map_eq_some_iff.mp hy1
          have hil := (List.getElem?_eq_some_iff.mp hc).1
          have hcc : zs[i] = c := (List.getElem?_eq_some_iff.mp hc).2
          have hkids : kids d (codes t) m p (zs.take (i + 1)) = kids d (codes t) m p (zs.take i) ++ if Near (codes t) m (p ++ [c]) then [(p ++ [c], (d.lookup c).getD 0)] else [] := by
            unfold kids
            rw [List.take_succ_eq_append_getElem hil, hcc, List.filter_append, List.map_append]
            congr 1
            by_cases q : Near (codes t) m (p ++ [c])
            · rw [if_pos q, List.filter_cons_of_pos (by simpa using q)]; rfl
            · rw [if_neg q, List.filter_cons_of_neg (by simpa using q)]; rfl
          simp only [e_qI, e_qIC, e_add1, e_add2, e_add3, e_add4, e_catL, e_aug1, e_aug2, e_mul1, e_mul2, e_rep, e_div, e_mod, e_neg, e_ord1, e_ord2, e_isn, e_nin, e_non1, e_non2, e_non3, e_non4, e_non5, e_non6, e_tru1, e_tru2, e_tru3, e_tru4, e_tru5, e_tru6, e_tru7, e_sl1, e_sl2, e_sl3, e_sl4, e_rev, e_it1, e_it2, e_it3, e_len1, e_len2, e_len3, e_len4, e_int1, e_int2, e_int3, e_min, e_max, e_min3, e_lst1, e_lst2, e_tup1, e_tup2, e_str, e_abs, e_lenS, e_ixS, isi_list_bl, isi_str_lst, isi_str_tup, isi_str_bl, isi_int_lst, isi_int_tup, isi_bool_non, isi_bool_str, isi_bool_lst, isi_bool_tup, isi_tup_lst, isi_tup_non, isi_tup_str, isi_tup_int, isi_tup_bl, e_attr, e_inD, e_ixD, e_ixS1, eq_self, Mi.qNotIn, Mi.qLt, Mi.qLe, Mi.qGt, Mi.qGe, List.map_cons, List.map_nil, List.length_map, true_and, and_true, Bool.false_eq_true, if_false, if_true, Bool.not_true, Bool.not_false, qEq_int, qEq_str, qEq_bl, qNe_int, qNe_str, qNe_bl, line0, line1, line2, line3, line4, line6, line7, line10, isi_list_lst, isi_list_tup, isi_list_non, isi_list_str, isi_list_int, isi_tup_tup, isi_bool_bl, isi_bool_int, isi_int_int, isi_int_bl, isi_int_non, isi_int_str, isi_str_str, isi_str_non, isi_str_int, startE_c, startE_n, startE_e, wFor_e, wLc_e, wipeE, wgName, wgTup, wgCons, wgNil, List.getElem?_cons_zero, List.getElem?_cons_succ, List.set_cons_zero, List.set_cons_succ, List.length_cons, List.length_nil, Mi.wC, Mi.wVar, Mi.wVarO, Mi.wOp, Mi.wUn, Mi.wCmp, Mi.wCmpT, Mi.wChainT, Mi.wChain, Mi.wTru, Mi.wAndT, Mi.wOrT, Mi.wNotT, Mi.wAnd, Mi.wOr, Mi.wNot, Mi.wIfE, Mi.wNoPart, Mi.wPart, Mi.wSl, Mi.wNil, Mi.wCons, Mi.wTup, Mi.wLst, Mi.wNext, Mi.wSeq, Mi.wFreeze, Mi.wForget, Mi.wBreak, Mi.wCont, Mi.wRet, Mi.wRetO, Mi.wRetN, Mi.wDrop, Mi.wIf, Mi.wNever, Mi.wAsg, Mi.wSetO, Mi.wPar, Mi.wAug, Mi.wApp, Mi.wSetIx, Mi.wExt, Mi.wItems, Mi.wRng1, Mi.wRng2, Mi.wRng3, Mi.wEnum, Mi.wZip, Mi.wYes, Mi.wCall, Mi.wCallX, Mi.wB2, Mi.wMin3, Mi.wIsi, Mi.wGuard, Mi.wGuardD, Mi.wRaise, Mi.wEnumS, Mi.wListR, Mi.wJoin, Mi.wMet, Mi.wMet0, Mi.wPop, Mi.wdNil, Mi.wdCons, Mi.wDisp]
          refine ⟨p, t, c, rfl, hz, ?_⟩
          simp only [e_qI, e_qIC, e_add1, e_add2, e_add3, e_add4, e_catL, e_aug1, e_aug2, e_mul1, e_mul2, e_rep, e_div, e_mod, e_neg, e_ord1, e_ord2, e_isn, e_nin, e_non1, e_non2, e_non3, e_non4, e_non5, e_non6, e_tru1, e_tru2, e_tru3, e_tru4, e_tru5, e_tru6, e_tru7, e_sl1, e_sl2, e_sl3, e_sl4, e_rev, e_it1, e_it2, e_it3, e_len1, e_len2, e_len3, e_len4, e_int1, e_int2, e_int3, e_min, e_max, e_min3, e_lst1, e_lst2, e_tup1, e_tup2, e_str, e_abs, e_lenS, e_ixS, isi_list_bl, isi_str_lst, isi_str_tup, isi_str_bl, isi_int_lst, isi_int_tup, isi_bool_non, isi_bool_str, isi_bool_lst, isi_bool_tup, isi_tup_lst, isi_tup_non, isi_tup_str, isi_tup_int, isi_tup_bl, e_attr, e_inD, e_ixD, e_ixS1, eq_self, Mi.qNotIn, Mi.qLt, Mi.qLe, Mi.qGt, Mi.qGe, List.map_cons, List.map_nil, List.length_map, true_and, and_true, Bool.false_eq_true, if_false, if_true, Bool.not_true, Bool.not_false, qEq_int, qEq_str, qEq_bl, qNe_int, qNe_str, qNe_bl, line0, line1, line2, line3, line4, line6, line7, line10, isi_list_lst, isi_list_tup, isi_list_non, isi_list_str, isi_list_int, isi_tup_tup, isi_bool_bl, isi_bool_int, isi_int_int, isi_int_bl, isi_int_non, isi_int_str, isi_str_str, isi_str_non, isi_str_int, startE_c, startE_n, startE_e, wFor_e, wLc_e, wipeE, wgName, wgTup, wgCons, wgNil, List.getElem?_cons_zero, List.getElem?_cons_succ, List.set_cons_zero, List.set_cons_succ, List.length_cons, List.length_nil, Mi.wC, Mi.wVar, Mi.wVarO, Mi.wOp, Mi.wUn, Mi.wCmp, Mi.wCmpT, Mi.wChainT, Mi.wChain, Mi.wTru, Mi.wAndT, Mi.wOrT, Mi.wNotT, Mi.wAnd, Mi.wOr, Mi.wNot, Mi.wIfE, Mi.wNoPart, Mi.wPart, Mi.wSl, Mi.wNil, Mi.wCons, Mi.wTup, Mi.wLst, Mi.wNext, Mi.wSeq, Mi.wFreeze, Mi.wForget, Mi.wBreak, Mi.wCont, Mi.wRet, Mi.wRetO, Mi.wRetN, Mi.wDrop, Mi.wIf, Mi.wNever, Mi.wAsg, Mi.wSetO, Mi.wPar, Mi.wAug, Mi.wApp, Mi.wSetIx, Mi.wExt, Mi.wItems, Mi.wRng1, Mi.wRng2, Mi.wRng3, Mi.wEnum, Mi.wZip, Mi.wYes, Mi.wCall, Mi.wCallX, Mi.wB2, Mi.wMin3, Mi.wIsi, Mi.wGuard, Mi.wGuardD, Mi.wRaise, Mi.wEnumS, Mi.wListR, Mi.wJoin, Mi.wMet, Mi.wMet0, Mi.wPop, Mi.wdNil, Mi.wdCons, Mi.wDisp]
          refine ⟨(rowOf (p ++ [c]) (codes t)).map fun (n : Nat) => (n : Int), by simp, by rw [List.length_map, rowOf_len]; omega, fun mm hm1 hm2 => ?_⟩
          simp only [e_qI, e_qIC, e_add1, e_add2, e_add3, e_add4, e_catL, e_aug1, e_aug2, e_mul1, e_mul2, e_rep, e_div, e_mod, e_neg, e_ord1, e_ord2, e_isn, e_nin, e_non1, e_non2, e_non3, e_non4, e_non5, e_non6, e_tru1, e_tru2, e_tru3, e_tru4, e_tru5, e_tru6, e_tru7, e_sl1, e_sl2, e_sl3, e_sl4, e_rev, e_it1, e_it2, e_it3, e_len1, e_len2, e_len3, e_len4, e_int1, e_int2, e_int3, e_min, e_max, e_min3, e_lst1, e_lst2, e_tup1, e_tup2, e_str, e_abs, e_lenS, e_ixS, isi_list_bl, isi_str_lst, isi_str_tup, isi_str_bl, isi_int_lst, isi_int_tup, isi_bool_non, isi_bool_str, isi_bool_lst, isi_bool_tup, isi_tup_lst, isi_tup_non, isi_tup_str, isi_tup_int, isi_tup_bl, e_attr, e_inD, e_ixD, e_ixS1, eq_self, Mi.qNotIn, Mi.qLt, Mi.qLe, Mi.qGt, Mi.qGe, List.map_cons, List.map_nil, List.length_map, true_and, and_true, Bool.false_eq_true, if_false, if_true, Bool.not_true, Bool.not_false, qEq_int, qEq_str, qEq_bl, qNe_int, qNe_str, qNe_bl, line0, line1, line2, line3, line4, line6, line7, line10, isi_list_lst, isi_list_tup, isi_list_non, isi_list_str, isi_list_int, isi_tup_tup, isi_bool_bl, isi_bool_int, isi_int_int, isi_int_bl, isi_int_non, isi_int_str, isi_str_str, isi_str_non, isi_str_int, startE_c, startE_n, startE_e, wFor_e, wLc_e, wipeE, wgName, wgTup, wgCons, wgNil, List.getElem?_cons_zero, List.getElem?_cons_succ, List.set_cons_zero, List.set_cons_succ, List.length_cons, List.length_nil, Mi.wC, Mi.wVar, Mi.wVarO, Mi.wOp, Mi.wUn, Mi.wCmp, Mi.wCmpT, Mi.wChainT, Mi.wChain, Mi.wTru, Mi.wAndT, Mi.wOrT, Mi.wNotT, Mi.wAnd, Mi.wOr, Mi.wNot, Mi.wIfE, Mi.wNoPart, Mi.wPart, Mi.wSl, Mi.wNil, Mi.wCons, Mi.wTup, Mi.wLst, Mi.wNext, Mi.wSeq, Mi.wFreeze, Mi.wForget, Mi.wBreak, Mi.wCont, Mi.wRet, Mi.wRetO, Mi.wRetN, Mi.wDrop, Mi.wIf, Mi.wNever, Mi.wAsg, Mi.wSetO, Mi.wPar, Mi.wAug, Mi.wApp, Mi.wSetIx, Mi.wExt, Mi.wItems, Mi.wRng1, Mi.wRng2, Mi.wRng3, Mi.wEnum, Mi.wZip, Mi.wYes, Mi.wCall, Mi.wCallX, Mi.wB2, Mi.wMin3, Mi.wIsi, Mi.wGuard, Mi.wGuardD, Mi.wRaise, Mi.wEnumS, Mi.wListR, Mi.wJoin, Mi.wMet, Mi.wMet0, Mi.wPop, Mi.wdNil, Mi.wdCons, Mi.wDisp]
          have hnear : decide (mm ≤ (m : Int)) = decide (Near (codes t) m (p ++ [c])) := by
            apply decide_eq_decide.mpr
            rw [near_iff]
            obtain ⟨n, hn, rfl⟩ := List.mem_map.mp hm1
            constructor
            · exact fun h => ⟨n, hn, by omega⟩
            · rintro ⟨x, hx, hxm⟩
              have := hm2 _ (List.mem_map.mpr ⟨x, hx, rfl⟩)
              omega
          rw [hnear, hkids]
          refine ite_i (fun hq => ?_) fun hq => ?_
          · have hq := of_decide_eq_true hq
            rw [if_pos hq]
            have hcd : c ∈ d.map (·.1) := hzs.mem_iff.mp (List.mem_of_getElem? hc)
            obtain ⟨s', hs'⟩ := lookup_mem hcd
            have hv := valD_dct d c
            unfold sg at hv
            unfold treeD
            simp only [e_qI, e_qIC, e_add1, e_add2, e_add3, e_add4, e_catL, e_aug1, e_aug2, e_mul1, e_mul2, e_rep, e_div, e_mod, e_neg, e_ord1, e_ord2, e_isn, e_nin, e_non1, e_non2, e_non3, e_non4, e_non5, e_non6, e_tru1, e_tru2, e_tru3, e_tru4, e_tru5, e_tru6, e_tru7, e_sl1, e_sl2, e_sl3, e_sl4, e_rev, e_it1, e_it2, e_it3, e_len1, e_len2, e_len3, e_len4, e_int1, e_int2, e_int3, e_min, e_max, e_min3, e_lst1, e_lst2, e_tup1, e_tup2, e_str, e_abs, e_lenS, e_ixS, isi_list_bl, isi_str_lst, isi_str_tup, isi_str_bl, isi_int_lst, isi_int_tup, isi_bool_non, isi_bool_str, isi_bool_lst, isi_bool_tup, isi_tup_lst, isi_tup_non, isi_tup_str, isi_tup_int, isi_tup_bl, e_attr, e_inD, e_ixD, e_ixS1, eq_self, Mi.qNotIn, Mi.qLt, Mi.qLe, Mi.qGt, Mi.qGe, List.map_cons, List.map_nil, List.length_map, true_and, and_true, Bool.false_eq_true, if_false, if_true, Bool.not_true, Bool.not_false, qEq_int, qEq_str, qEq_bl, qNe_int, qNe_str, qNe_bl, line0, line1, line2, line3, line4, line6, line7, line10, isi_list_lst, isi_list_tup, isi_list_non, isi_list_str, isi_list_int, isi_tup_tup, isi_bool_bl, isi_bool_int, isi_int_int, isi_int_bl, isi_int_non, isi_int_str, isi_str_str, isi_str_non, isi_str_int, startE_c, startE_n, startE_e, wFor_e, wLc_e, wipeE, wgName, wgTup, wgCons, wgNil, List.getElem?_cons_zero, List.getElem?_cons_succ, List.set_cons_zero, List.set_cons_succ, List.length_cons, List.length_nil, Mi.wC, Mi.wVar, Mi.wVarO, Mi.wOp, Mi.wUn, Mi.wCmp, Mi.wCmpT, Mi.wChainT, Mi.wChain, Mi.wTru, Mi.wAndT, Mi.wOrT, Mi.wNotT, Mi.wAnd, Mi.wOr, Mi.wNot, Mi.wIfE, Mi.wNoPart, Mi.wPart, Mi.wSl, Mi.wNil, Mi.wCons, Mi.wTup, Mi.wLst, Mi.wNext, Mi.wSeq, Mi.wFreeze, Mi.wForget, Mi.wBreak, Mi.wCont, Mi.wRet, Mi.wRetO, Mi.wRetN, Mi.wDrop, Mi.wIf, Mi.wNever, Mi.wAsg, Mi.wSetO, Mi.wPar, Mi.wAug, Mi.wApp, Mi.wSetIx, Mi.wExt, Mi.wItems, Mi.wRng1, Mi.wRng2, Mi.wRng3, Mi.wEnum, Mi.wZip, Mi.wYes, Mi.wCall, Mi.wCallX, Mi.wB2, Mi.wMin3, Mi.wIsi, Mi.wGuard, Mi.wGuardD, Mi.wRaise, Mi.wEnumS, Mi.wListR, Mi.wJoin, Mi.wMet, Mi.wMet0, Mi.wPop, Mi.wdNil, Mi.wdCons, Mi.wDisp, optD_some]
            refine ⟨leL ?_, ?_⟩
            · show p.toArray.size + 1 < _
              simp; omega
            refine qIx_lst (i := s) hAd ?_
            unfold sg
            simp only [e_qI, e_qIC, e_add1, e_add2, e_add3, e_add4, e_catL, e_aug1, e_aug2, e_mul1, e_mul2, e_rep, e_div, e_mod, e_neg, e_ord1, e_ord2, e_isn, e_nin, e_non1, e_non2, e_non3, e_non4, e_non5, e_non6, e_tru1, e_tru2, e_tru3, e_tru4, e_tru5, e_tru6, e_tru7, e_sl1, e_sl2, e_sl3, e_sl4, e_rev, e_it1, e_it2, e_it3, e_len1, e_len2, e_len3, e_len4, e_int1, e_int2, e_int3, e_min, e_max, e_min3, e_lst1, e_lst2, e_tup1, e_tup2, e_str, e_abs, e_lenS, e_ixS, isi_list_bl, isi_str_lst, isi_str_tup, isi_str_bl, isi_int_lst, isi_int_tup, isi_bool_non, isi_bool_str, isi_bool_lst, isi_bool_tup, isi_tup_lst, isi_tup_non, isi_tup_str, isi_tup_int, isi_tup_bl, e_attr, e_inD, e_ixD, e_ixS1, eq_self, Mi.qNotIn, Mi.qLt, Mi.qLe, Mi.qGt, Mi.qGe, List.map_cons, List.map_nil, List.length_map, true_and, and_true, Bool.false_eq_true, if_false, if_true, Bool.not_true, Bool.not_false, qEq_int, qEq_str, qEq_bl, qNe_int, qNe_str, qNe_bl, line0, line1, line2, line3, line4, line6, line7, line10, isi_list_lst, isi_list_tup, isi_list_non, isi_list_str, isi_list_int, isi_tup_tup, isi_bool_bl, isi_bool_int, isi_int_int, isi_int_bl, isi_int_non, isi_int_str, isi_str_str, isi_str_non, isi_str_int, startE_c, startE_n, startE_e, wFor_e, wLc_e, wipeE, wgName, wgTup, wgCons, wgNil, List.getElem?_cons_zero, List.getElem?_cons_succ, List.set_cons_zero, List.set_cons_succ, List.length_cons, List.length_nil, Mi.wC, Mi.wVar, Mi.wVarO, Mi.wOp, Mi.wUn, Mi.wCmp, Mi.wCmpT, Mi.wChainT, Mi.wChain, Mi.wTru, Mi.wAndT, Mi.wOrT, Mi.wNotT, Mi.wAnd, Mi.wOr, Mi.wNot, Mi.wIfE, Mi.wNoPart, Mi.wPart, Mi.wSl, Mi.wNil, Mi.wCons, Mi.wTup, Mi.wLst, Mi.wNext, Mi.wSeq, Mi.wFreeze, Mi.wForget, Mi.wBreak, Mi.wCont, Mi.wRet, Mi.wRetO, Mi.wRetN, Mi.wDrop, Mi.wIf, Mi.wNever, Mi.wAsg, Mi.wSetO, Mi.wPar, Mi.wAug, Mi.wApp, Mi.wSetIx, Mi.wExt, Mi.wItems, Mi.wRng1, Mi.wRng2, Mi.wRng3, Mi.wEnum, Mi.wZip, Mi.wYes, Mi.wCall, Mi.wCallX, Mi.wB2, Mi.wMin3, Mi.wIsi, Mi.wGuard, Mi.wGuardD, Mi.wRaise, Mi.wEnumS, Mi.wListR, Mi.wJoin, Mi.wMet, Mi.wMet0, Mi.wPop, Mi.wdNil, Mi.wdCons, Mi.wDisp]
            rw [hv, hs']
            simp only [Option.map_some, optD_some]
            refine ⟨ltL ?_, st (.str (sg c)), st (rowD (rowOf (p ++ [c]) (codes t))), ?_⟩
            · rw [List.length_append]
              have hk2 : (kids d (codes t) m p (zs.take i)).length ≤ 26 := by
                unfold kids
                rw [List.length_map]
                refine Nat.le_trans (List.length_filter_le _ _) ?_
                rw [List.length_take]; omega
              simp at hle
              omega
            · have es : (⟨p.toArray⟩ : PySem.Str) ++ (⟨#[c]⟩ : PySem.Str) = ⟨(p ++ [c]).toArray⟩ := by
                show PySem.Str.append _ _ = _
                unfold PySem.Str.append
                simp
              have e9 : List.map (waitD (codes t)) (wait ++ (kids d (codes t) m p (zs.take i) ++ [(p ++ [c], (d.lookup c).getD 0)])) = List.map (waitD (codes t)) (wait ++ kids d (codes t) m p (zs.take i)) ++ [.tup [.str ((⟨p.toArray⟩ : PySem.Str) ++ (⟨#[c]⟩ : PySem.Str)), .int (s' : Nat), rowD (rowOf (p ++ [c]) (codes t))]] := by
                rw [← List.append_assoc, List.map_append, hs', es]; rfl
              rw [← hs', e9]
              rfl
          · have hq := of_decide_eq_false hq
            rw [if_neg hq, List.append_nil]
            exact ⟨_, _, rfl⟩
        · rintro δ' ⟨c5, c9, rfl⟩
          rw [List.length_map, List.length_map, List.take_length]
          refine ⟨ps.length - (vis.length + 1), by omega, found2, wait ++ kids d (codes t) m p zs, vis ++ [p], c5, _, _, _, c9, rfl, ?_, by rw [List.length_append]; rfl⟩
          rw [← hfd]
          exact dfs_step TF I hd hzs
  · rintro δ' ⟨found, vis, c5, c6, c7, c8, c9, rfl, I⟩
    simp only [e_qI, e_qIC, e_add1, e_add2, e_add3, e_add4, e_catL, e_aug1, e_aug2, e_mul1, e_mul2, e_rep, e_div, e_mod, e_neg, e_ord1, e_ord2, e_isn, e_nin, e_non1, e_non2, e_non3, e_non4, e_non5, e_non6, e_tru1, e_tru2, e_tru3, e_tru4, e_tru5, e_tru6, e_tru7, e_sl1, e_sl2, e_sl3, e_sl4, e_rev, e_it1, e_it2, e_it3, e_len1, e_len2, e_len3, e_len4, e_int1, e_int2, e_int3, e_min, e_max, e_min3, e_lst1, e_lst2, e_tup1, e_tup2, e_str, e_abs, e_lenS, e_ixS, isi_list_bl, isi_str_lst, isi_str_tup, isi_str_bl, isi_int_lst, isi_int_tup, isi_bool_non, isi_bool_str, isi_bool_lst, isi_bool_tup, isi_tup_lst, isi_tup_non, isi_tup_str, isi_tup_int, isi_tup_bl, e_attr, e_inD, e_ixD, e_ixS1, eq_self, Mi.qNotIn, Mi.qLt, Mi.qLe, Mi.qGt, Mi.qGe, List.map_cons, List.map_nil, List.length_map, true_and, and_true, Bool.false_eq_true, if_false, if_true, Bool.not_true, Bool.not_false, qEq_int, qEq_str, qEq_bl, qNe_int, qNe_str, qNe_bl, line0, line1, line2, line3, line4, line6, line7, line10, isi_list_lst, isi_list_tup, isi_list_non, isi_list_str, isi_list_int, isi_tup_tup, isi_bool_bl, isi_bool_int, isi_int_int, isi_int_bl, isi_int_non, isi_int_str, isi_str_str, isi_str_non, isi_str_int, startE_c, startE_n, startE_e, wFor_e, wLc_e, wipeE, wgName, wgTup, wgCons, wgNil, List.getElem?_cons_zero, List.getElem?_cons_succ, List.set_cons_zero, List.set_cons_succ, List.length_cons, List.length_nil, Mi.wC, Mi.wVar, Mi.wVarO, Mi.wOp, Mi.wUn, Mi.wCmp, Mi.wCmpT, Mi.wChainT, Mi.wChain, Mi.wTru, Mi.wAndT, Mi.wOrT, Mi.wNotT, Mi.wAnd, Mi.wOr, Mi.wNot, Mi.wIfE, Mi.wNoPart, Mi.wPart, Mi.wSl, Mi.wNil, Mi.wCons, Mi.wTup, Mi.wLst, Mi.wNext, Mi.wSeq, Mi.wFreeze, Mi.wForget, Mi.wBreak, Mi.wCont, Mi.wRet, Mi.wRetO, Mi.wRetN, Mi.wDrop, Mi.wIf, Mi.wNever, Mi.wAsg, Mi.wSetO, Mi.wPar, Mi.wAug, Mi.wApp, Mi.wSetIx, Mi.wExt, Mi.wItems, Mi.wRng1, Mi.wRng2, Mi.wRng3, Mi.wEnum, Mi.wZip, Mi.wYes, Mi.wCall, Mi.wCallX, Mi.wB2, Mi.wMin3, Mi.wIsi, Mi.wGuard, Mi.wGuardD, Mi.wRaise, Mi.wEnumS, Mi.wListR, Mi.wJoin, Mi.wMet, Mi.wMet0, Mi.wPop, Mi.wdNil, Mi.wdCons, Mi.wDisp]
    refine ⟨found.map pairN, by rw [List.map_map]; rfl, fun qs hp hs => h qs ⟨hp.trans ((dfs_end I TF hnd).map _), hs⟩⟩
end
end K87
namespace K87
open PySem L2 Evl Mi SrtO
section
variable {P : Program} {w : World} {K : PySem.W.Frag} {mg : PySem.Str → Option Value} {base : Heap} {g : G}
def apOk (m : D) : Option Nat := match m with
  | .int i => if 0 ≤ i ∧ i ≤ 3 then some i.toNat else none
  | _ => none
def c_apart (CB : Addr) : CT := fun ds EX P => ∃ m, ds = [m] ∧ kind m ∧ (apOk m = none → EX ⟨CB, [(("index" : PySem.Str), D.int (-1))], false⟩) ∧ ((apOk m).isSome = true → P .non)
abbrev s_check_apart : Stmt := topS 17
abbrev N_check_apart : List Str := ["most"]
theorem sc_check_apart : FnScope N_check_apart ["most"] (defScope s_check_apart) := ⟨rfl, rfl, rfl, by decide +kernel, rfl, by decide +kernel, by decide +kernel⟩
theorem ok_check_apart {f : Addr} {fd : FuncData} (F : Fun K "check_apart" "check_apart" s_check_apart f fd) (T : Txt mg) {CB : Addr} (Z : OwnX P w K mg base "BadWord" CB ["index"] 1) (Z1 : Cal P w K mg base g false "is_whole" 1 c_whole) : FnOk P w K mg base (L2.CX P w) (2 + 1) f fd ["most"] (spD K g false (c_apart CB)) := by
  refine Mi.Fun.dataX F sc_check_apart (fun ds EX Q ⟨_, h, _⟩ => by rw [h]; rfl) (fun cdv A outer s H E S0 H0 EX hr tk po => (ms_one (ms_ifD (mt_w (mw_or (mt_not (mt_tru (mo_of (me_call Z1 (hr.mono (by decide)) rfl (ma_cons (me_var 0) ma_nil))))) (mw_or1 (mt_not (mt_chain (OpR.or op_le op_le_str) ob_ord (OpR.or op_le op_le_str) ob_ord (mo_of me_int) (mo_var 0) (mo_of (me_gi T.ma)))))))
  (ms_one (ms_raise rfl tk Z hr rfl (ma_cons (me_neg (mo_of me_int)) ma_nil)))
  ms_nil))) (fun ds EX Q h => ?_)
  obtain ⟨m, rfl, hk, hE, hP⟩ := h
  simp only [e_qI, e_qIC, e_add1, e_add2, e_add3, e_add4, e_catL, e_aug1, e_aug2, e_mul1, e_mul2, e_rep, e_div, e_mod, e_neg, e_ord1, e_ord2, e_isn, e_nin, e_non1, e_non2, e_non3, e_non4, e_non5, e_non6, e_tru1, e_tru2, e_tru3, e_tru4, e_tru5, e_tru6, e_tru7, e_sl1, e_sl2, e_sl3, e_sl4, e_rev, e_it1, e_it2, e_it3, e_len1, e_len2, e_len3, e_len4, e_int1, e_int2, e_int3, e_min, e_max, e_min3, e_lst1, e_lst2, e_tup1, e_tup2, e_str, e_abs, e_lenS, e_ixS, isi_list_bl, isi_str_lst, isi_str_tup, isi_str_bl, isi_int_lst, isi_int_tup, isi_bool_non, isi_bool_str, isi_bool_lst, isi_bool_tup, isi_tup_lst, isi_tup_non, isi_tup_str, isi_tup_int, isi_tup_bl, e_attr, e_inD, e_ixD, e_ixS1, eq_self, Mi.qNotIn, Mi.qLt, Mi.qLe, Mi.qGt, Mi.qGe, List.map_cons, List.map_nil, List.length_map, true_and, and_true, Bool.false_eq_true, if_false, if_true, Bool.not_true, Bool.not_false, qEq_int, qEq_str, qEq_bl, qNe_int, qNe_str, qNe_bl, line0, line1, line2, line3, line4, line6, line7, line10, isi_list_lst, isi_list_tup, isi_list_non, isi_list_str, isi_list_int, isi_tup_tup, isi_bool_bl, isi_bool_int, isi_int_int, isi_int_bl, isi_int_non, isi_int_str, isi_str_str, isi_str_non, isi_str_int, startE_c, startE_n, startE_e, wFor_e, wLc_e, wipeE, wgName, wgTup, wgCons, wgNil, List.getElem?_cons_zero, List.getElem?_cons_succ, List.set_cons_zero, List.set_cons_succ, List.length_cons, List.length_nil, Mi.wC, Mi.wVar, Mi.wVarO, Mi.wOp, Mi.wUn, Mi.wCmp, Mi.wCmpT, Mi.wChainT, Mi.wChain, Mi.wTru, Mi.wAndT, Mi.wOrT, Mi.wNotT, Mi.wAnd, Mi.wOr, Mi.wNot, Mi.wIfE, Mi.wNoPart, Mi.wPart, Mi.wSl, Mi.wNil, Mi.wCons, Mi.wTup, Mi.wLst, Mi.wNext, Mi.wSeq, Mi.wFreeze, Mi.wForget, Mi.wBreak, Mi.wCont, Mi.wRet, Mi.wRetO, Mi.wRetN, Mi.wDrop, Mi.wIf, Mi.wNever, Mi.wAsg, Mi.wSetO, Mi.wPar, Mi.wAug, Mi.wApp, Mi.wSetIx, Mi.wExt, Mi.wItems, Mi.wRng1, Mi.wRng2, Mi.wRng3, Mi.wEnum, Mi.wZip, Mi.wYes, Mi.wCall, Mi.wCallX, Mi.wB2, Mi.wMin3, Mi.wIsi, Mi.wGuard, Mi.wGuardD, Mi.wRaise, Mi.wEnumS, Mi.wListR, Mi.wJoin, Mi.wMet, Mi.wMet0, Mi.wPop, Mi.wdNil, Mi.wdCons, Mi.wDisp]
  refine ifD_i (!(apOk m).isSome) ?_ (fun h => ⟨rfl, (by show (1 : Nat) ≤ 1000; decide), hE (by simpa using h)⟩) fun h => hP (by simpa using h)
  simp only [e_qI, e_qIC, e_add1, e_add2, e_add3, e_add4, e_catL, e_aug1, e_aug2, e_mul1, e_mul2, e_rep, e_div, e_mod, e_neg, e_ord1, e_ord2, e_isn, e_nin, e_non1, e_non2, e_non3, e_non4, e_non5, e_non6, e_tru1, e_tru2, e_tru3, e_tru4, e_tru5, e_tru6, e_tru7, e_sl1, e_sl2, e_sl3, e_sl4, e_rev, e_it1, e_it2, e_it3, e_len1, e_len2, e_len3, e_len4, e_int1, e_int2, e_int3, e_min, e_max, e_min3, e_lst1, e_lst2, e_tup1, e_tup2, e_str, e_abs, e_lenS, e_ixS, isi_list_bl, isi_str_lst, isi_str_tup, isi_str_bl, isi_int_lst, isi_int_tup, isi_bool_non, isi_bool_str, isi_bool_lst, isi_bool_tup, isi_tup_lst, isi_tup_non, isi_tup_str, isi_tup_int, isi_tup_bl, e_attr, e_inD, e_ixD, e_ixS1, eq_self, Mi.qNotIn, Mi.qLt, Mi.qLe, Mi.qGt, Mi.qGe, List.map_cons, List.map_nil, List.length_map, true_and, and_true, Bool.false_eq_true, if_false, if_true, Bool.not_true, Bool.not_false, qEq_int, qEq_str, qEq_bl, qNe_int, qNe_str, qNe_bl, line0, line1, line2, line3, line4, line6, line7, line10, isi_list_lst, isi_list_tup, isi_list_non, isi_list_str, isi_list_int, isi_tup_tup, isi_bool_bl, isi_bool_int, isi_int_int, isi_int_bl, isi_int_non, isi_int_str, isi_str_str, isi_str_non, isi_str_int, startE_c, startE_n, startE_e, wFor_e, wLc_e, wipeE, wgName, wgTup, wgCons, wgNil, List.getElem?_cons_zero, List.getElem?_cons_succ, List.set_cons_zero, List.set_cons_succ, List.length_cons, List.length_nil, Mi.wC, Mi.wVar, Mi.wVarO, Mi.wOp, Mi.wUn, Mi.wCmp, Mi.wCmpT, Mi.wChainT, Mi.wChain, Mi.wTru, Mi.wAndT, Mi.wOrT, Mi.wNotT, Mi.wAnd, Mi.wOr, Mi.wNot, Mi.wIfE, Mi.wNoPart, Mi.wPart, Mi.wSl, Mi.wNil, Mi.wCons, Mi.wTup, Mi.wLst, Mi.wNext, Mi.wSeq, Mi.wFreeze, Mi.wForget, Mi.wBreak, Mi.wCont, Mi.wRet, Mi.wRetO, Mi.wRetN, Mi.wDrop, Mi.wIf, Mi.wNever, Mi.wAsg, Mi.wSetO, Mi.wPar, Mi.wAug, Mi.wApp, Mi.wSetIx, Mi.wExt, Mi.wItems, Mi.wRng1, Mi.wRng2, Mi.wRng3, Mi.wEnum, Mi.wZip, Mi.wYes, Mi.wCall, Mi.wCallX, Mi.wB2, Mi.wMin3, Mi.wIsi, Mi.wGuard, Mi.wGuardD, Mi.wRaise, Mi.wEnumS, Mi.wListR, Mi.wJoin, Mi.wMet, Mi.wMet0, Mi.wPop, Mi.wdNil, Mi.wdCons, Mi.wDisp]
  refine ⟨m, rfl, hk, ?_⟩
  cases m with
  | int i =>
    simp only [e_qI, e_qIC, e_add1, e_add2, e_add3, e_add4, e_catL, e_aug1, e_aug2, e_mul1, e_mul2, e_rep, e_div, e_mod, e_neg, e_ord1, e_ord2, e_isn, e_nin, e_non1, e_non2, e_non3, e_non4, e_non5, e_non6, e_tru1, e_tru2, e_tru3, e_tru4, e_tru5, e_tru6, e_tru7, e_sl1, e_sl2, e_sl3, e_sl4, e_rev, e_it1, e_it2, e_it3, e_len1, e_len2, e_len3, e_len4, e_int1, e_int2, e_int3, e_min, e_max, e_min3, e_lst1, e_lst2, e_tup1, e_tup2, e_str, e_abs, e_lenS, e_ixS, isi_list_bl, isi_str_lst, isi_str_tup, isi_str_bl, isi_int_lst, isi_int_tup, isi_bool_non, isi_bool_str, isi_bool_lst, isi_bool_tup, isi_tup_lst, isi_tup_non, isi_tup_str, isi_tup_int, isi_tup_bl, e_attr, e_inD, e_ixD, e_ixS1, eq_self, Mi.qNotIn, Mi.qLt, Mi.qLe, Mi.qGt, Mi.qGe, List.map_cons, List.map_nil, List.length_map, true_and, and_true, Bool.false_eq_true, if_false, if_true, Bool.not_true, Bool.not_false, qEq_int, qEq_str, qEq_bl, qNe_int, qNe_str, qNe_bl, line0, line1, line2, line3, line4, line6, line7, line10, isi_list_lst, isi_list_tup, isi_list_non, isi_list_str, isi_list_int, isi_tup_tup, isi_bool_bl, isi_bool_int, isi_int_int, isi_int_bl, isi_int_non, isi_int_str, isi_str_str, isi_str_non, isi_str_int, startE_c, startE_n, startE_e, wFor_e, wLc_e, wipeE, wgName, wgTup, wgCons, wgNil, List.getElem?_cons_zero, List.getElem?_cons_succ, List.set_cons_zero, List.set_cons_succ, List.length_cons, List.length_nil, Mi.wC, Mi.wVar, Mi.wVarO, Mi.wOp, Mi.wUn, Mi.wCmp, Mi.wCmpT, Mi.wChainT, Mi.wChain, Mi.wTru, Mi.wAndT, Mi.wOrT, Mi.wNotT, Mi.wAnd, Mi.wOr, Mi.wNot, Mi.wIfE, Mi.wNoPart, Mi.wPart, Mi.wSl, Mi.wNil, Mi.wCons, Mi.wTup, Mi.wLst, Mi.wNext, Mi.wSeq, Mi.wFreeze, Mi.wForget, Mi.wBreak, Mi.wCont, Mi.wRet, Mi.wRetO, Mi.wRetN, Mi.wDrop, Mi.wIf, Mi.wNever, Mi.wAsg, Mi.wSetO, Mi.wPar, Mi.wAug, Mi.wApp, Mi.wSetIx, Mi.wExt, Mi.wItems, Mi.wRng1, Mi.wRng2, Mi.wRng3, Mi.wEnum, Mi.wZip, Mi.wYes, Mi.wCall, Mi.wCallX, Mi.wB2, Mi.wMin3, Mi.wIsi, Mi.wGuard, Mi.wGuardD, Mi.wRaise, Mi.wEnumS, Mi.wListR, Mi.wJoin, Mi.wMet, Mi.wMet0, Mi.wPop, Mi.wdNil, Mi.wdCons, Mi.wDisp]
    show (if (!true) = true then _ else _)
    rw [if_neg (by decide)]
    have ea : apOk (.int i) = if 0 ≤ i ∧ i ≤ 3 then some i.toNat else none := rfl
    rw [ea]
    by_cases h0 : 0 ≤ i
    · rw [decide_eq_true h0, if_pos rfl]
      by_cases h1 : i ≤ 3
      · rw [decide_eq_true h1, if_pos ⟨h0, h1⟩]; rfl
      · rw [decide_eq_false h1, if_neg fun z => h1 z.2]; rfl
    · rw [decide_eq_false h0, if_neg Bool.false_ne_true, if_neg fun z => h0 z.1]; rfl
  | dic _ => exact hk.elim
  | ext _ _ => exact hk.elim
  | _ =>
    simp only [e_qI, e_qIC, e_add1, e_add2, e_add3, e_add4, e_catL, e_aug1, e_aug2, e_mul1, e_mul2, e_rep, e_div, e_mod, e_neg, e_ord1, e_ord2, e_isn, e_nin, e_non1, e_non2, e_non3, e_non4, e_non5, e_non6, e_tru1, e_tru2, e_tru3, e_tru4, e_tru5, e_tru6, e_tru7, e_sl1, e_sl2, e_sl3, e_sl4, e_rev, e_it1, e_it2, e_it3, e_len1, e_len2, e_len3, e_len4, e_int1, e_int2, e_int3, e_min, e_max, e_min3, e_lst1, e_lst2, e_tup1, e_tup2, e_str, e_abs, e_lenS, e_ixS, isi_list_bl, isi_str_lst, isi_str_tup, isi_str_bl, isi_int_lst, isi_int_tup, isi_bool_non, isi_bool_str, isi_bool_lst, isi_bool_tup, isi_tup_lst, isi_tup_non, isi_tup_str, isi_tup_int, isi_tup_bl, e_attr, e_inD, e_ixD, e_ixS1, eq_self, Mi.qNotIn, Mi.qLt, Mi.qLe, Mi.qGt, Mi.qGe, List.map_cons, List.map_nil, List.length_map, true_and, and_true, Bool.false_eq_true, if_false, if_true, Bool.not_true, Bool.not_false, qEq_int, qEq_str, qEq_bl, qNe_int, qNe_str, qNe_bl, line0, line1, line2, line3, line4, line6, line7, line10, isi_list_lst, isi_list_tup, isi_list_non, isi_list_str, isi_list_int, isi_tup_tup, isi_bool_bl, isi_bool_int, isi_int_int, isi_int_bl, isi_int_non, isi_int_str, isi_str_str, isi_str_non, isi_str_int, startE_c, startE_n, startE_e, wFor_e, wLc_e, wipeE, wgName, wgTup, wgCons, wgNil, List.getElem?_cons_zero, List.getElem?_cons_succ, List.set_cons_zero, List.set_cons_succ, List.length_cons, List.length_nil, Mi.wC, Mi.wVar, Mi.wVarO, Mi.wOp, Mi.wUn, Mi.wCmp, Mi.wCmpT, Mi.wChainT, Mi.wChain, Mi.wTru, Mi.wAndT, Mi.wOrT, Mi.wNotT, Mi.wAnd, Mi.wOr, Mi.wNot, Mi.wIfE, Mi.wNoPart, Mi.wPart, Mi.wSl, Mi.wNil, Mi.wCons, Mi.wTup, Mi.wLst, Mi.wNext, Mi.wSeq, Mi.wFreeze, Mi.wForget, Mi.wBreak, Mi.wCont, Mi.wRet, Mi.wRetO, Mi.wRetN, Mi.wDrop, Mi.wIf, Mi.wNever, Mi.wAsg, Mi.wSetO, Mi.wPar, Mi.wAug, Mi.wApp, Mi.wSetIx, Mi.wExt, Mi.wItems, Mi.wRng1, Mi.wRng2, Mi.wRng3, Mi.wEnum, Mi.wZip, Mi.wYes, Mi.wCall, Mi.wCallX, Mi.wB2, Mi.wMin3, Mi.wIsi, Mi.wGuard, Mi.wGuardD, Mi.wRaise, Mi.wEnumS, Mi.wListR, Mi.wJoin, Mi.wMet, Mi.wMet0, Mi.wPop, Mi.wdNil, Mi.wdCons, Mi.wDisp]
    show (if (!false) = true then _ else _)
    rw [if_pos (by decide)]; rfl
def c_near (CB : Addr) : CT := fun ds EX P => ∃ (v : D) (t : PySem.Str) (m : D), ds = [v, .str t, m] ∧ smallL v ∧ kind m ∧ t.length ≤ 1000000 ∧ (∀ i, told v = some i → EX ⟨CB, [(("index" : PySem.Str), D.int i)], false⟩) ∧
  (told v = none → apOk m = none → EX ⟨CB, [(("index" : PySem.Str), D.int (-1))], false⟩) ∧
  ∀ ws mm, told v = none → apOk m = some mm → v = wordsD ws → ∀ qs, AnsL (due (ws.map codes) (codes t) mm) qs → P (.lst (qs.map pairD))
theorem lt_codes {s t : PySem.Str} (h : strLt s t = true) : codes s < codes t := of_decide_eq_true h
theorem fb_sorted : ∀ (ws : List PySem.Str) (prev : Option PySem.Str) (i : Nat), fb prev i (ws.map D.str) = none → (ws.map codes).Pairwise (· < ·) ∧ ∀ t, prev = some t → ∀ s ∈ ws, codes t < codes s
  | [], _, _, _ => ⟨List.Pairwise.nil, fun _ _ s hs => by cases hs⟩
  | s :: r, prev, i, h => by
    have hs : fb prev i ((s :: r).map D.str) = if okS prev s = true then fb (some s) (i + 1) (r.map D.str) else some (i : Int) := rfl
    rw [hs] at h
    by_cases q : okS prev s = true
    · rw [if_pos q] at h
      obtain ⟨h1, h2⟩ := fb_sorted r (some s) (i + 1) h
      refine ⟨List.pairwise_cons.mpr ⟨fun x hx => ?_, h1⟩, fun t ht => ?_⟩
      · obtain ⟨y, hy, rfl⟩ := List.mem_map.mp hx
        exact h2 s rfl y hy
      · subst ht
        unfold okS at q
        rw [Bool.and_eq_true] at q
        have q2 : codes t < codes s := lt_codes q.2
        intro y hy
        rcases List.mem_cons.mp hy with rfl | hy
        · exact q2
        · exact List.lt_trans q2 (h2 s rfl y hy)
    · rw [if_neg q] at h; cases h
theorem told_nodup {ws : List PySem.Str} (h : told (wordsD ws) = none) : (ws.map codes).Nodup := by
  have e : told (wordsD ws) = if (ws.map D.str).length > 400 then some (-1) else fb none 0 (ws.map D.str) := rfl
  rw [e] at h
  by_cases q : (ws.map D.str).length > 400
  · rw [if_pos q] at h; cases h
  · rw [if_neg q] at h
    refine (fb_sorted ws none 0 h).1.imp fun {a b} h z => ?_
    rw [z] at h
    exact List.lt_irrefl _ h
theorem plain_let {s : PySem.Str} (h : plainS s = true) : (∀ c ∈ codes s, isLet c = true) ∧ (codes s).length ≤ 24 := by
  have h2 := plain_len h
  unfold plainS at h
  rw [Bool.and_eq_true, List.all_eq_true] at h
  exact ⟨h.2, by unfold codes; simpa using h2⟩
abbrev s_near_words : Stmt := topS 18
abbrev N_near_words : List Str := ["listed", "word", "most", "tree"]
theorem sc_near_words : FnScope N_near_words ["listed", "word", "most"] (defScope s_near_words) := ⟨rfl, rfl, rfl, by decide +kernel, rfl, by decide +kernel, by decide +kernel⟩
theorem ok_near_words {f : Addr} {fd : FuncData} (F : Fun K "near_words" "near_words" s_near_words f fd) (T : Txt mg) {C CB : Addr} (TC : TxC K mg C) (Zt : MakX P w K mg base (gT K C) "WordTree" 1 C 4 (c_tree CB)) (Za : CalX P w K mg base (gT K C) false "check_apart" 3 (c_apart CB)) (Zw : MetC P w K mg base (gT K C) true C "within" 2 c_within) : FnOk P w K mg base (L2.CX P w) (5 + 1) f fd ["listed", "word", "most"] (spD K (gT K C) true (c_near CB)) := by
  refine Mi.Fun.dataX F sc_near_words (fun ds EX Q ⟨_, _, _, h, _⟩ => by rw [h]; rfl) (fun cdv A outer s H E S0 H0 EX hr tk po => (ms_cons (ms_set 3 sc_near_words.nd (me_makX Zt tk hr rfl (ma_cons (me_var 0) ma_nil)))
  (ms_cons (ms_expr (me_callX Za tk (hr.mono (by decide)) rfl (ma_cons (me_var 2) ma_nil)))
  (ms_one (ms_retF rfl (mf_met (instT K C TC) (by decide +kernel) Zw (hr.mono (by decide)) (me_var 3) (ma_cons (me_var 1) (ma_cons (me_var 2) ma_nil)))))))) (fun ds EX Q h => ?_)
  obtain ⟨v, t, m, rfl, hv, hk, hz, hE1, hE2, hP⟩ := h
  simp only [e_qI, e_qIC, e_add1, e_add2, e_add3, e_add4, e_catL, e_aug1, e_aug2, e_mul1, e_mul2, e_rep, e_div, e_mod, e_neg, e_ord1, e_ord2, e_isn, e_nin, e_non1, e_non2, e_non3, e_non4, e_non5, e_non6, e_tru1, e_tru2, e_tru3, e_tru4, e_tru5, e_tru6, e_tru7, e_sl1, e_sl2, e_sl3, e_sl4, e_rev, e_it1, e_it2, e_it3, e_len1, e_len2, e_len3, e_len4, e_int1, e_int2, e_int3, e_min, e_max, e_min3, e_lst1, e_lst2, e_tup1, e_tup2, e_str, e_abs, e_lenS, e_ixS, isi_list_bl, isi_str_lst, isi_str_tup, isi_str_bl, isi_int_lst, isi_int_tup, isi_bool_non, isi_bool_str, isi_bool_lst, isi_bool_tup, isi_tup_lst, isi_tup_non, isi_tup_str, isi_tup_int, isi_tup_bl, e_attr, e_inD, e_ixD, e_ixS1, eq_self, Mi.qNotIn, Mi.qLt, Mi.qLe, Mi.qGt, Mi.qGe, List.map_cons, List.map_nil, List.length_map, true_and, and_true, Bool.false_eq_true, if_false, if_true, Bool.not_true, Bool.not_false, qEq_int, qEq_str, qEq_bl, qNe_int, qNe_str, qNe_bl, line0, line1, line2, line3, line4, line6, line7, line10, isi_list_lst, isi_list_tup, isi_list_non, isi_list_str, isi_list_int, isi_tup_tup, isi_bool_bl, isi_bool_int, isi_int_int, isi_int_bl, isi_int_non, isi_int_str, isi_str_str, isi_str_non, isi_str_int, startE_c, startE_n, startE_e, wFor_e, wLc_e, wipeE, wgName, wgTup, wgCons, wgNil, List.getElem?_cons_zero, List.getElem?_cons_succ, List.set_cons_zero, List.set_cons_succ, List.length_cons, List.length_nil, Mi.wC, Mi.wVar, Mi.wVarO, Mi.wOp, Mi.wUn, Mi.wCmp, Mi.wCmpT, Mi.wChainT, Mi.wChain, Mi.wTru, Mi.wAndT, Mi.wOrT, Mi.wNotT, Mi.wAnd, Mi.wOr, Mi.wNot, Mi.wIfE, Mi.wNoPart, Mi.wPart, Mi.wSl, Mi.wNil, Mi.wCons, Mi.wTup, Mi.wLst, Mi.wNext, Mi.wSeq, Mi.wFreeze, Mi.wForget, Mi.wBreak, Mi.wCont, Mi.wRet, Mi.wRetO, Mi.wRetN, Mi.wDrop, Mi.wIf, Mi.wNever, Mi.wAsg, Mi.wSetO, Mi.wPar, Mi.wAug, Mi.wApp, Mi.wSetIx, Mi.wExt, Mi.wItems, Mi.wRng1, Mi.wRng2, Mi.wRng3, Mi.wEnum, Mi.wZip, Mi.wYes, Mi.wCall, Mi.wCallX, Mi.wB2, Mi.wMin3, Mi.wIsi, Mi.wGuard, Mi.wGuardD, Mi.wRaise, Mi.wEnumS, Mi.wListR, Mi.wJoin, Mi.wMet, Mi.wMet0, Mi.wPop, Mi.wdNil, Mi.wdCons, Mi.wDisp]
  refine ⟨v, rfl, hv, hE1, fun ht ws A B ps hw hpl hwl TF hA => ?_⟩
  refine ⟨m, rfl, hk, hE2 ht, fun hm => ?_⟩
  obtain ⟨mm, hm⟩ := Option.isSome_iff_exists.mp hm
  obtain ⟨i, rfl, hi⟩ : ∃ i : Int, m = .int i ∧ i = (mm : Nat) := by
    cases m with
    | int i =>
      refine ⟨i, rfl, ?_⟩
      unfold apOk at hm
      simp only at hm
      split at hm
      · cases hm; omega
      · cases hm
    | _ => cases hm
  subst hi
  refine ⟨rfl, A, B, ps, ws.map codes, t, mm, rfl, TF, told_nodup (by rw [← hw]; exact ht), ?_, ?_, hz, hA, fun qs hq => hP ws mm ht hm hw qs hq⟩
  · intro x hx c hc
    obtain ⟨s, hs, rfl⟩ := List.mem_map.mp hx
    exact (plain_let (hpl s hs)).1 c hc
  · intro x hx
    obtain ⟨s, hs, rfl⟩ := List.mem_map.mp hx
    exact (plain_let (hpl s hs)).2
def c_numbers : CT := fun ds EX P => ∃ (xs : List Int) (at_ cn : Nat), ds = [.ext 0 (.lst (xs.map D.int)), .int at_, .int cn] ∧ at_ ≤ 100000 ∧ cn ≤ 100000 ∧
  ∀ ns : List Int, ns.length = cn → (∀ n ∈ ns, 0 ≤ n ∧ n < 1009) → P (.lst (ns.map D.int))
abbrev s_law_numbers : Stmt := topS 20
abbrev N_law_numbers : List Str := ["script", "at", "count", "cell", "numbers", "k", "mixed"]
theorem sc_law_numbers : FnScope N_law_numbers ["script", "at", "count"] (defScope s_law_numbers) := ⟨rfl, rfl, rfl, by decide +kernel, rfl, by decide +kernel, by decide +kernel⟩
theorem ok_law_numbers {f : Addr} {fd : FuncData} (F : Fun K "_law_numbers" "_law_numbers" s_law_numbers f fd) (T : Txt mg) (hsc : HScr K g) : FnOk P w K mg base CX0 (0 + 1) f fd ["script", "at", "count"] (spD K g false c_numbers) := by
  refine Mi.Fun.data F sc_law_numbers (fun ds EX Q ⟨_, _, _, h, _⟩ => by rw [h]; rfl) (fun cdv A outer s H E S0 H0 hr => (ms_cons (ms_set 3 sc_law_numbers.nd (me_mul (mo_of me_int) (mo_of (me_add (mo_var 1) (mo_of me_int)))))
  (ms_cut (ms_if (mt_lt (mo_var 1) (mo_of (me_lenS hsc T.len rfl (mo_var 0))))
  (ms_one (ms_set 3 sc_law_numbers.nd (me_int1 T.int rfl (mo_of (me_ixS hsc (mo_var 0) (mo_var 1))))))
  ms_nil)
  (ms_cut (ms_if (mt_lt (mo_var 3) (mo_of me_int))
  (ms_one (ms_set 3 sc_law_numbers.nd (me_sub (mo_of me_int) (mo_of (me_mul (mo_of me_int) (mo_var 3))))))
  ms_nil)
  (ms_cons (ms_setO 4 sc_law_numbers.nd (mf_lst ma_nil))
  (ms_cut (ms_for (vs := [5]) PassesOwn.never rfl (mi_range1 rfl T.range (mo_var 2)) (mg_name 5 sc_law_numbers.nd)
  (ms_one (ms_if (mt_ge (mo_var 3) (mo_of (me_pow (mo_of me_int) (mo_of me_int))))
  (ms_cons (ms_app 4 (me_modP (mo_var 3) (mo_of me_int)))
  (ms_one (ms_set 3 sc_law_numbers.nd (me_divP (mo_var 3) (mo_of me_int)))))
  (ms_cons (ms_set 6 sc_law_numbers.nd (me_modP (mo_of (me_add (mo_of (me_add (mo_of (me_mul (mo_var 3) (mo_of me_int))) (mo_of (me_mul (mo_of (me_add (mo_var 5) (mo_of me_int))) (mo_of me_int))))) (mo_of (me_mul (mo_var 1) (mo_of me_int))))) (mo_of me_int)))
  (ms_cons (ms_set 6 sc_law_numbers.nd (me_modP (mo_of (me_add (mo_of (me_mul (mo_var 6) (mo_var 6))) (mo_of (me_mul (mo_of me_int) (mo_of (me_add (mo_var 5) (mo_of me_int))))))) (mo_of me_int)))
  (ms_one (ms_app 4 (me_modP (mo_of (me_divP (mo_var 6) (mo_of me_int))) (mo_of me_int)))))))))
  (ms_freeze 4 (ms_one (ms_ret rfl (me_var 4)))))))))) (fun ds Q h => ?_) (fun ds EX Q h => h)
  obtain ⟨xs, a, cn, rfl, ha, hc, h⟩ := h
  simp only [e_qI, e_qIC, e_add1, e_add2, e_add3, e_add4, e_catL, e_aug1, e_aug2, e_mul1, e_mul2, e_rep, e_div, e_mod, e_neg, e_ord1, e_ord2, e_isn, e_nin, e_non1, e_non2, e_non3, e_non4, e_non5, e_non6, e_tru1, e_tru2, e_tru3, e_tru4, e_tru5, e_tru6, e_tru7, e_sl1, e_sl2, e_sl3, e_sl4, e_rev, e_it1, e_it2, e_it3, e_len1, e_len2, e_len3, e_len4, e_int1, e_int2, e_int3, e_min, e_max, e_min3, e_lst1, e_lst2, e_tup1, e_tup2, e_str, e_abs, e_lenS, e_ixS, isi_list_bl, isi_str_lst, isi_str_tup, isi_str_bl, isi_int_lst, isi_int_tup, isi_bool_non, isi_bool_str, isi_bool_lst, isi_bool_tup, isi_tup_lst, isi_tup_non, isi_tup_str, isi_tup_int, isi_tup_bl, e_attr, e_inD, e_ixD, e_ixS1, eq_self, Mi.qNotIn, Mi.qLt, Mi.qLe, Mi.qGt, Mi.qGe, List.map_cons, List.map_nil, List.length_map, true_and, and_true, Bool.false_eq_true, if_false, if_true, Bool.not_true, Bool.not_false, qEq_int, qEq_str, qEq_bl, qNe_int, qNe_str, qNe_bl, line0, line1, line2, line3, line4, line6, line7, line10, isi_list_lst, isi_list_tup, isi_list_non, isi_list_str, isi_list_int, isi_tup_tup, isi_bool_bl, isi_bool_int, isi_int_int, isi_int_bl, isi_int_non, isi_int_str, isi_str_str, isi_str_non, isi_str_int, startE_c, startE_n, startE_e, wFor_e, wLc_e, wipeE, wgName, wgTup, wgCons, wgNil, List.getElem?_cons_zero, List.getElem?_cons_succ, List.set_cons_zero, List.set_cons_succ, List.length_cons, List.length_nil, Mi.wC, Mi.wVar, Mi.wVarO, Mi.wOp, Mi.wUn, Mi.wCmp, Mi.wCmpT, Mi.wChainT, Mi.wChain, Mi.wTru, Mi.wAndT, Mi.wOrT, Mi.wNotT, Mi.wAnd, Mi.wOr, Mi.wNot, Mi.wIfE, Mi.wNoPart, Mi.wPart, Mi.wSl, Mi.wNil, Mi.wCons, Mi.wTup, Mi.wLst, Mi.wNext, Mi.wSeq, Mi.wFreeze, Mi.wForget, Mi.wBreak, Mi.wCont, Mi.wRet, Mi.wRetO, Mi.wRetN, Mi.wDrop, Mi.wIf, Mi.wNever, Mi.wAsg, Mi.wSetO, Mi.wPar, Mi.wAug, Mi.wApp, Mi.wSetIx, Mi.wExt, Mi.wItems, Mi.wRng1, Mi.wRng2, Mi.wRng3, Mi.wEnum, Mi.wZip, Mi.wYes, Mi.wCall, Mi.wCallX, Mi.wB2, Mi.wMin3, Mi.wIsi, Mi.wGuard, Mi.wGuardD, Mi.wRaise, Mi.wEnumS, Mi.wListR, Mi.wJoin, Mi.wMet, Mi.wMet0, Mi.wPop, Mi.wdNil, Mi.wdCons, Mi.wDisp]
  refine ⟨.inl (.inl ⟨by omega, by omega⟩), ?_⟩
  refine cut_i (fun δ' => ∃ cell : Int, δ' = [st (.ext 0 (.lst (xs.map D.int))), st (.int a), st (.int cn), st (.int cell), none, none, none]) ?_ ?_
  · simp only [e_qI, e_qIC, e_add1, e_add2, e_add3, e_add4, e_catL, e_aug1, e_aug2, e_mul1, e_mul2, e_rep, e_div, e_mod, e_neg, e_ord1, e_ord2, e_isn, e_nin, e_non1, e_non2, e_non3, e_non4, e_non5, e_non6, e_tru1, e_tru2, e_tru3, e_tru4, e_tru5, e_tru6, e_tru7, e_sl1, e_sl2, e_sl3, e_sl4, e_rev, e_it1, e_it2, e_it3, e_len1, e_len2, e_len3, e_len4, e_int1, e_int2, e_int3, e_min, e_max, e_min3, e_lst1, e_lst2, e_tup1, e_tup2, e_str, e_abs, e_lenS, e_ixS, isi_list_bl, isi_str_lst, isi_str_tup, isi_str_bl, isi_int_lst, isi_int_tup, isi_bool_non, isi_bool_str, isi_bool_lst, isi_bool_tup, isi_tup_lst, isi_tup_non, isi_tup_str, isi_tup_int, isi_tup_bl, e_attr, e_inD, e_ixD, e_ixS1, eq_self, Mi.qNotIn, Mi.qLt, Mi.qLe, Mi.qGt, Mi.qGe, List.map_cons, List.map_nil, List.length_map, true_and, and_true, Bool.false_eq_true, if_false, if_true, Bool.not_true, Bool.not_false, qEq_int, qEq_str, qEq_bl, qNe_int, qNe_str, qNe_bl, line0, line1, line2, line3, line4, line6, line7, line10, isi_list_lst, isi_list_tup, isi_list_non, isi_list_str, isi_list_int, isi_tup_tup, isi_bool_bl, isi_bool_int, isi_int_int, isi_int_bl, isi_int_non, isi_int_str, isi_str_str, isi_str_non, isi_str_int, startE_c, startE_n, startE_e, wFor_e, wLc_e, wipeE, wgName, wgTup, wgCons, wgNil, List.getElem?_cons_zero, List.getElem?_cons_succ, List.set_cons_zero, List.set_cons_succ, List.length_cons, List.length_nil, Mi.wC, Mi.wVar, Mi.wVarO, Mi.wOp, Mi.wUn, Mi.wCmp, Mi.wCmpT, Mi.wChainT, Mi.wChain, Mi.wTru, Mi.wAndT, Mi.wOrT, Mi.wNotT, Mi.wAnd, Mi.wOr, Mi.wNot, Mi.wIfE, Mi.wNoPart, Mi.wPart, Mi.wSl, Mi.wNil, Mi.wCons, Mi.wTup, Mi.wLst, Mi.wNext, Mi.wSeq, Mi.wFreeze, Mi.wForget, Mi.wBreak, Mi.wCont, Mi.wRet, Mi.wRetO, Mi.wRetN, Mi.wDrop, Mi.wIf, Mi.wNever, Mi.wAsg, Mi.wSetO, Mi.wPar, Mi.wAug, Mi.wApp, Mi.wSetIx, Mi.wExt, Mi.wItems, Mi.wRng1, Mi.wRng2, Mi.wRng3, Mi.wEnum, Mi.wZip, Mi.wYes, Mi.wCall, Mi.wCallX, Mi.wB2, Mi.wMin3, Mi.wIsi, Mi.wGuard, Mi.wGuardD, Mi.wRaise, Mi.wEnumS, Mi.wListR, Mi.wJoin, Mi.wMet, Mi.wMet0, Mi.wPop, Mi.wdNil, Mi.wdCons, Mi.wDisp]
    refine ite_i (fun e => ?_) fun e => ⟨_, rfl⟩
    have e := of_decide_eq_true e
    have hl : a < xs.length := by omega
    refine ⟨.int xs[a], Mi.atI_nat (by simp [hl]), fun n hn => ⟨n, rfl⟩⟩
  · rintro δ' ⟨cell, rfl⟩
    refine cut_i (fun δ' => ∃ cell : Int, δ' = [st (.ext 0 (.lst (xs.map D.int))), st (.int a), st (.int cn), st (.int cell), none, none, none]) ?_ ?_
    · simp only [e_qI, e_qIC, e_add1, e_add2, e_add3, e_add4, e_catL, e_aug1, e_aug2, e_mul1, e_mul2, e_rep, e_div, e_mod, e_neg, e_ord1, e_ord2, e_isn, e_nin, e_non1, e_non2, e_non3, e_non4, e_non5, e_non6, e_tru1, e_tru2, e_tru3, e_tru4, e_tru5, e_tru6, e_tru7, e_sl1, e_sl2, e_sl3, e_sl4, e_rev, e_it1, e_it2, e_it3, e_len1, e_len2, e_len3, e_len4, e_int1, e_int2, e_int3, e_min, e_max, e_min3, e_lst1, e_lst2, e_tup1, e_tup2, e_str, e_abs, e_lenS, e_ixS, isi_list_bl, isi_str_lst, isi_str_tup, isi_str_bl, isi_int_lst, isi_int_tup, isi_bool_non, isi_bool_str, isi_bool_lst, isi_bool_tup, isi_tup_lst, isi_tup_non, isi_tup_str, isi_tup_int, isi_tup_bl, e_attr, e_inD, e_ixD, e_ixS1, eq_self, Mi.qNotIn, Mi.qLt, Mi.qLe, Mi.qGt, Mi.qGe, List.map_cons, List.map_nil, List.length_map, true_and, and_true, Bool.false_eq_true, if_false, if_true, Bool.not_true, Bool.not_false, qEq_int, qEq_str, qEq_bl, qNe_int, qNe_str, qNe_bl, line0, line1, line2, line3, line4, line6, line7, line10, isi_list_lst, isi_list_tup, isi_list_non, isi_list_str, isi_list_int, isi_tup_tup, isi_bool_bl, isi_bool_int, isi_int_int, isi_int_bl, isi_int_non, isi_int_str, isi_str_str, isi_str_non, isi_str_int, startE_c, startE_n, startE_e, wFor_e, wLc_e, wipeE, wgName, wgTup, wgCons, wgNil, List.getElem?_cons_zero, List.getElem?_cons_succ, List.set_cons_zero, List.set_cons_succ, List.length_cons, List.length_nil, Mi.wC, Mi.wVar, Mi.wVarO, Mi.wOp, Mi.wUn, Mi.wCmp, Mi.wCmpT, Mi.wChainT, Mi.wChain, Mi.wTru, Mi.wAndT, Mi.wOrT, Mi.wNotT, Mi.wAnd, Mi.wOr, Mi.wNot, Mi.wIfE, Mi.wNoPart, Mi.wPart, Mi.wSl, Mi.wNil, Mi.wCons, Mi.wTup, Mi.wLst, Mi.wNext, Mi.wSeq, Mi.wFreeze, Mi.wForget, Mi.wBreak, Mi.wCont, Mi.wRet, Mi.wRetO, Mi.wRetN, Mi.wDrop, Mi.wIf, Mi.wNever, Mi.wAsg, Mi.wSetO, Mi.wPar, Mi.wAug, Mi.wApp, Mi.wSetIx, Mi.wExt, Mi.wItems, Mi.wRng1, Mi.wRng2, Mi.wRng3, Mi.wEnum, Mi.wZip, Mi.wYes, Mi.wCall, Mi.wCallX, Mi.wB2, Mi.wMin3, Mi.wIsi, Mi.wGuard, Mi.wGuardD, Mi.wRaise, Mi.wEnumS, Mi.wListR, Mi.wJoin, Mi.wMet, Mi.wMet0, Mi.wPop, Mi.wdNil, Mi.wdCons, Mi.wDisp]
      exact ite_i (fun e => ⟨.inl (.inl ⟨by omega, by omega⟩), _, rfl⟩) fun e => ⟨_, rfl⟩
    · rintro δ' ⟨cell, rfl⟩
      simp only [e_qI, e_qIC, e_add1, e_add2, e_add3, e_add4, e_catL, e_aug1, e_aug2, e_mul1, e_mul2, e_rep, e_div, e_mod, e_neg, e_ord1, e_ord2, e_isn, e_nin, e_non1, e_non2, e_non3, e_non4, e_non5, e_non6, e_tru1, e_tru2, e_tru3, e_tru4, e_tru5, e_tru6, e_tru7, e_sl1, e_sl2, e_sl3, e_sl4, e_rev, e_it1, e_it2, e_it3, e_len1, e_len2, e_len3, e_len4, e_int1, e_int2, e_int3, e_min, e_max, e_min3, e_lst1, e_lst2, e_tup1, e_tup2, e_str, e_abs, e_lenS, e_ixS, isi_list_bl, isi_str_lst, isi_str_tup, isi_str_bl, isi_int_lst, isi_int_tup, isi_bool_non, isi_bool_str, isi_bool_lst, isi_bool_tup, isi_tup_lst, isi_tup_non, isi_tup_str, isi_tup_int, isi_tup_bl, e_attr, e_inD, e_ixD, e_ixS1, eq_self, Mi.qNotIn, Mi.qLt, Mi.qLe, Mi.qGt, Mi.qGe, List.map_cons, List.map_nil, List.length_map, true_and, and_true, Bool.false_eq_true, if_false, if_true, Bool.not_true, Bool.not_false, qEq_int, qEq_str, qEq_bl, qNe_int, qNe_str, qNe_bl, line0, line1, line2, line3, line4, line6, line7, line10, isi_list_lst, isi_list_tup, isi_list_non, isi_list_str, isi_list_int, isi_tup_tup, isi_bool_bl, isi_bool_int, isi_int_int, isi_int_bl, isi_int_non, isi_int_str, isi_str_str, isi_str_non, isi_str_int, startE_c, startE_n, startE_e, wFor_e, wLc_e, wipeE, wgName, wgTup, wgCons, wgNil, List.getElem?_cons_zero, List.getElem?_cons_succ, List.set_cons_zero, List.set_cons_succ, List.length_cons, List.length_nil, Mi.wC, Mi.wVar, Mi.wVarO, Mi.wOp, Mi.wUn, Mi.wCmp, Mi.wCmpT, Mi.wChainT, Mi.wChain, Mi.wTru, Mi.wAndT, Mi.wOrT, Mi.wNotT, Mi.wAnd, Mi.wOr, Mi.wNot, Mi.wIfE, Mi.wNoPart, Mi.wPart, Mi.wSl, Mi.wNil, Mi.wCons, Mi.wTup, Mi.wLst, Mi.wNext, Mi.wSeq, Mi.wFreeze, Mi.wForget, Mi.wBreak, Mi.wCont, Mi.wRet, Mi.wRetO, Mi.wRetN, Mi.wDrop, Mi.wIf, Mi.wNever, Mi.wAsg, Mi.wSetO, Mi.wPar, Mi.wAug, Mi.wApp, Mi.wSetIx, Mi.wExt, Mi.wItems, Mi.wRng1, Mi.wRng2, Mi.wRng3, Mi.wEnum, Mi.wZip, Mi.wYes, Mi.wCall, Mi.wCallX, Mi.wB2, Mi.wMin3, Mi.wIsi, Mi.wGuard, Mi.wGuardD, Mi.wRaise, Mi.wEnumS, Mi.wListR, Mi.wJoin, Mi.wMet, Mi.wMet0, Mi.wPop, Mi.wdNil, Mi.wdCons, Mi.wDisp]
      refine cut_i (fun δ' => ∃ (ns : List Int) (c3 c5 c6 : Option Cell), δ' = [st (.ext 0 (.lst (xs.map D.int))), st (.int a), st (.int cn), c3, ow (.lst (ns.map D.int)), c5, c6] ∧ ns.length = cn ∧ ∀ n ∈ ns, 0 ≤ n ∧ n < 1009) ?_ ?_
      · simp only [e_qI, e_qIC, e_add1, e_add2, e_add3, e_add4, e_catL, e_aug1, e_aug2, e_mul1, e_mul2, e_rep, e_div, e_mod, e_neg, e_ord1, e_ord2, e_isn, e_nin, e_non1, e_non2, e_non3, e_non4, e_non5, e_non6, e_tru1, e_tru2, e_tru3, e_tru4, e_tru5, e_tru6, e_tru7, e_sl1, e_sl2, e_sl3, e_sl4, e_rev, e_it1, e_it2, e_it3, e_len1, e_len2, e_len3, e_len4, e_int1, e_int2, e_int3, e_min, e_max, e_min3, e_lst1, e_lst2, e_tup1, e_tup2, e_str, e_abs, e_lenS, e_ixS, isi_list_bl, isi_str_lst, isi_str_tup, isi_str_bl, isi_int_lst, isi_int_tup, isi_bool_non, isi_bool_str, isi_bool_lst, isi_bool_tup, isi_tup_lst, isi_tup_non, isi_tup_str, isi_tup_int, isi_tup_bl, e_attr, e_inD, e_ixD, e_ixS1, eq_self, Mi.qNotIn, Mi.qLt, Mi.qLe, Mi.qGt, Mi.qGe, List.map_cons, List.map_nil, List.length_map, true_and, and_true, Bool.false_eq_true, if_false, if_true, Bool.not_true, Bool.not_false, qEq_int, qEq_str, qEq_bl, qNe_int, qNe_str, qNe_bl, line0, line1, line2, line3, line4, line6, line7, line10, isi_list_lst, isi_list_tup, isi_list_non, isi_list_str, isi_list_int, isi_tup_tup, isi_bool_bl, isi_bool_int, isi_int_int, isi_int_bl, isi_int_non, isi_int_str, isi_str_str, isi_str_non, isi_str_int, startE_c, startE_n, startE_e, wFor_e, wLc_e, wipeE, wgName, wgTup, wgCons, wgNil, List.getElem?_cons_zero, List.getElem?_cons_succ, List.set_cons_zero, List.set_cons_succ, List.length_cons, List.length_nil, Mi.wC, Mi.wVar, Mi.wVarO, Mi.wOp, Mi.wUn, Mi.wCmp, Mi.wCmpT, Mi.wChainT, Mi.wChain, Mi.wTru, Mi.wAndT, Mi.wOrT, Mi.wNotT, Mi.wAnd, Mi.wOr, Mi.wNot, Mi.wIfE, Mi.wNoPart, Mi.wPart, Mi.wSl, Mi.wNil, Mi.wCons, Mi.wTup, Mi.wLst, Mi.wNext, Mi.wSeq, Mi.wFreeze, Mi.wForget, Mi.wBreak, Mi.wCont, Mi.wRet, Mi.wRetO, Mi.wRetN, Mi.wDrop, Mi.wIf, Mi.wNever, Mi.wAsg, Mi.wSetO, Mi.wPar, Mi.wAug, Mi.wApp, Mi.wSetIx, Mi.wExt, Mi.wItems, Mi.wRng1, Mi.wRng2, Mi.wRng3, Mi.wEnum, Mi.wZip, Mi.wYes, Mi.wCall, Mi.wCallX, Mi.wB2, Mi.wMin3, Mi.wIsi, Mi.wGuard, Mi.wGuardD, Mi.wRaise, Mi.wEnumS, Mi.wListR, Mi.wJoin, Mi.wMet, Mi.wMet0, Mi.wPop, Mi.wdNil, Mi.wdCons, Mi.wDisp]
        refine ⟨by omega, by omega, ?_⟩
        rw [Int.toNat_natCast]
        refine for_i (fun k δ' => ∃ (ns : List Int) (cell : Int) (c5 c6 : Option Cell), δ' = [st (.ext 0 (.lst (xs.map D.int))), st (.int a), st (.int cn), st (.int cell), ow (.lst (ns.map D.int)), c5, c6] ∧ ns.length = k ∧ ∀ n ∈ ns, 0 ≤ n ∧ n < 1009) ⟨[], _, _, _, rfl, rfl, fun n hn => by cases hn⟩ ?_ ?_
        · rintro k d δ' hk ⟨ns, cell, c5, c6, rfl, hl, hb⟩
          obtain ⟨hk, rfl⟩ := rangeD_of hk
          have snoc : ∀ n : Int, 0 ≤ n → n < 1009 → ∀ m ∈ ns ++ [n], 0 ≤ m ∧ m < 1009 := fun n h1 h2 m hm => by
            rcases List.mem_append.mp hm with hm | hm
            · exact hb m hm
            · cases List.mem_singleton.mp hm; exact ⟨h1, h2⟩
          have hll : ns.length < Line := ltL (by omega)
          simp only [e_qI, e_qIC, e_add1, e_add2, e_add3, e_add4, e_catL, e_aug1, e_aug2, e_mul1, e_mul2, e_rep, e_div, e_mod, e_neg, e_ord1, e_ord2, e_isn, e_nin, e_non1, e_non2, e_non3, e_non4, e_non5, e_non6, e_tru1, e_tru2, e_tru3, e_tru4, e_tru5, e_tru6, e_tru7, e_sl1, e_sl2, e_sl3, e_sl4, e_rev, e_it1, e_it2, e_it3, e_len1, e_len2, e_len3, e_len4, e_int1, e_int2, e_int3, e_min, e_max, e_min3, e_lst1, e_lst2, e_tup1, e_tup2, e_str, e_abs, e_lenS, e_ixS, isi_list_bl, isi_str_lst, isi_str_tup, isi_str_bl, isi_int_lst, isi_int_tup, isi_bool_non, isi_bool_str, isi_bool_lst, isi_bool_tup, isi_tup_lst, isi_tup_non, isi_tup_str, isi_tup_int, isi_tup_bl, e_attr, e_inD, e_ixD, e_ixS1, eq_self, Mi.qNotIn, Mi.qLt, Mi.qLe, Mi.qGt, Mi.qGe, List.map_cons, List.map_nil, List.length_map, true_and, and_true, Bool.false_eq_true, if_false, if_true, Bool.not_true, Bool.not_false, qEq_int, qEq_str, qEq_bl, qNe_int, qNe_str, qNe_bl, line0, line1, line2, line3, line4, line6, line7, line10, isi_list_lst, isi_list_tup, isi_list_non, isi_list_str, isi_list_int, isi_tup_tup, isi_bool_bl, isi_bool_int, isi_int_int, isi_int_bl, isi_int_non, isi_int_str, isi_str_str, isi_str_non, isi_str_int, startE_c, startE_n, startE_e, wFor_e, wLc_e, wipeE, wgName, wgTup, wgCons, wgNil, List.getElem?_cons_zero, List.getElem?_cons_succ, List.set_cons_zero, List.set_cons_succ, List.length_cons, List.length_nil, Mi.wC, Mi.wVar, Mi.wVarO, Mi.wOp, Mi.wUn, Mi.wCmp, Mi.wCmpT, Mi.wChainT, Mi.wChain, Mi.wTru, Mi.wAndT, Mi.wOrT, Mi.wNotT, Mi.wAnd, Mi.wOr, Mi.wNot, Mi.wIfE, Mi.wNoPart, Mi.wPart, Mi.wSl, Mi.wNil, Mi.wCons, Mi.wTup, Mi.wLst, Mi.wNext, Mi.wSeq, Mi.wFreeze, Mi.wForget, Mi.wBreak, Mi.wCont, Mi.wRet, Mi.wRetO, Mi.wRetN, Mi.wDrop, Mi.wIf, Mi.wNever, Mi.wAsg, Mi.wSetO, Mi.wPar, Mi.wAug, Mi.wApp, Mi.wSetIx, Mi.wExt, Mi.wItems, Mi.wRng1, Mi.wRng2, Mi.wRng3, Mi.wEnum, Mi.wZip, Mi.wYes, Mi.wCall, Mi.wCallX, Mi.wB2, Mi.wMin3, Mi.wIsi, Mi.wGuard, Mi.wGuardD, Mi.wRaise, Mi.wEnumS, Mi.wListR, Mi.wJoin, Mi.wMet, Mi.wMet0, Mi.wPop, Mi.wdNil, Mi.wdCons, Mi.wDisp, Int.zero_add]
          refine ⟨(by unfold CPow; decide), ite_i (fun e => ?_) fun e => ?_⟩
          · refine ⟨by omega, hll, by omega, by omega, ns ++ [cell % 1009], _, _, _, by rw [List.map_append]; rfl, by rw [List.length_append, hl]; rfl, snoc _ (Int.emod_nonneg _ (by omega)) (Int.emod_lt_of_pos _ (by omega))⟩
          · have e := of_decide_eq_false e
            have q1 : 0 ≤ (cell * 48271 + ((k : Int) + 1) * 69621 + (a : Int) * 4001) % 2147483647 := Int.emod_nonneg _ (by omega)
            have q2 : (cell * 48271 + ((k : Int) + 1) * 69621 + (a : Int) * 4001) % 2147483647 < 2147483647 := Int.emod_lt_of_pos _ (by omega)
            generalize (cell * 48271 + ((k : Int) + 1) * 69621 + (a : Int) * 4001) % 2147483647 = mx at *
            refine ⟨.inl (.inr ⟨by omega, by omega⟩), .inl (.inr ⟨by omega, by omega⟩), .inl (.inr ⟨by omega, by omega⟩), by omega, .inl (.inr ⟨by omega, by omega⟩), .inl (.inl ⟨by omega, by omega⟩), by omega, by omega, by omega, by omega, hll,
              ns ++ [(mx * mx + 16807 * ((k : Int) + 3)) % 2147483629 / 7 % 1009], _, _, _, by rw [List.map_append]; rfl, by rw [List.length_append, hl]; rfl, snoc _ (Int.emod_nonneg _ (by omega)) (Int.emod_lt_of_pos _ (by omega))⟩
        · rintro δ' ⟨ns, cell, c5, c6, rfl, hl, hb⟩
          rw [rangeD_len] at hl
          exact ⟨ns, _, _, _, rfl, hl, hb⟩
      · rintro δ' ⟨ns, c3, c5, c6, rfl, hl, hb⟩
        simp only [e_qI, e_qIC, e_add1, e_add2, e_add3, e_add4, e_catL, e_aug1, e_aug2, e_mul1, e_mul2, e_rep, e_div, e_mod, e_neg, e_ord1, e_ord2, e_isn, e_nin, e_non1, e_non2, e_non3, e_non4, e_non5, e_non6, e_tru1, e_tru2, e_tru3, e_tru4, e_tru5, e_tru6, e_tru7, e_sl1, e_sl2, e_sl3, e_sl4, e_rev, e_it1, e_it2, e_it3, e_len1, e_len2, e_len3, e_len4, e_int1, e_int2, e_int3, e_min, e_max, e_min3, e_lst1, e_lst2, e_tup1, e_tup2, e_str, e_abs, e_lenS, e_ixS, isi_list_bl, isi_str_lst, isi_str_tup, isi_str_bl, isi_int_lst, isi_int_tup, isi_bool_non, isi_bool_str, isi_bool_lst, isi_bool_tup, isi_tup_lst, isi_tup_non, isi_tup_str, isi_tup_int, isi_tup_bl, e_attr, e_inD, e_ixD, e_ixS1, eq_self, Mi.qNotIn, Mi.qLt, Mi.qLe, Mi.qGt, Mi.qGe, List.map_cons, List.map_nil, List.length_map, true_and, and_true, Bool.false_eq_true, if_false, if_true, Bool.not_true, Bool.not_false, qEq_int, qEq_str, qEq_bl, qNe_int, qNe_str, qNe_bl, line0, line1, line2, line3, line4, line6, line7, line10, isi_list_lst, isi_list_tup, isi_list_non, isi_list_str, isi_list_int, isi_tup_tup, isi_bool_bl, isi_bool_int, isi_int_int, isi_int_bl, isi_int_non, isi_int_str, isi_str_str, isi_str_non, isi_str_int, startE_c, startE_n, startE_e, wFor_e, wLc_e, wipeE, wgName, wgTup, wgCons, wgNil, List.getElem?_cons_zero, List.getElem?_cons_succ, List.set_cons_zero, List.set_cons_succ, List.length_cons, List.length_nil, Mi.wC, Mi.wVar, Mi.wVarO, Mi.wOp, Mi.wUn, Mi.wCmp, Mi.wCmpT, Mi.wChainT, Mi.wChain, Mi.wTru, Mi.wAndT, Mi.wOrT, Mi.wNotT, Mi.wAnd, Mi.wOr, Mi.wNot, Mi.wIfE, Mi.wNoPart, Mi.wPart, Mi.wSl, Mi.wNil, Mi.wCons, Mi.wTup, Mi.wLst, Mi.wNext, Mi.wSeq, Mi.wFreeze, Mi.wForget, Mi.wBreak, Mi.wCont, Mi.wRet, Mi.wRetO, Mi.wRetN, Mi.wDrop, Mi.wIf, Mi.wNever, Mi.wAsg, Mi.wSetO, Mi.wPar, Mi.wAug, Mi.wApp, Mi.wSetIx, Mi.wExt, Mi.wItems, Mi.wRng1, Mi.wRng2, Mi.wRng3, Mi.wEnum, Mi.wZip, Mi.wYes, Mi.wCall, Mi.wCallX, Mi.wB2, Mi.wMin3, Mi.wIsi, Mi.wGuard, Mi.wGuardD, Mi.wRaise, Mi.wEnumS, Mi.wListR, Mi.wJoin, Mi.wMet, Mi.wMet0, Mi.wPop, Mi.wdNil, Mi.wdCons, Mi.wDisp]
        exact h ns hl hb
def c_ldist : CT := fun ds EX P => ∃ s t : PySem.Str, ds = [.str s, .str t] ∧ s.length ≤ 1000000 ∧ t.length ≤ 1000000 ∧ P (.int (dist (codes s) (codes t) : Nat))
abbrev s_law_distance : Stmt := topS 21
abbrev N_law_distance : List Str := ["first", "second", "before", "i", "row", "j"]
theorem sc_law_distance : FnScope N_law_distance ["first", "second"] (defScope s_law_distance) := ⟨rfl, rfl, rfl, by decide +kernel, rfl, by decide +kernel, by decide +kernel⟩
theorem ok_law_distance {f : Addr} {fd : FuncData} (F : Fun K "_law_distance" "_law_distance" s_law_distance f fd) (T : Txt mg)  : FnOk P w K mg base CX0 (0 + 1) f fd ["first", "second"] (spD K g false c_ldist) := by
  refine Mi.Fun.data F sc_law_distance (fun ds EX Q ⟨_, _, h, _⟩ => by rw [h]; rfl) (fun cdv A outer s H E S0 H0 hr => (ms_cons (ms_set 2 sc_law_distance.nd (me_ofF (mf_listR rfl T.list T.range rfl rfl (mo_of (me_add (mo_of (me_len T.len rfl (mo_var 1))) (mo_of me_int))))))
  (ms_cut (ms_for (vs := [3]) PassesOwn.never rfl (mi_range1 rfl T.range (mo_of (me_len T.len rfl (mo_var 0)))) (mg_name 3 sc_law_distance.nd)
  (ms_cons (ms_setO 4 sc_law_distance.nd (mf_lst (ma_cons (me_add (mo_var 3) (mo_of me_int)) ma_nil)))
  (ms_cut (ms_for (vs := [5]) PassesOwn.never rfl (mi_range1 rfl T.range (mo_of (me_len T.len rfl (mo_var 1)))) (mg_name 5 sc_law_distance.nd)
  (ms_one (ms_app 4 (me_min3 rfl T.min rfl (mo_of (me_add (mo_of (me_ix hr.units (mo_var 4) (mo_var 5))) (mo_of me_int))) (mo_of (me_add (mo_of (me_ix hr.units (mo_var 2) (mo_of (me_add (mo_var 5) (mo_of me_int))))) (mo_of me_int))) (mo_of (me_add (mo_of (me_ix hr.units (mo_var 2) (mo_var 5))) (mo_of (me_int1 T.int rfl (mo_of (me_ne hr.units (mo_of (me_ix hr.units (mo_var 0) (mo_var 3))) (mo_of (me_ix hr.units (mo_var 1) (mo_var 5)))))))))))))
  (ms_freeze 4 (ms_one (ms_set 2 sc_law_distance.nd (me_var 4)))))))
  (ms_one (ms_ret rfl (me_ix hr.units (mo_var 2) (mo_of (me_neg (mo_of me_int))))))))) (fun ds Q h => ?_) (fun ds EX Q h => h)
  obtain ⟨s, t, rfl, hs, ht, h⟩ := h
  have hls : s.length = (codes s).length := str_len s
  have hlt : t.length = (codes t).length := str_len t
  have rget : ∀ (q : List Nat) (k : Nat), k ≤ t.length → ((rowOf q (codes t)).map fun (n : Nat) => D.int n)[k]? = some (.int (rowAt q (codes t) k : Nat)) := fun q k hk => by
    rw [List.getElem?_map, rowOf_get (by omega)]; rfl
  simp only [e_qI, e_qIC, e_add1, e_add2, e_add3, e_add4, e_catL, e_aug1, e_aug2, e_mul1, e_mul2, e_rep, e_div, e_mod, e_neg, e_ord1, e_ord2, e_isn, e_nin, e_non1, e_non2, e_non3, e_non4, e_non5, e_non6, e_tru1, e_tru2, e_tru3, e_tru4, e_tru5, e_tru6, e_tru7, e_sl1, e_sl2, e_sl3, e_sl4, e_rev, e_it1, e_it2, e_it3, e_len1, e_len2, e_len3, e_len4, e_int1, e_int2, e_int3, e_min, e_max, e_min3, e_lst1, e_lst2, e_tup1, e_tup2, e_str, e_abs, e_lenS, e_ixS, isi_list_bl, isi_str_lst, isi_str_tup, isi_str_bl, isi_int_lst, isi_int_tup, isi_bool_non, isi_bool_str, isi_bool_lst, isi_bool_tup, isi_tup_lst, isi_tup_non, isi_tup_str, isi_tup_int, isi_tup_bl, e_attr, e_inD, e_ixD, e_ixS1, eq_self, Mi.qNotIn, Mi.qLt, Mi.qLe, Mi.qGt, Mi.qGe, List.map_cons, List.map_nil, List.length_map, true_and, and_true, Bool.false_eq_true, if_false, if_true, Bool.not_true, Bool.not_false, qEq_int, qEq_str, qEq_bl, qNe_int, qNe_str, qNe_bl, line0, line1, line2, line3, line4, line6, line7, line10, isi_list_lst, isi_list_tup, isi_list_non, isi_list_str, isi_list_int, isi_tup_tup, isi_bool_bl, isi_bool_int, isi_int_int, isi_int_bl, isi_int_non, isi_int_str, isi_str_str, isi_str_non, isi_str_int, startE_c, startE_n, startE_e, wFor_e, wLc_e, wipeE, wgName, wgTup, wgCons, wgNil, List.getElem?_cons_zero, List.getElem?_cons_succ, List.set_cons_zero, List.set_cons_succ, List.length_cons, List.length_nil, Mi.wC, Mi.wVar, Mi.wVarO, Mi.wOp, Mi.wUn, Mi.wCmp, Mi.wCmpT, Mi.wChainT, Mi.wChain, Mi.wTru, Mi.wAndT, Mi.wOrT, Mi.wNotT, Mi.wAnd, Mi.wOr, Mi.wNot, Mi.wIfE, Mi.wNoPart, Mi.wPart, Mi.wSl, Mi.wNil, Mi.wCons, Mi.wTup, Mi.wLst, Mi.wNext, Mi.wSeq, Mi.wFreeze, Mi.wForget, Mi.wBreak, Mi.wCont, Mi.wRet, Mi.wRetO, Mi.wRetN, Mi.wDrop, Mi.wIf, Mi.wNever, Mi.wAsg, Mi.wSetO, Mi.wPar, Mi.wAug, Mi.wApp, Mi.wSetIx, Mi.wExt, Mi.wItems, Mi.wRng1, Mi.wRng2, Mi.wRng3, Mi.wEnum, Mi.wZip, Mi.wYes, Mi.wCall, Mi.wCallX, Mi.wB2, Mi.wMin3, Mi.wIsi, Mi.wGuard, Mi.wGuardD, Mi.wRaise, Mi.wEnumS, Mi.wListR, Mi.wJoin, Mi.wMet, Mi.wMet0, Mi.wPop, Mi.wdNil, Mi.wdCons, Mi.wDisp]
  refine ⟨leL (by omega), by omega, by omega, ?_⟩
  have e0 : D.lst (rangeD 0 ((t.length : Int) + 1).toNat) = rowD (rowOf [] (codes t)) := by
    rw [rowOf_nil, ← hlt]
    unfold rangeD rowD
    have e1 : ((t.length : Int) + 1).toNat = t.length + 1 := by omega
    rw [e1]
    congr 1
    exact List.map_congr_left fun k _ => by rw [Int.zero_add]
  rw [e0]
  refine cut_i (fun δ' => ∃ c3 c4 c5, δ' = [st (.str s), st (.str t), st (rowD (rowOf (codes s) (codes t))), c3, c4, c5]) ?_ ?_
  · simp only [e_qI, e_qIC, e_add1, e_add2, e_add3, e_add4, e_catL, e_aug1, e_aug2, e_mul1, e_mul2, e_rep, e_div, e_mod, e_neg, e_ord1, e_ord2, e_isn, e_nin, e_non1, e_non2, e_non3, e_non4, e_non5, e_non6, e_tru1, e_tru2, e_tru3, e_tru4, e_tru5, e_tru6, e_tru7, e_sl1, e_sl2, e_sl3, e_sl4, e_rev, e_it1, e_it2, e_it3, e_len1, e_len2, e_len3, e_len4, e_int1, e_int2, e_int3, e_min, e_max, e_min3, e_lst1, e_lst2, e_tup1, e_tup2, e_str, e_abs, e_lenS, e_ixS, isi_list_bl, isi_str_lst, isi_str_tup, isi_str_bl, isi_int_lst, isi_int_tup, isi_bool_non, isi_bool_str, isi_bool_lst, isi_bool_tup, isi_tup_lst, isi_tup_non, isi_tup_str, isi_tup_int, isi_tup_bl, e_attr, e_inD, e_ixD, e_ixS1, eq_self, Mi.qNotIn, Mi.qLt, Mi.qLe, Mi.qGt, Mi.qGe, List.map_cons, List.map_nil, List.length_map, true_and, and_true, Bool.false_eq_true, if_false, if_true, Bool.not_true, Bool.not_false, qEq_int, qEq_str, qEq_bl, qNe_int, qNe_str, qNe_bl, line0, line1, line2, line3, line4, line6, line7, line10, isi_list_lst, isi_list_tup, isi_list_non, isi_list_str, isi_list_int, isi_tup_tup, isi_bool_bl, isi_bool_int, isi_int_int, isi_int_bl, isi_int_non, isi_int_str, isi_str_str, isi_str_non, isi_str_int, startE_c, startE_n, startE_e, wFor_e, wLc_e, wipeE, wgName, wgTup, wgCons, wgNil, List.getElem?_cons_zero, List.getElem?_cons_succ, List.set_cons_zero, List.set_cons_succ, List.length_cons, List.length_nil, Mi.wC, Mi.wVar, Mi.wVarO, Mi.wOp, Mi.wUn, Mi.wCmp, Mi.wCmpT, Mi.wChainT, Mi.wChain, Mi.wTru, Mi.wAndT, Mi.wOrT, Mi.wNotT, Mi.wAnd, Mi.wOr, Mi.wNot, Mi.wIfE, Mi.wNoPart, Mi.wPart, Mi.wSl, Mi.wNil, Mi.wCons, Mi.wTup, Mi.wLst, Mi.wNext, Mi.wSeq, Mi.wFreeze, Mi.wForget, Mi.wBreak, Mi.wCont, Mi.wRet, Mi.wRetO, Mi.wRetN, Mi.wDrop, Mi.wIf, Mi.wNever, Mi.wAsg, Mi.wSetO, Mi.wPar, Mi.wAug, Mi.wApp, Mi.wSetIx, Mi.wExt, Mi.wItems, Mi.wRng1, Mi.wRng2, Mi.wRng3, Mi.wEnum, Mi.wZip, Mi.wYes, Mi.wCall, Mi.wCallX, Mi.wB2, Mi.wMin3, Mi.wIsi, Mi.wGuard, Mi.wGuardD, Mi.wRaise, Mi.wEnumS, Mi.wListR, Mi.wJoin, Mi.wMet, Mi.wMet0, Mi.wPop, Mi.wdNil, Mi.wdCons, Mi.wDisp]
    refine ⟨leL (by omega), by omega, by omega, ?_⟩
    rw [Int.toNat_natCast]
    refine for_i (fun i δ' => ∃ c3 c4 c5, δ' = [st (.str s), st (.str t), st (rowD (rowOf ((codes s).take i) (codes t))), c3, c4, c5]) ⟨none, none, none, rfl⟩ ?_ ?_
    · rintro i d δ' hk ⟨c3, c4, c5, rfl⟩
      obtain ⟨hi, rfl⟩ := rangeD_of hk
      have his : i < (codes s).length := by omega
      have hic : s.cps.toList[i]? = some ((codes s)[i]) := by
        show (codes s)[i]? = _
        rw [List.getElem?_eq_getElem his]
      simp only [e_qI, e_qIC, e_add1, e_add2, e_add3, e_add4, e_catL, e_aug1, e_aug2, e_mul1, e_mul2, e_rep, e_div, e_mod, e_neg, e_ord1, e_ord2, e_isn, e_nin, e_non1, e_non2, e_non3, e_non4, e_non5, e_non6, e_tru1, e_tru2, e_tru3, e_tru4, e_tru5, e_tru6, e_tru7, e_sl1, e_sl2, e_sl3, e_sl4, e_rev, e_it1, e_it2, e_it3, e_len1, e_len2, e_len3, e_len4, e_int1, e_int2, e_int3, e_min, e_max, e_min3, e_lst1, e_lst2, e_tup1, e_tup2, e_str, e_abs, e_lenS, e_ixS, isi_list_bl, isi_str_lst, isi_str_tup, isi_str_bl, isi_int_lst, isi_int_tup, isi_bool_non, isi_bool_str, isi_bool_lst, isi_bool_tup, isi_tup_lst, isi_tup_non, isi_tup_str, isi_tup_int, isi_tup_bl, e_attr, e_inD, e_ixD, e_ixS1, eq_self, Mi.qNotIn, Mi.qLt, Mi.qLe, Mi.qGt, Mi.qGe, List.map_cons, List.map_nil, List.length_map, true_and, and_true, Bool.false_eq_true, if_false, if_true, Bool.not_true, Bool.not_false, qEq_int, qEq_str, qEq_bl, qNe_int, qNe_str, qNe_bl, line0, line1, line2, line3, line4, line6, line7, line10, isi_list_lst, isi_list_tup, isi_list_non, isi_list_str, isi_list_int, isi_tup_tup, isi_bool_bl, isi_bool_int, isi_int_int, isi_int_bl, isi_int_non, isi_int_str, isi_str_str, isi_str_non, isi_str_int, startE_c, startE_n, startE_e, wFor_e, wLc_e, wipeE, wgName, wgTup, wgCons, wgNil, List.getElem?_cons_zero, List.getElem?_cons_succ, List.set_cons_zero, List.set_cons_succ, List.length_cons, List.length_nil, Mi.wC, Mi.wVar, Mi.wVarO, Mi.wOp, Mi.wUn, Mi.wCmp, Mi.wCmpT, Mi.wChainT, Mi.wChain, Mi.wTru, Mi.wAndT, Mi.wOrT, Mi.wNotT, Mi.wAnd, Mi.wOr, Mi.wNot, Mi.wIfE, Mi.wNoPart, Mi.wPart, Mi.wSl, Mi.wNil, Mi.wCons, Mi.wTup, Mi.wLst, Mi.wNext, Mi.wSeq, Mi.wFreeze, Mi.wForget, Mi.wBreak, Mi.wCont, Mi.wRet, Mi.wRetO, Mi.wRetN, Mi.wDrop, Mi.wIf, Mi.wNever, Mi.wAsg, Mi.wSetO, Mi.wPar, Mi.wAug, Mi.wApp, Mi.wSetIx, Mi.wExt, Mi.wItems, Mi.wRng1, Mi.wRng2, Mi.wRng3, Mi.wEnum, Mi.wZip, Mi.wYes, Mi.wCall, Mi.wCallX, Mi.wB2, Mi.wMin3, Mi.wIsi, Mi.wGuard, Mi.wGuardD, Mi.wRaise, Mi.wEnumS, Mi.wListR, Mi.wJoin, Mi.wMet, Mi.wMet0, Mi.wPop, Mi.wdNil, Mi.wdCons, Mi.wDisp, Int.zero_add]
      have er : ∀ k, rowAt ((codes s).take i ++ [(codes s)[i]]) (codes t) k = rowAt ((codes s).take (i + 1)) (codes t) k := fun k => by rw [List.take_succ_eq_append_getElem his]
      refine cut_i (fun δ' => ∃ c5, δ' = [st (.str s), st (.str t), st (rowD (rowOf ((codes s).take i) (codes t))), st (.int (i : Nat)), ow (rowD (rowOf ((codes s).take (i + 1)) (codes t))), c5]) ?_ ?_
      · simp only [e_qI, e_qIC, e_add1, e_add2, e_add3, e_add4, e_catL, e_aug1, e_aug2, e_mul1, e_mul2, e_rep, e_div, e_mod, e_neg, e_ord1, e_ord2, e_isn, e_nin, e_non1, e_non2, e_non3, e_non4, e_non5, e_non6, e_tru1, e_tru2, e_tru3, e_tru4, e_tru5, e_tru6, e_tru7, e_sl1, e_sl2, e_sl3, e_sl4, e_rev, e_it1, e_it2, e_it3, e_len1, e_len2, e_len3, e_len4, e_int1, e_int2, e_int3, e_min, e_max, e_min3, e_lst1, e_lst2, e_tup1, e_tup2, e_str, e_abs, e_lenS, e_ixS, isi_list_bl, isi_str_lst, isi_str_tup, isi_str_bl, isi_int_lst, isi_int_tup, isi_bool_non, isi_bool_str, isi_bool_lst, isi_bool_tup, isi_tup_lst, isi_tup_non, isi_tup_str, isi_tup_int, isi_tup_bl, e_attr, e_inD, e_ixD, e_ixS1, eq_self, Mi.qNotIn, Mi.qLt, Mi.qLe, Mi.qGt, Mi.qGe, List.map_cons, List.map_nil, List.length_map, true_and, and_true, Bool.false_eq_true, if_false, if_true, Bool.not_true, Bool.not_false, qEq_int, qEq_str, qEq_bl, qNe_int, qNe_str, qNe_bl, line0, line1, line2, line3, line4, line6, line7, line10, isi_list_lst, isi_list_tup, isi_list_non, isi_list_str, isi_list_int, isi_tup_tup, isi_bool_bl, isi_bool_int, isi_int_int, isi_int_bl, isi_int_non, isi_int_str, isi_str_str, isi_str_non, isi_str_int, startE_c, startE_n, startE_e, wFor_e, wLc_e, wipeE, wgName, wgTup, wgCons, wgNil, List.getElem?_cons_zero, List.getElem?_cons_succ, List.set_cons_zero, List.set_cons_succ, List.length_cons, List.length_nil, Mi.wC, Mi.wVar, Mi.wVarO, Mi.wOp, Mi.wUn, Mi.wCmp, Mi.wCmpT, Mi.wChainT, Mi.wChain, Mi.wTru, Mi.wAndT, Mi.wOrT, Mi.wNotT, Mi.wAnd, Mi.wOr, Mi.wNot, Mi.wIfE, Mi.wNoPart, Mi.wPart, Mi.wSl, Mi.wNil, Mi.wCons, Mi.wTup, Mi.wLst, Mi.wNext, Mi.wSeq, Mi.wFreeze, Mi.wForget, Mi.wBreak, Mi.wCont, Mi.wRet, Mi.wRetO, Mi.wRetN, Mi.wDrop, Mi.wIf, Mi.wNever, Mi.wAsg, Mi.wSetO, Mi.wPar, Mi.wAug, Mi.wApp, Mi.wSetIx, Mi.wExt, Mi.wItems, Mi.wRng1, Mi.wRng2, Mi.wRng3, Mi.wEnum, Mi.wZip, Mi.wYes, Mi.wCall, Mi.wCallX, Mi.wB2, Mi.wMin3, Mi.wIsi, Mi.wGuard, Mi.wGuardD, Mi.wRaise, Mi.wEnumS, Mi.wListR, Mi.wJoin, Mi.wMet, Mi.wMet0, Mi.wPop, Mi.wdNil, Mi.wdCons, Mi.wDisp]
        refine ⟨leL (by omega), by omega, by omega, ?_⟩
        rw [Int.toNat_natCast]
        refine for_i (fun k δ' => ∃ c5, δ' = [st (.str s), st (.str t), st (rowD (rowOf ((codes s).take i) (codes t))), st (.int (i : Nat)), ow (.lst ((List.range (k + 1)).map fun j => D.int (rowAt ((codes s).take (i + 1)) (codes t) j : Nat))), c5]) ⟨c5, ?_⟩ ?_ ?_
        · show _ = [_, _, _, _, ow (.lst [D.int (rowAt ((codes s).take (i + 1)) (codes t) 0 : Nat)]), _]
          rw [rowAt_zero, List.length_take, Nat.min_eq_left (by omega)]
          simp
        · rintro k d δ' hk ⟨c5, rfl⟩
          obtain ⟨hk, rfl⟩ := rangeD_of hk
          have hkt : k < (codes t).length := by omega
          have hkc : t.cps.toList[k]? = some ((codes t)[k]) := by
            show (codes t)[k]? = _
            rw [List.getElem?_eq_getElem hkt]
          simp only [e_qI, e_qIC, e_add1, e_add2, e_add3, e_add4, e_catL, e_aug1, e_aug2, e_mul1, e_mul2, e_rep, e_div, e_mod, e_neg, e_ord1, e_ord2, e_isn, e_nin, e_non1, e_non2, e_non3, e_non4, e_non5, e_non6, e_tru1, e_tru2, e_tru3, e_tru4, e_tru5, e_tru6, e_tru7, e_sl1, e_sl2, e_sl3, e_sl4, e_rev, e_it1, e_it2, e_it3, e_len1, e_len2, e_len3, e_len4, e_int1, e_int2, e_int3, e_min, e_max, e_min3, e_lst1, e_lst2, e_tup1, e_tup2, e_str, e_abs, e_lenS, e_ixS, isi_list_bl, isi_str_lst, isi_str_tup, isi_str_bl, isi_int_lst, isi_int_tup, isi_bool_non, isi_bool_str, isi_bool_lst, isi_bool_tup, isi_tup_lst, isi_tup_non, isi_tup_str, isi_tup_int, isi_tup_bl, e_attr, e_inD, e_ixD, e_ixS1, eq_self, Mi.qNotIn, Mi.qLt, Mi.qLe, Mi.qGt, Mi.qGe, List.map_cons, List.map_nil, List.length_map, true_and, and_true, Bool.false_eq_true, if_false, if_true, Bool.not_true, Bool.not_false, qEq_int, qEq_str, qEq_bl, qNe_int, qNe_str, qNe_bl, line0, line1, line2, line3, line4, line6, line7, line10, isi_list_lst, isi_list_tup, isi_list_non, isi_list_str, isi_list_int, isi_tup_tup, isi_bool_bl, isi_bool_int, isi_int_int, isi_int_bl, isi_int_non, isi_int_str, isi_str_str, isi_str_non, isi_str_int, startE_c, startE_n, startE_e, wFor_e, wLc_e, wipeE, wgName, wgTup, wgCons, wgNil, List.getElem?_cons_zero, List.getElem?_cons_succ, List.set_cons_zero, List.set_cons_succ, List.length_cons, List.length_nil, Mi.wC, Mi.wVar, Mi.wVarO, Mi.wOp, Mi.wUn, Mi.wCmp, Mi.wCmpT, Mi.wChainT, Mi.wChain, Mi.wTru, Mi.wAndT, Mi.wOrT, Mi.wNotT, Mi.wAnd, Mi.wOr, Mi.wNot, Mi.wIfE, Mi.wNoPart, Mi.wPart, Mi.wSl, Mi.wNil, Mi.wCons, Mi.wTup, Mi.wLst, Mi.wNext, Mi.wSeq, Mi.wFreeze, Mi.wForget, Mi.wBreak, Mi.wCont, Mi.wRet, Mi.wRetO, Mi.wRetN, Mi.wDrop, Mi.wIf, Mi.wNever, Mi.wAsg, Mi.wSetO, Mi.wPar, Mi.wAug, Mi.wApp, Mi.wSetIx, Mi.wExt, Mi.wItems, Mi.wRng1, Mi.wRng2, Mi.wRng3, Mi.wEnum, Mi.wZip, Mi.wYes, Mi.wCall, Mi.wCallX, Mi.wB2, Mi.wMin3, Mi.wIsi, Mi.wGuard, Mi.wGuardD, Mi.wRaise, Mi.wEnumS, Mi.wListR, Mi.wJoin, Mi.wMet, Mi.wMet0, Mi.wPop, Mi.wdNil, Mi.wdCons, Mi.wDisp, Int.zero_add]
          refine qIx_lst (i := k) (d := .int (rowAt ((codes s).take (i + 1)) (codes t) k : Nat)) (by simp) ?_
          unfold rowD
          simp only [e_qI, e_qIC, e_add1, e_add2, e_add3, e_add4, e_catL, e_aug1, e_aug2, e_mul1, e_mul2, e_rep, e_div, e_mod, e_neg, e_ord1, e_ord2, e_isn, e_nin, e_non1, e_non2, e_non3, e_non4, e_non5, e_non6, e_tru1, e_tru2, e_tru3, e_tru4, e_tru5, e_tru6, e_tru7, e_sl1, e_sl2, e_sl3, e_sl4, e_rev, e_it1, e_it2, e_it3, e_len1, e_len2, e_len3, e_len4, e_int1, e_int2, e_int3, e_min, e_max, e_min3, e_lst1, e_lst2, e_tup1, e_tup2, e_str, e_abs, e_lenS, e_ixS, isi_list_bl, isi_str_lst, isi_str_tup, isi_str_bl, isi_int_lst, isi_int_tup, isi_bool_non, isi_bool_str, isi_bool_lst, isi_bool_tup, isi_tup_lst, isi_tup_non, isi_tup_str, isi_tup_int, isi_tup_bl, e_attr, e_inD, e_ixD, e_ixS1, eq_self, Mi.qNotIn, Mi.qLt, Mi.qLe, Mi.qGt, Mi.qGe, List.map_cons, List.map_nil, List.length_map, true_and, and_true, Bool.false_eq_true, if_false, if_true, Bool.not_true, Bool.not_false, qEq_int, qEq_str, qEq_bl, qNe_int, qNe_str, qNe_bl, line0, line1, line2, line3, line4, line6, line7, line10, isi_list_lst, isi_list_tup, isi_list_non, isi_list_str, isi_list_int, isi_tup_tup, isi_bool_bl, isi_bool_int, isi_int_int, isi_int_bl, isi_int_non, isi_int_str, isi_str_str, isi_str_non, isi_str_int, startE_c, startE_n, startE_e, wFor_e, wLc_e, wipeE, wgName, wgTup, wgCons, wgNil, List.getElem?_cons_zero, List.getElem?_cons_succ, List.set_cons_zero, List.set_cons_succ, List.length_cons, List.length_nil, Mi.wC, Mi.wVar, Mi.wVarO, Mi.wOp, Mi.wUn, Mi.wCmp, Mi.wCmpT, Mi.wChainT, Mi.wChain, Mi.wTru, Mi.wAndT, Mi.wOrT, Mi.wNotT, Mi.wAnd, Mi.wOr, Mi.wNot, Mi.wIfE, Mi.wNoPart, Mi.wPart, Mi.wSl, Mi.wNil, Mi.wCons, Mi.wTup, Mi.wLst, Mi.wNext, Mi.wSeq, Mi.wFreeze, Mi.wForget, Mi.wBreak, Mi.wCont, Mi.wRet, Mi.wRetO, Mi.wRetN, Mi.wDrop, Mi.wIf, Mi.wNever, Mi.wAsg, Mi.wSetO, Mi.wPar, Mi.wAug, Mi.wApp, Mi.wSetIx, Mi.wExt, Mi.wItems, Mi.wRng1, Mi.wRng2, Mi.wRng3, Mi.wEnum, Mi.wZip, Mi.wYes, Mi.wCall, Mi.wCallX, Mi.wB2, Mi.wMin3, Mi.wIsi, Mi.wGuard, Mi.wGuardD, Mi.wRaise, Mi.wEnumS, Mi.wListR, Mi.wJoin, Mi.wMet, Mi.wMet0, Mi.wPop, Mi.wdNil, Mi.wdCons, Mi.wDisp]
          refine qIx_lst (i := k + 1) (rget _ (k + 1) (by omega)) ?_
          simp only [e_qI, e_qIC, e_add1, e_add2, e_add3, e_add4, e_catL, e_aug1, e_aug2, e_mul1, e_mul2, e_rep, e_div, e_mod, e_neg, e_ord1, e_ord2, e_isn, e_nin, e_non1, e_non2, e_non3, e_non4, e_non5, e_non6, e_tru1, e_tru2, e_tru3, e_tru4, e_tru5, e_tru6, e_tru7, e_sl1, e_sl2, e_sl3, e_sl4, e_rev, e_it1, e_it2, e_it3, e_len1, e_len2, e_len3, e_len4, e_int1, e_int2, e_int3, e_min, e_max, e_min3, e_lst1, e_lst2, e_tup1, e_tup2, e_str, e_abs, e_lenS, e_ixS, isi_list_bl, isi_str_lst, isi_str_tup, isi_str_bl, isi_int_lst, isi_int_tup, isi_bool_non, isi_bool_str, isi_bool_lst, isi_bool_tup, isi_tup_lst, isi_tup_non, isi_tup_str, isi_tup_int, isi_tup_bl, e_attr, e_inD, e_ixD, e_ixS1, eq_self, Mi.qNotIn, Mi.qLt, Mi.qLe, Mi.qGt, Mi.qGe, List.map_cons, List.map_nil, List.length_map, true_and, and_true, Bool.false_eq_true, if_false, if_true, Bool.not_true, Bool.not_false, qEq_int, qEq_str, qEq_bl, qNe_int, qNe_str, qNe_bl, line0, line1, line2, line3, line4, line6, line7, line10, isi_list_lst, isi_list_tup, isi_list_non, isi_list_str, isi_list_int, isi_tup_tup, isi_bool_bl, isi_bool_int, isi_int_int, isi_int_bl, isi_int_non, isi_int_str, isi_str_str, isi_str_non, isi_str_int, startE_c, startE_n, startE_e, wFor_e, wLc_e, wipeE, wgName, wgTup, wgCons, wgNil, List.getElem?_cons_zero, List.getElem?_cons_succ, List.set_cons_zero, List.set_cons_succ, List.length_cons, List.length_nil, Mi.wC, Mi.wVar, Mi.wVarO, Mi.wOp, Mi.wUn, Mi.wCmp, Mi.wCmpT, Mi.wChainT, Mi.wChain, Mi.wTru, Mi.wAndT, Mi.wOrT, Mi.wNotT, Mi.wAnd, Mi.wOr, Mi.wNot, Mi.wIfE, Mi.wNoPart, Mi.wPart, Mi.wSl, Mi.wNil, Mi.wCons, Mi.wTup, Mi.wLst, Mi.wNext, Mi.wSeq, Mi.wFreeze, Mi.wForget, Mi.wBreak, Mi.wCont, Mi.wRet, Mi.wRetO, Mi.wRetN, Mi.wDrop, Mi.wIf, Mi.wNever, Mi.wAsg, Mi.wSetO, Mi.wPar, Mi.wAug, Mi.wApp, Mi.wSetIx, Mi.wExt, Mi.wItems, Mi.wRng1, Mi.wRng2, Mi.wRng3, Mi.wEnum, Mi.wZip, Mi.wYes, Mi.wCall, Mi.wCallX, Mi.wB2, Mi.wMin3, Mi.wIsi, Mi.wGuard, Mi.wGuardD, Mi.wRaise, Mi.wEnumS, Mi.wListR, Mi.wJoin, Mi.wMet, Mi.wMet0, Mi.wPop, Mi.wdNil, Mi.wdCons, Mi.wDisp]
          refine qIx_lst (i := k) (rget _ k (by omega)) ?_
          simp only [e_qI, e_qIC, e_add1, e_add2, e_add3, e_add4, e_catL, e_aug1, e_aug2, e_mul1, e_mul2, e_rep, e_div, e_mod, e_neg, e_ord1, e_ord2, e_isn, e_nin, e_non1, e_non2, e_non3, e_non4, e_non5, e_non6, e_tru1, e_tru2, e_tru3, e_tru4, e_tru5, e_tru6, e_tru7, e_sl1, e_sl2, e_sl3, e_sl4, e_rev, e_it1, e_it2, e_it3, e_len1, e_len2, e_len3, e_len4, e_int1, e_int2, e_int3, e_min, e_max, e_min3, e_lst1, e_lst2, e_tup1, e_tup2, e_str, e_abs, e_lenS, e_ixS, isi_list_bl, isi_str_lst, isi_str_tup, isi_str_bl, isi_int_lst, isi_int_tup, isi_bool_non, isi_bool_str, isi_bool_lst, isi_bool_tup, isi_tup_lst, isi_tup_non, isi_tup_str, isi_tup_int, isi_tup_bl, e_attr, e_inD, e_ixD, e_ixS1, eq_self, Mi.qNotIn, Mi.qLt, Mi.qLe, Mi.qGt, Mi.qGe, List.map_cons, List.map_nil, List.length_map, true_and, and_true, Bool.false_eq_true, if_false, if_true, Bool.not_true, Bool.not_false, qEq_int, qEq_str, qEq_bl, qNe_int, qNe_str, qNe_bl, line0, line1, line2, line3, line4, line6, line7, line10, isi_list_lst, isi_list_tup, isi_list_non, isi_list_str, isi_list_int, isi_tup_tup, isi_bool_bl, isi_bool_int, isi_int_int, isi_int_bl, isi_int_non, isi_int_str, isi_str_str, isi_str_non, isi_str_int, startE_c, startE_n, startE_e, wFor_e, wLc_e, wipeE, wgName, wgTup, wgCons, wgNil, List.getElem?_cons_zero, List.getElem?_cons_succ, List.set_cons_zero, List.set_cons_succ, List.length_cons, List.length_nil, Mi.wC, Mi.wVar, Mi.wVarO, Mi.wOp, Mi.wUn, Mi.wCmp, Mi.wCmpT, Mi.wChainT, Mi.wChain, Mi.wTru, Mi.wAndT, Mi.wOrT, Mi.wNotT, Mi.wAnd, Mi.wOr, Mi.wNot, Mi.wIfE, Mi.wNoPart, Mi.wPart, Mi.wSl, Mi.wNil, Mi.wCons, Mi.wTup, Mi.wLst, Mi.wNext, Mi.wSeq, Mi.wFreeze, Mi.wForget, Mi.wBreak, Mi.wCont, Mi.wRet, Mi.wRetO, Mi.wRetN, Mi.wDrop, Mi.wIf, Mi.wNever, Mi.wAsg, Mi.wSetO, Mi.wPar, Mi.wAug, Mi.wApp, Mi.wSetIx, Mi.wExt, Mi.wItems, Mi.wRng1, Mi.wRng2, Mi.wRng3, Mi.wEnum, Mi.wZip, Mi.wYes, Mi.wCall, Mi.wCallX, Mi.wB2, Mi.wMin3, Mi.wIsi, Mi.wGuard, Mi.wGuardD, Mi.wRaise, Mi.wEnumS, Mi.wListR, Mi.wJoin, Mi.wMet, Mi.wMet0, Mi.wPop, Mi.wdNil, Mi.wdCons, Mi.wDisp]
          refine ⟨leL (by omega), ?_⟩
          rw [Mi.atI_nat hic]
          simp only [Option.map_some, optD_some]
          refine ⟨leL (by omega), ?_⟩
          rw [Mi.atI_nat hkc]
          simp only [Option.map_some, optD_some, e_qI, e_qIC, e_add1, e_add2, e_add3, e_add4, e_catL, e_aug1, e_aug2, e_mul1, e_mul2, e_rep, e_div, e_mod, e_neg, e_ord1, e_ord2, e_isn, e_nin, e_non1, e_non2, e_non3, e_non4, e_non5, e_non6, e_tru1, e_tru2, e_tru3, e_tru4, e_tru5, e_tru6, e_tru7, e_sl1, e_sl2, e_sl3, e_sl4, e_rev, e_it1, e_it2, e_it3, e_len1, e_len2, e_len3, e_len4, e_int1, e_int2, e_int3, e_min, e_max, e_min3, e_lst1, e_lst2, e_tup1, e_tup2, e_str, e_abs, e_lenS, e_ixS, isi_list_bl, isi_str_lst, isi_str_tup, isi_str_bl, isi_int_lst, isi_int_tup, isi_bool_non, isi_bool_str, isi_bool_lst, isi_bool_tup, isi_tup_lst, isi_tup_non, isi_tup_str, isi_tup_int, isi_tup_bl, e_attr, e_inD, e_ixD, e_ixS1, eq_self, Mi.qNotIn, Mi.qLt, Mi.qLe, Mi.qGt, Mi.qGe, List.map_cons, List.map_nil, List.length_map, true_and, and_true, Bool.false_eq_true, if_false, if_true, Bool.not_true, Bool.not_false, qEq_int, qEq_str, qEq_bl, qNe_int, qNe_str, qNe_bl, line0, line1, line2, line3, line4, line6, line7, line10, isi_list_lst, isi_list_tup, isi_list_non, isi_list_str, isi_list_int, isi_tup_tup, isi_bool_bl, isi_bool_int, isi_int_int, isi_int_bl, isi_int_non, isi_int_str, isi_str_str, isi_str_non, isi_str_int, startE_c, startE_n, startE_e, wFor_e, wLc_e, wipeE, wgName, wgTup, wgCons, wgNil, List.getElem?_cons_zero, List.getElem?_cons_succ, List.set_cons_zero, List.set_cons_succ, List.length_cons, List.length_nil, Mi.wC, Mi.wVar, Mi.wVarO, Mi.wOp, Mi.wUn, Mi.wCmp, Mi.wCmpT, Mi.wChainT, Mi.wChain, Mi.wTru, Mi.wAndT, Mi.wOrT, Mi.wNotT, Mi.wAnd, Mi.wOr, Mi.wNot, Mi.wIfE, Mi.wNoPart, Mi.wPart, Mi.wSl, Mi.wNil, Mi.wCons, Mi.wTup, Mi.wLst, Mi.wNext, Mi.wSeq, Mi.wFreeze, Mi.wForget, Mi.wBreak, Mi.wCont, Mi.wRet, Mi.wRetO, Mi.wRetN, Mi.wDrop, Mi.wIf, Mi.wNever, Mi.wAsg, Mi.wSetO, Mi.wPar, Mi.wAug, Mi.wApp, Mi.wSetIx, Mi.wExt, Mi.wItems, Mi.wRng1, Mi.wRng2, Mi.wRng3, Mi.wEnum, Mi.wZip, Mi.wYes, Mi.wCall, Mi.wCallX, Mi.wB2, Mi.wMin3, Mi.wIsi, Mi.wGuard, Mi.wGuardD, Mi.wRaise, Mi.wEnumS, Mi.wListR, Mi.wJoin, Mi.wMet, Mi.wMet0, Mi.wPop, Mi.wdNil, Mi.wdCons, Mi.wDisp]
          refine ⟨ltL (by simp; omega), st (.int (k : Nat)), ?_⟩
          have hst := rowAt_step (t := (codes s).take i) (c := (codes s)[i]) hkt
          rw [er, er] at hst
          rw [List.range_succ (n := k + 1), List.map_append]
          show _ = [_, _, _, _, ow (.lst (_ ++ [D.int (rowAt ((codes s).take (i + 1)) (codes t) (k + 1) : Nat)])), _]
          have e2 : min (min ((rowAt ((codes s).take (i + 1)) (codes t) k : Int) + 1) ((rowAt ((codes s).take i) (codes t) (k + 1) : Int) + 1)) ((rowAt ((codes s).take i) (codes t) k : Int) + if (!decide ((⟨#[(codes s)[i]]⟩ : PySem.Str) = ⟨#[(codes t)[k]]⟩)) = true then 1 else 0) = ((rowAt ((codes s).take (i + 1)) (codes t) (k + 1) : Nat) : Int) := by
            rw [hst]
            by_cases q : (codes t)[k] = (codes s)[i]
            · have : decide ((⟨#[(codes s)[i]]⟩ : PySem.Str) = ⟨#[(codes t)[k]]⟩) = true := decide_eq_true (by rw [q])
              rw [this, if_pos q]; simp only [Bool.not_true, Bool.false_eq_true, if_false]; omega
            · have : decide ((⟨#[(codes s)[i]]⟩ : PySem.Str) = ⟨#[(codes t)[k]]⟩) = false := decide_eq_false fun z => q (sg_inj (a := (codes s)[i]) (b := (codes t)[k]) z).symm
              rw [this, if_neg q]; simp only [Bool.not_false, if_true]; omega
          rw [e2]
        · rintro δ' ⟨c5, rfl⟩
          rw [rangeD_len]
          refine ⟨c5, ?_⟩
          rw [rowD_eq t ((codes s).take (i + 1))]
      · rintro δ' ⟨c5, rfl⟩
        simp only [e_qI, e_qIC, e_add1, e_add2, e_add3, e_add4, e_catL, e_aug1, e_aug2, e_mul1, e_mul2, e_rep, e_div, e_mod, e_neg, e_ord1, e_ord2, e_isn, e_nin, e_non1, e_non2, e_non3, e_non4, e_non5, e_non6, e_tru1, e_tru2, e_tru3, e_tru4, e_tru5, e_tru6, e_tru7, e_sl1, e_sl2, e_sl3, e_sl4, e_rev, e_it1, e_it2, e_it3, e_len1, e_len2, e_len3, e_len4, e_int1, e_int2, e_int3, e_min, e_max, e_min3, e_lst1, e_lst2, e_tup1, e_tup2, e_str, e_abs, e_lenS, e_ixS, isi_list_bl, isi_str_lst, isi_str_tup, isi_str_bl, isi_int_lst, isi_int_tup, isi_bool_non, isi_bool_str, isi_bool_lst, isi_bool_tup, isi_tup_lst, isi_tup_non, isi_tup_str, isi_tup_int, isi_tup_bl, e_attr, e_inD, e_ixD, e_ixS1, eq_self, Mi.qNotIn, Mi.qLt, Mi.qLe, Mi.qGt, Mi.qGe, List.map_cons, List.map_nil, List.length_map, true_and, and_true, Bool.false_eq_true, if_false, if_true, Bool.not_true, Bool.not_false, qEq_int, qEq_str, qEq_bl, qNe_int, qNe_str, qNe_bl, line0, line1, line2, line3, line4, line6, line7, line10, isi_list_lst, isi_list_tup, isi_list_non, isi_list_str, isi_list_int, isi_tup_tup, isi_bool_bl, isi_bool_int, isi_int_int, isi_int_bl, isi_int_non, isi_int_str, isi_str_str, isi_str_non, isi_str_int, startE_c, startE_n, startE_e, wFor_e, wLc_e, wipeE, wgName, wgTup, wgCons, wgNil, List.getElem?_cons_zero, List.getElem?_cons_succ, List.set_cons_zero, List.set_cons_succ, List.length_cons, List.length_nil, Mi.wC, Mi.wVar, Mi.wVarO, Mi.wOp, Mi.wUn, Mi.wCmp, Mi.wCmpT, Mi.wChainT, Mi.wChain, Mi.wTru, Mi.wAndT, Mi.wOrT, Mi.wNotT, Mi.wAnd, Mi.wOr, Mi.wNot, Mi.wIfE, Mi.wNoPart, Mi.wPart, Mi.wSl, Mi.wNil, Mi.wCons, Mi.wTup, Mi.wLst, Mi.wNext, Mi.wSeq, Mi.wFreeze, Mi.wForget, Mi.wBreak, Mi.wCont, Mi.wRet, Mi.wRetO, Mi.wRetN, Mi.wDrop, Mi.wIf, Mi.wNever, Mi.wAsg, Mi.wSetO, Mi.wPar, Mi.wAug, Mi.wApp, Mi.wSetIx, Mi.wExt, Mi.wItems, Mi.wRng1, Mi.wRng2, Mi.wRng3, Mi.wEnum, Mi.wZip, Mi.wYes, Mi.wCall, Mi.wCallX, Mi.wB2, Mi.wMin3, Mi.wIsi, Mi.wGuard, Mi.wGuardD, Mi.wRaise, Mi.wEnumS, Mi.wListR, Mi.wJoin, Mi.wMet, Mi.wMet0, Mi.wPop, Mi.wdNil, Mi.wdCons, Mi.wDisp]
        exact ⟨_, _, c5, rfl⟩
    · rintro δ' ⟨c3, c4, c5, rfl⟩
      rw [rangeD_len, hls, List.take_length]
      exact ⟨c3, c4, c5, rfl⟩
  · rintro δ' ⟨c3, c4, c5, rfl⟩
    simp only [e_qI, e_qIC, e_add1, e_add2, e_add3, e_add4, e_catL, e_aug1, e_aug2, e_mul1, e_mul2, e_rep, e_div, e_mod, e_neg, e_ord1, e_ord2, e_isn, e_nin, e_non1, e_non2, e_non3, e_non4, e_non5, e_non6, e_tru1, e_tru2, e_tru3, e_tru4, e_tru5, e_tru6, e_tru7, e_sl1, e_sl2, e_sl3, e_sl4, e_rev, e_it1, e_it2, e_it3, e_len1, e_len2, e_len3, e_len4, e_int1, e_int2, e_int3, e_min, e_max, e_min3, e_lst1, e_lst2, e_tup1, e_tup2, e_str, e_abs, e_lenS, e_ixS, isi_list_bl, isi_str_lst, isi_str_tup, isi_str_bl, isi_int_lst, isi_int_tup, isi_bool_non, isi_bool_str, isi_bool_lst, isi_bool_tup, isi_tup_lst, isi_tup_non, isi_tup_str, isi_tup_int, isi_tup_bl, e_attr, e_inD, e_ixD, e_ixS1, eq_self, Mi.qNotIn, Mi.qLt, Mi.qLe, Mi.qGt, Mi.qGe, List.map_cons, List.map_nil, List.length_map, true_and, and_true, Bool.false_eq_true, if_false, if_true, Bool.not_true, Bool.not_false, qEq_int, qEq_str, qEq_bl, qNe_int, qNe_str, qNe_bl, line0, line1, line2, line3, line4, line6, line7, line10, isi_list_lst, isi_list_tup, isi_list_non, isi_list_str, isi_list_int, isi_tup_tup, isi_bool_bl, isi_bool_int, isi_int_int, isi_int_bl, isi_int_non, isi_int_str, isi_str_str, isi_str_non, isi_str_int, startE_c, startE_n, startE_e, wFor_e, wLc_e, wipeE, wgName, wgTup, wgCons, wgNil, List.getElem?_cons_zero, List.getElem?_cons_succ, List.set_cons_zero, List.set_cons_succ, List.length_cons, List.length_nil, Mi.wC, Mi.wVar, Mi.wVarO, Mi.wOp, Mi.wUn, Mi.wCmp, Mi.wCmpT, Mi.wChainT, Mi.wChain, Mi.wTru, Mi.wAndT, Mi.wOrT, Mi.wNotT, Mi.wAnd, Mi.wOr, Mi.wNot, Mi.wIfE, Mi.wNoPart, Mi.wPart, Mi.wSl, Mi.wNil, Mi.wCons, Mi.wTup, Mi.wLst, Mi.wNext, Mi.wSeq, Mi.wFreeze, Mi.wForget, Mi.wBreak, Mi.wCont, Mi.wRet, Mi.wRetO, Mi.wRetN, Mi.wDrop, Mi.wIf, Mi.wNever, Mi.wAsg, Mi.wSetO, Mi.wPar, Mi.wAug, Mi.wApp, Mi.wSetIx, Mi.wExt, Mi.wItems, Mi.wRng1, Mi.wRng2, Mi.wRng3, Mi.wEnum, Mi.wZip, Mi.wYes, Mi.wCall, Mi.wCallX, Mi.wB2, Mi.wMin3, Mi.wIsi, Mi.wGuard, Mi.wGuardD, Mi.wRaise, Mi.wEnumS, Mi.wListR, Mi.wJoin, Mi.wMet, Mi.wMet0, Mi.wPop, Mi.wdNil, Mi.wdCons, Mi.wDisp]
    refine qIx_last (d := .int (dist (codes s) (codes t) : Nat)) ?_ h
    rw [List.getLast?_map, rowOf_last]; rfl
theorem abc_at {j : Int} {R : D → Prop} (h0 : 0 ≤ j) (h1 : j < 3) (h : ∀ c, 97 ≤ c → c ≤ 99 → R (.str ⟨#[c]⟩)) : (("abc" : PySem.Str)).length ≤ Line ∧ optD ((L2.atI (("abc" : PySem.Str)).cps.toList j).map fun c => .str ⟨#[c]⟩) R := by
  refine ⟨by decide +kernel, ?_⟩
  have e : (("abc" : PySem.Str)).cps.toList = [97, 98, 99] := by decide +kernel
  rw [e]
  have : j = 0 ∨ j = 1 ∨ j = 2 := by omega
  rcases this with rfl | rfl | rfl
  · exact h 97 (by omega) (by omega)
  · exact h 98 (by omega) (by omega)
  · exact h 99 (by omega) (by omega)
def c_word : CT := fun ds EX P => ∃ n m : Int, ds = [.int n, .int m] ∧ 0 ≤ n ∧ n < 1009 ∧ 1 ≤ m ∧ m ≤ 10 ∧ ∀ s : PySem.Str, 1 ≤ (codes s).length → ((codes s).length : Int) ≤ m → (∀ c ∈ codes s, 97 ≤ c ∧ c ≤ 99) → P (.str s)
abbrev s_law_word : Stmt := topS 22
abbrev N_law_word : List Str := ["n", "many", "size", "k"]
theorem sc_law_word : FnScope N_law_word ["n", "many"] (defScope s_law_word) := ⟨rfl, rfl, rfl, by decide +kernel, rfl, by decide +kernel, by decide +kernel⟩
theorem ok_law_word {f : Addr} {fd : FuncData} (F : Fun K "_law_word" "_law_word" s_law_word f fd) (T : Txt mg)  : FnOk P w K mg base CX0 (0 + 1) f fd ["n", "many"] (spD K g false c_word) := by
  refine Mi.Fun.data F sc_law_word (fun ds EX Q ⟨_, _, h, _⟩ => by rw [h]; rfl) (fun cdv A outer s H E S0 H0 hr => (ms_cons (ms_set 2 sc_law_word.nd (me_add (mo_of me_int) (mo_of (me_modP (mo_var 0) (mo_var 1)))))
  (ms_one (ms_ret rfl (me_join me_str (mo_of (me_ofF (mf_lc (own := [("k", 3)]) rfl sc_law_word.nd (mi_range1 rfl T.range (mo_var 2)) (blkOk_by (N := N_law_word) (sc := defScope s_law_word) (by decide +kernel)) (fun _ _ _ _ _ => (mg_name 3 sc_law_word.nd)) (fun _ _ _ _ _ => mts_nil) (fun _ _ _ _ _ => (me_ix hr.units (mo_of me_str) (mo_of (me_modP (mo_of (me_add (mo_of (me_add (mo_of (me_divP (mo_var 0) (mo_of me_int))) (mo_of (me_mul (mo_var 3) (mo_of (me_add (mo_of me_int) (mo_of (me_modP (mo_of (me_divP (mo_var 0) (mo_of me_int))) (mo_of me_int))))))))) (mo_of (me_mul (mo_of (me_mul (mo_var 3) (mo_var 3))) (mo_of (me_modP (mo_of (me_divP (mo_var 0) (mo_of me_int))) (mo_of me_int))))))) (mo_of me_int))))))))))))) (fun ds Q h => ?_) (fun ds EX Q h => h)
  obtain ⟨n, m, rfl, h0, h1, h2, h3, h⟩ := h
  simp only [e_qI, e_qIC, e_add1, e_add2, e_add3, e_add4, e_catL, e_aug1, e_aug2, e_mul1, e_mul2, e_rep, e_div, e_mod, e_neg, e_ord1, e_ord2, e_isn, e_nin, e_non1, e_non2, e_non3, e_non4, e_non5, e_non6, e_tru1, e_tru2, e_tru3, e_tru4, e_tru5, e_tru6, e_tru7, e_sl1, e_sl2, e_sl3, e_sl4, e_rev, e_it1, e_it2, e_it3, e_len1, e_len2, e_len3, e_len4, e_int1, e_int2, e_int3, e_min, e_max, e_min3, e_lst1, e_lst2, e_tup1, e_tup2, e_str, e_abs, e_lenS, e_ixS, isi_list_bl, isi_str_lst, isi_str_tup, isi_str_bl, isi_int_lst, isi_int_tup, isi_bool_non, isi_bool_str, isi_bool_lst, isi_bool_tup, isi_tup_lst, isi_tup_non, isi_tup_str, isi_tup_int, isi_tup_bl, e_attr, e_inD, e_ixD, e_ixS1, eq_self, Mi.qNotIn, Mi.qLt, Mi.qLe, Mi.qGt, Mi.qGe, List.map_cons, List.map_nil, List.length_map, true_and, and_true, Bool.false_eq_true, if_false, if_true, Bool.not_true, Bool.not_false, qEq_int, qEq_str, qEq_bl, qNe_int, qNe_str, qNe_bl, line0, line1, line2, line3, line4, line6, line7, line10, isi_list_lst, isi_list_tup, isi_list_non, isi_list_str, isi_list_int, isi_tup_tup, isi_bool_bl, isi_bool_int, isi_int_int, isi_int_bl, isi_int_non, isi_int_str, isi_str_str, isi_str_non, isi_str_int, startE_c, startE_n, startE_e, wFor_e, wLc_e, wipeE, wgName, wgTup, wgCons, wgNil, List.getElem?_cons_zero, List.getElem?_cons_succ, List.set_cons_zero, List.set_cons_succ, List.length_cons, List.length_nil, Mi.wC, Mi.wVar, Mi.wVarO, Mi.wOp, Mi.wUn, Mi.wCmp, Mi.wCmpT, Mi.wChainT, Mi.wChain, Mi.wTru, Mi.wAndT, Mi.wOrT, Mi.wNotT, Mi.wAnd, Mi.wOr, Mi.wNot, Mi.wIfE, Mi.wNoPart, Mi.wPart, Mi.wSl, Mi.wNil, Mi.wCons, Mi.wTup, Mi.wLst, Mi.wNext, Mi.wSeq, Mi.wFreeze, Mi.wForget, Mi.wBreak, Mi.wCont, Mi.wRet, Mi.wRetO, Mi.wRetN, Mi.wDrop, Mi.wIf, Mi.wNever, Mi.wAsg, Mi.wSetO, Mi.wPar, Mi.wAug, Mi.wApp, Mi.wSetIx, Mi.wExt, Mi.wItems, Mi.wRng1, Mi.wRng2, Mi.wRng3, Mi.wEnum, Mi.wZip, Mi.wYes, Mi.wCall, Mi.wCallX, Mi.wB2, Mi.wMin3, Mi.wIsi, Mi.wGuard, Mi.wGuardD, Mi.wRaise, Mi.wEnumS, Mi.wListR, Mi.wJoin, Mi.wMet, Mi.wMet0, Mi.wPop, Mi.wdNil, Mi.wdCons, Mi.wDisp]
  have q1 : 0 ≤ n % m := Int.emod_nonneg _ (by omega)
  have q2 : n % m < m := Int.emod_lt_of_pos _ (by omega)
  obtain ⟨N, hN⟩ : ∃ N : Nat, 1 + n % m = (N : Int) := ⟨(1 + n % m).toNat, by omega⟩
  rw [hN]
  refine ⟨by omega, by omega, by omega, ?_⟩
  rw [Int.toNat_natCast]
  refine lc_i (fun i acc => ∃ ys : List PySem.Str, acc = ys.map D.str ∧ ys.length = i ∧ ∀ y ∈ ys, ∃ c, codes y = [c] ∧ 97 ≤ c ∧ c ≤ 99) (by rw [rangeD_len]; exact leL (by omega)) ⟨[], rfl, rfl, fun y hy => by cases hy⟩ ?_ ?_
  · rintro k d acc hk ⟨ys, rfl, hl, hy⟩ _
    obtain ⟨hk, rfl⟩ := rangeD_of hk
    simp only [e_qI, e_qIC, e_add1, e_add2, e_add3, e_add4, e_catL, e_aug1, e_aug2, e_mul1, e_mul2, e_rep, e_div, e_mod, e_neg, e_ord1, e_ord2, e_isn, e_nin, e_non1, e_non2, e_non3, e_non4, e_non5, e_non6, e_tru1, e_tru2, e_tru3, e_tru4, e_tru5, e_tru6, e_tru7, e_sl1, e_sl2, e_sl3, e_sl4, e_rev, e_it1, e_it2, e_it3, e_len1, e_len2, e_len3, e_len4, e_int1, e_int2, e_int3, e_min, e_max, e_min3, e_lst1, e_lst2, e_tup1, e_tup2, e_str, e_abs, e_lenS, e_ixS, isi_list_bl, isi_str_lst, isi_str_tup, isi_str_bl, isi_int_lst, isi_int_tup, isi_bool_non, isi_bool_str, isi_bool_lst, isi_bool_tup, isi_tup_lst, isi_tup_non, isi_tup_str, isi_tup_int, isi_tup_bl, e_attr, e_inD, e_ixD, e_ixS1, eq_self, Mi.qNotIn, Mi.qLt, Mi.qLe, Mi.qGt, Mi.qGe, List.map_cons, List.map_nil, List.length_map, true_and, and_true, Bool.false_eq_true, if_false, if_true, Bool.not_true, Bool.not_false, qEq_int, qEq_str, qEq_bl, qNe_int, qNe_str, qNe_bl, line0, line1, line2, line3, line4, line6, line7, line10, isi_list_lst, isi_list_tup, isi_list_non, isi_list_str, isi_list_int, isi_tup_tup, isi_bool_bl, isi_bool_int, isi_int_int, isi_int_bl, isi_int_non, isi_int_str, isi_str_str, isi_str_non, isi_str_int, startE_c, startE_n, startE_e, wFor_e, wLc_e, wipeE, wgName, wgTup, wgCons, wgNil, List.getElem?_cons_zero, List.getElem?_cons_succ, List.set_cons_zero, List.set_cons_succ, List.length_cons, List.length_nil, Mi.wC, Mi.wVar, Mi.wVarO, Mi.wOp, Mi.wUn, Mi.wCmp, Mi.wCmpT, Mi.wChainT, Mi.wChain, Mi.wTru, Mi.wAndT, Mi.wOrT, Mi.wNotT, Mi.wAnd, Mi.wOr, Mi.wNot, Mi.wIfE, Mi.wNoPart, Mi.wPart, Mi.wSl, Mi.wNil, Mi.wCons, Mi.wTup, Mi.wLst, Mi.wNext, Mi.wSeq, Mi.wFreeze, Mi.wForget, Mi.wBreak, Mi.wCont, Mi.wRet, Mi.wRetO, Mi.wRetN, Mi.wDrop, Mi.wIf, Mi.wNever, Mi.wAsg, Mi.wSetO, Mi.wPar, Mi.wAug, Mi.wApp, Mi.wSetIx, Mi.wExt, Mi.wItems, Mi.wRng1, Mi.wRng2, Mi.wRng3, Mi.wEnum, Mi.wZip, Mi.wYes, Mi.wCall, Mi.wCallX, Mi.wB2, Mi.wMin3, Mi.wIsi, Mi.wGuard, Mi.wGuardD, Mi.wRaise, Mi.wEnumS, Mi.wListR, Mi.wJoin, Mi.wMet, Mi.wMet0, Mi.wPop, Mi.wdNil, Mi.wdCons, Mi.wDisp, Int.zero_add]
    refine ⟨by omega, by omega, by omega, by omega, by omega, .inl (.inl ⟨by omega, by omega⟩), .inl (.inl ⟨by omega, by omega⟩), by omega, by omega, by omega, .inl (.inr ⟨by omega, by omega⟩), by omega, ?_⟩
    refine abc_at (Int.emod_nonneg _ (by omega)) (Int.emod_lt_of_pos _ (by omega)) fun c hc1 hc2 => ⟨ys ++ [⟨#[c]⟩], by rw [List.map_append]; rfl, by rw [List.length_append, hl]; rfl, fun y hy2 => ?_⟩
    rcases List.mem_append.mp hy2 with hy2 | hy2
    · exact hy y hy2
    · rw [List.mem_singleton] at hy2
      subst hy2
      exact ⟨c, rfl, hc1, hc2⟩
  · rintro acc ⟨ys, rfl, hl, hy⟩
    rw [rangeD_len] at hl
    have hone : ∀ zs : List PySem.Str, (∀ y ∈ zs, ∃ c, codes y = [c] ∧ 97 ≤ c ∧ c ≤ 99) → (zs.map (·.length)).sum = zs.length ∧ ((zs.map fun y => y.cps.toList).flatten).length = zs.length ∧ ∀ c ∈ (zs.map fun y => y.cps.toList).flatten, 97 ≤ c ∧ c ≤ 99 := by
      intro zs
      induction zs with
      | nil => intro _; exact ⟨rfl, rfl, fun c hc => by cases hc⟩
      | cons z zs ih =>
        intro hz
        obtain ⟨i1, i2, i3⟩ := ih fun y hy => hz y (List.mem_cons_of_mem _ hy)
        obtain ⟨c, hc, hb⟩ := hz z List.mem_cons_self
        have hc' : z.cps.toList = [c] := hc
        have hzl : z.length = 1 := by rw [str_len, hc']; rfl
        refine ⟨by rw [List.map_cons, List.sum_cons, i1, hzl, List.length_cons]; omega, by rw [List.map_cons, List.flatten_cons, List.length_append, i2, hc']; simp; omega, fun x hx => ?_⟩
        rw [List.map_cons, List.flatten_cons, hc'] at hx
        rcases List.mem_append.mp hx with hx | hx
        · rw [List.mem_singleton] at hx; subst hx; exact hb
        · exact i3 x hx
    obtain ⟨i1, i2, i3⟩ := hone ys hy
    have hem : (("" : PySem.Str)).cps.toList = [] := by decide +kernel
    have hel : (("" : PySem.Str)).length = 0 := by decide +kernel
    refine ⟨ys, rfl, by rw [i1, hel]; omega, ?_⟩
    have ej : codes (Txt.join ("" : PySem.Str) ys) = (ys.map fun y => y.cps.toList).flatten := join_nil _ hem ys
    refine h _ ?_ ?_ ?_
    · rw [ej, i2]; omega
    · rw [ej, i2]; omega
    · rw [ej]; exact i3
/-- what _law_told answers -/
def ans (which : Int) (v m : D) : D := match told v with
  | some i => .int i
  | none => if which = 0 then .non else match apOk m with
    | some _ => .non
    | none => .int (-1)
def c_told : CT := fun ds EX P => ∃ (wh : Int) (v : D) (t : PySem.Str) (m : D), ds = [.int wh, v, .str t, m] ∧ smallL v ∧ kind m ∧ t.length ≤ 1000000 ∧ P (ans wh v m)
abbrev s_law_told : Stmt := topS 23
abbrev N_law_told : List Str := ["which", "listed", "word", "most", "e"]
theorem sc_law_told : FnScope N_law_told ["which", "listed", "word", "most"] (defScope s_law_told) := ⟨rfl, rfl, rfl, by decide +kernel, rfl, by decide +kernel, by decide +kernel⟩
theorem ok_law_told {f : Addr} {fd : FuncData} (F : Fun K "_law_told" "_law_told" s_law_told f fd) (T : Txt mg) {C CB CP : Addr} (Zt : MakX P w K mg base (gT K C) "WordTree" 1 C 4 (c_tree CB)) (Zn : CalX P w K mg base (gT K C) true "near_words" 6 (c_near CB)) (TT : ExcTwo K CB CP) (hno : PySem.W.findIn K (.ref CB) "index" = some none) (hmb : mg "BadPattern" = some (.ref CP)) (hmt : mg "BadWord" = some (.ref CB)) : FnOk P w K mg base CX0 (6 + 1) f fd ["which", "listed", "word", "most"] (spD K (gT K C) false c_told) := by
  refine Mi.Fun.data F sc_law_told (fun ds EX Q ⟨_, _, _, _, h, _⟩ => by rw [h]; rfl) (fun cdv A outer s H E S0 H0 hr => (ms_cons (ms_tryMixed rfl 4 TT hno T.isinstance hmb hmt sc_law_told.nd (fun pn xe EX2 tk2 po2 =>
  (ms_one (ms_if (mt_eq hr.units (mo_var 0) (mo_of me_int))
  (ms_one (ms_expr (me_makX Zt tk2 (hr.mono (by decide)) rfl (ma_cons (me_var 1) ma_nil))))
  (ms_one (ms_expr (me_ofF (mf_callX Zn tk2 (hr.mono (by decide)) rfl (ma_cons (me_var 1) (ma_cons (me_var 2) (ma_cons (me_var 3) ma_nil)))))))))))
  (ms_one (ms_ret rfl me_non)))) (fun ds Q h => ?_) (fun ds EX Q h => h)
  obtain ⟨wh, v, t, m, rfl, hv, hk, hz, h⟩ := h
  simp only [e_qI, e_qIC, e_add1, e_add2, e_add3, e_add4, e_catL, e_aug1, e_aug2, e_mul1, e_mul2, e_rep, e_div, e_mod, e_neg, e_ord1, e_ord2, e_isn, e_nin, e_non1, e_non2, e_non3, e_non4, e_non5, e_non6, e_tru1, e_tru2, e_tru3, e_tru4, e_tru5, e_tru6, e_tru7, e_sl1, e_sl2, e_sl3, e_sl4, e_rev, e_it1, e_it2, e_it3, e_len1, e_len2, e_len3, e_len4, e_int1, e_int2, e_int3, e_min, e_max, e_min3, e_lst1, e_lst2, e_tup1, e_tup2, e_str, e_abs, e_lenS, e_ixS, isi_list_bl, isi_str_lst, isi_str_tup, isi_str_bl, isi_int_lst, isi_int_tup, isi_bool_non, isi_bool_str, isi_bool_lst, isi_bool_tup, isi_tup_lst, isi_tup_non, isi_tup_str, isi_tup_int, isi_tup_bl, e_attr, e_inD, e_ixD, e_ixS1, eq_self, Mi.qNotIn, Mi.qLt, Mi.qLe, Mi.qGt, Mi.qGe, List.map_cons, List.map_nil, List.length_map, true_and, and_true, Bool.false_eq_true, if_false, if_true, Bool.not_true, Bool.not_false, qEq_int, qEq_str, qEq_bl, qNe_int, qNe_str, qNe_bl, line0, line1, line2, line3, line4, line6, line7, line10, isi_list_lst, isi_list_tup, isi_list_non, isi_list_str, isi_list_int, isi_tup_tup, isi_bool_bl, isi_bool_int, isi_int_int, isi_int_bl, isi_int_non, isi_int_str, isi_str_str, isi_str_non, isi_str_int, startE_c, startE_n, startE_e, wFor_e, wLc_e, wipeE, wgName, wgTup, wgCons, wgNil, List.getElem?_cons_zero, List.getElem?_cons_succ, List.set_cons_zero, List.set_cons_succ, List.length_cons, List.length_nil, Mi.wC, Mi.wVar, Mi.wVarO, Mi.wOp, Mi.wUn, Mi.wCmp, Mi.wCmpT, Mi.wChainT, Mi.wChain, Mi.wTru, Mi.wAndT, Mi.wOrT, Mi.wNotT, Mi.wAnd, Mi.wOr, Mi.wNot, Mi.wIfE, Mi.wNoPart, Mi.wPart, Mi.wSl, Mi.wNil, Mi.wCons, Mi.wTup, Mi.wLst, Mi.wNext, Mi.wSeq, Mi.wFreeze, Mi.wForget, Mi.wBreak, Mi.wCont, Mi.wRet, Mi.wRetO, Mi.wRetN, Mi.wDrop, Mi.wIf, Mi.wNever, Mi.wAsg, Mi.wSetO, Mi.wPar, Mi.wAug, Mi.wApp, Mi.wSetIx, Mi.wExt, Mi.wItems, Mi.wRng1, Mi.wRng2, Mi.wRng3, Mi.wEnum, Mi.wZip, Mi.wYes, Mi.wCall, Mi.wCallX, Mi.wB2, Mi.wMin3, Mi.wIsi, Mi.wGuard, Mi.wGuardD, Mi.wRaise, Mi.wEnumS, Mi.wListR, Mi.wJoin, Mi.wMet, Mi.wMet0, Mi.wPop, Mi.wdNil, Mi.wdCons, Mi.wDisp]
  intro EX' hEX
  simp only [e_qI, e_qIC, e_add1, e_add2, e_add3, e_add4, e_catL, e_aug1, e_aug2, e_mul1, e_mul2, e_rep, e_div, e_mod, e_neg, e_ord1, e_ord2, e_isn, e_nin, e_non1, e_non2, e_non3, e_non4, e_non5, e_non6, e_tru1, e_tru2, e_tru3, e_tru4, e_tru5, e_tru6, e_tru7, e_sl1, e_sl2, e_sl3, e_sl4, e_rev, e_it1, e_it2, e_it3, e_len1, e_len2, e_len3, e_len4, e_int1, e_int2, e_int3, e_min, e_max, e_min3, e_lst1, e_lst2, e_tup1, e_tup2, e_str, e_abs, e_lenS, e_ixS, isi_list_bl, isi_str_lst, isi_str_tup, isi_str_bl, isi_int_lst, isi_int_tup, isi_bool_non, isi_bool_str, isi_bool_lst, isi_bool_tup, isi_tup_lst, isi_tup_non, isi_tup_str, isi_tup_int, isi_tup_bl, e_attr, e_inD, e_ixD, e_ixS1, eq_self, Mi.qNotIn, Mi.qLt, Mi.qLe, Mi.qGt, Mi.qGe, List.map_cons, List.map_nil, List.length_map, true_and, and_true, Bool.false_eq_true, if_false, if_true, Bool.not_true, Bool.not_false, qEq_int, qEq_str, qEq_bl, qNe_int, qNe_str, qNe_bl, line0, line1, line2, line3, line4, line6, line7, line10, isi_list_lst, isi_list_tup, isi_list_non, isi_list_str, isi_list_int, isi_tup_tup, isi_bool_bl, isi_bool_int, isi_int_int, isi_int_bl, isi_int_non, isi_int_str, isi_str_str, isi_str_non, isi_str_int, startE_c, startE_n, startE_e, wFor_e, wLc_e, wipeE, wgName, wgTup, wgCons, wgNil, List.getElem?_cons_zero, List.getElem?_cons_succ, List.set_cons_zero, List.set_cons_succ, List.length_cons, List.length_nil, Mi.wC, Mi.wVar, Mi.wVarO, Mi.wOp, Mi.wUn, Mi.wCmp, Mi.wCmpT, Mi.wChainT, Mi.wChain, Mi.wTru, Mi.wAndT, Mi.wOrT, Mi.wNotT, Mi.wAnd, Mi.wOr, Mi.wNot, Mi.wIfE, Mi.wNoPart, Mi.wPart, Mi.wSl, Mi.wNil, Mi.wCons, Mi.wTup, Mi.wLst, Mi.wNext, Mi.wSeq, Mi.wFreeze, Mi.wForget, Mi.wBreak, Mi.wCont, Mi.wRet, Mi.wRetO, Mi.wRetN, Mi.wDrop, Mi.wIf, Mi.wNever, Mi.wAsg, Mi.wSetO, Mi.wPar, Mi.wAug, Mi.wApp, Mi.wSetIx, Mi.wExt, Mi.wItems, Mi.wRng1, Mi.wRng2, Mi.wRng3, Mi.wEnum, Mi.wZip, Mi.wYes, Mi.wCall, Mi.wCallX, Mi.wB2, Mi.wMin3, Mi.wIsi, Mi.wGuard, Mi.wGuardD, Mi.wRaise, Mi.wEnumS, Mi.wListR, Mi.wJoin, Mi.wMet, Mi.wMet0, Mi.wPop, Mi.wdNil, Mi.wdCons, Mi.wDisp]
  have hin : ∀ i : Int, Q (.int i) → EX' ⟨CB, [(("index" : PySem.Str), D.int i)], false⟩ := fun i hi => hEX _ rfl rfl (.int i) (by rw [lookup_cons, if_pos rfl]) hi
  refine ite_i (fun e => ?_) fun e => ?_
  · have e := of_decide_eq_true e
    subst e
    refine ⟨v, rfl, hv, fun i hi => hin i ?_, fun ht ws A B ps _ _ _ _ _ => ?_⟩
    · unfold ans at h; rw [hi] at h; exact h
    · unfold ans at h; rw [ht] at h; exact h
  · have e := of_decide_eq_false e
    refine ⟨v, t, m, rfl, hv, hk, hz, fun i hi => hin i ?_, fun ht hm => hin _ ?_, fun ws mm ht hm _ qs _ => ?_⟩
    · unfold ans at h; rw [hi] at h; exact h
    · unfold ans at h; rw [ht, hm] at h; simp only [if_neg e] at h; exact h
    · unfold ans at h; rw [ht, hm] at h; simp only [if_neg e] at h; exact h
end
end K87
namespace K87
open PySem L2 Evl Mi SrtO
section
variable {P : Program} {w : World} {K : PySem.W.Frag} {mg : PySem.Str → Option Value} {base : Heap} {g : G}
/-! ### the dict of the beginnings -/
def knownD (ks : List (List Nat)) : List (Key × D) := ks.map fun p => (Sum.inr ⟨p.toArray⟩, D.bl true)
theorem put_known (ks : List (List Nat)) (p : List Nat) : putD (knownD ks) (Sum.inr ⟨p.toArray⟩) (.bl true) = knownD (if p ∈ ks then ks else ks ++ [p]) := by
  have inj : ∀ q : List Nat, ((Sum.inr ⟨q.toArray⟩ : Key) = Sum.inr ⟨p.toArray⟩) ↔ q = p := fun q => by
    constructor
    · intro h
      have := Sum.inr.inj h
      injection this with this
      simpa using this
    · intro h; rw [h]
  have hany : ((knownD ks).any fun kv => decide (kv.1 = (Sum.inr ⟨p.toArray⟩ : Key))) = decide (p ∈ ks) := by
    unfold knownD
    rw [List.any_map]
    rw [Bool.eq_iff_iff, List.any_eq_true, decide_eq_true_eq]
    constructor
    · rintro ⟨q, hq, h⟩
      have := (inj q).mp (of_decide_eq_true h)
      exact this ▸ hq
    · exact fun h => ⟨p, h, decide_eq_true rfl⟩
  unfold putD
  rw [hany]
  by_cases h : p ∈ ks
  · rw [if_pos (decide_eq_true h), if_pos h]
    unfold knownD
    rw [List.map_map]
    apply List.map_congr_left
    intro q _
    show (if (Sum.inr ⟨q.toArray⟩ : Key) = Sum.inr ⟨p.toArray⟩ then _ else _) = _
    split <;> rfl
  · rw [if_neg (by simpa using h), if_neg h]
    unfold knownD
    rw [List.map_append]; rfl
theorem known_nil : mergeD [] [((Sum.inr (PySem.Str.ofString "") : Key), D.bl true)] = knownD [[]] := by
  have e : PySem.Str.ofString "" = ⟨#[]⟩ := by decide +kernel
  rw [e]; rfl
theorem words_inj : ∀ {L M : List PySem.Str}, wordsD L = wordsD M → L = M := by
  intro L M h
  unfold wordsD at h
  injection h with h
  induction L generalizing M with
  | nil => cases M with
    | nil => rfl
    | cons _ _ => cases h
  | cons x L ih => cases M with
    | nil => cases h
    | cons y M =>
      rw [List.map_cons, List.map_cons] at h
      injection h with h1 h2
      injection h1 with h1
      rw [h1, ih h2]
theorem eqD_str (a c : PySem.Str) : eqD (.str a) (.str c) = decide (a = c) := by
  show PyData.eqv (.str a) (.str c) = _
  first | rfl | simp [PyData.eqv]
theorem in_words (L : List PySem.Str) (t : PySem.Str) : ((L.map D.str).any fun z => eqD z (.str t)) = decide (codes t ∈ L.map codes) := by
  rw [List.any_map, Bool.eq_iff_iff, List.any_eq_true, decide_eq_true_eq, List.mem_map]
  constructor
  · rintro ⟨s, hs, h⟩
    have h2 : eqD (.str s) (.str t) = true := h
    rw [eqD_str] at h2
    exact ⟨s, hs, by rw [of_decide_eq_true h2]⟩
  · rintro ⟨s, hs, h⟩
    refine ⟨s, hs, ?_⟩
    show eqD (.str s) (.str t) = true
    rw [eqD_str, decide_eq_true_eq]
    exact str_ext h
/-- the law's own list -/
def dueS (L : List PySem.Str) (t : PySem.Str) (m : Nat) : List (Int × PySem.Str) := (L.filter fun s => decide (dist (codes t) (codes s) ≤ m)).map fun s => ((dist (codes t) (codes s) : Nat), s)
theorem due_eq (L : List PySem.Str) (t : PySem.Str) (m : Nat) : (due (L.map codes) (codes t) m).map pairN = dueS L t m := by
  unfold due dueS
  rw [List.filter_map, List.map_map, List.map_map]
  have e : ((fun p => decide (dist p (codes t) ≤ m)) ∘ codes) = fun s => decide (dist (codes t) (codes s) ≤ m) := funext fun s => by
    show decide (dist (codes s) (codes t) ≤ m) = _
    rw [dist_symm]
  rw [e]
  apply List.map_congr_left
  intro s _
  show pairN (dist (codes s) (codes t), codes s) = _
  rw [dist_symm]
  unfold pairN
  refine Prod.ext rfl ?_
  exact str_ext (by simp [codes])
theorem letter_ok {s : PySem.Str} (h : plainS s = true) : PySem.PyData.strOk s = true := by
  obtain ⟨h1, _⟩ := plain_let h
  unfold PySem.PyData.strOk
  rw [Array.all_eq_true]
  intro i hi
  have := h1 (s.cps[i]) (by unfold codes; simp)
  have := of_decide_eq_true this
  exact decide_eq_true (by omega)
theorem ans_sh {L : List PySem.Str} {t : PySem.Str} {m : Nat} {qs : List (Int × PySem.Str)} (hL : ∀ s ∈ L, plainS s = true) (h : qs.Perm (dueS L t m)) : Sh 2 (.lst (qs.map pairD)) := sh_lst (n := 1) fun x hx => by
  obtain ⟨q, hq, rfl⟩ := List.mem_map.mp hx
  have h2 := h.mem_iff.mp hq
  unfold dueS at h2
  obtain ⟨s, hs, rfl⟩ := List.mem_map.mp h2
  refine sh_tup (n := 0) fun y hy => ?_
  simp only [List.mem_cons, List.not_mem_nil, or_false] at hy
  rcases hy with rfl | rfl
  · exact sh_int
  · exact sh_str (letter_ok (hL s (List.mem_filter.mp hs).1))
theorem words_small {L : List PySem.Str} (h : ∀ s ∈ L, plainS s = true) : smallL (wordsD L) := ⟨trivial, fun xs hx x hm => by
  injection hx with hx
  subst hx
  obtain ⟨s, hs, rfl⟩ := List.mem_map.mp hm
  refine ⟨trivial, fun s' e => ?_⟩
  cases e
  have := plain_len (h s hs)
  show s.cps.size ≤ _
  omega⟩
theorem e_lstW (L : List PySem.Str) (P : D → Prop) : qList (wordsD L) P = P (wordsD L) := rfl
def c_holds : CT := fun ds EX P => ∃ (L ts : List PySem.Str), ds = [wordsD L, .lst (ts.map D.str)] ∧ told (wordsD L) = none ∧ L.length ≤ 100 ∧ ts.length ≤ 100 ∧ (∀ t ∈ ts, t.length ≤ 100) ∧ P (.bl true)
abbrev s_law_tree_holds : Stmt := topS 24
abbrev N_law_tree_holds : List Str := ["listed", "texts", "tree", "known", "word", "text", "k", "told", "most", "due", "turn"]
theorem sc_law_tree_holds : FnScope N_law_tree_holds ["listed", "texts"] (defScope s_law_tree_holds) := ⟨rfl, rfl, rfl, by decide +kernel, rfl, by decide +kernel, by decide +kernel⟩
theorem ok_law_tree_holds {f : Addr} {fd : FuncData} (F : Fun K "_law_tree_holds" "_law_tree_holds" s_law_tree_holds f fd) (T : Txt mg) {C CB : Addr} (TC : TxC K mg C) (Zt : MakX P w K mg base (gT K C) "WordTree" 1 C 4 (c_tree CB)) (Zn : CalX P w K mg base (gT K C) true "near_words" 6 (c_near CB)) (Zw : MetC P w K mg base (gT K C) true C "within" 2 c_within)
   (Zs : MetC P w K mg base (gT K C) false C "size" 1 c_size) (Zh : MetC P w K mg base (gT K C) false C "has" 1 c_has) (Zd : Cal P w K mg base (gT K C) false "_law_distance" 1 c_ldist) : FnOk P w K mg base CX0 (6 + 1) f fd ["listed", "texts"] (spD K (gT K C) false c_holds) := by
  refine Mi.Fun.data F sc_law_tree_holds (fun ds EX Q ⟨_, _, h, _⟩ => by rw [h]; rfl) (fun cdv A outer s H E S0 H0 hr => (ms_cons (ms_set 2 sc_law_tree_holds.nd (me_makX Zt (takes_never (fun _ h => h) rfl) (hr.mono (by decide)) rfl (ma_cons (me_ofF (mf_list T.list rfl (mo_var 0))) ma_nil)))
  (ms_cons (ms_setO 3 sc_law_tree_holds.nd (mf_disp (md_cons me_bl md_nil)))
  (ms_cut (ms_for (vs := [4]) PassesOwn.never rfl (mi_any (me_var 0)) (mg_name 4 sc_law_tree_holds.nd)
  (ms_one (ms_for (vs := [6]) PassesOwn.never rfl (mi_range1 rfl T.range (mo_of (me_len T.len rfl (mo_var 4)))) (mg_name 6 sc_law_tree_holds.nd)
  (ms_one (ms_setIx 3 hr.units me_bl (mo_of (me_sl (mo_var 4) mp_none (mp_some (mo_of (me_add (mo_var 6) (mo_of me_int)))))))))))
  (ms_cons (ms_if (mt_ne hr.units (mo_of (me_met0 (instT K C TC) (by decide +kernel) Zs (hr.mono (by decide)) (me_var 2))) (mo_of (me_len T.len rfl (mo_var 3))))
  (ms_one (ms_ret rfl me_bl))
  ms_nil)
  (ms_cut (ms_for (vs := [5]) PassesOwn.never rfl (mi_any (me_add (mo_of (me_add (mo_of (me_add (mo_var 1) (mo_var 0))) (mo_of (me_lst (ma_cons me_str (ma_cons me_str ma_nil)))))) (mo_of (me_ofF (mf_lc (own := [("word", 4)]) rfl sc_law_tree_holds.nd (mi_any (me_var 0)) (blkOk_by (N := N_law_tree_holds) (sc := defScope s_law_tree_holds) (by decide +kernel)) (fun _ _ _ _ _ => (mg_name 4 sc_law_tree_holds.nd)) (fun _ _ _ _ _ => mts_nil) (fun _ _ _ _ _ => (me_sl (mo_var 4) mp_none (mp_some (mo_of (me_neg (mo_of me_int))))))))))) (mg_name 5 sc_law_tree_holds.nd)
  (ms_cons (ms_set 7 sc_law_tree_holds.nd (me_met (instT K C TC) (by decide +kernel) Zh (hr.mono (by decide)) (me_var 2) (ma_cons (me_var 5) ma_nil)))
  (ms_cons (ms_ifD (mt_w (mw_or (mt_not (mt_tru (mo_of (me_isi (T := "bool") T.isinstance rfl rfl T.bool boot_bool'' (mo_var 7))))) (mw_or1 (mt_ne hr.units (mo_var 7) (mo_of (me_in (units65 hr) (mo_var 5) (mo_var 0)))))))
  (ms_one (ms_ret rfl me_bl))
  ms_nil)
  (ms_one (ms_for (vs := [8]) PassesOwn.never rfl (mi_range1 rfl T.range (mo_of me_int)) (mg_name 8 sc_law_tree_holds.nd)
  (ms_cons (ms_set 9 sc_law_tree_holds.nd (me_ofF (mf_sortPS T.sorted rfl (mo_of (me_ofF (mf_lc (own := [("word", 4)]) rfl sc_law_tree_holds.nd (mi_any (me_var 0)) (blkOk_by (N := N_law_tree_holds) (sc := defScope s_law_tree_holds) (by decide +kernel)) (fun _ _ _ _ _ => (mg_name 4 sc_law_tree_holds.nd)) (fun _ _ _ _ _ => (mts_one (mt_le (mo_of (me_call Zd (hr.mono (by decide)) rfl (ma_cons (me_var 5) (ma_cons (me_var 4) ma_nil)))) (mo_var 8)))) (fun _ _ _ _ _ => (me_tup (ma_cons (me_call Zd (hr.mono (by decide)) rfl (ma_cons (me_var 5) (ma_cons (me_var 4) ma_nil))) (ma_cons (me_var 4) ma_nil))))))))))
  (ms_one (ms_for (vs := [10]) PassesOwn.never rfl (mi_range1 rfl T.range (mo_of me_int)) (mg_name 10 sc_law_tree_holds.nd)
  (ms_cons (ms_setO 7 sc_law_tree_holds.nd (mf_met (instT K C TC) (by decide +kernel) Zw (hr.mono (by decide)) (me_var 2) (ma_cons (me_var 5) (ma_cons (me_var 8) ma_nil))))
  (ms_cons (ms_ifD (mt_w (mw_or (mt_not (mt_tru (mo_of (me_isi (T := "list") T.isinstance rfl rfl T.list boot_list'' (mo_var 7))))) (mw_or (mt_ne hr.units (mo_var 7) (mo_var 9)) (mw_or1 (mt_ne hr.units (mo_of (me_ofF (mf_callX Zn (takes_never (fun _ h => h) rfl) (hr.mono (by decide)) rfl (ma_cons (me_ofF (mf_list T.list rfl (mo_var 0))) (ma_cons (me_var 5) (ma_cons (me_var 8) ma_nil)))))) (mo_var 9))))))
  (ms_one (ms_ret rfl me_bl))
  ms_nil)
  (ms_one (ms_app 7 me_int))))))))))))
  (ms_one (ms_ret rfl me_bl)))))))) (fun ds Q h => ?_) (fun ds EX Q h => h)
  obtain ⟨L, ts, rfl, ht, hL, hts, htl, h⟩ := h
  obtain ⟨L', eL, hpl, _⟩ := told_words ht
  rw [← words_inj eL] at hpl
  clear eL
  have hsm := words_small hpl
  have hnd := told_nodup ht
  simp only [e_qI, e_qIC, e_add1, e_add2, e_add3, e_add4, e_catL, e_aug1, e_aug2, e_mul1, e_mul2, e_rep, e_div, e_mod, e_neg, e_ord1, e_ord2, e_isn, e_nin, e_non1, e_non2, e_non3, e_non4, e_non5, e_non6, e_tru1, e_tru2, e_tru3, e_tru4, e_tru5, e_tru6, e_tru7, e_sl1, e_sl2, e_sl3, e_sl4, e_rev, e_it1, e_it2, e_it3, e_len1, e_len2, e_len3, e_len4, e_int1, e_int2, e_int3, e_min, e_max, e_min3, e_lst1, e_lst2, e_tup1, e_tup2, e_str, e_abs, e_lenS, e_ixS, isi_list_bl, isi_str_lst, isi_str_tup, isi_str_bl, isi_int_lst, isi_int_tup, isi_bool_non, isi_bool_str, isi_bool_lst, isi_bool_tup, isi_tup_lst, isi_tup_non, isi_tup_str, isi_tup_int, isi_tup_bl, e_attr, e_inD, e_ixD, e_ixS1, eq_self, Mi.qNotIn, Mi.qLt, Mi.qLe, Mi.qGt, Mi.qGe, List.map_cons, List.map_nil, List.length_map, true_and, and_true, Bool.false_eq_true, if_false, if_true, Bool.not_true, Bool.not_false, qEq_int, qEq_str, qEq_bl, qNe_int, qNe_str, qNe_bl, line0, line1, line2, line3, line4, line6, line7, line10, isi_list_lst, isi_list_tup, isi_list_non, isi_list_str, isi_list_int, isi_tup_tup, isi_bool_bl, isi_bool_int, isi_int_int, isi_int_bl, isi_int_non, isi_int_str, isi_str_str, isi_str_non, isi_str_int, startE_c, startE_n, startE_e, wFor_e, wLc_e, wipeE, wgName, wgTup, wgCons, wgNil, List.getElem?_cons_zero, List.getElem?_cons_succ, List.set_cons_zero, List.set_cons_succ, List.length_cons, List.length_nil, Mi.wC, Mi.wVar, Mi.wVarO, Mi.wOp, Mi.wUn, Mi.wCmp, Mi.wCmpT, Mi.wChainT, Mi.wChain, Mi.wTru, Mi.wAndT, Mi.wOrT, Mi.wNotT, Mi.wAnd, Mi.wOr, Mi.wNot, Mi.wIfE, Mi.wNoPart, Mi.wPart, Mi.wSl, Mi.wNil, Mi.wCons, Mi.wTup, Mi.wLst, Mi.wNext, Mi.wSeq, Mi.wFreeze, Mi.wForget, Mi.wBreak, Mi.wCont, Mi.wRet, Mi.wRetO, Mi.wRetN, Mi.wDrop, Mi.wIf, Mi.wNever, Mi.wAsg, Mi.wSetO, Mi.wPar, Mi.wAug, Mi.wApp, Mi.wSetIx, Mi.wExt, Mi.wItems, Mi.wRng1, Mi.wRng2, Mi.wRng3, Mi.wEnum, Mi.wZip, Mi.wYes, Mi.wCall, Mi.wCallX, Mi.wB2, Mi.wMin3, Mi.wIsi, Mi.wGuard, Mi.wGuardD, Mi.wRaise, Mi.wEnumS, Mi.wListR, Mi.wJoin, Mi.wMet, Mi.wMet0, Mi.wPop, Mi.wdNil, Mi.wdCons, Mi.wDisp]
  rw [e_lstW]
  refine ⟨wordsD L, rfl, hsm, fun i hi => (by rw [ht] at hi; cases hi), fun _ ws A B ps hw _ _ TF hA => ?_⟩
  rw [← words_inj hw] at TF
  clear hw
  refine ⟨by decide, ?_⟩
  rw [known_nil]
  have hlet : ∀ w ∈ L.map codes, ∀ c ∈ w, isLet c = true := fun x hx c hc => by
    obtain ⟨s, hs, rfl⟩ := List.mem_map.mp hx
    exact (plain_let (hpl s hs)).1 c hc
  have hlen : ∀ w ∈ L.map codes, w.length ≤ 24 := fun x hx => by
    obtain ⟨s, hs, rfl⟩ := List.mem_map.mp hx
    exact (plain_let (hpl s hs)).2
  refine cut_i (fun δ' => ∃ ks c4 c6, δ' = [st (wordsD L), st (.lst (ts.map D.str)), st (.ext 1 (treeD A B)), ow (.dic (knownD ks)), c4, none, c6, none, none, none, none] ∧ ks.Nodup ∧ ∀ p, p ∈ ks ↔ p = [] ∨ ∃ w ∈ L.map codes, p <+: w) ?_ ?_
  · unfold wordsD
    simp only [e_qI, e_qIC, e_add1, e_add2, e_add3, e_add4, e_catL, e_aug1, e_aug2, e_mul1, e_mul2, e_rep, e_div, e_mod, e_neg, e_ord1, e_ord2, e_isn, e_nin, e_non1, e_non2, e_non3, e_non4, e_non5, e_non6, e_tru1, e_tru2, e_tru3, e_tru4, e_tru5, e_tru6, e_tru7, e_sl1, e_sl2, e_sl3, e_sl4, e_rev, e_it1, e_it2, e_it3, e_len1, e_len2, e_len3, e_len4, e_int1, e_int2, e_int3, e_min, e_max, e_min3, e_lst1, e_lst2, e_tup1, e_tup2, e_str, e_abs, e_lenS, e_ixS, isi_list_bl, isi_str_lst, isi_str_tup, isi_str_bl, isi_int_lst, isi_int_tup, isi_bool_non, isi_bool_str, isi_bool_lst, isi_bool_tup, isi_tup_lst, isi_tup_non, isi_tup_str, isi_tup_int, isi_tup_bl, e_attr, e_inD, e_ixD, e_ixS1, eq_self, Mi.qNotIn, Mi.qLt, Mi.qLe, Mi.qGt, Mi.qGe, List.map_cons, List.map_nil, List.length_map, true_and, and_true, Bool.false_eq_true, if_false, if_true, Bool.not_true, Bool.not_false, qEq_int, qEq_str, qEq_bl, qNe_int, qNe_str, qNe_bl, line0, line1, line2, line3, line4, line6, line7, line10, isi_list_lst, isi_list_tup, isi_list_non, isi_list_str, isi_list_int, isi_tup_tup, isi_bool_bl, isi_bool_int, isi_int_int, isi_int_bl, isi_int_non, isi_int_str, isi_str_str, isi_str_non, isi_str_int, startE_c, startE_n, startE_e, wFor_e, wLc_e, wipeE, wgName, wgTup, wgCons, wgNil, List.getElem?_cons_zero, List.getElem?_cons_succ, List.set_cons_zero, List.set_cons_succ, List.length_cons, List.length_nil, Mi.wC, Mi.wVar, Mi.wVarO, Mi.wOp, Mi.wUn, Mi.wCmp, Mi.wCmpT, Mi.wChainT, Mi.wChain, Mi.wTru, Mi.wAndT, Mi.wOrT, Mi.wNotT, Mi.wAnd, Mi.wOr, Mi.wNot, Mi.wIfE, Mi.wNoPart, Mi.wPart, Mi.wSl, Mi.wNil, Mi.wCons, Mi.wTup, Mi.wLst, Mi.wNext, Mi.wSeq, Mi.wFreeze, Mi.wForget, Mi.wBreak, Mi.wCont, Mi.wRet, Mi.wRetO, Mi.wRetN, Mi.wDrop, Mi.wIf, Mi.wNever, Mi.wAsg, Mi.wSetO, Mi.wPar, Mi.wAug, Mi.wApp, Mi.wSetIx, Mi.wExt, Mi.wItems, Mi.wRng1, Mi.wRng2, Mi.wRng3, Mi.wEnum, Mi.wZip, Mi.wYes, Mi.wCall, Mi.wCallX, Mi.wB2, Mi.wMin3, Mi.wIsi, Mi.wGuard, Mi.wGuardD, Mi.wRaise, Mi.wEnumS, Mi.wListR, Mi.wJoin, Mi.wMet, Mi.wMet0, Mi.wPop, Mi.wdNil, Mi.wdCons, Mi.wDisp]
    refine for_i (fun i δ' => ∃ ks c4 c6, δ' = [st (wordsD L), st (.lst (ts.map D.str)), st (.ext 1 (treeD A B)), ow (.dic (knownD ks)), c4, none, c6, none, none, none, none] ∧ ks.Nodup ∧ ks.length ≤ 1 + 24 * i ∧ ∀ p, p ∈ ks ↔ p = [] ∨ ∃ w ∈ (L.take i).map codes, p <+: w) ⟨[[]], none, none, rfl, by simp, by simp, fun p => by simp⟩ ?_ ?_
    · rintro i d δ' hk ⟨ks, c4, c6, rfl, hn, hkl, hm⟩
      rw [List.getElem?_map] at hk
      obtain ⟨s, hs, rfl⟩ := Option.map_eq_some_iff.mp hk
      have hil := (List.getElem?_eq_some_iff.mp hs).1
      have his : L[i] = s := (List.getElem?_eq_some_iff.mp hs).2
      have hsp := (plain_let (hpl s (List.mem_of_getElem? hs))).2
      have hsl : s.length = (codes s).length := str_len s
      simp only [e_qI, e_qIC, e_add1, e_add2, e_add3, e_add4, e_catL, e_aug1, e_aug2, e_mul1, e_mul2, e_rep, e_div, e_mod, e_neg, e_ord1, e_ord2, e_isn, e_nin, e_non1, e_non2, e_non3, e_non4, e_non5, e_non6, e_tru1, e_tru2, e_tru3, e_tru4, e_tru5, e_tru6, e_tru7, e_sl1, e_sl2, e_sl3, e_sl4, e_rev, e_it1, e_it2, e_it3, e_len1, e_len2, e_len3, e_len4, e_int1, e_int2, e_int3, e_min, e_max, e_min3, e_lst1, e_lst2, e_tup1, e_tup2, e_str, e_abs, e_lenS, e_ixS, isi_list_bl, isi_str_lst, isi_str_tup, isi_str_bl, isi_int_lst, isi_int_tup, isi_bool_non, isi_bool_str, isi_bool_lst, isi_bool_tup, isi_tup_lst, isi_tup_non, isi_tup_str, isi_tup_int, isi_tup_bl, e_attr, e_inD, e_ixD, e_ixS1, eq_self, Mi.qNotIn, Mi.qLt, Mi.qLe, Mi.qGt, Mi.qGe, List.map_cons, List.map_nil, List.length_map, true_and, and_true, Bool.false_eq_true, if_false, if_true, Bool.not_true, Bool.not_false, qEq_int, qEq_str, qEq_bl, qNe_int, qNe_str, qNe_bl, line0, line1, line2, line3, line4, line6, line7, line10, isi_list_lst, isi_list_tup, isi_list_non, isi_list_str, isi_list_int, isi_tup_tup, isi_bool_bl, isi_bool_int, isi_int_int, isi_int_bl, isi_int_non, isi_int_str, isi_str_str, isi_str_non, isi_str_int, startE_c, startE_n, startE_e, wFor_e, wLc_e, wipeE, wgName, wgTup, wgCons, wgNil, List.getElem?_cons_zero, List.getElem?_cons_succ, List.set_cons_zero, List.set_cons_succ, List.length_cons, List.length_nil, Mi.wC, Mi.wVar, Mi.wVarO, Mi.wOp, Mi.wUn, Mi.wCmp, Mi.wCmpT, Mi.wChainT, Mi.wChain, Mi.wTru, Mi.wAndT, Mi.wOrT, Mi.wNotT, Mi.wAnd, Mi.wOr, Mi.wNot, Mi.wIfE, Mi.wNoPart, Mi.wPart, Mi.wSl, Mi.wNil, Mi.wCons, Mi.wTup, Mi.wLst, Mi.wNext, Mi.wSeq, Mi.wFreeze, Mi.wForget, Mi.wBreak, Mi.wCont, Mi.wRet, Mi.wRetO, Mi.wRetN, Mi.wDrop, Mi.wIf, Mi.wNever, Mi.wAsg, Mi.wSetO, Mi.wPar, Mi.wAug, Mi.wApp, Mi.wSetIx, Mi.wExt, Mi.wItems, Mi.wRng1, Mi.wRng2, Mi.wRng3, Mi.wEnum, Mi.wZip, Mi.wYes, Mi.wCall, Mi.wCallX, Mi.wB2, Mi.wMin3, Mi.wIsi, Mi.wGuard, Mi.wGuardD, Mi.wRaise, Mi.wEnumS, Mi.wListR, Mi.wJoin, Mi.wMet, Mi.wMet0, Mi.wPop, Mi.wdNil, Mi.wdCons, Mi.wDisp]
      refine ⟨leL (by omega), by omega, by omega, ?_⟩
      rw [Int.toNat_natCast]
      refine for_i (fun k δ' => ∃ ks c6, δ' = [st (wordsD L), st (.lst (ts.map D.str)), st (.ext 1 (treeD A B)), ow (.dic (knownD ks)), st (.str s), none, c6, none, none, none, none] ∧ ks.Nodup ∧ ks.length ≤ 1 + 24 * i + k ∧ ∀ p, p ∈ ks ↔ (p = [] ∨ ∃ w ∈ (L.take i).map codes, p <+: w) ∨ p <+: (codes s).take k) ⟨ks, c6, rfl, hn, hkl, fun p => ?_⟩ ?_ ?_
      · rw [hm]
        simp only [List.take_zero, List.prefix_nil]
        exact ⟨.inl, fun h => h.elim id fun e => .inl e⟩
      · rintro k d δ' hk ⟨ks, c6, rfl, hn, hkl, hm⟩
        obtain ⟨hk, rfl⟩ := rangeD_of hk
        have hkc : k < (codes s).length := by omega
        simp only [e_qI, e_qIC, e_add1, e_add2, e_add3, e_add4, e_catL, e_aug1, e_aug2, e_mul1, e_mul2, e_rep, e_div, e_mod, e_neg, e_ord1, e_ord2, e_isn, e_nin, e_non1, e_non2, e_non3, e_non4, e_non5, e_non6, e_tru1, e_tru2, e_tru3, e_tru4, e_tru5, e_tru6, e_tru7, e_sl1, e_sl2, e_sl3, e_sl4, e_rev, e_it1, e_it2, e_it3, e_len1, e_len2, e_len3, e_len4, e_int1, e_int2, e_int3, e_min, e_max, e_min3, e_lst1, e_lst2, e_tup1, e_tup2, e_str, e_abs, e_lenS, e_ixS, isi_list_bl, isi_str_lst, isi_str_tup, isi_str_bl, isi_int_lst, isi_int_tup, isi_bool_non, isi_bool_str, isi_bool_lst, isi_bool_tup, isi_tup_lst, isi_tup_non, isi_tup_str, isi_tup_int, isi_tup_bl, e_attr, e_inD, e_ixD, e_ixS1, eq_self, Mi.qNotIn, Mi.qLt, Mi.qLe, Mi.qGt, Mi.qGe, List.map_cons, List.map_nil, List.length_map, true_and, and_true, Bool.false_eq_true, if_false, if_true, Bool.not_true, Bool.not_false, qEq_int, qEq_str, qEq_bl, qNe_int, qNe_str, qNe_bl, line0, line1, line2, line3, line4, line6, line7, line10, isi_list_lst, isi_list_tup, isi_list_non, isi_list_str, isi_list_int, isi_tup_tup, isi_bool_bl, isi_bool_int, isi_int_int, isi_int_bl, isi_int_non, isi_int_str, isi_str_str, isi_str_non, isi_str_int, startE_c, startE_n, startE_e, wFor_e, wLc_e, wipeE, wgName, wgTup, wgCons, wgNil, List.getElem?_cons_zero, List.getElem?_cons_succ, List.set_cons_zero, List.set_cons_succ, List.length_cons, List.length_nil, Mi.wC, Mi.wVar, Mi.wVarO, Mi.wOp, Mi.wUn, Mi.wCmp, Mi.wCmpT, Mi.wChainT, Mi.wChain, Mi.wTru, Mi.wAndT, Mi.wOrT, Mi.wNotT, Mi.wAnd, Mi.wOr, Mi.wNot, Mi.wIfE, Mi.wNoPart, Mi.wPart, Mi.wSl, Mi.wNil, Mi.wCons, Mi.wTup, Mi.wLst, Mi.wNext, Mi.wSeq, Mi.wFreeze, Mi.wForget, Mi.wBreak, Mi.wCont, Mi.wRet, Mi.wRetO, Mi.wRetN, Mi.wDrop, Mi.wIf, Mi.wNever, Mi.wAsg, Mi.wSetO, Mi.wPar, Mi.wAug, Mi.wApp, Mi.wSetIx, Mi.wExt, Mi.wItems, Mi.wRng1, Mi.wRng2, Mi.wRng3, Mi.wEnum, Mi.wZip, Mi.wYes, Mi.wCall, Mi.wCallX, Mi.wB2, Mi.wMin3, Mi.wIsi, Mi.wGuard, Mi.wGuardD, Mi.wRaise, Mi.wEnumS, Mi.wListR, Mi.wJoin, Mi.wMet, Mi.wMet0, Mi.wPop, Mi.wdNil, Mi.wdCons, Mi.wDisp, Int.zero_add]
        refine ⟨leL (by omega), ?_⟩
        have ec : cutS s none (some ((k : Int) + 1)) = ⟨((codes s).take (k + 1)).toArray⟩ := str_ext (by
          rw [scut, show (k : Int) + 1 = ((k + 1 : Nat) : Int) from rfl, cut_to]; rfl)
        rw [ec]
        show _ ∧ _
        refine ⟨ltL (by simp [knownD]; omega), if (codes s).take (k + 1) ∈ ks then ks else ks ++ [(codes s).take (k + 1)], st (.int (k : Nat)), ?_, ?_, ?_, fun p => ?_⟩
        · rw [← put_known]
        · split
          · exact hn
          · rename_i hnin
            exact List.nodup_append.mpr ⟨hn, by simp, fun a ha b hb e => by rw [List.mem_singleton] at hb; subst hb; exact hnin (e ▸ ha)⟩
        · split
          · omega
          · rw [List.length_append, List.length_singleton]; omega
        · rw [pre_step hkc, ← List.take_succ_eq_append_getElem hkc]
          split
          · rename_i hin
            rw [hm]
            constructor
            · exact fun h => h.elim .inl fun h => .inr (.inl h)
            · rintro (h | h | h)
              · exact .inl h
              · exact .inr h
              · subst h; exact (hm _).mp hin
          · rw [List.mem_append, List.mem_singleton, hm, or_assoc]
      · rintro δ' ⟨ks, c6, rfl, hn, hkl, hm⟩
        rw [rangeD_len] at hkl hm
        refine ⟨ks, st (.str s), c6, rfl, hn, by omega, fun p => ?_⟩
        rw [hm, hsl, List.take_length, List.take_succ_eq_append_getElem hil, his, List.map_append]
        constructor
        · rintro ((h | ⟨w, hw, h⟩) | h)
          · exact .inl h
          · exact .inr ⟨w, List.mem_append_left _ hw, h⟩
          · exact .inr ⟨codes s, by simp, h⟩
        · rintro (h | ⟨w, hw, h⟩)
          · exact .inl (.inl h)
          · rcases List.mem_append.mp hw with hw | hw
            · exact .inl (.inr ⟨w, hw, h⟩)
            · simp at hw
              subst hw
              exact .inr h
    · rintro δ' ⟨ks, c4, c6, rfl, hn, hkl, hm⟩
      rw [List.length_map, List.take_length] at hm
      exact ⟨ks, c4, c6, rfl, hn, hm⟩
  · rintro δ' ⟨ks, c4, c6, rfl, hn, hm⟩
    have hfl := full_len TF hn hm
    simp only [e_qI, e_qIC, e_add1, e_add2, e_add3, e_add4, e_catL, e_aug1, e_aug2, e_mul1, e_mul2, e_rep, e_div, e_mod, e_neg, e_ord1, e_ord2, e_isn, e_nin, e_non1, e_non2, e_non3, e_non4, e_non5, e_non6, e_tru1, e_tru2, e_tru3, e_tru4, e_tru5, e_tru6, e_tru7, e_sl1, e_sl2, e_sl3, e_sl4, e_rev, e_it1, e_it2, e_it3, e_len1, e_len2, e_len3, e_len4, e_int1, e_int2, e_int3, e_min, e_max, e_min3, e_lst1, e_lst2, e_tup1, e_tup2, e_str, e_abs, e_lenS, e_ixS, isi_list_bl, isi_str_lst, isi_str_tup, isi_str_bl, isi_int_lst, isi_int_tup, isi_bool_non, isi_bool_str, isi_bool_lst, isi_bool_tup, isi_tup_lst, isi_tup_non, isi_tup_str, isi_tup_int, isi_tup_bl, e_attr, e_inD, e_ixD, e_ixS1, eq_self, Mi.qNotIn, Mi.qLt, Mi.qLe, Mi.qGt, Mi.qGe, List.map_cons, List.map_nil, List.length_map, true_and, and_true, Bool.false_eq_true, if_false, if_true, Bool.not_true, Bool.not_false, qEq_int, qEq_str, qEq_bl, qNe_int, qNe_str, qNe_bl, line0, line1, line2, line3, line4, line6, line7, line10, isi_list_lst, isi_list_tup, isi_list_non, isi_list_str, isi_list_int, isi_tup_tup, isi_bool_bl, isi_bool_int, isi_int_int, isi_int_bl, isi_int_non, isi_int_str, isi_str_str, isi_str_non, isi_str_int, startE_c, startE_n, startE_e, wFor_e, wLc_e, wipeE, wgName, wgTup, wgCons, wgNil, List.getElem?_cons_zero, List.getElem?_cons_succ, List.set_cons_zero, List.set_cons_succ, List.length_cons, List.length_nil, Mi.wC, Mi.wVar, Mi.wVarO, Mi.wOp, Mi.wUn, Mi.wCmp, Mi.wCmpT, Mi.wChainT, Mi.wChain, Mi.wTru, Mi.wAndT, Mi.wOrT, Mi.wNotT, Mi.wAnd, Mi.wOr, Mi.wNot, Mi.wIfE, Mi.wNoPart, Mi.wPart, Mi.wSl, Mi.wNil, Mi.wCons, Mi.wTup, Mi.wLst, Mi.wNext, Mi.wSeq, Mi.wFreeze, Mi.wForget, Mi.wBreak, Mi.wCont, Mi.wRet, Mi.wRetO, Mi.wRetN, Mi.wDrop, Mi.wIf, Mi.wNever, Mi.wAsg, Mi.wSetO, Mi.wPar, Mi.wAug, Mi.wApp, Mi.wSetIx, Mi.wExt, Mi.wItems, Mi.wRng1, Mi.wRng2, Mi.wRng3, Mi.wEnum, Mi.wZip, Mi.wYes, Mi.wCall, Mi.wCallX, Mi.wB2, Mi.wMin3, Mi.wIsi, Mi.wGuard, Mi.wGuardD, Mi.wRaise, Mi.wEnumS, Mi.wListR, Mi.wJoin, Mi.wMet, Mi.wMet0, Mi.wPop, Mi.wdNil, Mi.wdCons, Mi.wDisp]
    refine ⟨A, B, rfl, ?_⟩
    have hkl : (knownD ks).length = A.length := by unfold knownD; rw [List.length_map, hfl]
    simp only [e_qI, e_qIC, e_add1, e_add2, e_add3, e_add4, e_catL, e_aug1, e_aug2, e_mul1, e_mul2, e_rep, e_div, e_mod, e_neg, e_ord1, e_ord2, e_isn, e_nin, e_non1, e_non2, e_non3, e_non4, e_non5, e_non6, e_tru1, e_tru2, e_tru3, e_tru4, e_tru5, e_tru6, e_tru7, e_sl1, e_sl2, e_sl3, e_sl4, e_rev, e_it1, e_it2, e_it3, e_len1, e_len2, e_len3, e_len4, e_int1, e_int2, e_int3, e_min, e_max, e_min3, e_lst1, e_lst2, e_tup1, e_tup2, e_str, e_abs, e_lenS, e_ixS, isi_list_bl, isi_str_lst, isi_str_tup, isi_str_bl, isi_int_lst, isi_int_tup, isi_bool_non, isi_bool_str, isi_bool_lst, isi_bool_tup, isi_tup_lst, isi_tup_non, isi_tup_str, isi_tup_int, isi_tup_bl, e_attr, e_inD, e_ixD, e_ixS1, eq_self, Mi.qNotIn, Mi.qLt, Mi.qLe, Mi.qGt, Mi.qGe, List.map_cons, List.map_nil, List.length_map, true_and, and_true, Bool.false_eq_true, if_false, if_true, Bool.not_true, Bool.not_false, qEq_int, qEq_str, qEq_bl, qNe_int, qNe_str, qNe_bl, line0, line1, line2, line3, line4, line6, line7, line10, isi_list_lst, isi_list_tup, isi_list_non, isi_list_str, isi_list_int, isi_tup_tup, isi_bool_bl, isi_bool_int, isi_int_int, isi_int_bl, isi_int_non, isi_int_str, isi_str_str, isi_str_non, isi_str_int, startE_c, startE_n, startE_e, wFor_e, wLc_e, wipeE, wgName, wgTup, wgCons, wgNil, List.getElem?_cons_zero, List.getElem?_cons_succ, List.set_cons_zero, List.set_cons_succ, List.length_cons, List.length_nil, Mi.wC, Mi.wVar, Mi.wVarO, Mi.wOp, Mi.wUn, Mi.wCmp, Mi.wCmpT, Mi.wChainT, Mi.wChain, Mi.wTru, Mi.wAndT, Mi.wOrT, Mi.wNotT, Mi.wAnd, Mi.wOr, Mi.wNot, Mi.wIfE, Mi.wNoPart, Mi.wPart, Mi.wSl, Mi.wNil, Mi.wCons, Mi.wTup, Mi.wLst, Mi.wNext, Mi.wSeq, Mi.wFreeze, Mi.wForget, Mi.wBreak, Mi.wCont, Mi.wRet, Mi.wRetO, Mi.wRetN, Mi.wDrop, Mi.wIf, Mi.wNever, Mi.wAsg, Mi.wSetO, Mi.wPar, Mi.wAug, Mi.wApp, Mi.wSetIx, Mi.wExt, Mi.wItems, Mi.wRng1, Mi.wRng2, Mi.wRng3, Mi.wEnum, Mi.wZip, Mi.wYes, Mi.wCall, Mi.wCallX, Mi.wB2, Mi.wMin3, Mi.wIsi, Mi.wGuard, Mi.wGuardD, Mi.wRaise, Mi.wEnumS, Mi.wListR, Mi.wJoin, Mi.wMet, Mi.wMet0, Mi.wPop, Mi.wdNil, Mi.wdCons, Mi.wDisp]
    rw [hkl, decide_eq_true rfl]
    simp only [e_qI, e_qIC, e_add1, e_add2, e_add3, e_add4, e_catL, e_aug1, e_aug2, e_mul1, e_mul2, e_rep, e_div, e_mod, e_neg, e_ord1, e_ord2, e_isn, e_nin, e_non1, e_non2, e_non3, e_non4, e_non5, e_non6, e_tru1, e_tru2, e_tru3, e_tru4, e_tru5, e_tru6, e_tru7, e_sl1, e_sl2, e_sl3, e_sl4, e_rev, e_it1, e_it2, e_it3, e_len1, e_len2, e_len3, e_len4, e_int1, e_int2, e_int3, e_min, e_max, e_min3, e_lst1, e_lst2, e_tup1, e_tup2, e_str, e_abs, e_lenS, e_ixS, isi_list_bl, isi_str_lst, isi_str_tup, isi_str_bl, isi_int_lst, isi_int_tup, isi_bool_non, isi_bool_str, isi_bool_lst, isi_bool_tup, isi_tup_lst, isi_tup_non, isi_tup_str, isi_tup_int, isi_tup_bl, e_attr, e_inD, e_ixD, e_ixS1, eq_self, Mi.qNotIn, Mi.qLt, Mi.qLe, Mi.qGt, Mi.qGe, List.map_cons, List.map_nil, List.length_map, true_and, and_true, Bool.false_eq_true, if_false, if_true, Bool.not_true, Bool.not_false, qEq_int, qEq_str, qEq_bl, qNe_int, qNe_str, qNe_bl, line0, line1, line2, line3, line4, line6, line7, line10, isi_list_lst, isi_list_tup, isi_list_non, isi_list_str, isi_list_int, isi_tup_tup, isi_bool_bl, isi_bool_int, isi_int_int, isi_int_bl, isi_int_non, isi_int_str, isi_str_str, isi_str_non, isi_str_int, startE_c, startE_n, startE_e, wFor_e, wLc_e, wipeE, wgName, wgTup, wgCons, wgNil, List.getElem?_cons_zero, List.getElem?_cons_succ, List.set_cons_zero, List.set_cons_succ, List.length_cons, List.length_nil, Mi.wC, Mi.wVar, Mi.wVarO, Mi.wOp, Mi.wUn, Mi.wCmp, Mi.wCmpT, Mi.wChainT, Mi.wChain, Mi.wTru, Mi.wAndT, Mi.wOrT, Mi.wNotT, Mi.wAnd, Mi.wOr, Mi.wNot, Mi.wIfE, Mi.wNoPart, Mi.wPart, Mi.wSl, Mi.wNil, Mi.wCons, Mi.wTup, Mi.wLst, Mi.wNext, Mi.wSeq, Mi.wFreeze, Mi.wForget, Mi.wBreak, Mi.wCont, Mi.wRet, Mi.wRetO, Mi.wRetN, Mi.wDrop, Mi.wIf, Mi.wNever, Mi.wAsg, Mi.wSetO, Mi.wPar, Mi.wAug, Mi.wApp, Mi.wSetIx, Mi.wExt, Mi.wItems, Mi.wRng1, Mi.wRng2, Mi.wRng3, Mi.wEnum, Mi.wZip, Mi.wYes, Mi.wCall, Mi.wCallX, Mi.wB2, Mi.wMin3, Mi.wIsi, Mi.wGuard, Mi.wGuardD, Mi.wRaise, Mi.wEnumS, Mi.wListR, Mi.wJoin, Mi.wMet, Mi.wMet0, Mi.wPop, Mi.wdNil, Mi.wdCons, Mi.wDisp]
    refine cut_i (fun δ' => ∃ c4 c5 c6 c7 c8 c9 c10, δ' = [st (wordsD L), st (.lst (ts.map D.str)), st (.ext 1 (treeD A B)), ow (.dic (knownD ks)), c4, c5, c6, c7, c8, c9, c10]) ?_ ?_
    · unfold wordsD
      simp only [e_qI, e_qIC, e_add1, e_add2, e_add3, e_add4, e_catL, e_aug1, e_aug2, e_mul1, e_mul2, e_rep, e_div, e_mod, e_neg, e_ord1, e_ord2, e_isn, e_nin, e_non1, e_non2, e_non3, e_non4, e_non5, e_non6, e_tru1, e_tru2, e_tru3, e_tru4, e_tru5, e_tru6, e_tru7, e_sl1, e_sl2, e_sl3, e_sl4, e_rev, e_it1, e_it2, e_it3, e_len1, e_len2, e_len3, e_len4, e_int1, e_int2, e_int3, e_min, e_max, e_min3, e_lst1, e_lst2, e_tup1, e_tup2, e_str, e_abs, e_lenS, e_ixS, isi_list_bl, isi_str_lst, isi_str_tup, isi_str_bl, isi_int_lst, isi_int_tup, isi_bool_non, isi_bool_str, isi_bool_lst, isi_bool_tup, isi_tup_lst, isi_tup_non, isi_tup_str, isi_tup_int, isi_tup_bl, e_attr, e_inD, e_ixD, e_ixS1, eq_self, Mi.qNotIn, Mi.qLt, Mi.qLe, Mi.qGt, Mi.qGe, List.map_cons, List.map_nil, List.length_map, true_and, and_true, Bool.false_eq_true, if_false, if_true, Bool.not_true, Bool.not_false, qEq_int, qEq_str, qEq_bl, qNe_int, qNe_str, qNe_bl, line0, line1, line2, line3, line4, line6, line7, line10, isi_list_lst, isi_list_tup, isi_list_non, isi_list_str, isi_list_int, isi_tup_tup, isi_bool_bl, isi_bool_int, isi_int_int, isi_int_bl, isi_int_non, isi_int_str, isi_str_str, isi_str_non, isi_str_int, startE_c, startE_n, startE_e, wFor_e, wLc_e, wipeE, wgName, wgTup, wgCons, wgNil, List.getElem?_cons_zero, List.getElem?_cons_succ, List.set_cons_zero, List.set_cons_succ, List.length_cons, List.length_nil, Mi.wC, Mi.wVar, Mi.wVarO, Mi.wOp, Mi.wUn, Mi.wCmp, Mi.wCmpT, Mi.wChainT, Mi.wChain, Mi.wTru, Mi.wAndT, Mi.wOrT, Mi.wNotT, Mi.wAnd, Mi.wOr, Mi.wNot, Mi.wIfE, Mi.wNoPart, Mi.wPart, Mi.wSl, Mi.wNil, Mi.wCons, Mi.wTup, Mi.wLst, Mi.wNext, Mi.wSeq, Mi.wFreeze, Mi.wForget, Mi.wBreak, Mi.wCont, Mi.wRet, Mi.wRetO, Mi.wRetN, Mi.wDrop, Mi.wIf, Mi.wNever, Mi.wAsg, Mi.wSetO, Mi.wPar, Mi.wAug, Mi.wApp, Mi.wSetIx, Mi.wExt, Mi.wItems, Mi.wRng1, Mi.wRng2, Mi.wRng3, Mi.wEnum, Mi.wZip, Mi.wYes, Mi.wCall, Mi.wCallX, Mi.wB2, Mi.wMin3, Mi.wIsi, Mi.wGuard, Mi.wGuardD, Mi.wRaise, Mi.wEnumS, Mi.wListR, Mi.wJoin, Mi.wMet, Mi.wMet0, Mi.wPop, Mi.wdNil, Mi.wdCons, Mi.wDisp]
      refine ⟨leL (by omega), leL (by simp; omega), ?_⟩
      refine lc_i (fun i acc => acc = ((L.take i).map fun s => cutS s none (some (-1))).map D.str) (by rw [List.length_map]; exact leL (by omega)) rfl ?_ ?_
      · rintro i d acc hi rfl _
        rw [List.getElem?_map] at hi
        obtain ⟨s, hs, rfl⟩ := Option.map_eq_some_iff.mp hi
        have hil := (List.getElem?_eq_some_iff.mp hs).1
        have his : L[i] = s := (List.getElem?_eq_some_iff.mp hs).2
        have := plain_len (hpl s (List.mem_of_getElem? hs))
        simp only [e_qI, e_qIC, e_add1, e_add2, e_add3, e_add4, e_catL, e_aug1, e_aug2, e_mul1, e_mul2, e_rep, e_div, e_mod, e_neg, e_ord1, e_ord2, e_isn, e_nin, e_non1, e_non2, e_non3, e_non4, e_non5, e_non6, e_tru1, e_tru2, e_tru3, e_tru4, e_tru5, e_tru6, e_tru7, e_sl1, e_sl2, e_sl3, e_sl4, e_rev, e_it1, e_it2, e_it3, e_len1, e_len2, e_len3, e_len4, e_int1, e_int2, e_int3, e_min, e_max, e_min3, e_lst1, e_lst2, e_tup1, e_tup2, e_str, e_abs, e_lenS, e_ixS, isi_list_bl, isi_str_lst, isi_str_tup, isi_str_bl, isi_int_lst, isi_int_tup, isi_bool_non, isi_bool_str, isi_bool_lst, isi_bool_tup, isi_tup_lst, isi_tup_non, isi_tup_str, isi_tup_int, isi_tup_bl, e_attr, e_inD, e_ixD, e_ixS1, eq_self, Mi.qNotIn, Mi.qLt, Mi.qLe, Mi.qGt, Mi.qGe, List.map_cons, List.map_nil, List.length_map, true_and, and_true, Bool.false_eq_true, if_false, if_true, Bool.not_true, Bool.not_false, qEq_int, qEq_str, qEq_bl, qNe_int, qNe_str, qNe_bl, line0, line1, line2, line3, line4, line6, line7, line10, isi_list_lst, isi_list_tup, isi_list_non, isi_list_str, isi_list_int, isi_tup_tup, isi_bool_bl, isi_bool_int, isi_int_int, isi_int_bl, isi_int_non, isi_int_str, isi_str_str, isi_str_non, isi_str_int, startE_c, startE_n, startE_e, wFor_e, wLc_e, wipeE, wgName, wgTup, wgCons, wgNil, List.getElem?_cons_zero, List.getElem?_cons_succ, List.set_cons_zero, List.set_cons_succ, List.length_cons, List.length_nil, Mi.wC, Mi.wVar, Mi.wVarO, Mi.wOp, Mi.wUn, Mi.wCmp, Mi.wCmpT, Mi.wChainT, Mi.wChain, Mi.wTru, Mi.wAndT, Mi.wOrT, Mi.wNotT, Mi.wAnd, Mi.wOr, Mi.wNot, Mi.wIfE, Mi.wNoPart, Mi.wPart, Mi.wSl, Mi.wNil, Mi.wCons, Mi.wTup, Mi.wLst, Mi.wNext, Mi.wSeq, Mi.wFreeze, Mi.wForget, Mi.wBreak, Mi.wCont, Mi.wRet, Mi.wRetO, Mi.wRetN, Mi.wDrop, Mi.wIf, Mi.wNever, Mi.wAsg, Mi.wSetO, Mi.wPar, Mi.wAug, Mi.wApp, Mi.wSetIx, Mi.wExt, Mi.wItems, Mi.wRng1, Mi.wRng2, Mi.wRng3, Mi.wEnum, Mi.wZip, Mi.wYes, Mi.wCall, Mi.wCallX, Mi.wB2, Mi.wMin3, Mi.wIsi, Mi.wGuard, Mi.wGuardD, Mi.wRaise, Mi.wEnumS, Mi.wListR, Mi.wJoin, Mi.wMet, Mi.wMet0, Mi.wPop, Mi.wdNil, Mi.wdCons, Mi.wDisp]
        refine ⟨leL (by show s.cps.size < _; omega), ?_⟩
        rw [List.take_succ_eq_append_getElem hil, his, List.map_append, List.map_append]; rfl
      · rintro acc rfl
        rw [List.length_map, List.take_length]
        have hU : List.map D.str ts ++ List.map D.str L ++ [D.str (PySem.Str.ofString ""), D.str (PySem.Str.ofString "zz")] ++ (L.map fun s => cutS s none (some (-1))).map D.str = (ts ++ L ++ [PySem.Str.ofString "", PySem.Str.ofString "zz"] ++ L.map fun s => cutS s none (some (-1))).map D.str := by simp
        have hUl : ∀ t ∈ (ts ++ L ++ [PySem.Str.ofString "", PySem.Str.ofString "zz"] ++ L.map fun s => cutS s none (some (-1))), t.length ≤ 100 := fun t htm => by
          simp only [List.mem_append, List.mem_map, List.mem_cons, List.not_mem_nil, or_false] at htm
          rcases htm with ((htm | htm) | rfl | rfl) | ⟨s, hs, rfl⟩
          · exact htl t htm
          · have := plain_len (hpl t htm)
            show t.cps.size ≤ _
            omega
          · decide +kernel
          · decide +kernel
          · have h1 := plain_len (hpl s hs)
            refine Nat.le_trans (cutS_length s _ _) ?_
            show s.cps.size ≤ _
            omega
        simp only [e_qI, e_qIC, e_add1, e_add2, e_add3, e_add4, e_catL, e_aug1, e_aug2, e_mul1, e_mul2, e_rep, e_div, e_mod, e_neg, e_ord1, e_ord2, e_isn, e_nin, e_non1, e_non2, e_non3, e_non4, e_non5, e_non6, e_tru1, e_tru2, e_tru3, e_tru4, e_tru5, e_tru6, e_tru7, e_sl1, e_sl2, e_sl3, e_sl4, e_rev, e_it1, e_it2, e_it3, e_len1, e_len2, e_len3, e_len4, e_int1, e_int2, e_int3, e_min, e_max, e_min3, e_lst1, e_lst2, e_tup1, e_tup2, e_str, e_abs, e_lenS, e_ixS, isi_list_bl, isi_str_lst, isi_str_tup, isi_str_bl, isi_int_lst, isi_int_tup, isi_bool_non, isi_bool_str, isi_bool_lst, isi_bool_tup, isi_tup_lst, isi_tup_non, isi_tup_str, isi_tup_int, isi_tup_bl, e_attr, e_inD, e_ixD, e_ixS1, eq_self, Mi.qNotIn, Mi.qLt, Mi.qLe, Mi.qGt, Mi.qGe, List.map_cons, List.map_nil, List.length_map, true_and, and_true, Bool.false_eq_true, if_false, if_true, Bool.not_true, Bool.not_false, qEq_int, qEq_str, qEq_bl, qNe_int, qNe_str, qNe_bl, line0, line1, line2, line3, line4, line6, line7, line10, isi_list_lst, isi_list_tup, isi_list_non, isi_list_str, isi_list_int, isi_tup_tup, isi_bool_bl, isi_bool_int, isi_int_int, isi_int_bl, isi_int_non, isi_int_str, isi_str_str, isi_str_non, isi_str_int, startE_c, startE_n, startE_e, wFor_e, wLc_e, wipeE, wgName, wgTup, wgCons, wgNil, List.getElem?_cons_zero, List.getElem?_cons_succ, List.set_cons_zero, List.set_cons_succ, List.length_cons, List.length_nil, Mi.wC, Mi.wVar, Mi.wVarO, Mi.wOp, Mi.wUn, Mi.wCmp, Mi.wCmpT, Mi.wChainT, Mi.wChain, Mi.wTru, Mi.wAndT, Mi.wOrT, Mi.wNotT, Mi.wAnd, Mi.wOr, Mi.wNot, Mi.wIfE, Mi.wNoPart, Mi.wPart, Mi.wSl, Mi.wNil, Mi.wCons, Mi.wTup, Mi.wLst, Mi.wNext, Mi.wSeq, Mi.wFreeze, Mi.wForget, Mi.wBreak, Mi.wCont, Mi.wRet, Mi.wRetO, Mi.wRetN, Mi.wDrop, Mi.wIf, Mi.wNever, Mi.wAsg, Mi.wSetO, Mi.wPar, Mi.wAug, Mi.wApp, Mi.wSetIx, Mi.wExt, Mi.wItems, Mi.wRng1, Mi.wRng2, Mi.wRng3, Mi.wEnum, Mi.wZip, Mi.wYes, Mi.wCall, Mi.wCallX, Mi.wB2, Mi.wMin3, Mi.wIsi, Mi.wGuard, Mi.wGuardD, Mi.wRaise, Mi.wEnumS, Mi.wListR, Mi.wJoin, Mi.wMet, Mi.wMet0, Mi.wPop, Mi.wdNil, Mi.wdCons, Mi.wDisp]
        refine ⟨leL (by simp; omega), ?_⟩
        rw [hU]
        generalize (ts ++ L ++ [PySem.Str.ofString "", PySem.Str.ofString "zz"] ++ L.map fun s => cutS s none (some (-1))) = U at hUl
        refine for_i (fun i δ' => ∃ c4 c5 c6 c7 c8 c9 c10, δ' = [st (wordsD L), st (.lst (ts.map D.str)), st (.ext 1 (treeD A B)), ow (.dic (knownD ks)), c4, c5, c6, c7, c8, c9, c10]) ⟨_, _, _, _, _, _, _, rfl⟩ ?_ fun δ' h => h
        rintro i d δ' hi ⟨c4, c5, c6, c7, c8, c9, c10, rfl⟩
        rw [List.getElem?_map] at hi
        obtain ⟨t, ht', rfl⟩ := Option.map_eq_some_iff.mp hi
        have htl := hUl t (List.mem_of_getElem? ht')
        simp only [e_qI, e_qIC, e_add1, e_add2, e_add3, e_add4, e_catL, e_aug1, e_aug2, e_mul1, e_mul2, e_rep, e_div, e_mod, e_neg, e_ord1, e_ord2, e_isn, e_nin, e_non1, e_non2, e_non3, e_non4, e_non5, e_non6, e_tru1, e_tru2, e_tru3, e_tru4, e_tru5, e_tru6, e_tru7, e_sl1, e_sl2, e_sl3, e_sl4, e_rev, e_it1, e_it2, e_it3, e_len1, e_len2, e_len3, e_len4, e_int1, e_int2, e_int3, e_min, e_max, e_min3, e_lst1, e_lst2, e_tup1, e_tup2, e_str, e_abs, e_lenS, e_ixS, isi_list_bl, isi_str_lst, isi_str_tup, isi_str_bl, isi_int_lst, isi_int_tup, isi_bool_non, isi_bool_str, isi_bool_lst, isi_bool_tup, isi_tup_lst, isi_tup_non, isi_tup_str, isi_tup_int, isi_tup_bl, e_attr, e_inD, e_ixD, e_ixS1, eq_self, Mi.qNotIn, Mi.qLt, Mi.qLe, Mi.qGt, Mi.qGe, List.map_cons, List.map_nil, List.length_map, true_and, and_true, Bool.false_eq_true, if_false, if_true, Bool.not_true, Bool.not_false, qEq_int, qEq_str, qEq_bl, qNe_int, qNe_str, qNe_bl, line0, line1, line2, line3, line4, line6, line7, line10, isi_list_lst, isi_list_tup, isi_list_non, isi_list_str, isi_list_int, isi_tup_tup, isi_bool_bl, isi_bool_int, isi_int_int, isi_int_bl, isi_int_non, isi_int_str, isi_str_str, isi_str_non, isi_str_int, startE_c, startE_n, startE_e, wFor_e, wLc_e, wipeE, wgName, wgTup, wgCons, wgNil, List.getElem?_cons_zero, List.getElem?_cons_succ, List.set_cons_zero, List.set_cons_succ, List.length_cons, List.length_nil, Mi.wC, Mi.wVar, Mi.wVarO, Mi.wOp, Mi.wUn, Mi.wCmp, Mi.wCmpT, Mi.wChainT, Mi.wChain, Mi.wTru, Mi.wAndT, Mi.wOrT, Mi.wNotT, Mi.wAnd, Mi.wOr, Mi.wNot, Mi.wIfE, Mi.wNoPart, Mi.wPart, Mi.wSl, Mi.wNil, Mi.wCons, Mi.wTup, Mi.wLst, Mi.wNext, Mi.wSeq, Mi.wFreeze, Mi.wForget, Mi.wBreak, Mi.wCont, Mi.wRet, Mi.wRetO, Mi.wRetN, Mi.wDrop, Mi.wIf, Mi.wNever, Mi.wAsg, Mi.wSetO, Mi.wPar, Mi.wAug, Mi.wApp, Mi.wSetIx, Mi.wExt, Mi.wItems, Mi.wRng1, Mi.wRng2, Mi.wRng3, Mi.wEnum, Mi.wZip, Mi.wYes, Mi.wCall, Mi.wCallX, Mi.wB2, Mi.wMin3, Mi.wIsi, Mi.wGuard, Mi.wGuardD, Mi.wRaise, Mi.wEnumS, Mi.wListR, Mi.wJoin, Mi.wMet, Mi.wMet0, Mi.wPop, Mi.wdNil, Mi.wdCons, Mi.wDisp]
        refine ⟨A, B, ps, L.map codes, t, rfl, TF, ?_⟩
        refine ifD_i false ?_ (fun h => by cases h) fun _ => ?_
        · unfold wordsD
          simp only [e_qI, e_qIC, e_add1, e_add2, e_add3, e_add4, e_catL, e_aug1, e_aug2, e_mul1, e_mul2, e_rep, e_div, e_mod, e_neg, e_ord1, e_ord2, e_isn, e_nin, e_non1, e_non2, e_non3, e_non4, e_non5, e_non6, e_tru1, e_tru2, e_tru3, e_tru4, e_tru5, e_tru6, e_tru7, e_sl1, e_sl2, e_sl3, e_sl4, e_rev, e_it1, e_it2, e_it3, e_len1, e_len2, e_len3, e_len4, e_int1, e_int2, e_int3, e_min, e_max, e_min3, e_lst1, e_lst2, e_tup1, e_tup2, e_str, e_abs, e_lenS, e_ixS, isi_list_bl, isi_str_lst, isi_str_tup, isi_str_bl, isi_int_lst, isi_int_tup, isi_bool_non, isi_bool_str, isi_bool_lst, isi_bool_tup, isi_tup_lst, isi_tup_non, isi_tup_str, isi_tup_int, isi_tup_bl, e_attr, e_inD, e_ixD, e_ixS1, eq_self, Mi.qNotIn, Mi.qLt, Mi.qLe, Mi.qGt, Mi.qGe, List.map_cons, List.map_nil, List.length_map, true_and, and_true, Bool.false_eq_true, if_false, if_true, Bool.not_true, Bool.not_false, qEq_int, qEq_str, qEq_bl, qNe_int, qNe_str, qNe_bl, line0, line1, line2, line3, line4, line6, line7, line10, isi_list_lst, isi_list_tup, isi_list_non, isi_list_str, isi_list_int, isi_tup_tup, isi_bool_bl, isi_bool_int, isi_int_int, isi_int_bl, isi_int_non, isi_int_str, isi_str_str, isi_str_non, isi_str_int, startE_c, startE_n, startE_e, wFor_e, wLc_e, wipeE, wgName, wgTup, wgCons, wgNil, List.getElem?_cons_zero, List.getElem?_cons_succ, List.set_cons_zero, List.set_cons_succ, List.length_cons, List.length_nil, Mi.wC, Mi.wVar, Mi.wVarO, Mi.wOp, Mi.wUn, Mi.wCmp, Mi.wCmpT, Mi.wChainT, Mi.wChain, Mi.wTru, Mi.wAndT, Mi.wOrT, Mi.wNotT, Mi.wAnd, Mi.wOr, Mi.wNot, Mi.wIfE, Mi.wNoPart, Mi.wPart, Mi.wSl, Mi.wNil, Mi.wCons, Mi.wTup, Mi.wLst, Mi.wNext, Mi.wSeq, Mi.wFreeze, Mi.wForget, Mi.wBreak, Mi.wCont, Mi.wRet, Mi.wRetO, Mi.wRetN, Mi.wDrop, Mi.wIf, Mi.wNever, Mi.wAsg, Mi.wSetO, Mi.wPar, Mi.wAug, Mi.wApp, Mi.wSetIx, Mi.wExt, Mi.wItems, Mi.wRng1, Mi.wRng2, Mi.wRng3, Mi.wEnum, Mi.wZip, Mi.wYes, Mi.wCall, Mi.wCallX, Mi.wB2, Mi.wMin3, Mi.wIsi, Mi.wGuard, Mi.wGuardD, Mi.wRaise, Mi.wEnumS, Mi.wListR, Mi.wJoin, Mi.wMet, Mi.wMet0, Mi.wPop, Mi.wdNil, Mi.wdCons, Mi.wDisp]
          refine ⟨.inl ⟨rfl, by rw [List.all_map]; exact List.all_eq_true.mpr fun _ _ => rfl⟩, ?_⟩
          rw [in_words]
          simp
        · simp only [e_qI, e_qIC, e_add1, e_add2, e_add3, e_add4, e_catL, e_aug1, e_aug2, e_mul1, e_mul2, e_rep, e_div, e_mod, e_neg, e_ord1, e_ord2, e_isn, e_nin, e_non1, e_non2, e_non3, e_non4, e_non5, e_non6, e_tru1, e_tru2, e_tru3, e_tru4, e_tru5, e_tru6, e_tru7, e_sl1, e_sl2, e_sl3, e_sl4, e_rev, e_it1, e_it2, e_it3, e_len1, e_len2, e_len3, e_len4, e_int1, e_int2, e_int3, e_min, e_max, e_min3, e_lst1, e_lst2, e_tup1, e_tup2, e_str, e_abs, e_lenS, e_ixS, isi_list_bl, isi_str_lst, isi_str_tup, isi_str_bl, isi_int_lst, isi_int_tup, isi_bool_non, isi_bool_str, isi_bool_lst, isi_bool_tup, isi_tup_lst, isi_tup_non, isi_tup_str, isi_tup_int, isi_tup_bl, e_attr, e_inD, e_ixD, e_ixS1, eq_self, Mi.qNotIn, Mi.qLt, Mi.qLe, Mi.qGt, Mi.qGe, List.map_cons, List.map_nil, List.length_map, true_and, and_true, Bool.false_eq_true, if_false, if_true, Bool.not_true, Bool.not_false, qEq_int, qEq_str, qEq_bl, qNe_int, qNe_str, qNe_bl, line0, line1, line2, line3, line4, line6, line7, line10, isi_list_lst, isi_list_tup, isi_list_non, isi_list_str, isi_list_int, isi_tup_tup, isi_bool_bl, isi_bool_int, isi_int_int, isi_int_bl, isi_int_non, isi_int_str, isi_str_str, isi_str_non, isi_str_int, startE_c, startE_n, startE_e, wFor_e, wLc_e, wipeE, wgName, wgTup, wgCons, wgNil, List.getElem?_cons_zero, List.getElem?_cons_succ, List.set_cons_zero, List.set_cons_succ, List.length_cons, List.length_nil, Mi.wC, Mi.wVar, Mi.wVarO, Mi.wOp, Mi.wUn, Mi.wCmp, Mi.wCmpT, Mi.wChainT, Mi.wChain, Mi.wTru, Mi.wAndT, Mi.wOrT, Mi.wNotT, Mi.wAnd, Mi.wOr, Mi.wNot, Mi.wIfE, Mi.wNoPart, Mi.wPart, Mi.wSl, Mi.wNil, Mi.wCons, Mi.wTup, Mi.wLst, Mi.wNext, Mi.wSeq, Mi.wFreeze, Mi.wForget, Mi.wBreak, Mi.wCont, Mi.wRet, Mi.wRetO, Mi.wRetN, Mi.wDrop, Mi.wIf, Mi.wNever, Mi.wAsg, Mi.wSetO, Mi.wPar, Mi.wAug, Mi.wApp, Mi.wSetIx, Mi.wExt, Mi.wItems, Mi.wRng1, Mi.wRng2, Mi.wRng3, Mi.wEnum, Mi.wZip, Mi.wYes, Mi.wCall, Mi.wCallX, Mi.wB2, Mi.wMin3, Mi.wIsi, Mi.wGuard, Mi.wGuardD, Mi.wRaise, Mi.wEnumS, Mi.wListR, Mi.wJoin, Mi.wMet, Mi.wMet0, Mi.wPop, Mi.wdNil, Mi.wdCons, Mi.wDisp]
          refine ⟨by omega, by omega, ?_⟩
          refine for_i (fun m δ' => ∃ c4 c7 c8 c9 c10, δ' = [st (wordsD L), st (.lst (ts.map D.str)), st (.ext 1 (treeD A B)), ow (.dic (knownD ks)), c4, st (.str t), c6, c7, c8, c9, c10]) ⟨_, _, _, _, _, rfl⟩ ?_ fun δ' ⟨c4, c7, c8, c9, c10, h⟩ => ⟨_, _, _, _, _, _, _, h⟩
          rintro m d δ' hm ⟨c4, c7, c8, c9, c10, rfl⟩
          obtain ⟨hm, rfl⟩ := rangeD_of hm
          have hm4 : m < 4 := by assumption
          unfold wordsD
          simp only [e_qI, e_qIC, e_add1, e_add2, e_add3, e_add4, e_catL, e_aug1, e_aug2, e_mul1, e_mul2, e_rep, e_div, e_mod, e_neg, e_ord1, e_ord2, e_isn, e_nin, e_non1, e_non2, e_non3, e_non4, e_non5, e_non6, e_tru1, e_tru2, e_tru3, e_tru4, e_tru5, e_tru6, e_tru7, e_sl1, e_sl2, e_sl3, e_sl4, e_rev, e_it1, e_it2, e_it3, e_len1, e_len2, e_len3, e_len4, e_int1, e_int2, e_int3, e_min, e_max, e_min3, e_lst1, e_lst2, e_tup1, e_tup2, e_str, e_abs, e_lenS, e_ixS, isi_list_bl, isi_str_lst, isi_str_tup, isi_str_bl, isi_int_lst, isi_int_tup, isi_bool_non, isi_bool_str, isi_bool_lst, isi_bool_tup, isi_tup_lst, isi_tup_non, isi_tup_str, isi_tup_int, isi_tup_bl, e_attr, e_inD, e_ixD, e_ixS1, eq_self, Mi.qNotIn, Mi.qLt, Mi.qLe, Mi.qGt, Mi.qGe, List.map_cons, List.map_nil, List.length_map, true_and, and_true, Bool.false_eq_true, if_false, if_true, Bool.not_true, Bool.not_false, qEq_int, qEq_str, qEq_bl, qNe_int, qNe_str, qNe_bl, line0, line1, line2, line3, line4, line6, line7, line10, isi_list_lst, isi_list_tup, isi_list_non, isi_list_str, isi_list_int, isi_tup_tup, isi_bool_bl, isi_bool_int, isi_int_int, isi_int_bl, isi_int_non, isi_int_str, isi_str_str, isi_str_non, isi_str_int, startE_c, startE_n, startE_e, wFor_e, wLc_e, wipeE, wgName, wgTup, wgCons, wgNil, List.getElem?_cons_zero, List.getElem?_cons_succ, List.set_cons_zero, List.set_cons_succ, List.length_cons, List.length_nil, Mi.wC, Mi.wVar, Mi.wVarO, Mi.wOp, Mi.wUn, Mi.wCmp, Mi.wCmpT, Mi.wChainT, Mi.wChain, Mi.wTru, Mi.wAndT, Mi.wOrT, Mi.wNotT, Mi.wAnd, Mi.wOr, Mi.wNot, Mi.wIfE, Mi.wNoPart, Mi.wPart, Mi.wSl, Mi.wNil, Mi.wCons, Mi.wTup, Mi.wLst, Mi.wNext, Mi.wSeq, Mi.wFreeze, Mi.wForget, Mi.wBreak, Mi.wCont, Mi.wRet, Mi.wRetO, Mi.wRetN, Mi.wDrop, Mi.wIf, Mi.wNever, Mi.wAsg, Mi.wSetO, Mi.wPar, Mi.wAug, Mi.wApp, Mi.wSetIx, Mi.wExt, Mi.wItems, Mi.wRng1, Mi.wRng2, Mi.wRng3, Mi.wEnum, Mi.wZip, Mi.wYes, Mi.wCall, Mi.wCallX, Mi.wB2, Mi.wMin3, Mi.wIsi, Mi.wGuard, Mi.wGuardD, Mi.wRaise, Mi.wEnumS, Mi.wListR, Mi.wJoin, Mi.wMet, Mi.wMet0, Mi.wPop, Mi.wdNil, Mi.wdCons, Mi.wDisp, Int.zero_add]
          refine lc_i (fun i acc => acc = (dueS (L.take i) t m).map pairD) (by rw [List.length_map]; exact leL (by omega)) rfl ?_ ?_
          · rintro i d acc hi rfl _
            rw [List.getElem?_map] at hi
            obtain ⟨s, hs, rfl⟩ := Option.map_eq_some_iff.mp hi
            have hil := (List.getElem?_eq_some_iff.mp hs).1
            have his : L[i] = s := (List.getElem?_eq_some_iff.mp hs).2
            have hsl := plain_len (hpl s (List.mem_of_getElem? hs))
            have hss : s.length ≤ 1000000 := by show s.cps.size ≤ _; omega
            simp only [e_qI, e_qIC, e_add1, e_add2, e_add3, e_add4, e_catL, e_aug1, e_aug2, e_mul1, e_mul2, e_rep, e_div, e_mod, e_neg, e_ord1, e_ord2, e_isn, e_nin, e_non1, e_non2, e_non3, e_non4, e_non5, e_non6, e_tru1, e_tru2, e_tru3, e_tru4, e_tru5, e_tru6, e_tru7, e_sl1, e_sl2, e_sl3, e_sl4, e_rev, e_it1, e_it2, e_it3, e_len1, e_len2, e_len3, e_len4, e_int1, e_int2, e_int3, e_min, e_max, e_min3, e_lst1, e_lst2, e_tup1, e_tup2, e_str, e_abs, e_lenS, e_ixS, isi_list_bl, isi_str_lst, isi_str_tup, isi_str_bl, isi_int_lst, isi_int_tup, isi_bool_non, isi_bool_str, isi_bool_lst, isi_bool_tup, isi_tup_lst, isi_tup_non, isi_tup_str, isi_tup_int, isi_tup_bl, e_attr, e_inD, e_ixD, e_ixS1, eq_self, Mi.qNotIn, Mi.qLt, Mi.qLe, Mi.qGt, Mi.qGe, List.map_cons, List.map_nil, List.length_map, true_and, and_true, Bool.false_eq_true, if_false, if_true, Bool.not_true, Bool.not_false, qEq_int, qEq_str, qEq_bl, qNe_int, qNe_str, qNe_bl, line0, line1, line2, line3, line4, line6, line7, line10, isi_list_lst, isi_list_tup, isi_list_non, isi_list_str, isi_list_int, isi_tup_tup, isi_bool_bl, isi_bool_int, isi_int_int, isi_int_bl, isi_int_non, isi_int_str, isi_str_str, isi_str_non, isi_str_int, startE_c, startE_n, startE_e, wFor_e, wLc_e, wipeE, wgName, wgTup, wgCons, wgNil, List.getElem?_cons_zero, List.getElem?_cons_succ, List.set_cons_zero, List.set_cons_succ, List.length_cons, List.length_nil, Mi.wC, Mi.wVar, Mi.wVarO, Mi.wOp, Mi.wUn, Mi.wCmp, Mi.wCmpT, Mi.wChainT, Mi.wChain, Mi.wTru, Mi.wAndT, Mi.wOrT, Mi.wNotT, Mi.wAnd, Mi.wOr, Mi.wNot, Mi.wIfE, Mi.wNoPart, Mi.wPart, Mi.wSl, Mi.wNil, Mi.wCons, Mi.wTup, Mi.wLst, Mi.wNext, Mi.wSeq, Mi.wFreeze, Mi.wForget, Mi.wBreak, Mi.wCont, Mi.wRet, Mi.wRetO, Mi.wRetN, Mi.wDrop, Mi.wIf, Mi.wNever, Mi.wAsg, Mi.wSetO, Mi.wPar, Mi.wAug, Mi.wApp, Mi.wSetIx, Mi.wExt, Mi.wItems, Mi.wRng1, Mi.wRng2, Mi.wRng3, Mi.wEnum, Mi.wZip, Mi.wYes, Mi.wCall, Mi.wCallX, Mi.wB2, Mi.wMin3, Mi.wIsi, Mi.wGuard, Mi.wGuardD, Mi.wRaise, Mi.wEnumS, Mi.wListR, Mi.wJoin, Mi.wMet, Mi.wMet0, Mi.wPop, Mi.wdNil, Mi.wdCons, Mi.wDisp]
            refine ⟨t, s, rfl, by omega, hss, ?_⟩
            simp only [e_qI, e_qIC, e_add1, e_add2, e_add3, e_add4, e_catL, e_aug1, e_aug2, e_mul1, e_mul2, e_rep, e_div, e_mod, e_neg, e_ord1, e_ord2, e_isn, e_nin, e_non1, e_non2, e_non3, e_non4, e_non5, e_non6, e_tru1, e_tru2, e_tru3, e_tru4, e_tru5, e_tru6, e_tru7, e_sl1, e_sl2, e_sl3, e_sl4, e_rev, e_it1, e_it2, e_it3, e_len1, e_len2, e_len3, e_len4, e_int1, e_int2, e_int3, e_min, e_max, e_min3, e_lst1, e_lst2, e_tup1, e_tup2, e_str, e_abs, e_lenS, e_ixS, isi_list_bl, isi_str_lst, isi_str_tup, isi_str_bl, isi_int_lst, isi_int_tup, isi_bool_non, isi_bool_str, isi_bool_lst, isi_bool_tup, isi_tup_lst, isi_tup_non, isi_tup_str, isi_tup_int, isi_tup_bl, e_attr, e_inD, e_ixD, e_ixS1, eq_self, Mi.qNotIn, Mi.qLt, Mi.qLe, Mi.qGt, Mi.qGe, List.map_cons, List.map_nil, List.length_map, true_and, and_true, Bool.false_eq_true, if_false, if_true, Bool.not_true, Bool.not_false, qEq_int, qEq_str, qEq_bl, qNe_int, qNe_str, qNe_bl, line0, line1, line2, line3, line4, line6, line7, line10, isi_list_lst, isi_list_tup, isi_list_non, isi_list_str, isi_list_int, isi_tup_tup, isi_bool_bl, isi_bool_int, isi_int_int, isi_int_bl, isi_int_non, isi_int_str, isi_str_str, isi_str_non, isi_str_int, startE_c, startE_n, startE_e, wFor_e, wLc_e, wipeE, wgName, wgTup, wgCons, wgNil, List.getElem?_cons_zero, List.getElem?_cons_succ, List.set_cons_zero, List.set_cons_succ, List.length_cons, List.length_nil, Mi.wC, Mi.wVar, Mi.wVarO, Mi.wOp, Mi.wUn, Mi.wCmp, Mi.wCmpT, Mi.wChainT, Mi.wChain, Mi.wTru, Mi.wAndT, Mi.wOrT, Mi.wNotT, Mi.wAnd, Mi.wOr, Mi.wNot, Mi.wIfE, Mi.wNoPart, Mi.wPart, Mi.wSl, Mi.wNil, Mi.wCons, Mi.wTup, Mi.wLst, Mi.wNext, Mi.wSeq, Mi.wFreeze, Mi.wForget, Mi.wBreak, Mi.wCont, Mi.wRet, Mi.wRetO, Mi.wRetN, Mi.wDrop, Mi.wIf, Mi.wNever, Mi.wAsg, Mi.wSetO, Mi.wPar, Mi.wAug, Mi.wApp, Mi.wSetIx, Mi.wExt, Mi.wItems, Mi.wRng1, Mi.wRng2, Mi.wRng3, Mi.wEnum, Mi.wZip, Mi.wYes, Mi.wCall, Mi.wCallX, Mi.wB2, Mi.wMin3, Mi.wIsi, Mi.wGuard, Mi.wGuardD, Mi.wRaise, Mi.wEnumS, Mi.wListR, Mi.wJoin, Mi.wMet, Mi.wMet0, Mi.wPop, Mi.wdNil, Mi.wdCons, Mi.wDisp]
            refine ite_i (fun hh => ?_) fun hh => ?_
            · refine ⟨t, s, rfl, by omega, hss, ?_⟩
              simp only [e_qI, e_qIC, e_add1, e_add2, e_add3, e_add4, e_catL, e_aug1, e_aug2, e_mul1, e_mul2, e_rep, e_div, e_mod, e_neg, e_ord1, e_ord2, e_isn, e_nin, e_non1, e_non2, e_non3, e_non4, e_non5, e_non6, e_tru1, e_tru2, e_tru3, e_tru4, e_tru5, e_tru6, e_tru7, e_sl1, e_sl2, e_sl3, e_sl4, e_rev, e_it1, e_it2, e_it3, e_len1, e_len2, e_len3, e_len4, e_int1, e_int2, e_int3, e_min, e_max, e_min3, e_lst1, e_lst2, e_tup1, e_tup2, e_str, e_abs, e_lenS, e_ixS, isi_list_bl, isi_str_lst, isi_str_tup, isi_str_bl, isi_int_lst, isi_int_tup, isi_bool_non, isi_bool_str, isi_bool_lst, isi_bool_tup, isi_tup_lst, isi_tup_non, isi_tup_str, isi_tup_int, isi_tup_bl, e_attr, e_inD, e_ixD, e_ixS1, eq_self, Mi.qNotIn, Mi.qLt, Mi.qLe, Mi.qGt, Mi.qGe, List.map_cons, List.map_nil, List.length_map, true_and, and_true, Bool.false_eq_true, if_false, if_true, Bool.not_true, Bool.not_false, qEq_int, qEq_str, qEq_bl, qNe_int, qNe_str, qNe_bl, line0, line1, line2, line3, line4, line6, line7, line10, isi_list_lst, isi_list_tup, isi_list_non, isi_list_str, isi_list_int, isi_tup_tup, isi_bool_bl, isi_bool_int, isi_int_int, isi_int_bl, isi_int_non, isi_int_str, isi_str_str, isi_str_non, isi_str_int, startE_c, startE_n, startE_e, wFor_e, wLc_e, wipeE, wgName, wgTup, wgCons, wgNil, List.getElem?_cons_zero, List.getElem?_cons_succ, List.set_cons_zero, List.set_cons_succ, List.length_cons, List.length_nil, Mi.wC, Mi.wVar, Mi.wVarO, Mi.wOp, Mi.wUn, Mi.wCmp, Mi.wCmpT, Mi.wChainT, Mi.wChain, Mi.wTru, Mi.wAndT, Mi.wOrT, Mi.wNotT, Mi.wAnd, Mi.wOr, Mi.wNot, Mi.wIfE, Mi.wNoPart, Mi.wPart, Mi.wSl, Mi.wNil, Mi.wCons, Mi.wTup, Mi.wLst, Mi.wNext, Mi.wSeq, Mi.wFreeze, Mi.wForget, Mi.wBreak, Mi.wCont, Mi.wRet, Mi.wRetO, Mi.wRetN, Mi.wDrop, Mi.wIf, Mi.wNever, Mi.wAsg, Mi.wSetO, Mi.wPar, Mi.wAug, Mi.wApp, Mi.wSetIx, Mi.wExt, Mi.wItems, Mi.wRng1, Mi.wRng2, Mi.wRng3, Mi.wEnum, Mi.wZip, Mi.wYes, Mi.wCall, Mi.wCallX, Mi.wB2, Mi.wMin3, Mi.wIsi, Mi.wGuard, Mi.wGuardD, Mi.wRaise, Mi.wEnumS, Mi.wListR, Mi.wJoin, Mi.wMet, Mi.wMet0, Mi.wPop, Mi.wdNil, Mi.wdCons, Mi.wDisp]
              have hh2 : decide (dist (codes t) (codes s) ≤ m) = true := by
                have := of_decide_eq_true hh
                exact decide_eq_true (by omega)
              unfold dueS
              rw [List.take_succ_eq_append_getElem hil, his, List.filter_append, List.filter_cons_of_pos (p := fun s => decide (dist (codes t) (codes s) ≤ m)) hh2, List.map_append, List.map_append]; rfl
            · have hh2 : ¬ decide (dist (codes t) (codes s) ≤ m) = true := by
                have := of_decide_eq_false hh
                exact fun z => this (by have := of_decide_eq_true z; omega)
              unfold dueS
              rw [List.take_succ_eq_append_getElem hil, his, List.filter_append, List.filter_cons_of_neg (p := fun s => decide (dist (codes t) (codes s) ≤ m)) hh2, List.filter_nil, List.append_nil]
          · rintro acc rfl
            rw [List.length_map, List.take_length]
            refine ⟨dueS L t m, rfl, fun qs hq hs => ?_⟩
            have hsh := ans_sh hpl hq
            have hqs : ∀ qs2, AnsL (due (L.map codes) (codes t) m) qs2 → qs2 = qs := fun qs2 h2 => by
              obtain ⟨h3, h4⟩ := h2
              rw [due_eq] at h3
              exact lexS_same (h3.trans hq.symm) h4 hs
            have hql : qs.length ≤ 100 := by
              rw [hq.length_eq]
              unfold dueS
              rw [List.length_map]
              exact Nat.le_trans (List.length_filter_le _ _) hL
            simp only [e_qI, e_qIC, e_add1, e_add2, e_add3, e_add4, e_catL, e_aug1, e_aug2, e_mul1, e_mul2, e_rep, e_div, e_mod, e_neg, e_ord1, e_ord2, e_isn, e_nin, e_non1, e_non2, e_non3, e_non4, e_non5, e_non6, e_tru1, e_tru2, e_tru3, e_tru4, e_tru5, e_tru6, e_tru7, e_sl1, e_sl2, e_sl3, e_sl4, e_rev, e_it1, e_it2, e_it3, e_len1, e_len2, e_len3, e_len4, e_int1, e_int2, e_int3, e_min, e_max, e_min3, e_lst1, e_lst2, e_tup1, e_tup2, e_str, e_abs, e_lenS, e_ixS, isi_list_bl, isi_str_lst, isi_str_tup, isi_str_bl, isi_int_lst, isi_int_tup, isi_bool_non, isi_bool_str, isi_bool_lst, isi_bool_tup, isi_tup_lst, isi_tup_non, isi_tup_str, isi_tup_int, isi_tup_bl, e_attr, e_inD, e_ixD, e_ixS1, eq_self, Mi.qNotIn, Mi.qLt, Mi.qLe, Mi.qGt, Mi.qGe, List.map_cons, List.map_nil, List.length_map, true_and, and_true, Bool.false_eq_true, if_false, if_true, Bool.not_true, Bool.not_false, qEq_int, qEq_str, qEq_bl, qNe_int, qNe_str, qNe_bl, line0, line1, line2, line3, line4, line6, line7, line10, isi_list_lst, isi_list_tup, isi_list_non, isi_list_str, isi_list_int, isi_tup_tup, isi_bool_bl, isi_bool_int, isi_int_int, isi_int_bl, isi_int_non, isi_int_str, isi_str_str, isi_str_non, isi_str_int, startE_c, startE_n, startE_e, wFor_e, wLc_e, wipeE, wgName, wgTup, wgCons, wgNil, List.getElem?_cons_zero, List.getElem?_cons_succ, List.set_cons_zero, List.set_cons_succ, List.length_cons, List.length_nil, Mi.wC, Mi.wVar, Mi.wVarO, Mi.wOp, Mi.wUn, Mi.wCmp, Mi.wCmpT, Mi.wChainT, Mi.wChain, Mi.wTru, Mi.wAndT, Mi.wOrT, Mi.wNotT, Mi.wAnd, Mi.wOr, Mi.wNot, Mi.wIfE, Mi.wNoPart, Mi.wPart, Mi.wSl, Mi.wNil, Mi.wCons, Mi.wTup, Mi.wLst, Mi.wNext, Mi.wSeq, Mi.wFreeze, Mi.wForget, Mi.wBreak, Mi.wCont, Mi.wRet, Mi.wRetO, Mi.wRetN, Mi.wDrop, Mi.wIf, Mi.wNever, Mi.wAsg, Mi.wSetO, Mi.wPar, Mi.wAug, Mi.wApp, Mi.wSetIx, Mi.wExt, Mi.wItems, Mi.wRng1, Mi.wRng2, Mi.wRng3, Mi.wEnum, Mi.wZip, Mi.wYes, Mi.wCall, Mi.wCallX, Mi.wB2, Mi.wMin3, Mi.wIsi, Mi.wGuard, Mi.wGuardD, Mi.wRaise, Mi.wEnumS, Mi.wListR, Mi.wJoin, Mi.wMet, Mi.wMet0, Mi.wPop, Mi.wdNil, Mi.wdCons, Mi.wDisp]
            refine ⟨by omega, by omega, ?_⟩
            refine for_i (fun k δ' => ∃ c4 c7 c10, δ' = [st (wordsD L), st (.lst (ts.map D.str)), st (.ext 1 (treeD A B)), ow (.dic (knownD ks)), c4, st (.str t), c6, c7, st (.int (m : Nat)), st (.lst (qs.map pairD)), c10]) ⟨_, _, _, rfl⟩ ?_ fun δ' ⟨c4, c7, c10, h⟩ => ⟨_, _, _, _, _, h⟩
            rintro k d δ' hk ⟨c4, c7, c10, rfl⟩
            simp only [e_qI, e_qIC, e_add1, e_add2, e_add3, e_add4, e_catL, e_aug1, e_aug2, e_mul1, e_mul2, e_rep, e_div, e_mod, e_neg, e_ord1, e_ord2, e_isn, e_nin, e_non1, e_non2, e_non3, e_non4, e_non5, e_non6, e_tru1, e_tru2, e_tru3, e_tru4, e_tru5, e_tru6, e_tru7, e_sl1, e_sl2, e_sl3, e_sl4, e_rev, e_it1, e_it2, e_it3, e_len1, e_len2, e_len3, e_len4, e_int1, e_int2, e_int3, e_min, e_max, e_min3, e_lst1, e_lst2, e_tup1, e_tup2, e_str, e_abs, e_lenS, e_ixS, isi_list_bl, isi_str_lst, isi_str_tup, isi_str_bl, isi_int_lst, isi_int_tup, isi_bool_non, isi_bool_str, isi_bool_lst, isi_bool_tup, isi_tup_lst, isi_tup_non, isi_tup_str, isi_tup_int, isi_tup_bl, e_attr, e_inD, e_ixD, e_ixS1, eq_self, Mi.qNotIn, Mi.qLt, Mi.qLe, Mi.qGt, Mi.qGe, List.map_cons, List.map_nil, List.length_map, true_and, and_true, Bool.false_eq_true, if_false, if_true, Bool.not_true, Bool.not_false, qEq_int, qEq_str, qEq_bl, qNe_int, qNe_str, qNe_bl, line0, line1, line2, line3, line4, line6, line7, line10, isi_list_lst, isi_list_tup, isi_list_non, isi_list_str, isi_list_int, isi_tup_tup, isi_bool_bl, isi_bool_int, isi_int_int, isi_int_bl, isi_int_non, isi_int_str, isi_str_str, isi_str_non, isi_str_int, startE_c, startE_n, startE_e, wFor_e, wLc_e, wipeE, wgName, wgTup, wgCons, wgNil, List.getElem?_cons_zero, List.getElem?_cons_succ, List.set_cons_zero, List.set_cons_succ, List.length_cons, List.length_nil, Mi.wC, Mi.wVar, Mi.wVarO, Mi.wOp, Mi.wUn, Mi.wCmp, Mi.wCmpT, Mi.wChainT, Mi.wChain, Mi.wTru, Mi.wAndT, Mi.wOrT, Mi.wNotT, Mi.wAnd, Mi.wOr, Mi.wNot, Mi.wIfE, Mi.wNoPart, Mi.wPart, Mi.wSl, Mi.wNil, Mi.wCons, Mi.wTup, Mi.wLst, Mi.wNext, Mi.wSeq, Mi.wFreeze, Mi.wForget, Mi.wBreak, Mi.wCont, Mi.wRet, Mi.wRetO, Mi.wRetN, Mi.wDrop, Mi.wIf, Mi.wNever, Mi.wAsg, Mi.wSetO, Mi.wPar, Mi.wAug, Mi.wApp, Mi.wSetIx, Mi.wExt, Mi.wItems, Mi.wRng1, Mi.wRng2, Mi.wRng3, Mi.wEnum, Mi.wZip, Mi.wYes, Mi.wCall, Mi.wCallX, Mi.wB2, Mi.wMin3, Mi.wIsi, Mi.wGuard, Mi.wGuardD, Mi.wRaise, Mi.wEnumS, Mi.wListR, Mi.wJoin, Mi.wMet, Mi.wMet0, Mi.wPop, Mi.wdNil, Mi.wdCons, Mi.wDisp]
            refine ⟨A, B, ps, L.map codes, t, m, rfl, TF, hnd, hlet, hlen, by omega, hA, fun qs2 h2 => ?_⟩
            rw [hqs qs2 h2]
            refine ifD_i false ?_ (fun h => by cases h) fun _ => ?_
            · unfold wordsD
              simp only [e_qI, e_qIC, e_add1, e_add2, e_add3, e_add4, e_catL, e_aug1, e_aug2, e_mul1, e_mul2, e_rep, e_div, e_mod, e_neg, e_ord1, e_ord2, e_isn, e_nin, e_non1, e_non2, e_non3, e_non4, e_non5, e_non6, e_tru1, e_tru2, e_tru3, e_tru4, e_tru5, e_tru6, e_tru7, e_sl1, e_sl2, e_sl3, e_sl4, e_rev, e_it1, e_it2, e_it3, e_len1, e_len2, e_len3, e_len4, e_int1, e_int2, e_int3, e_min, e_max, e_min3, e_lst1, e_lst2, e_tup1, e_tup2, e_str, e_abs, e_lenS, e_ixS, isi_list_bl, isi_str_lst, isi_str_tup, isi_str_bl, isi_int_lst, isi_int_tup, isi_bool_non, isi_bool_str, isi_bool_lst, isi_bool_tup, isi_tup_lst, isi_tup_non, isi_tup_str, isi_tup_int, isi_tup_bl, e_attr, e_inD, e_ixD, e_ixS1, eq_self, Mi.qNotIn, Mi.qLt, Mi.qLe, Mi.qGt, Mi.qGe, List.map_cons, List.map_nil, List.length_map, true_and, and_true, Bool.false_eq_true, if_false, if_true, Bool.not_true, Bool.not_false, qEq_int, qEq_str, qEq_bl, qNe_int, qNe_str, qNe_bl, line0, line1, line2, line3, line4, line6, line7, line10, isi_list_lst, isi_list_tup, isi_list_non, isi_list_str, isi_list_int, isi_tup_tup, isi_bool_bl, isi_bool_int, isi_int_int, isi_int_bl, isi_int_non, isi_int_str, isi_str_str, isi_str_non, isi_str_int, startE_c, startE_n, startE_e, wFor_e, wLc_e, wipeE, wgName, wgTup, wgCons, wgNil, List.getElem?_cons_zero, List.getElem?_cons_succ, List.set_cons_zero, List.set_cons_succ, List.length_cons, List.length_nil, Mi.wC, Mi.wVar, Mi.wVarO, Mi.wOp, Mi.wUn, Mi.wCmp, Mi.wCmpT, Mi.wChainT, Mi.wChain, Mi.wTru, Mi.wAndT, Mi.wOrT, Mi.wNotT, Mi.wAnd, Mi.wOr, Mi.wNot, Mi.wIfE, Mi.wNoPart, Mi.wPart, Mi.wSl, Mi.wNil, Mi.wCons, Mi.wTup, Mi.wLst, Mi.wNext, Mi.wSeq, Mi.wFreeze, Mi.wForget, Mi.wBreak, Mi.wCont, Mi.wRet, Mi.wRetO, Mi.wRetN, Mi.wDrop, Mi.wIf, Mi.wNever, Mi.wAsg, Mi.wSetO, Mi.wPar, Mi.wAug, Mi.wApp, Mi.wSetIx, Mi.wExt, Mi.wItems, Mi.wRng1, Mi.wRng2, Mi.wRng3, Mi.wEnum, Mi.wZip, Mi.wYes, Mi.wCall, Mi.wCallX, Mi.wB2, Mi.wMin3, Mi.wIsi, Mi.wGuard, Mi.wGuardD, Mi.wRaise, Mi.wEnumS, Mi.wListR, Mi.wJoin, Mi.wMet, Mi.wMet0, Mi.wPop, Mi.wdNil, Mi.wdCons, Mi.wDisp]
              refine qNe_self hsh (by omega) ?_
              simp only [e_qI, e_qIC, e_add1, e_add2, e_add3, e_add4, e_catL, e_aug1, e_aug2, e_mul1, e_mul2, e_rep, e_div, e_mod, e_neg, e_ord1, e_ord2, e_isn, e_nin, e_non1, e_non2, e_non3, e_non4, e_non5, e_non6, e_tru1, e_tru2, e_tru3, e_tru4, e_tru5, e_tru6, e_tru7, e_sl1, e_sl2, e_sl3, e_sl4, e_rev, e_it1, e_it2, e_it3, e_len1, e_len2, e_len3, e_len4, e_int1, e_int2, e_int3, e_min, e_max, e_min3, e_lst1, e_lst2, e_tup1, e_tup2, e_str, e_abs, e_lenS, e_ixS, isi_list_bl, isi_str_lst, isi_str_tup, isi_str_bl, isi_int_lst, isi_int_tup, isi_bool_non, isi_bool_str, isi_bool_lst, isi_bool_tup, isi_tup_lst, isi_tup_non, isi_tup_str, isi_tup_int, isi_tup_bl, e_attr, e_inD, e_ixD, e_ixS1, eq_self, Mi.qNotIn, Mi.qLt, Mi.qLe, Mi.qGt, Mi.qGe, List.map_cons, List.map_nil, List.length_map, true_and, and_true, Bool.false_eq_true, if_false, if_true, Bool.not_true, Bool.not_false, qEq_int, qEq_str, qEq_bl, qNe_int, qNe_str, qNe_bl, line0, line1, line2, line3, line4, line6, line7, line10, isi_list_lst, isi_list_tup, isi_list_non, isi_list_str, isi_list_int, isi_tup_tup, isi_bool_bl, isi_bool_int, isi_int_int, isi_int_bl, isi_int_non, isi_int_str, isi_str_str, isi_str_non, isi_str_int, startE_c, startE_n, startE_e, wFor_e, wLc_e, wipeE, wgName, wgTup, wgCons, wgNil, List.getElem?_cons_zero, List.getElem?_cons_succ, List.set_cons_zero, List.set_cons_succ, List.length_cons, List.length_nil, Mi.wC, Mi.wVar, Mi.wVarO, Mi.wOp, Mi.wUn, Mi.wCmp, Mi.wCmpT, Mi.wChainT, Mi.wChain, Mi.wTru, Mi.wAndT, Mi.wOrT, Mi.wNotT, Mi.wAnd, Mi.wOr, Mi.wNot, Mi.wIfE, Mi.wNoPart, Mi.wPart, Mi.wSl, Mi.wNil, Mi.wCons, Mi.wTup, Mi.wLst, Mi.wNext, Mi.wSeq, Mi.wFreeze, Mi.wForget, Mi.wBreak, Mi.wCont, Mi.wRet, Mi.wRetO, Mi.wRetN, Mi.wDrop, Mi.wIf, Mi.wNever, Mi.wAsg, Mi.wSetO, Mi.wPar, Mi.wAug, Mi.wApp, Mi.wSetIx, Mi.wExt, Mi.wItems, Mi.wRng1, Mi.wRng2, Mi.wRng3, Mi.wEnum, Mi.wZip, Mi.wYes, Mi.wCall, Mi.wCallX, Mi.wB2, Mi.wMin3, Mi.wIsi, Mi.wGuard, Mi.wGuardD, Mi.wRaise, Mi.wEnumS, Mi.wListR, Mi.wJoin, Mi.wMet, Mi.wMet0, Mi.wPop, Mi.wdNil, Mi.wdCons, Mi.wDisp]
              have ea : apOk (.int (m : Nat)) = some m := by
                show (if 0 ≤ ((m : Nat) : Int) ∧ ((m : Nat) : Int) ≤ 3 then some ((m : Nat) : Int).toNat else none) = _
                rw [if_pos ⟨by omega, by omega⟩, Int.toNat_natCast]
              refine ⟨wordsD L, t, .int (m : Nat), rfl, hsm, trivial, by omega, fun i hi => (by rw [ht] at hi; cases hi), fun _ hm' => (by rw [ea] at hm'; cases hm'), fun ws mm _ hm' hw qs3 h3 => ?_⟩
              rw [ea] at hm'
              cases hm'
              rw [← words_inj hw] at h3
              rw [hqs qs3 h3]
              exact qNe_self hsh (by omega) rfl
            · simp only [e_qI, e_qIC, e_add1, e_add2, e_add3, e_add4, e_catL, e_aug1, e_aug2, e_mul1, e_mul2, e_rep, e_div, e_mod, e_neg, e_ord1, e_ord2, e_isn, e_nin, e_non1, e_non2, e_non3, e_non4, e_non5, e_non6, e_tru1, e_tru2, e_tru3, e_tru4, e_tru5, e_tru6, e_tru7, e_sl1, e_sl2, e_sl3, e_sl4, e_rev, e_it1, e_it2, e_it3, e_len1, e_len2, e_len3, e_len4, e_int1, e_int2, e_int3, e_min, e_max, e_min3, e_lst1, e_lst2, e_tup1, e_tup2, e_str, e_abs, e_lenS, e_ixS, isi_list_bl, isi_str_lst, isi_str_tup, isi_str_bl, isi_int_lst, isi_int_tup, isi_bool_non, isi_bool_str, isi_bool_lst, isi_bool_tup, isi_tup_lst, isi_tup_non, isi_tup_str, isi_tup_int, isi_tup_bl, e_attr, e_inD, e_ixD, e_ixS1, eq_self, Mi.qNotIn, Mi.qLt, Mi.qLe, Mi.qGt, Mi.qGe, List.map_cons, List.map_nil, List.length_map, true_and, and_true, Bool.false_eq_true, if_false, if_true, Bool.not_true, Bool.not_false, qEq_int, qEq_str, qEq_bl, qNe_int, qNe_str, qNe_bl, line0, line1, line2, line3, line4, line6, line7, line10, isi_list_lst, isi_list_tup, isi_list_non, isi_list_str, isi_list_int, isi_tup_tup, isi_bool_bl, isi_bool_int, isi_int_int, isi_int_bl, isi_int_non, isi_int_str, isi_str_str, isi_str_non, isi_str_int, startE_c, startE_n, startE_e, wFor_e, wLc_e, wipeE, wgName, wgTup, wgCons, wgNil, List.getElem?_cons_zero, List.getElem?_cons_succ, List.set_cons_zero, List.set_cons_succ, List.length_cons, List.length_nil, Mi.wC, Mi.wVar, Mi.wVarO, Mi.wOp, Mi.wUn, Mi.wCmp, Mi.wCmpT, Mi.wChainT, Mi.wChain, Mi.wTru, Mi.wAndT, Mi.wOrT, Mi.wNotT, Mi.wAnd, Mi.wOr, Mi.wNot, Mi.wIfE, Mi.wNoPart, Mi.wPart, Mi.wSl, Mi.wNil, Mi.wCons, Mi.wTup, Mi.wLst, Mi.wNext, Mi.wSeq, Mi.wFreeze, Mi.wForget, Mi.wBreak, Mi.wCont, Mi.wRet, Mi.wRetO, Mi.wRetN, Mi.wDrop, Mi.wIf, Mi.wNever, Mi.wAsg, Mi.wSetO, Mi.wPar, Mi.wAug, Mi.wApp, Mi.wSetIx, Mi.wExt, Mi.wItems, Mi.wRng1, Mi.wRng2, Mi.wRng3, Mi.wEnum, Mi.wZip, Mi.wYes, Mi.wCall, Mi.wCallX, Mi.wB2, Mi.wMin3, Mi.wIsi, Mi.wGuard, Mi.wGuardD, Mi.wRaise, Mi.wEnumS, Mi.wListR, Mi.wJoin, Mi.wMet, Mi.wMet0, Mi.wPop, Mi.wdNil, Mi.wdCons, Mi.wDisp]
              exact ⟨ltL (by omega), _, _, _, rfl⟩
    · rintro δ' ⟨c4, c5, c6, c7, c8, c9, c10, rfl⟩
      simp only [e_qI, e_qIC, e_add1, e_add2, e_add3, e_add4, e_catL, e_aug1, e_aug2, e_mul1, e_mul2, e_rep, e_div, e_mod, e_neg, e_ord1, e_ord2, e_isn, e_nin, e_non1, e_non2, e_non3, e_non4, e_non5, e_non6, e_tru1, e_tru2, e_tru3, e_tru4, e_tru5, e_tru6, e_tru7, e_sl1, e_sl2, e_sl3, e_sl4, e_rev, e_it1, e_it2, e_it3, e_len1, e_len2, e_len3, e_len4, e_int1, e_int2, e_int3, e_min, e_max, e_min3, e_lst1, e_lst2, e_tup1, e_tup2, e_str, e_abs, e_lenS, e_ixS, isi_list_bl, isi_str_lst, isi_str_tup, isi_str_bl, isi_int_lst, isi_int_tup, isi_bool_non, isi_bool_str, isi_bool_lst, isi_bool_tup, isi_tup_lst, isi_tup_non, isi_tup_str, isi_tup_int, isi_tup_bl, e_attr, e_inD, e_ixD, e_ixS1, eq_self, Mi.qNotIn, Mi.qLt, Mi.qLe, Mi.qGt, Mi.qGe, List.map_cons, List.map_nil, List.length_map, true_and, and_true, Bool.false_eq_true, if_false, if_true, Bool.not_true, Bool.not_false, qEq_int, qEq_str, qEq_bl, qNe_int, qNe_str, qNe_bl, line0, line1, line2, line3, line4, line6, line7, line10, isi_list_lst, isi_list_tup, isi_list_non, isi_list_str, isi_list_int, isi_tup_tup, isi_bool_bl, isi_bool_int, isi_int_int, isi_int_bl, isi_int_non, isi_int_str, isi_str_str, isi_str_non, isi_str_int, startE_c, startE_n, startE_e, wFor_e, wLc_e, wipeE, wgName, wgTup, wgCons, wgNil, List.getElem?_cons_zero, List.getElem?_cons_succ, List.set_cons_zero, List.set_cons_succ, List.length_cons, List.length_nil, Mi.wC, Mi.wVar, Mi.wVarO, Mi.wOp, Mi.wUn, Mi.wCmp, Mi.wCmpT, Mi.wChainT, Mi.wChain, Mi.wTru, Mi.wAndT, Mi.wOrT, Mi.wNotT, Mi.wAnd, Mi.wOr, Mi.wNot, Mi.wIfE, Mi.wNoPart, Mi.wPart, Mi.wSl, Mi.wNil, Mi.wCons, Mi.wTup, Mi.wLst, Mi.wNext, Mi.wSeq, Mi.wFreeze, Mi.wForget, Mi.wBreak, Mi.wCont, Mi.wRet, Mi.wRetO, Mi.wRetN, Mi.wDrop, Mi.wIf, Mi.wNever, Mi.wAsg, Mi.wSetO, Mi.wPar, Mi.wAug, Mi.wApp, Mi.wSetIx, Mi.wExt, Mi.wItems, Mi.wRng1, Mi.wRng2, Mi.wRng3, Mi.wEnum, Mi.wZip, Mi.wYes, Mi.wCall, Mi.wCallX, Mi.wB2, Mi.wMin3, Mi.wIsi, Mi.wGuard, Mi.wGuardD, Mi.wRaise, Mi.wEnumS, Mi.wListR, Mi.wJoin, Mi.wMet, Mi.wMet0, Mi.wPop, Mi.wdNil, Mi.wdCons, Mi.wDisp]
      exact h
end
end K87
namespace K87
open PySem L2 Evl Mi SrtO
section
variable {P : Program} {w : World} {K : PySem.W.Frag} {mg : PySem.Str → Option Value} {base : Heap} {g : G}
/-! ### the drawn words -/
theorem lc_strs {items : List D} {δ : Mi.Env} {P : D → Prop} {we : Mi.WE} {i : Nat} {Pr : PySem.Str → Prop} (hlen : items.length ≤ 1000) (hs : ∀ d ∈ items, ∃ n : Int, d = .int n ∧ 0 ≤ n ∧ n < 1009)
    (hw : ∀ (n : Int) (R : D → Prop), 0 ≤ n → n < 1009 → (∀ s : PySem.Str, Pr s → R (.str s)) → we (δ.set i (st (.int n))) (fun _ => False) R)
    (hP : ∀ A : List PySem.Str, A.length = items.length → (∀ s ∈ A, Pr s) → P (.lst (A.map D.str))) : lcD items (wgName i) wYes we δ P := by
  refine lc_i (fun k acc => ∃ A : List PySem.Str, acc = A.map D.str ∧ A.length = k ∧ ∀ s ∈ A, Pr s) (leL (by omega)) ⟨[], rfl, rfl, fun s hs => by cases hs⟩ ?_ ?_
  · rintro k d acc hk ⟨A, rfl, hA, ho⟩ _
    obtain ⟨n, rfl, h0, h1⟩ := hs d (List.mem_of_getElem? hk)
    simp only [wgName, wYes, if_true]
    refine hw n _ h0 h1 fun s hs2 => ⟨A ++ [s], by rw [List.map_append]; rfl, by rw [List.length_append, hA]; rfl, fun t ht => ?_⟩
    rcases List.mem_append.mp ht with ht | ht
    · exact ho t ht
    · cases List.mem_singleton.mp ht; exact hs2
  · rintro acc ⟨A, rfl, hA, ho⟩
    exact hP A hA ho
def Wd (n : Nat) (s : PySem.Str) : Prop := 1 ≤ (codes s).length ∧ (codes s).length ≤ n ∧ ∀ c ∈ codes s, 97 ≤ c ∧ c ≤ 99
theorem Wd.plain {n : Nat} {s : PySem.Str} (h : Wd n s) (hn : n ≤ 24) : plainS s = true := by
  obtain ⟨h1, h2, h3⟩ := h
  unfold plainS
  rw [show s.length = (codes s).length from str_len s, decide_eq_true ⟨h1, by omega⟩, Bool.true_and, List.all_eq_true]
  intro c hc
  have := h3 c hc
  exact decide_eq_true (by omega)
theorem ltCps_lt : ∀ a c : List Nat, PySem.Spec.ltCps a c = decide (a < c)
  | [], [] => rfl
  | [], _ :: _ => by rw [decide_eq_true (List.nil_lt_cons _ _)]; rfl
  | _ :: _, [] => by rw [decide_eq_false (List.not_lt_nil _)]; rfl
  | x :: r, y :: t => by
    show (decide (x < y) || (x == y && PySem.Spec.ltCps r t)) = _
    rw [ltCps_lt r t, Bool.eq_iff_iff, Bool.or_eq_true, Bool.and_eq_true, decide_eq_true_eq, decide_eq_true_eq, decide_eq_true_eq, List.cons_lt_cons_iff, beq_iff_eq]
theorem lt_of_rise {p x : PySem.Str} (h : PySem.Spec.ltCps x.cps.toList p.cps.toList = false) (hne : p ≠ x) : strLt p x = true := by
  rw [ltCps_lt] at h
  have h := of_decide_eq_false h
  unfold strLt
  by_cases q : p.cps.toList < x.cps.toList
  · exact decide_eq_true q
  · exact absurd (str_ext (List.le_antisymm (show p.cps.toList ≤ x.cps.toList from h) (show x.cps.toList ≤ p.cps.toList from q))) hne
theorem fb_of_sorted : ∀ (ws : List PySem.Str) (p : PySem.Str) (i : Nat), PyProof.Rows.risingS p ws = true → (p :: ws).Nodup → (∀ s ∈ ws, plainS s = true) → fb (some p) i (ws.map D.str) = none
  | [], _, _, _, _, _ => rfl
  | x :: r, p, i, h, hn, hp => by
    have h' : (!PySem.Spec.ltCps x.cps.toList p.cps.toList && PyProof.Rows.risingS x r) = true := h
    rw [Bool.and_eq_true, Bool.not_eq_true'] at h'
    have hn' := List.nodup_cons.mp hn
    have h1 := lt_of_rise h'.1 fun e => hn'.1 (by rw [e]; exact List.mem_cons_self)
    have hs : fb (some p) i ((x :: r).map D.str) = if okS (some p) x = true then fb (some x) (i + 1) (r.map D.str) else some (i : Int) := rfl
    have ho : okS (some p) x = true := by
      unfold okS
      rw [hp x List.mem_cons_self]
      exact h1
    rw [hs, if_pos ho]
    exact fb_of_sorted r x (i + 1) h'.2 hn'.2 fun s hs => hp s (List.mem_cons_of_mem _ hs)
theorem told_sorted {ws : List PySem.Str} (h : PyProof.Rows.sortedS ws = true) (hn : ws.Nodup) (hp : ∀ s ∈ ws, plainS s = true) (hl : ws.length ≤ 400) : told (wordsD ws) = none := by
  have e : told (wordsD ws) = if (ws.map D.str).length > 400 then some (-1) else fb none 0 (ws.map D.str) := rfl
  rw [e, List.length_map, if_neg (by omega)]
  cases ws with
  | nil => rfl
  | cons x r =>
    have hs : fb none 0 ((x :: r).map D.str) = if okS none x = true then fb (some x) 1 (r.map D.str) else some ((0 : Nat) : Int) := rfl
    have ho : okS none x = true := by
      unfold okS
      rw [hp x List.mem_cons_self]; rfl
    rw [hs, if_pos ho]
    exact fb_of_sorted r x 1 h hn fun s hs => hp s (List.mem_cons_of_mem _ hs)
/-! ### the long list -/
def manyS (k : Nat) : PySem.Str := ⟨#[97, 97 + k / 100, 97 + k / 10 % 10, 97 + k % 10]⟩
def manyL : List PySem.Str := (List.range 401).map manyS
theorem many_told : told (.lst ((manyL.take 400).map D.str)) = none := by decide +kernel
theorem ten_at {j : Nat} {R : D → Prop} (h1 : j < 10) (h : R (.str ⟨#[97 + j]⟩)) : (("abcdefghij" : PySem.Str)).length ≤ Line ∧ optD ((L2.atI (("abcdefghij" : PySem.Str)).cps.toList (j : Nat)).map fun c => .str ⟨#[c]⟩) R := by
  refine ⟨by decide +kernel, ?_⟩
  have e : (("abcdefghij" : PySem.Str)).cps.toList = (List.range 10).map (97 + ·) := by decide +kernel
  rw [e, Mi.atI_nat (d := 97 + j) (by rw [List.getElem?_map, List.getElem?_range h1]; rfl)]
  exact h
theorem small_strs {L : List PySem.Str} (h : ∀ s ∈ L, s.length ≤ 1000000) : smallL (.lst (L.map D.str)) := ⟨trivial, fun xs hx x hm => by
  injection hx with hx
  subst hx
  obtain ⟨s, hs, rfl⟩ := List.mem_map.mp hm
  exact ⟨trivial, fun s' e => by cases e; exact h s hs⟩⟩
def rowOk (r : D × D) : Prop := smallL r.1 ∧ ans 0 r.1 (.int 1) = r.2 ∧ ans 1 r.1 (.int 1) = r.2 ∧ Sh 0 r.2
theorem row_bad {v : D} {i : Int} (hs : smallL v) (ht : told v = some i) : rowOk (v, .int i) := by
  refine ⟨hs, ?_, ?_, sh_int⟩ <;> (unfold ans; rw [ht])
theorem row_good {v : D} (hs : smallL v) (ht : told v = none) : rowOk (v, .non) := by
  refine ⟨hs, ?_, ?_, sh_non⟩ <;> (unfold ans; rw [ht]; rfl)
theorem small_l1 {x : D} (h : small x) : smallL (.lst [x]) := ⟨trivial, fun xs hx y hm => by
  injection hx with hx
  subst hx
  rw [List.mem_singleton] at hm
  subst hm
  exact h⟩
theorem small_l2 {x y : D} (h : small x) (h2 : small y) : smallL (.lst [x, y]) := ⟨trivial, fun xs hx z hm => by
  injection hx with hx
  subst hx
  simp only [List.mem_cons, List.not_mem_nil, or_false] at hm
  rcases hm with rfl | rfl
  · exact h
  · exact h2⟩
theorem small_s {s : PySem.Str} (h : s.length ≤ 1000000 := by decide +kernel) : small (.str s) := ⟨trivial, fun s' e => by cases e; exact h⟩
def rowsL : List (D × D) := [(.non, .int (-1)), (.str "ab", .int (-1)), (.tup [.str "a"], .int (-1)), (.lst (manyL.map D.str), .int (-1)), (.lst ((manyL.take 400).map D.str), .non), (.lst [.str "b", .str "a"], .int 1), (.lst [.str "a", .str "a"], .int 1),
  (.lst [.str "a", .str "b1"], .int 1), (.lst [.str ""], .int 0), (.lst [.int 5], .int 0), (.lst [.str "a", .non], .int 1), (.lst [.str "A"], .int 0), (.lst [.str (Txt.mul "a" 25)], .int 0), (.lst [.str (Txt.mul "a" 24)], .non), (.lst [], .non)]
def rowD2 (r : D × D) : D := .tup [r.1, r.2]
theorem many_len {s : PySem.Str} (h : s ∈ manyL) : s.length ≤ 1000000 := by
  obtain ⟨k, _, rfl⟩ := List.mem_map.mp h
  have e : (manyS k).length = 4 := rfl
  omega
theorem rows_ok : ∀ r ∈ rowsL, rowOk r := by
  intro r hr
  unfold rowsL at hr
  simp only [List.mem_cons, List.not_mem_nil, or_false] at hr
  rcases hr with rfl | rfl | rfl | rfl | rfl | rfl | rfl | rfl | rfl | rfl | rfl | rfl | rfl | rfl | rfl
  · exact row_bad ⟨trivial, fun xs hx => by cases hx⟩ rfl
  · exact row_bad ⟨trivial, fun xs hx => by cases hx⟩ rfl
  · exact row_bad ⟨trivial, fun xs hx => by cases hx⟩ rfl
  · exact row_bad (small_strs fun s hs => many_len hs) (by decide +kernel)
  · exact row_good (small_strs fun s hs => many_len (List.mem_of_mem_take hs)) many_told
  · exact row_bad (small_l2 small_s small_s) (by decide +kernel)
  · exact row_bad (small_l2 small_s small_s) (by decide +kernel)
  · exact row_bad (small_l2 small_s small_s) (by decide +kernel)
  · exact row_bad (small_l1 small_s) (by decide +kernel)
  · exact row_bad (small_l1 ⟨trivial, fun s' e => by cases e⟩) (by decide +kernel)
  · exact row_bad (small_l2 small_s ⟨trivial, fun s' e => by cases e⟩) (by decide +kernel)
  · exact row_bad (small_l1 small_s) (by decide +kernel)
  · exact row_bad (small_l1 small_s) (by decide +kernel)
  · exact row_good (small_l1 small_s) (by decide +kernel)
  · exact row_good ⟨trivial, fun xs hx x hm => by injection hx with hx; subst hx; cases hm⟩ rfl
def partsL : List (D × D) := [(.int (-1), .int (-1)), (.int 4, .int (-1)), (.non, .int (-1)), (.str "1", .int (-1)), (.bl true, .int (-1)), (.int 0, .non), (.int 3, .non)]
theorem told_a : told (.lst [.str "a"]) = none := by decide +kernel
theorem parts_ok : ∀ r ∈ partsL, kind r.1 ∧ ans 1 (.lst [.str "a"]) r.1 = r.2 ∧ Sh 0 r.2 := by
  intro r hr
  unfold partsL at hr
  simp only [List.mem_cons, List.not_mem_nil, or_false] at hr
  rcases hr with rfl | rfl | rfl | rfl | rfl | rfl | rfl <;> (refine ⟨trivial, ?_, by first | exact sh_int | exact sh_non⟩; unfold ans; rw [told_a]; rfl)
def c_law : CT := fun ds EX P => ∃ xs : List Int, ds = [.ext 0 (.lst (xs.map D.int))] ∧ P (.bl true)
abbrev s_law : Stmt := topS 25
abbrev N_law : List Str := ["script", "numbers", "words", "listed", "texts", "word", "one", "many", "rows", "at", "other", "value", "due", "most", "number", "told", "k"]
theorem sc_law : FnScope N_law ["script"] (defScope s_law) := ⟨rfl, rfl, rfl, by decide +kernel, rfl, by decide +kernel, by decide +kernel⟩
theorem ok_law {f : Addr} {fd : FuncData} (F : Fun K "law" "law" s_law f fd) (T : Txt mg) (hsc : HScr K g) (Zn : Cal P w K mg base g false "_law_numbers" 1 c_numbers) (Zw : Cal P w K mg base g false "_law_word" 1 c_word) (Zd : Cal P w K mg base g false "distance" 2 c_dist) (Zl : Cal P w K mg base g false "_law_distance" 1 c_ldist)
   (Zh : Cal P w K mg base g false "_law_tree_holds" 7 c_holds) (Zt : Cal P w K mg base g false "_law_told" 7 c_told) : FnOk P w K mg base CX0 (7 + 1) f fd ["script"] (spD K g false c_law) := by
  refine Mi.Fun.data F sc_law (fun ds EX Q ⟨_, h, _⟩ => by rw [h]; rfl) (fun cdv A outer s H E S0 H0 hr => (ms_cons (ms_set 1 sc_law.nd (me_call Zn (hr.mono (by decide)) rfl (ma_cons (me_var 0) (ma_cons me_int (ma_cons me_int ma_nil)))))
  (ms_cons (ms_setLc 2 (own := [("number", 14)]) rfl sc_law.nd (mi_any (me_sl (mo_var 1) (mp_some (mo_of me_int)) (mp_some (mo_of (me_add (mo_of me_int) (mo_of (me_modP (mo_of (me_ix hr.units (mo_var 1) (mo_of me_int))) (mo_of me_int)))))))) (blkOk_by (N := N_law) (sc := defScope s_law) (by decide +kernel)) (fun _ _ _ _ _ => (mg_name 14 sc_law.nd)) (fun _ _ _ _ _ => mts_nil) (fun _ _ _ _ _ => (me_call Zw (hr.mono (by decide)) rfl (ma_cons (me_var 14) (ma_cons me_int ma_nil)))))
  (ms_cons (ms_set 3 sc_law.nd (me_ofF (mf_sortX rfl T.sorted T.set rfl rfl (mo_var 2))))
  (ms_cons (ms_setLc 4 (own := [("number", 14)]) rfl sc_law.nd (mi_any (me_sl (mo_var 1) (mp_some (mo_of me_int)) (mp_some (mo_of me_int)))) (blkOk_by (N := N_law) (sc := defScope s_law) (by decide +kernel)) (fun _ _ _ _ _ => (mg_name 14 sc_law.nd)) (fun _ _ _ _ _ => mts_nil) (fun _ _ _ _ _ => (me_call Zw (hr.mono (by decide)) rfl (ma_cons (me_var 14) (ma_cons me_int ma_nil)))))
  (ms_cut (ms_for (vs := [5]) PassesOwn.never rfl (mi_any (me_sl (mo_var 3) mp_none (mp_some (mo_of me_int)))) (mg_name 5 sc_law.nd)
  (ms_cons (ms_set 9 sc_law.nd (me_modP (mo_of (me_ix hr.units (mo_var 1) (mo_of me_int))) (mo_of (me_add (mo_of (me_len T.len rfl (mo_var 5))) (mo_of me_int)))))
  (ms_one (ms_set 4 sc_law.nd (me_add (mo_var 4) (mo_of (me_lst (ma_cons (me_add (mo_of (me_add (mo_of (me_sl (mo_var 5) mp_none (mp_some (mo_var 9)))) (mo_of (me_ix hr.units (mo_of me_str) (mo_of (me_modP (mo_of (me_ix hr.units (mo_var 1) (mo_of me_int))) (mo_of me_int))))))) (mo_of (me_sl (mo_var 5) (mp_some (mo_var 9)) mp_none))) (ma_cons (me_add (mo_of (me_sl (mo_var 5) mp_none (mp_some (mo_var 9)))) (mo_of (me_sl (mo_var 5) (mp_some (mo_of (me_add (mo_var 9) (mo_of me_int)))) mp_none))) (ma_cons (me_add (mo_of (me_add (mo_of (me_sl (mo_var 5) mp_none (mp_some (mo_var 9)))) (mo_of me_str))) (mo_of (me_sl (mo_var 5) (mp_some (mo_of (me_add (mo_var 9) (mo_of me_int)))) mp_none))) ma_nil))))))))))
  (ms_cut (ms_for (vs := [6]) PassesOwn.never rfl (mi_any (me_var 4)) (mg_name 6 sc_law.nd)
  (ms_one (ms_for (vs := [10]) PassesOwn.never rfl (mi_any (me_add (mo_var 4) (mo_of (me_lst (ma_cons me_str (ma_cons me_str ma_nil)))))) (mg_name 10 sc_law.nd)
  (ms_cons (ms_set 15 sc_law.nd (me_call Zd (hr.mono (by decide)) rfl (ma_cons (me_var 6) (ma_cons (me_var 10) ma_nil))))
  (ms_one (ms_ifD (mt_w (mw_or (mt_not (mt_tru (mo_of (me_isi (T := "int") T.isinstance rfl rfl T.int boot_int'' (mo_var 15))))) (mw_or (mt_tru (mo_of (me_isi (T := "bool") T.isinstance rfl rfl T.bool boot_bool'' (mo_var 15)))) (mw_or (mt_ne hr.units (mo_var 15) (mo_of (me_call Zl (hr.mono (by decide)) rfl (ma_cons (me_var 6) (ma_cons (me_var 10) ma_nil))))) (mw_or1 (mt_ne hr.units (mo_of (me_call Zd (hr.mono (by decide)) rfl (ma_cons (me_var 10) (ma_cons (me_var 6) ma_nil)))) (mo_var 15)))))))
  (ms_one (ms_ret rfl me_bl))
  ms_nil))))))
  (ms_cons (ms_if (mt_not (mt_tru (mo_of (me_call Zh (hr.mono (by decide)) rfl (ma_cons (me_var 3) (ma_cons (me_sl (mo_var 4) mp_none (mp_some (mo_of me_int))) ma_nil))))))
  (ms_one (ms_ret rfl me_bl))
  ms_nil)
  (ms_cons (ms_setLc 7 (own := [("k", 16)]) rfl sc_law.nd (mi_range1 rfl T.range (mo_of me_int)) (blkOk_by (N := N_law) (sc := defScope s_law) (by decide +kernel)) (fun _ _ _ _ _ => (mg_name 16 sc_law.nd)) (fun _ _ _ _ _ => mts_nil) (fun _ _ _ _ _ => (me_add (mo_of (me_add (mo_of (me_add (mo_of me_str) (mo_of (me_ix hr.units (mo_of me_str) (mo_of (me_divP (mo_var 16) (mo_of me_int))))))) (mo_of (me_ix hr.units (mo_of me_str) (mo_of (me_modP (mo_of (me_divP (mo_var 16) (mo_of me_int))) (mo_of me_int))))))) (mo_of (me_ix hr.units (mo_of me_str) (mo_of (me_modP (mo_var 16) (mo_of me_int))))))))
  (ms_cons (ms_set 8 sc_law.nd (me_lst (ma_cons (me_tup (ma_cons me_non (ma_cons (me_neg (mo_of me_int)) ma_nil))) (ma_cons (me_tup (ma_cons me_str (ma_cons (me_neg (mo_of me_int)) ma_nil))) (ma_cons (me_tup (ma_cons (me_tup (ma_cons me_str ma_nil)) (ma_cons (me_neg (mo_of me_int)) ma_nil))) (ma_cons (me_tup (ma_cons (me_var 7) (ma_cons (me_neg (mo_of me_int)) ma_nil))) (ma_cons (me_tup (ma_cons (me_sl (mo_var 7) mp_none (mp_some (mo_of me_int))) (ma_cons me_non ma_nil))) (ma_cons (me_tup (ma_cons (me_lst (ma_cons me_str (ma_cons me_str ma_nil))) (ma_cons me_int ma_nil))) (ma_cons (me_tup (ma_cons (me_lst (ma_cons me_str (ma_cons me_str ma_nil))) (ma_cons me_int ma_nil))) (ma_cons (me_tup (ma_cons (me_lst (ma_cons me_str (ma_cons me_str ma_nil))) (ma_cons me_int ma_nil))) ma_nil))))))))))
  (ms_cons (ms_set 8 sc_law.nd (me_add (mo_var 8) (mo_of (me_lst (ma_cons (me_tup (ma_cons (me_lst (ma_cons me_str ma_nil)) (ma_cons me_int ma_nil))) (ma_cons (me_tup (ma_cons (me_lst (ma_cons me_int ma_nil)) (ma_cons me_int ma_nil))) (ma_cons (me_tup (ma_cons (me_lst (ma_cons me_str (ma_cons me_non ma_nil))) (ma_cons me_int ma_nil))) (ma_cons (me_tup (ma_cons (me_lst (ma_cons me_str ma_nil)) (ma_cons me_int ma_nil))) (ma_cons (me_tup (ma_cons (me_lst (ma_cons (me_mulS (mo_of me_str) (mo_of me_int)) ma_nil)) (ma_cons me_int ma_nil))) (ma_cons (me_tup (ma_cons (me_lst (ma_cons (me_mulS (mo_of me_str) (mo_of me_int)) ma_nil)) (ma_cons me_non ma_nil))) (ma_cons (me_tup (ma_cons (me_lst ma_nil) (ma_cons me_non ma_nil))) ma_nil)))))))))))
  (ms_cut (ms_for (vs := [11, 12]) PassesOwn.never rfl (mi_any (me_var 8)) (mg_tup 2 rfl (mgs_cons (mg_name 11 sc_law.nd) (mgs_cons (mg_name 12 sc_law.nd) mgs_nil)) rfl rfl (fun _ _ _ h => wgCons_len (fun _ _ _ h => wgCons_len (fun _ _ _ h => wgNil_len h) wgName_ex h) wgName_ex h))
  (ms_one (ms_ifD (mt_w (mw_or (mt_ne hr.units (mo_of (me_call Zt (hr.mono (by decide)) rfl (ma_cons me_int (ma_cons (me_var 11) (ma_cons me_str (ma_cons me_int ma_nil)))))) (mo_var 12)) (mw_or1 (mt_ne hr.units (mo_of (me_call Zt (hr.mono (by decide)) rfl (ma_cons me_int (ma_cons (me_var 11) (ma_cons me_str (ma_cons me_int ma_nil)))))) (mo_var 12)))))
  (ms_one (ms_ret rfl me_bl))
  ms_nil)))
  (ms_cut (ms_for (vs := [13, 12]) PassesOwn.never rfl (mi_any (me_lst (ma_cons (me_tup (ma_cons (me_neg (mo_of me_int)) (ma_cons (me_neg (mo_of me_int)) ma_nil))) (ma_cons (me_tup (ma_cons me_int (ma_cons (me_neg (mo_of me_int)) ma_nil))) (ma_cons (me_tup (ma_cons me_non (ma_cons (me_neg (mo_of me_int)) ma_nil))) (ma_cons (me_tup (ma_cons me_str (ma_cons (me_neg (mo_of me_int)) ma_nil))) (ma_cons (me_tup (ma_cons me_bl (ma_cons (me_neg (mo_of me_int)) ma_nil))) (ma_cons (me_tup (ma_cons me_int (ma_cons me_non ma_nil))) (ma_cons (me_tup (ma_cons me_int (ma_cons me_non ma_nil))) ma_nil))))))))) (mg_tup 2 rfl (mgs_cons (mg_name 13 sc_law.nd) (mgs_cons (mg_name 12 sc_law.nd) mgs_nil)) rfl rfl (fun _ _ _ h => wgCons_len (fun _ _ _ h => wgCons_len (fun _ _ _ h => wgNil_len h) wgName_ex h) wgName_ex h))
  (ms_one (ms_if (mt_ne hr.units (mo_of (me_call Zt (hr.mono (by decide)) rfl (ma_cons me_int (ma_cons (me_lst (ma_cons me_str ma_nil)) (ma_cons me_str (ma_cons (me_var 13) ma_nil)))))) (mo_var 12))
  (ms_one (ms_ret rfl me_bl))
  ms_nil)))
  (ms_one (ms_ret rfl (me_eq hr.units (mo_of (me_call Zt (hr.mono (by decide)) rfl (ma_cons me_int (ma_cons (me_lst (ma_cons me_str (ma_cons me_str ma_nil))) (ma_cons me_str (ma_cons (me_neg (mo_of me_int)) ma_nil)))))) (mo_of me_int))))))))))))))))) (fun ds Q h => ?_) (fun ds EX Q h => h)
  obtain ⟨xs, rfl, h⟩ := h
  simp only [e_qI, e_qIC, e_add1, e_add2, e_add3, e_add4, e_catL, e_aug1, e_aug2, e_mul1, e_mul2, e_rep, e_div, e_mod, e_neg, e_ord1, e_ord2, e_isn, e_nin, e_non1, e_non2, e_non3, e_non4, e_non5, e_non6, e_tru1, e_tru2, e_tru3, e_tru4, e_tru5, e_tru6, e_tru7, e_sl1, e_sl2, e_sl3, e_sl4, e_rev, e_it1, e_it2, e_it3, e_len1, e_len2, e_len3, e_len4, e_int1, e_int2, e_int3, e_min, e_max, e_min3, e_lst1, e_lst2, e_tup1, e_tup2, e_str, e_abs, e_lenS, e_ixS, isi_list_bl, isi_str_lst, isi_str_tup, isi_str_bl, isi_int_lst, isi_int_tup, isi_bool_non, isi_bool_str, isi_bool_lst, isi_bool_tup, isi_tup_lst, isi_tup_non, isi_tup_str, isi_tup_int, isi_tup_bl, e_attr, e_inD, e_ixD, e_ixS1, e_mulS, eq_self, Mi.qNotIn, Mi.qLt, Mi.qLe, Mi.qGt, Mi.qGe, List.map_cons, List.map_nil, List.length_map, true_and, and_true, Bool.false_eq_true, if_false, if_true, Bool.not_true, Bool.not_false, qEq_int, qEq_str, qEq_bl, qNe_int, qNe_str, qNe_bl, line0, line1, line2, line3, line4, line6, line7, line10, isi_list_lst, isi_list_tup, isi_list_non, isi_list_str, isi_list_int, isi_tup_tup, isi_bool_bl, isi_bool_int, isi_int_int, isi_int_bl, isi_int_non, isi_int_str, isi_str_str, isi_str_non, isi_str_int, startE_c, startE_n, startE_e, wFor_e, wLc_e, wipeE, wgName, wgTup, wgCons, wgNil, List.getElem?_cons_zero, List.getElem?_cons_succ, List.set_cons_zero, List.set_cons_succ, List.length_cons, List.length_nil, Mi.wC, Mi.wVar, Mi.wVarO, Mi.wOp, Mi.wUn, Mi.wCmp, Mi.wCmpT, Mi.wChainT, Mi.wChain, Mi.wTru, Mi.wAndT, Mi.wOrT, Mi.wNotT, Mi.wAnd, Mi.wOr, Mi.wNot, Mi.wIfE, Mi.wNoPart, Mi.wPart, Mi.wSl, Mi.wNil, Mi.wCons, Mi.wTup, Mi.wLst, Mi.wNext, Mi.wSeq, Mi.wFreeze, Mi.wForget, Mi.wBreak, Mi.wCont, Mi.wRet, Mi.wRetO, Mi.wRetN, Mi.wDrop, Mi.wIf, Mi.wNever, Mi.wAsg, Mi.wSetO, Mi.wPar, Mi.wAug, Mi.wApp, Mi.wSetIx, Mi.wExt, Mi.wItems, Mi.wRng1, Mi.wRng2, Mi.wRng3, Mi.wEnum, Mi.wZip, Mi.wYes, Mi.wCall, Mi.wCallX, Mi.wB2, Mi.wMin3, Mi.wIsi, Mi.wGuard, Mi.wGuardD, Mi.wRaise, Mi.wEnumS, Mi.wListR, Mi.wJoin, Mi.wMet, Mi.wMet0, Mi.wPop, Mi.wdNil, Mi.wdCons, Mi.wDisp, decide_true]
  refine ⟨xs, 0, 60, rfl, by omega, by omega, fun ns hns hb => ?_⟩
  have nget : ∀ i : Nat, i < 60 → ∃ n : Int, (ns.map D.int)[i]? = some (.int n) ∧ 0 ≤ n ∧ n < 1009 := fun i hi => by
    have hi2 : i < ns.length := by omega
    exact ⟨ns[i], by simp [hi2], hb _ (List.getElem_mem hi2)⟩
  have hcut : ∀ l r, ∀ x ∈ cutD (ns.map D.int) l r, ∃ n : Int, x = .int n ∧ 0 ≤ n ∧ n < 1009 := fun l r x hx => by
    obtain ⟨n, hn, rfl⟩ := List.mem_map.mp (mem_cut hx)
    exact ⟨n, rfl, hb n hn⟩
  obtain ⟨n0, g0, a0, b0⟩ := nget 0 (by omega)
  obtain ⟨n15, g15, a15, b15⟩ := nget 15 (by omega)
  obtain ⟨n16, g16, a16, b16⟩ := nget 16 (by omega)
  refine qIx_lst (i := 0) g0 ?_
  simp only [e_qI, e_qIC, e_add1, e_add2, e_add3, e_add4, e_catL, e_aug1, e_aug2, e_mul1, e_mul2, e_rep, e_div, e_mod, e_neg, e_ord1, e_ord2, e_isn, e_nin, e_non1, e_non2, e_non3, e_non4, e_non5, e_non6, e_tru1, e_tru2, e_tru3, e_tru4, e_tru5, e_tru6, e_tru7, e_sl1, e_sl2, e_sl3, e_sl4, e_rev, e_it1, e_it2, e_it3, e_len1, e_len2, e_len3, e_len4, e_int1, e_int2, e_int3, e_min, e_max, e_min3, e_lst1, e_lst2, e_tup1, e_tup2, e_str, e_abs, e_lenS, e_ixS, isi_list_bl, isi_str_lst, isi_str_tup, isi_str_bl, isi_int_lst, isi_int_tup, isi_bool_non, isi_bool_str, isi_bool_lst, isi_bool_tup, isi_tup_lst, isi_tup_non, isi_tup_str, isi_tup_int, isi_tup_bl, e_attr, e_inD, e_ixD, e_ixS1, e_mulS, eq_self, Mi.qNotIn, Mi.qLt, Mi.qLe, Mi.qGt, Mi.qGe, List.map_cons, List.map_nil, List.length_map, true_and, and_true, Bool.false_eq_true, if_false, if_true, Bool.not_true, Bool.not_false, qEq_int, qEq_str, qEq_bl, qNe_int, qNe_str, qNe_bl, line0, line1, line2, line3, line4, line6, line7, line10, isi_list_lst, isi_list_tup, isi_list_non, isi_list_str, isi_list_int, isi_tup_tup, isi_bool_bl, isi_bool_int, isi_int_int, isi_int_bl, isi_int_non, isi_int_str, isi_str_str, isi_str_non, isi_str_int, startE_c, startE_n, startE_e, wFor_e, wLc_e, wipeE, wgName, wgTup, wgCons, wgNil, List.getElem?_cons_zero, List.getElem?_cons_succ, List.set_cons_zero, List.set_cons_succ, List.length_cons, List.length_nil, Mi.wC, Mi.wVar, Mi.wVarO, Mi.wOp, Mi.wUn, Mi.wCmp, Mi.wCmpT, Mi.wChainT, Mi.wChain, Mi.wTru, Mi.wAndT, Mi.wOrT, Mi.wNotT, Mi.wAnd, Mi.wOr, Mi.wNot, Mi.wIfE, Mi.wNoPart, Mi.wPart, Mi.wSl, Mi.wNil, Mi.wCons, Mi.wTup, Mi.wLst, Mi.wNext, Mi.wSeq, Mi.wFreeze, Mi.wForget, Mi.wBreak, Mi.wCont, Mi.wRet, Mi.wRetO, Mi.wRetN, Mi.wDrop, Mi.wIf, Mi.wNever, Mi.wAsg, Mi.wSetO, Mi.wPar, Mi.wAug, Mi.wApp, Mi.wSetIx, Mi.wExt, Mi.wItems, Mi.wRng1, Mi.wRng2, Mi.wRng3, Mi.wEnum, Mi.wZip, Mi.wYes, Mi.wCall, Mi.wCallX, Mi.wB2, Mi.wMin3, Mi.wIsi, Mi.wGuard, Mi.wGuardD, Mi.wRaise, Mi.wEnumS, Mi.wListR, Mi.wJoin, Mi.wMet, Mi.wMet0, Mi.wPop, Mi.wdNil, Mi.wdCons, Mi.wDisp, decide_true]
  refine ⟨by omega, ?_⟩
  have e2 : (2 : Int) + n0 % 10 = ((2 + (n0 % 10).toNat : Nat) : Int) := by omega
  have hl1 : (cutD (ns.map D.int) (some 2) (some ((2 : Int) + n0 % 10))).length ≤ 9 := by
    rw [e2]
    exact Nat.le_trans (cut_le _ 2 _) (by omega)
  refine lc_strs (Pr := Wd 5) (by omega) (hcut _ _) (fun n R h0 h1 hR => ?_) fun A hA hAp => ?_
  · simp only [e_qI, e_qIC, e_add1, e_add2, e_add3, e_add4, e_catL, e_aug1, e_aug2, e_mul1, e_mul2, e_rep, e_div, e_mod, e_neg, e_ord1, e_ord2, e_isn, e_nin, e_non1, e_non2, e_non3, e_non4, e_non5, e_non6, e_tru1, e_tru2, e_tru3, e_tru4, e_tru5, e_tru6, e_tru7, e_sl1, e_sl2, e_sl3, e_sl4, e_rev, e_it1, e_it2, e_it3, e_len1, e_len2, e_len3, e_len4, e_int1, e_int2, e_int3, e_min, e_max, e_min3, e_lst1, e_lst2, e_tup1, e_tup2, e_str, e_abs, e_lenS, e_ixS, isi_list_bl, isi_str_lst, isi_str_tup, isi_str_bl, isi_int_lst, isi_int_tup, isi_bool_non, isi_bool_str, isi_bool_lst, isi_bool_tup, isi_tup_lst, isi_tup_non, isi_tup_str, isi_tup_int, isi_tup_bl, e_attr, e_inD, e_ixD, e_ixS1, e_mulS, eq_self, Mi.qNotIn, Mi.qLt, Mi.qLe, Mi.qGt, Mi.qGe, List.map_cons, List.map_nil, List.length_map, true_and, and_true, Bool.false_eq_true, if_false, if_true, Bool.not_true, Bool.not_false, qEq_int, qEq_str, qEq_bl, qNe_int, qNe_str, qNe_bl, line0, line1, line2, line3, line4, line6, line7, line10, isi_list_lst, isi_list_tup, isi_list_non, isi_list_str, isi_list_int, isi_tup_tup, isi_bool_bl, isi_bool_int, isi_int_int, isi_int_bl, isi_int_non, isi_int_str, isi_str_str, isi_str_non, isi_str_int, startE_c, startE_n, startE_e, wFor_e, wLc_e, wipeE, wgName, wgTup, wgCons, wgNil, List.getElem?_cons_zero, List.getElem?_cons_succ, List.set_cons_zero, List.set_cons_succ, List.length_cons, List.length_nil, Mi.wC, Mi.wVar, Mi.wVarO, Mi.wOp, Mi.wUn, Mi.wCmp, Mi.wCmpT, Mi.wChainT, Mi.wChain, Mi.wTru, Mi.wAndT, Mi.wOrT, Mi.wNotT, Mi.wAnd, Mi.wOr, Mi.wNot, Mi.wIfE, Mi.wNoPart, Mi.wPart, Mi.wSl, Mi.wNil, Mi.wCons, Mi.wTup, Mi.wLst, Mi.wNext, Mi.wSeq, Mi.wFreeze, Mi.wForget, Mi.wBreak, Mi.wCont, Mi.wRet, Mi.wRetO, Mi.wRetN, Mi.wDrop, Mi.wIf, Mi.wNever, Mi.wAsg, Mi.wSetO, Mi.wPar, Mi.wAug, Mi.wApp, Mi.wSetIx, Mi.wExt, Mi.wItems, Mi.wRng1, Mi.wRng2, Mi.wRng3, Mi.wEnum, Mi.wZip, Mi.wYes, Mi.wCall, Mi.wCallX, Mi.wB2, Mi.wMin3, Mi.wIsi, Mi.wGuard, Mi.wGuardD, Mi.wRaise, Mi.wEnumS, Mi.wListR, Mi.wJoin, Mi.wMet, Mi.wMet0, Mi.wPop, Mi.wdNil, Mi.wdCons, Mi.wDisp, decide_true]
    exact ⟨n, 5, rfl, h0, h1, by omega, by omega, fun s h1 h2 h3 => hR s ⟨h1, by omega, h3⟩⟩
  rw [← hA] at hl1
  refine ⟨A, rfl, by omega, fun L hLn hLm hLs => ?_⟩
  have hLl : L.length ≤ 9 := Nat.le_trans (List.Nodup.length_le_of_subset hLn fun x hx => (hLm x).mp hx) hl1
  have hLW : ∀ s ∈ L, Wd 5 s := fun s hs => hAp s ((hLm s).mp hs)
  have hLp : ∀ s ∈ L, plainS s = true := fun s hs => (hLW s hs).plain (by omega)
  have hLt := told_sorted hLs hLn hLp (by omega)
  simp only [e_qI, e_qIC, e_add1, e_add2, e_add3, e_add4, e_catL, e_aug1, e_aug2, e_mul1, e_mul2, e_rep, e_div, e_mod, e_neg, e_ord1, e_ord2, e_isn, e_nin, e_non1, e_non2, e_non3, e_non4, e_non5, e_non6, e_tru1, e_tru2, e_tru3, e_tru4, e_tru5, e_tru6, e_tru7, e_sl1, e_sl2, e_sl3, e_sl4, e_rev, e_it1, e_it2, e_it3, e_len1, e_len2, e_len3, e_len4, e_int1, e_int2, e_int3, e_min, e_max, e_min3, e_lst1, e_lst2, e_tup1, e_tup2, e_str, e_abs, e_lenS, e_ixS, isi_list_bl, isi_str_lst, isi_str_tup, isi_str_bl, isi_int_lst, isi_int_tup, isi_bool_non, isi_bool_str, isi_bool_lst, isi_bool_tup, isi_tup_lst, isi_tup_non, isi_tup_str, isi_tup_int, isi_tup_bl, e_attr, e_inD, e_ixD, e_ixS1, e_mulS, eq_self, Mi.qNotIn, Mi.qLt, Mi.qLe, Mi.qGt, Mi.qGe, List.map_cons, List.map_nil, List.length_map, true_and, and_true, Bool.false_eq_true, if_false, if_true, Bool.not_true, Bool.not_false, qEq_int, qEq_str, qEq_bl, qNe_int, qNe_str, qNe_bl, line0, line1, line2, line3, line4, line6, line7, line10, isi_list_lst, isi_list_tup, isi_list_non, isi_list_str, isi_list_int, isi_tup_tup, isi_bool_bl, isi_bool_int, isi_int_int, isi_int_bl, isi_int_non, isi_int_str, isi_str_str, isi_str_non, isi_str_int, startE_c, startE_n, startE_e, wFor_e, wLc_e, wipeE, wgName, wgTup, wgCons, wgNil, List.getElem?_cons_zero, List.getElem?_cons_succ, List.set_cons_zero, List.set_cons_succ, List.length_cons, List.length_nil, Mi.wC, Mi.wVar, Mi.wVarO, Mi.wOp, Mi.wUn, Mi.wCmp, Mi.wCmpT, Mi.wChainT, Mi.wChain, Mi.wTru, Mi.wAndT, Mi.wOrT, Mi.wNotT, Mi.wAnd, Mi.wOr, Mi.wNot, Mi.wIfE, Mi.wNoPart, Mi.wPart, Mi.wSl, Mi.wNil, Mi.wCons, Mi.wTup, Mi.wLst, Mi.wNext, Mi.wSeq, Mi.wFreeze, Mi.wForget, Mi.wBreak, Mi.wCont, Mi.wRet, Mi.wRetO, Mi.wRetN, Mi.wDrop, Mi.wIf, Mi.wNever, Mi.wAsg, Mi.wSetO, Mi.wPar, Mi.wAug, Mi.wApp, Mi.wSetIx, Mi.wExt, Mi.wItems, Mi.wRng1, Mi.wRng2, Mi.wRng3, Mi.wEnum, Mi.wZip, Mi.wYes, Mi.wCall, Mi.wCallX, Mi.wB2, Mi.wMin3, Mi.wIsi, Mi.wGuard, Mi.wGuardD, Mi.wRaise, Mi.wEnumS, Mi.wListR, Mi.wJoin, Mi.wMet, Mi.wMet0, Mi.wPop, Mi.wdNil, Mi.wdCons, Mi.wDisp, decide_true]
  have hl2 : (cutD (ns.map D.int) (some 12) (some 14)).length ≤ 2 := cut_le _ 12 14
  refine lc_strs (Pr := Wd 6) (by omega) (hcut _ _) (fun n R h0 h1 hR => ?_) fun T0 hT0 hT0p => ?_
  · simp only [e_qI, e_qIC, e_add1, e_add2, e_add3, e_add4, e_catL, e_aug1, e_aug2, e_mul1, e_mul2, e_rep, e_div, e_mod, e_neg, e_ord1, e_ord2, e_isn, e_nin, e_non1, e_non2, e_non3, e_non4, e_non5, e_non6, e_tru1, e_tru2, e_tru3, e_tru4, e_tru5, e_tru6, e_tru7, e_sl1, e_sl2, e_sl3, e_sl4, e_rev, e_it1, e_it2, e_it3, e_len1, e_len2, e_len3, e_len4, e_int1, e_int2, e_int3, e_min, e_max, e_min3, e_lst1, e_lst2, e_tup1, e_tup2, e_str, e_abs, e_lenS, e_ixS, isi_list_bl, isi_str_lst, isi_str_tup, isi_str_bl, isi_int_lst, isi_int_tup, isi_bool_non, isi_bool_str, isi_bool_lst, isi_bool_tup, isi_tup_lst, isi_tup_non, isi_tup_str, isi_tup_int, isi_tup_bl, e_attr, e_inD, e_ixD, e_ixS1, e_mulS, eq_self, Mi.qNotIn, Mi.qLt, Mi.qLe, Mi.qGt, Mi.qGe, List.map_cons, List.map_nil, List.length_map, true_and, and_true, Bool.false_eq_true, if_false, if_true, Bool.not_true, Bool.not_false, qEq_int, qEq_str, qEq_bl, qNe_int, qNe_str, qNe_bl, line0, line1, line2, line3, line4, line6, line7, line10, isi_list_lst, isi_list_tup, isi_list_non, isi_list_str, isi_list_int, isi_tup_tup, isi_bool_bl, isi_bool_int, isi_int_int, isi_int_bl, isi_int_non, isi_int_str, isi_str_str, isi_str_non, isi_str_int, startE_c, startE_n, startE_e, wFor_e, wLc_e, wipeE, wgName, wgTup, wgCons, wgNil, List.getElem?_cons_zero, List.getElem?_cons_succ, List.set_cons_zero, List.set_cons_succ, List.length_cons, List.length_nil, Mi.wC, Mi.wVar, Mi.wVarO, Mi.wOp, Mi.wUn, Mi.wCmp, Mi.wCmpT, Mi.wChainT, Mi.wChain, Mi.wTru, Mi.wAndT, Mi.wOrT, Mi.wNotT, Mi.wAnd, Mi.wOr, Mi.wNot, Mi.wIfE, Mi.wNoPart, Mi.wPart, Mi.wSl, Mi.wNil, Mi.wCons, Mi.wTup, Mi.wLst, Mi.wNext, Mi.wSeq, Mi.wFreeze, Mi.wForget, Mi.wBreak, Mi.wCont, Mi.wRet, Mi.wRetO, Mi.wRetN, Mi.wDrop, Mi.wIf, Mi.wNever, Mi.wAsg, Mi.wSetO, Mi.wPar, Mi.wAug, Mi.wApp, Mi.wSetIx, Mi.wExt, Mi.wItems, Mi.wRng1, Mi.wRng2, Mi.wRng3, Mi.wEnum, Mi.wZip, Mi.wYes, Mi.wCall, Mi.wCallX, Mi.wB2, Mi.wMin3, Mi.wIsi, Mi.wGuard, Mi.wGuardD, Mi.wRaise, Mi.wEnumS, Mi.wListR, Mi.wJoin, Mi.wMet, Mi.wMet0, Mi.wPop, Mi.wdNil, Mi.wdCons, Mi.wDisp, decide_true]
    exact ⟨n, 6, rfl, h0, h1, by omega, by omega, fun s h1 h2 h3 => hR s ⟨h1, by omega, h3⟩⟩
  rw [← hT0] at hl2
  show wCut _ _ [st (.ext 0 (.lst (xs.map D.int))), st (.lst (ns.map D.int)), st (.lst (A.map D.str)), st (wordsD L), _, _, _, _, _, _, _, _, _, _, _, _, _] _ _
  refine cut_i (fun δ' => ∃ (U : List PySem.Str) (c5 c6 c7 c8 c9 c10 c11 c12 c13 c14 c15 c16 : Option Cell), δ' = [st (.ext 0 (.lst (xs.map D.int))), st (.lst (ns.map D.int)), st (.lst (A.map D.str)), st (wordsD L), st (.lst (U.map D.str)), c5, c6, c7, c8, c9, c10, c11, c12, c13, c14, c15, c16] ∧ U.length ≤ 8 ∧ ∀ s ∈ U, s.length ≤ 100) ?_ ?_
  · unfold wordsD
    simp only [e_qI, e_qIC, e_add1, e_add2, e_add3, e_add4, e_catL, e_aug1, e_aug2, e_mul1, e_mul2, e_rep, e_div, e_mod, e_neg, e_ord1, e_ord2, e_isn, e_nin, e_non1, e_non2, e_non3, e_non4, e_non5, e_non6, e_tru1, e_tru2, e_tru3, e_tru4, e_tru5, e_tru6, e_tru7, e_sl1, e_sl2, e_sl3, e_sl4, e_rev, e_it1, e_it2, e_it3, e_len1, e_len2, e_len3, e_len4, e_int1, e_int2, e_int3, e_min, e_max, e_min3, e_lst1, e_lst2, e_tup1, e_tup2, e_str, e_abs, e_lenS, e_ixS, isi_list_bl, isi_str_lst, isi_str_tup, isi_str_bl, isi_int_lst, isi_int_tup, isi_bool_non, isi_bool_str, isi_bool_lst, isi_bool_tup, isi_tup_lst, isi_tup_non, isi_tup_str, isi_tup_int, isi_tup_bl, e_attr, e_inD, e_ixD, e_ixS1, e_mulS, eq_self, Mi.qNotIn, Mi.qLt, Mi.qLe, Mi.qGt, Mi.qGe, List.map_cons, List.map_nil, List.length_map, true_and, and_true, Bool.false_eq_true, if_false, if_true, Bool.not_true, Bool.not_false, qEq_int, qEq_str, qEq_bl, qNe_int, qNe_str, qNe_bl, line0, line1, line2, line3, line4, line6, line7, line10, isi_list_lst, isi_list_tup, isi_list_non, isi_list_str, isi_list_int, isi_tup_tup, isi_bool_bl, isi_bool_int, isi_int_int, isi_int_bl, isi_int_non, isi_int_str, isi_str_str, isi_str_non, isi_str_int, startE_c, startE_n, startE_e, wFor_e, wLc_e, wipeE, wgName, wgTup, wgCons, wgNil, List.getElem?_cons_zero, List.getElem?_cons_succ, List.set_cons_zero, List.set_cons_succ, List.length_cons, List.length_nil, Mi.wC, Mi.wVar, Mi.wVarO, Mi.wOp, Mi.wUn, Mi.wCmp, Mi.wCmpT, Mi.wChainT, Mi.wChain, Mi.wTru, Mi.wAndT, Mi.wOrT, Mi.wNotT, Mi.wAnd, Mi.wOr, Mi.wNot, Mi.wIfE, Mi.wNoPart, Mi.wPart, Mi.wSl, Mi.wNil, Mi.wCons, Mi.wTup, Mi.wLst, Mi.wNext, Mi.wSeq, Mi.wFreeze, Mi.wForget, Mi.wBreak, Mi.wCont, Mi.wRet, Mi.wRetO, Mi.wRetN, Mi.wDrop, Mi.wIf, Mi.wNever, Mi.wAsg, Mi.wSetO, Mi.wPar, Mi.wAug, Mi.wApp, Mi.wSetIx, Mi.wExt, Mi.wItems, Mi.wRng1, Mi.wRng2, Mi.wRng3, Mi.wEnum, Mi.wZip, Mi.wYes, Mi.wCall, Mi.wCallX, Mi.wB2, Mi.wMin3, Mi.wIsi, Mi.wGuard, Mi.wGuardD, Mi.wRaise, Mi.wEnumS, Mi.wListR, Mi.wJoin, Mi.wMet, Mi.wMet0, Mi.wPop, Mi.wdNil, Mi.wdCons, Mi.wDisp, decide_true]
    have hc2 := cut_to (L.map D.str) 2
    rw [show ((2 : Nat) : Int) = 2 from rfl] at hc2
    rw [hc2]
    refine for_i (fun i δ' => ∃ (U : List PySem.Str) (c5 c6 c7 c8 c9 c10 c11 c12 c13 c14 c15 c16 : Option Cell), δ' = [st (.ext 0 (.lst (xs.map D.int))), st (.lst (ns.map D.int)), st (.lst (A.map D.str)), st (wordsD L), st (.lst (U.map D.str)), c5, c6, c7, c8, c9, c10, c11, c12, c13, c14, c15, c16] ∧ U.length ≤ 2 + 3 * i ∧ i ≤ 2 ∧ ∀ s ∈ U, s.length ≤ 100) ⟨T0, _, _, _, _, _, _, _, _, _, _, _, _, rfl, by omega, by omega, fun s hs => ?_⟩ ?_ ?_
    · have := (hT0p s hs).2.1
      rw [show s.length = (codes s).length from str_len s]; omega
    · rintro i d δ' hi ⟨U, c5, c6, c7, c8, c9, c10, c11, c12, c13, c14, c15, c16, rfl, hU, hi2, hUl⟩
      have hil := (List.getElem?_eq_some_iff.mp hi).1
      rw [List.length_take] at hil
      have hm := List.mem_of_mem_take (List.mem_of_getElem? hi)
      obtain ⟨s, hs, rfl⟩ := List.mem_map.mp hm
      have hsl : s.length ≤ 5 := by
        have := (hLW s hs).2.1
        rw [show s.length = (codes s).length from str_len s]; omega
      have hcl := cutS_length s
      simp only [e_qI, e_qIC, e_add1, e_add2, e_add3, e_add4, e_catL, e_aug1, e_aug2, e_mul1, e_mul2, e_rep, e_div, e_mod, e_neg, e_ord1, e_ord2, e_isn, e_nin, e_non1, e_non2, e_non3, e_non4, e_non5, e_non6, e_tru1, e_tru2, e_tru3, e_tru4, e_tru5, e_tru6, e_tru7, e_sl1, e_sl2, e_sl3, e_sl4, e_rev, e_it1, e_it2, e_it3, e_len1, e_len2, e_len3, e_len4, e_int1, e_int2, e_int3, e_min, e_max, e_min3, e_lst1, e_lst2, e_tup1, e_tup2, e_str, e_abs, e_lenS, e_ixS, isi_list_bl, isi_str_lst, isi_str_tup, isi_str_bl, isi_int_lst, isi_int_tup, isi_bool_non, isi_bool_str, isi_bool_lst, isi_bool_tup, isi_tup_lst, isi_tup_non, isi_tup_str, isi_tup_int, isi_tup_bl, e_attr, e_inD, e_ixD, e_ixS1, e_mulS, eq_self, Mi.qNotIn, Mi.qLt, Mi.qLe, Mi.qGt, Mi.qGe, List.map_cons, List.map_nil, List.length_map, true_and, and_true, Bool.false_eq_true, if_false, if_true, Bool.not_true, Bool.not_false, qEq_int, qEq_str, qEq_bl, qNe_int, qNe_str, qNe_bl, line0, line1, line2, line3, line4, line6, line7, line10, isi_list_lst, isi_list_tup, isi_list_non, isi_list_str, isi_list_int, isi_tup_tup, isi_bool_bl, isi_bool_int, isi_int_int, isi_int_bl, isi_int_non, isi_int_str, isi_str_str, isi_str_non, isi_str_int, startE_c, startE_n, startE_e, wFor_e, wLc_e, wipeE, wgName, wgTup, wgCons, wgNil, List.getElem?_cons_zero, List.getElem?_cons_succ, List.set_cons_zero, List.set_cons_succ, List.length_cons, List.length_nil, Mi.wC, Mi.wVar, Mi.wVarO, Mi.wOp, Mi.wUn, Mi.wCmp, Mi.wCmpT, Mi.wChainT, Mi.wChain, Mi.wTru, Mi.wAndT, Mi.wOrT, Mi.wNotT, Mi.wAnd, Mi.wOr, Mi.wNot, Mi.wIfE, Mi.wNoPart, Mi.wPart, Mi.wSl, Mi.wNil, Mi.wCons, Mi.wTup, Mi.wLst, Mi.wNext, Mi.wSeq, Mi.wFreeze, Mi.wForget, Mi.wBreak, Mi.wCont, Mi.wRet, Mi.wRetO, Mi.wRetN, Mi.wDrop, Mi.wIf, Mi.wNever, Mi.wAsg, Mi.wSetO, Mi.wPar, Mi.wAug, Mi.wApp, Mi.wSetIx, Mi.wExt, Mi.wItems, Mi.wRng1, Mi.wRng2, Mi.wRng3, Mi.wEnum, Mi.wZip, Mi.wYes, Mi.wCall, Mi.wCallX, Mi.wB2, Mi.wMin3, Mi.wIsi, Mi.wGuard, Mi.wGuardD, Mi.wRaise, Mi.wEnumS, Mi.wListR, Mi.wJoin, Mi.wMet, Mi.wMet0, Mi.wPop, Mi.wdNil, Mi.wdCons, Mi.wDisp, decide_true]
      refine qIx_lst (i := 15) g15 ?_
      simp only [e_qI, e_qIC, e_add1, e_add2, e_add3, e_add4, e_catL, e_aug1, e_aug2, e_mul1, e_mul2, e_rep, e_div, e_mod, e_neg, e_ord1, e_ord2, e_isn, e_nin, e_non1, e_non2, e_non3, e_non4, e_non5, e_non6, e_tru1, e_tru2, e_tru3, e_tru4, e_tru5, e_tru6, e_tru7, e_sl1, e_sl2, e_sl3, e_sl4, e_rev, e_it1, e_it2, e_it3, e_len1, e_len2, e_len3, e_len4, e_int1, e_int2, e_int3, e_min, e_max, e_min3, e_lst1, e_lst2, e_tup1, e_tup2, e_str, e_abs, e_lenS, e_ixS, isi_list_bl, isi_str_lst, isi_str_tup, isi_str_bl, isi_int_lst, isi_int_tup, isi_bool_non, isi_bool_str, isi_bool_lst, isi_bool_tup, isi_tup_lst, isi_tup_non, isi_tup_str, isi_tup_int, isi_tup_bl, e_attr, e_inD, e_ixD, e_ixS1, e_mulS, eq_self, Mi.qNotIn, Mi.qLt, Mi.qLe, Mi.qGt, Mi.qGe, List.map_cons, List.map_nil, List.length_map, true_and, and_true, Bool.false_eq_true, if_false, if_true, Bool.not_true, Bool.not_false, qEq_int, qEq_str, qEq_bl, qNe_int, qNe_str, qNe_bl, line0, line1, line2, line3, line4, line6, line7, line10, isi_list_lst, isi_list_tup, isi_list_non, isi_list_str, isi_list_int, isi_tup_tup, isi_bool_bl, isi_bool_int, isi_int_int, isi_int_bl, isi_int_non, isi_int_str, isi_str_str, isi_str_non, isi_str_int, startE_c, startE_n, startE_e, wFor_e, wLc_e, wipeE, wgName, wgTup, wgCons, wgNil, List.getElem?_cons_zero, List.getElem?_cons_succ, List.set_cons_zero, List.set_cons_succ, List.length_cons, List.length_nil, Mi.wC, Mi.wVar, Mi.wVarO, Mi.wOp, Mi.wUn, Mi.wCmp, Mi.wCmpT, Mi.wChainT, Mi.wChain, Mi.wTru, Mi.wAndT, Mi.wOrT, Mi.wNotT, Mi.wAnd, Mi.wOr, Mi.wNot, Mi.wIfE, Mi.wNoPart, Mi.wPart, Mi.wSl, Mi.wNil, Mi.wCons, Mi.wTup, Mi.wLst, Mi.wNext, Mi.wSeq, Mi.wFreeze, Mi.wForget, Mi.wBreak, Mi.wCont, Mi.wRet, Mi.wRetO, Mi.wRetN, Mi.wDrop, Mi.wIf, Mi.wNever, Mi.wAsg, Mi.wSetO, Mi.wPar, Mi.wAug, Mi.wApp, Mi.wSetIx, Mi.wExt, Mi.wItems, Mi.wRng1, Mi.wRng2, Mi.wRng3, Mi.wEnum, Mi.wZip, Mi.wYes, Mi.wCall, Mi.wCallX, Mi.wB2, Mi.wMin3, Mi.wIsi, Mi.wGuard, Mi.wGuardD, Mi.wRaise, Mi.wEnumS, Mi.wListR, Mi.wJoin, Mi.wMet, Mi.wMet0, Mi.wPop, Mi.wdNil, Mi.wdCons, Mi.wDisp, decide_true]
      refine ⟨leL (by omega), by omega, leL (by omega), ?_⟩
      refine qIx_lst (i := 16) g16 ?_
      simp only [e_qI, e_qIC, e_add1, e_add2, e_add3, e_add4, e_catL, e_aug1, e_aug2, e_mul1, e_mul2, e_rep, e_div, e_mod, e_neg, e_ord1, e_ord2, e_isn, e_nin, e_non1, e_non2, e_non3, e_non4, e_non5, e_non6, e_tru1, e_tru2, e_tru3, e_tru4, e_tru5, e_tru6, e_tru7, e_sl1, e_sl2, e_sl3, e_sl4, e_rev, e_it1, e_it2, e_it3, e_len1, e_len2, e_len3, e_len4, e_int1, e_int2, e_int3, e_min, e_max, e_min3, e_lst1, e_lst2, e_tup1, e_tup2, e_str, e_abs, e_lenS, e_ixS, isi_list_bl, isi_str_lst, isi_str_tup, isi_str_bl, isi_int_lst, isi_int_tup, isi_bool_non, isi_bool_str, isi_bool_lst, isi_bool_tup, isi_tup_lst, isi_tup_non, isi_tup_str, isi_tup_int, isi_tup_bl, e_attr, e_inD, e_ixD, e_ixS1, e_mulS, eq_self, Mi.qNotIn, Mi.qLt, Mi.qLe, Mi.qGt, Mi.qGe, List.map_cons, List.map_nil, List.length_map, true_and, and_true, Bool.false_eq_true, if_false, if_true, Bool.not_true, Bool.not_false, qEq_int, qEq_str, qEq_bl, qNe_int, qNe_str, qNe_bl, line0, line1, line2, line3, line4, line6, line7, line10, isi_list_lst, isi_list_tup, isi_list_non, isi_list_str, isi_list_int, isi_tup_tup, isi_bool_bl, isi_bool_int, isi_int_int, isi_int_bl, isi_int_non, isi_int_str, isi_str_str, isi_str_non, isi_str_int, startE_c, startE_n, startE_e, wFor_e, wLc_e, wipeE, wgName, wgTup, wgCons, wgNil, List.getElem?_cons_zero, List.getElem?_cons_succ, List.set_cons_zero, List.set_cons_succ, List.length_cons, List.length_nil, Mi.wC, Mi.wVar, Mi.wVarO, Mi.wOp, Mi.wUn, Mi.wCmp, Mi.wCmpT, Mi.wChainT, Mi.wChain, Mi.wTru, Mi.wAndT, Mi.wOrT, Mi.wNotT, Mi.wAnd, Mi.wOr, Mi.wNot, Mi.wIfE, Mi.wNoPart, Mi.wPart, Mi.wSl, Mi.wNil, Mi.wCons, Mi.wTup, Mi.wLst, Mi.wNext, Mi.wSeq, Mi.wFreeze, Mi.wForget, Mi.wBreak, Mi.wCont, Mi.wRet, Mi.wRetO, Mi.wRetN, Mi.wDrop, Mi.wIf, Mi.wNever, Mi.wAsg, Mi.wSetO, Mi.wPar, Mi.wAug, Mi.wApp, Mi.wSetIx, Mi.wExt, Mi.wItems, Mi.wRng1, Mi.wRng2, Mi.wRng3, Mi.wEnum, Mi.wZip, Mi.wYes, Mi.wCall, Mi.wCallX, Mi.wB2, Mi.wMin3, Mi.wIsi, Mi.wGuard, Mi.wGuardD, Mi.wRaise, Mi.wEnumS, Mi.wListR, Mi.wJoin, Mi.wMet, Mi.wMet0, Mi.wPop, Mi.wdNil, Mi.wdCons, Mi.wDisp, decide_true]
      refine ⟨by omega, ?_⟩
      generalize n15 % ((s.length : Int) + 1) = at_
      have c1 := hcl none (some at_)
      have c2 := hcl (some at_) none
      have c3 := hcl (some (at_ + 1)) none
      refine abc_at (Int.emod_nonneg _ (by omega)) (Int.emod_lt_of_pos _ (by omega)) fun c _ _ => ?_
      have l1 : ∀ x y : PySem.Str, (x ++ y).length = x.length + y.length := fun x y => by rw [str_len, str_len, str_len, sapp, List.length_append]
      have lc1 : (⟨#[c]⟩ : PySem.Str).length = 1 := rfl
      have lcc : (PySem.Str.ofString "c").length = 1 := by decide +kernel
      simp only [e_qI, e_qIC, e_add1, e_add2, e_add3, e_add4, e_catL, e_aug1, e_aug2, e_mul1, e_mul2, e_rep, e_div, e_mod, e_neg, e_ord1, e_ord2, e_isn, e_nin, e_non1, e_non2, e_non3, e_non4, e_non5, e_non6, e_tru1, e_tru2, e_tru3, e_tru4, e_tru5, e_tru6, e_tru7, e_sl1, e_sl2, e_sl3, e_sl4, e_rev, e_it1, e_it2, e_it3, e_len1, e_len2, e_len3, e_len4, e_int1, e_int2, e_int3, e_min, e_max, e_min3, e_lst1, e_lst2, e_tup1, e_tup2, e_str, e_abs, e_lenS, e_ixS, isi_list_bl, isi_str_lst, isi_str_tup, isi_str_bl, isi_int_lst, isi_int_tup, isi_bool_non, isi_bool_str, isi_bool_lst, isi_bool_tup, isi_tup_lst, isi_tup_non, isi_tup_str, isi_tup_int, isi_tup_bl, e_attr, e_inD, e_ixD, e_ixS1, e_mulS, eq_self, Mi.qNotIn, Mi.qLt, Mi.qLe, Mi.qGt, Mi.qGe, List.map_cons, List.map_nil, List.length_map, true_and, and_true, Bool.false_eq_true, if_false, if_true, Bool.not_true, Bool.not_false, qEq_int, qEq_str, qEq_bl, qNe_int, qNe_str, qNe_bl, line0, line1, line2, line3, line4, line6, line7, line10, isi_list_lst, isi_list_tup, isi_list_non, isi_list_str, isi_list_int, isi_tup_tup, isi_bool_bl, isi_bool_int, isi_int_int, isi_int_bl, isi_int_non, isi_int_str, isi_str_str, isi_str_non, isi_str_int, startE_c, startE_n, startE_e, wFor_e, wLc_e, wipeE, wgName, wgTup, wgCons, wgNil, List.getElem?_cons_zero, List.getElem?_cons_succ, List.set_cons_zero, List.set_cons_succ, List.length_cons, List.length_nil, Mi.wC, Mi.wVar, Mi.wVarO, Mi.wOp, Mi.wUn, Mi.wCmp, Mi.wCmpT, Mi.wChainT, Mi.wChain, Mi.wTru, Mi.wAndT, Mi.wOrT, Mi.wNotT, Mi.wAnd, Mi.wOr, Mi.wNot, Mi.wIfE, Mi.wNoPart, Mi.wPart, Mi.wSl, Mi.wNil, Mi.wCons, Mi.wTup, Mi.wLst, Mi.wNext, Mi.wSeq, Mi.wFreeze, Mi.wForget, Mi.wBreak, Mi.wCont, Mi.wRet, Mi.wRetO, Mi.wRetN, Mi.wDrop, Mi.wIf, Mi.wNever, Mi.wAsg, Mi.wSetO, Mi.wPar, Mi.wAug, Mi.wApp, Mi.wSetIx, Mi.wExt, Mi.wItems, Mi.wRng1, Mi.wRng2, Mi.wRng3, Mi.wEnum, Mi.wZip, Mi.wYes, Mi.wCall, Mi.wCallX, Mi.wB2, Mi.wMin3, Mi.wIsi, Mi.wGuard, Mi.wGuardD, Mi.wRaise, Mi.wEnumS, Mi.wListR, Mi.wJoin, Mi.wMet, Mi.wMet0, Mi.wPop, Mi.wdNil, Mi.wdCons, Mi.wDisp, decide_true, l1, lc1, lcc]
      refine ⟨leL (by omega), leL (by omega), leL (by omega), leL (by omega), leL (by omega), leL (by omega), leL (by omega), leL (by omega), leL (by omega), leL (by omega), leL (by omega),
        U ++ [cutS s none (some at_) ++ (⟨#[c]⟩ : PySem.Str) ++ cutS s (some at_) none, cutS s none (some at_) ++ cutS s (some (at_ + 1)) none, cutS s none (some at_) ++ PySem.Str.ofString "c" ++ cutS s (some (at_ + 1)) none], _, _, _, _, _, _, _, _, _, _, _, _, by rw [List.map_append]; rfl, by rw [List.length_append]; simp; omega, by omega, fun x hx => ?_⟩
      simp only [List.mem_append, List.mem_cons, List.not_mem_nil, or_false] at hx
      rcases hx with hx | rfl | rfl | rfl
      · exact hUl x hx
      · rw [l1, l1, lc1]; omega
      · rw [l1]; omega
      · rw [l1, l1, lcc]; omega
    · rintro δ' ⟨U, c5, c6, c7, c8, c9, c10, c11, c12, c13, c14, c15, c16, rfl, hU, hi2, hUl⟩
      exact ⟨U, _, _, _, _, _, _, _, _, _, _, _, _, rfl, by omega, hUl⟩
  · rintro δ' ⟨U, c5, c6, c7, c8, c9, c10, c11, c12, c13, c14, c15, c16, rfl, hU, hUl⟩
    refine cut_i (fun δ' => ∃ (c5 c6 c7 c8 c9 c10 c11 c12 c13 c14 c15 c16 : Option Cell), δ' = [st (.ext 0 (.lst (xs.map D.int))), st (.lst (ns.map D.int)), st (.lst (A.map D.str)), st (wordsD L), st (.lst (U.map D.str)), c5, c6, c7, c8, c9, c10, c11, c12, c13, c14, c15, c16]) ?_ ?_
    · simp only [e_qI, e_qIC, e_add1, e_add2, e_add3, e_add4, e_catL, e_aug1, e_aug2, e_mul1, e_mul2, e_rep, e_div, e_mod, e_neg, e_ord1, e_ord2, e_isn, e_nin, e_non1, e_non2, e_non3, e_non4, e_non5, e_non6, e_tru1, e_tru2, e_tru3, e_tru4, e_tru5, e_tru6, e_tru7, e_sl1, e_sl2, e_sl3, e_sl4, e_rev, e_it1, e_it2, e_it3, e_len1, e_len2, e_len3, e_len4, e_int1, e_int2, e_int3, e_min, e_max, e_min3, e_lst1, e_lst2, e_tup1, e_tup2, e_str, e_abs, e_lenS, e_ixS, isi_list_bl, isi_str_lst, isi_str_tup, isi_str_bl, isi_int_lst, isi_int_tup, isi_bool_non, isi_bool_str, isi_bool_lst, isi_bool_tup, isi_tup_lst, isi_tup_non, isi_tup_str, isi_tup_int, isi_tup_bl, e_attr, e_inD, e_ixD, e_ixS1, e_mulS, eq_self, Mi.qNotIn, Mi.qLt, Mi.qLe, Mi.qGt, Mi.qGe, List.map_cons, List.map_nil, List.length_map, true_and, and_true, Bool.false_eq_true, if_false, if_true, Bool.not_true, Bool.not_false, qEq_int, qEq_str, qEq_bl, qNe_int, qNe_str, qNe_bl, line0, line1, line2, line3, line4, line6, line7, line10, isi_list_lst, isi_list_tup, isi_list_non, isi_list_str, isi_list_int, isi_tup_tup, isi_bool_bl, isi_bool_int, isi_int_int, isi_int_bl, isi_int_non, isi_int_str, isi_str_str, isi_str_non, isi_str_int, startE_c, startE_n, startE_e, wFor_e, wLc_e, wipeE, wgName, wgTup, wgCons, wgNil, List.getElem?_cons_zero, List.getElem?_cons_succ, List.set_cons_zero, List.set_cons_succ, List.length_cons, List.length_nil, Mi.wC, Mi.wVar, Mi.wVarO, Mi.wOp, Mi.wUn, Mi.wCmp, Mi.wCmpT, Mi.wChainT, Mi.wChain, Mi.wTru, Mi.wAndT, Mi.wOrT, Mi.wNotT, Mi.wAnd, Mi.wOr, Mi.wNot, Mi.wIfE, Mi.wNoPart, Mi.wPart, Mi.wSl, Mi.wNil, Mi.wCons, Mi.wTup, Mi.wLst, Mi.wNext, Mi.wSeq, Mi.wFreeze, Mi.wForget, Mi.wBreak, Mi.wCont, Mi.wRet, Mi.wRetO, Mi.wRetN, Mi.wDrop, Mi.wIf, Mi.wNever, Mi.wAsg, Mi.wSetO, Mi.wPar, Mi.wAug, Mi.wApp, Mi.wSetIx, Mi.wExt, Mi.wItems, Mi.wRng1, Mi.wRng2, Mi.wRng3, Mi.wEnum, Mi.wZip, Mi.wYes, Mi.wCall, Mi.wCallX, Mi.wB2, Mi.wMin3, Mi.wIsi, Mi.wGuard, Mi.wGuardD, Mi.wRaise, Mi.wEnumS, Mi.wListR, Mi.wJoin, Mi.wMet, Mi.wMet0, Mi.wPop, Mi.wdNil, Mi.wdCons, Mi.wDisp, decide_true]
      refine for_i (fun i δ' => ∃ (c5 c6 c7 c8 c9 c10 c11 c12 c13 c14 c15 c16 : Option Cell), δ' = [st (.ext 0 (.lst (xs.map D.int))), st (.lst (ns.map D.int)), st (.lst (A.map D.str)), st (wordsD L), st (.lst (U.map D.str)), c5, c6, c7, c8, c9, c10, c11, c12, c13, c14, c15, c16]) ⟨_, _, _, _, _, _, _, _, _, _, _, _, rfl⟩ ?_ fun δ' h => h
      rintro i d δ' hi ⟨c5, c6, c7, c8, c9, c10, c11, c12, c13, c14, c15, c16, rfl⟩
      rw [List.getElem?_map] at hi
      obtain ⟨one, h1, rfl⟩ := Option.map_eq_some_iff.mp hi
      have ho := hUl one (List.mem_of_getElem? h1)
      simp only [e_qI, e_qIC, e_add1, e_add2, e_add3, e_add4, e_catL, e_aug1, e_aug2, e_mul1, e_mul2, e_rep, e_div, e_mod, e_neg, e_ord1, e_ord2, e_isn, e_nin, e_non1, e_non2, e_non3, e_non4, e_non5, e_non6, e_tru1, e_tru2, e_tru3, e_tru4, e_tru5, e_tru6, e_tru7, e_sl1, e_sl2, e_sl3, e_sl4, e_rev, e_it1, e_it2, e_it3, e_len1, e_len2, e_len3, e_len4, e_int1, e_int2, e_int3, e_min, e_max, e_min3, e_lst1, e_lst2, e_tup1, e_tup2, e_str, e_abs, e_lenS, e_ixS, isi_list_bl, isi_str_lst, isi_str_tup, isi_str_bl, isi_int_lst, isi_int_tup, isi_bool_non, isi_bool_str, isi_bool_lst, isi_bool_tup, isi_tup_lst, isi_tup_non, isi_tup_str, isi_tup_int, isi_tup_bl, e_attr, e_inD, e_ixD, e_ixS1, e_mulS, eq_self, Mi.qNotIn, Mi.qLt, Mi.qLe, Mi.qGt, Mi.qGe, List.map_cons, List.map_nil, List.length_map, true_and, and_true, Bool.false_eq_true, if_false, if_true, Bool.not_true, Bool.not_false, qEq_int, qEq_str, qEq_bl, qNe_int, qNe_str, qNe_bl, line0, line1, line2, line3, line4, line6, line7, line10, isi_list_lst, isi_list_tup, isi_list_non, isi_list_str, isi_list_int, isi_tup_tup, isi_bool_bl, isi_bool_int, isi_int_int, isi_int_bl, isi_int_non, isi_int_str, isi_str_str, isi_str_non, isi_str_int, startE_c, startE_n, startE_e, wFor_e, wLc_e, wipeE, wgName, wgTup, wgCons, wgNil, List.getElem?_cons_zero, List.getElem?_cons_succ, List.set_cons_zero, List.set_cons_succ, List.length_cons, List.length_nil, Mi.wC, Mi.wVar, Mi.wVarO, Mi.wOp, Mi.wUn, Mi.wCmp, Mi.wCmpT, Mi.wChainT, Mi.wChain, Mi.wTru, Mi.wAndT, Mi.wOrT, Mi.wNotT, Mi.wAnd, Mi.wOr, Mi.wNot, Mi.wIfE, Mi.wNoPart, Mi.wPart, Mi.wSl, Mi.wNil, Mi.wCons, Mi.wTup, Mi.wLst, Mi.wNext, Mi.wSeq, Mi.wFreeze, Mi.wForget, Mi.wBreak, Mi.wCont, Mi.wRet, Mi.wRetO, Mi.wRetN, Mi.wDrop, Mi.wIf, Mi.wNever, Mi.wAsg, Mi.wSetO, Mi.wPar, Mi.wAug, Mi.wApp, Mi.wSetIx, Mi.wExt, Mi.wItems, Mi.wRng1, Mi.wRng2, Mi.wRng3, Mi.wEnum, Mi.wZip, Mi.wYes, Mi.wCall, Mi.wCallX, Mi.wB2, Mi.wMin3, Mi.wIsi, Mi.wGuard, Mi.wGuardD, Mi.wRaise, Mi.wEnumS, Mi.wListR, Mi.wJoin, Mi.wMet, Mi.wMet0, Mi.wPop, Mi.wdNil, Mi.wdCons, Mi.wDisp, decide_true]
      refine ⟨leL (by simp; omega), ?_⟩
      have hV : List.map D.str U ++ [D.str (PySem.Str.ofString ""), D.str (PySem.Str.ofString "abcabcabc")] = (U ++ [PySem.Str.ofString "", PySem.Str.ofString "abcabcabc"]).map D.str := by simp
      have hVl : ∀ s ∈ U ++ [PySem.Str.ofString "", PySem.Str.ofString "abcabcabc"], s.length ≤ 100 := fun s hs => by
        simp only [List.mem_append, List.mem_cons, List.not_mem_nil, or_false] at hs
        rcases hs with hs | rfl | rfl
        · exact hUl s hs
        · decide +kernel
        · decide +kernel
      rw [hV]
      refine for_i (fun i δ' => ∃ (c5 c7 c8 c9 c10 c11 c12 c13 c14 c15 c16 : Option Cell), δ' = [st (.ext 0 (.lst (xs.map D.int))), st (.lst (ns.map D.int)), st (.lst (A.map D.str)), st (wordsD L), st (.lst (U.map D.str)), c5, st (.str one), c7, c8, c9, c10, c11, c12, c13, c14, c15, c16]) ⟨_, _, _, _, _, _, _, _, _, _, _, rfl⟩ ?_ ?_
      · rintro i d δ' hi ⟨c5, c7, c8, c9, c10, c11, c12, c13, c14, c15, c16, rfl⟩
        rw [List.getElem?_map] at hi
        obtain ⟨other, h2, rfl⟩ := Option.map_eq_some_iff.mp hi
        have ho2 := hVl other (List.mem_of_getElem? h2)
        simp only [e_qI, e_qIC, e_add1, e_add2, e_add3, e_add4, e_catL, e_aug1, e_aug2, e_mul1, e_mul2, e_rep, e_div, e_mod, e_neg, e_ord1, e_ord2, e_isn, e_nin, e_non1, e_non2, e_non3, e_non4, e_non5, e_non6, e_tru1, e_tru2, e_tru3, e_tru4, e_tru5, e_tru6, e_tru7, e_sl1, e_sl2, e_sl3, e_sl4, e_rev, e_it1, e_it2, e_it3, e_len1, e_len2, e_len3, e_len4, e_int1, e_int2, e_int3, e_min, e_max, e_min3, e_lst1, e_lst2, e_tup1, e_tup2, e_str, e_abs, e_lenS, e_ixS, isi_list_bl, isi_str_lst, isi_str_tup, isi_str_bl, isi_int_lst, isi_int_tup, isi_bool_non, isi_bool_str, isi_bool_lst, isi_bool_tup, isi_tup_lst, isi_tup_non, isi_tup_str, isi_tup_int, isi_tup_bl, e_attr, e_inD, e_ixD, e_ixS1, e_mulS, eq_self, Mi.qNotIn, Mi.qLt, Mi.qLe, Mi.qGt, Mi.qGe, List.map_cons, List.map_nil, List.length_map, true_and, and_true, Bool.false_eq_true, if_false, if_true, Bool.not_true, Bool.not_false, qEq_int, qEq_str, qEq_bl, qNe_int, qNe_str, qNe_bl, line0, line1, line2, line3, line4, line6, line7, line10, isi_list_lst, isi_list_tup, isi_list_non, isi_list_str, isi_list_int, isi_tup_tup, isi_bool_bl, isi_bool_int, isi_int_int, isi_int_bl, isi_int_non, isi_int_str, isi_str_str, isi_str_non, isi_str_int, startE_c, startE_n, startE_e, wFor_e, wLc_e, wipeE, wgName, wgTup, wgCons, wgNil, List.getElem?_cons_zero, List.getElem?_cons_succ, List.set_cons_zero, List.set_cons_succ, List.length_cons, List.length_nil, Mi.wC, Mi.wVar, Mi.wVarO, Mi.wOp, Mi.wUn, Mi.wCmp, Mi.wCmpT, Mi.wChainT, Mi.wChain, Mi.wTru, Mi.wAndT, Mi.wOrT, Mi.wNotT, Mi.wAnd, Mi.wOr, Mi.wNot, Mi.wIfE, Mi.wNoPart, Mi.wPart, Mi.wSl, Mi.wNil, Mi.wCons, Mi.wTup, Mi.wLst, Mi.wNext, Mi.wSeq, Mi.wFreeze, Mi.wForget, Mi.wBreak, Mi.wCont, Mi.wRet, Mi.wRetO, Mi.wRetN, Mi.wDrop, Mi.wIf, Mi.wNever, Mi.wAsg, Mi.wSetO, Mi.wPar, Mi.wAug, Mi.wApp, Mi.wSetIx, Mi.wExt, Mi.wItems, Mi.wRng1, Mi.wRng2, Mi.wRng3, Mi.wEnum, Mi.wZip, Mi.wYes, Mi.wCall, Mi.wCallX, Mi.wB2, Mi.wMin3, Mi.wIsi, Mi.wGuard, Mi.wGuardD, Mi.wRaise, Mi.wEnumS, Mi.wListR, Mi.wJoin, Mi.wMet, Mi.wMet0, Mi.wPop, Mi.wdNil, Mi.wdCons, Mi.wDisp, decide_true]
        refine ⟨one, other, rfl, by omega, ?_⟩
        refine ifD_i false ?_ (fun h => by cases h) fun _ => ?_
        · simp only [e_qI, e_qIC, e_add1, e_add2, e_add3, e_add4, e_catL, e_aug1, e_aug2, e_mul1, e_mul2, e_rep, e_div, e_mod, e_neg, e_ord1, e_ord2, e_isn, e_nin, e_non1, e_non2, e_non3, e_non4, e_non5, e_non6, e_tru1, e_tru2, e_tru3, e_tru4, e_tru5, e_tru6, e_tru7, e_sl1, e_sl2, e_sl3, e_sl4, e_rev, e_it1, e_it2, e_it3, e_len1, e_len2, e_len3, e_len4, e_int1, e_int2, e_int3, e_min, e_max, e_min3, e_lst1, e_lst2, e_tup1, e_tup2, e_str, e_abs, e_lenS, e_ixS, isi_list_bl, isi_str_lst, isi_str_tup, isi_str_bl, isi_int_lst, isi_int_tup, isi_bool_non, isi_bool_str, isi_bool_lst, isi_bool_tup, isi_tup_lst, isi_tup_non, isi_tup_str, isi_tup_int, isi_tup_bl, e_attr, e_inD, e_ixD, e_ixS1, e_mulS, eq_self, Mi.qNotIn, Mi.qLt, Mi.qLe, Mi.qGt, Mi.qGe, List.map_cons, List.map_nil, List.length_map, true_and, and_true, Bool.false_eq_true, if_false, if_true, Bool.not_true, Bool.not_false, qEq_int, qEq_str, qEq_bl, qNe_int, qNe_str, qNe_bl, line0, line1, line2, line3, line4, line6, line7, line10, isi_list_lst, isi_list_tup, isi_list_non, isi_list_str, isi_list_int, isi_tup_tup, isi_bool_bl, isi_bool_int, isi_int_int, isi_int_bl, isi_int_non, isi_int_str, isi_str_str, isi_str_non, isi_str_int, startE_c, startE_n, startE_e, wFor_e, wLc_e, wipeE, wgName, wgTup, wgCons, wgNil, List.getElem?_cons_zero, List.getElem?_cons_succ, List.set_cons_zero, List.set_cons_succ, List.length_cons, List.length_nil, Mi.wC, Mi.wVar, Mi.wVarO, Mi.wOp, Mi.wUn, Mi.wCmp, Mi.wCmpT, Mi.wChainT, Mi.wChain, Mi.wTru, Mi.wAndT, Mi.wOrT, Mi.wNotT, Mi.wAnd, Mi.wOr, Mi.wNot, Mi.wIfE, Mi.wNoPart, Mi.wPart, Mi.wSl, Mi.wNil, Mi.wCons, Mi.wTup, Mi.wLst, Mi.wNext, Mi.wSeq, Mi.wFreeze, Mi.wForget, Mi.wBreak, Mi.wCont, Mi.wRet, Mi.wRetO, Mi.wRetN, Mi.wDrop, Mi.wIf, Mi.wNever, Mi.wAsg, Mi.wSetO, Mi.wPar, Mi.wAug, Mi.wApp, Mi.wSetIx, Mi.wExt, Mi.wItems, Mi.wRng1, Mi.wRng2, Mi.wRng3, Mi.wEnum, Mi.wZip, Mi.wYes, Mi.wCall, Mi.wCallX, Mi.wB2, Mi.wMin3, Mi.wIsi, Mi.wGuard, Mi.wGuardD, Mi.wRaise, Mi.wEnumS, Mi.wListR, Mi.wJoin, Mi.wMet, Mi.wMet0, Mi.wPop, Mi.wdNil, Mi.wdCons, Mi.wDisp, decide_true]
          refine ⟨one, other, rfl, by omega, by omega, ?_⟩
          simp only [e_qI, e_qIC, e_add1, e_add2, e_add3, e_add4, e_catL, e_aug1, e_aug2, e_mul1, e_mul2, e_rep, e_div, e_mod, e_neg, e_ord1, e_ord2, e_isn, e_nin, e_non1, e_non2, e_non3, e_non4, e_non5, e_non6, e_tru1, e_tru2, e_tru3, e_tru4, e_tru5, e_tru6, e_tru7, e_sl1, e_sl2, e_sl3, e_sl4, e_rev, e_it1, e_it2, e_it3, e_len1, e_len2, e_len3, e_len4, e_int1, e_int2, e_int3, e_min, e_max, e_min3, e_lst1, e_lst2, e_tup1, e_tup2, e_str, e_abs, e_lenS, e_ixS, isi_list_bl, isi_str_lst, isi_str_tup, isi_str_bl, isi_int_lst, isi_int_tup, isi_bool_non, isi_bool_str, isi_bool_lst, isi_bool_tup, isi_tup_lst, isi_tup_non, isi_tup_str, isi_tup_int, isi_tup_bl, e_attr, e_inD, e_ixD, e_ixS1, e_mulS, eq_self, Mi.qNotIn, Mi.qLt, Mi.qLe, Mi.qGt, Mi.qGe, List.map_cons, List.map_nil, List.length_map, true_and, and_true, Bool.false_eq_true, if_false, if_true, Bool.not_true, Bool.not_false, qEq_int, qEq_str, qEq_bl, qNe_int, qNe_str, qNe_bl, line0, line1, line2, line3, line4, line6, line7, line10, isi_list_lst, isi_list_tup, isi_list_non, isi_list_str, isi_list_int, isi_tup_tup, isi_bool_bl, isi_bool_int, isi_int_int, isi_int_bl, isi_int_non, isi_int_str, isi_str_str, isi_str_non, isi_str_int, startE_c, startE_n, startE_e, wFor_e, wLc_e, wipeE, wgName, wgTup, wgCons, wgNil, List.getElem?_cons_zero, List.getElem?_cons_succ, List.set_cons_zero, List.set_cons_succ, List.length_cons, List.length_nil, Mi.wC, Mi.wVar, Mi.wVarO, Mi.wOp, Mi.wUn, Mi.wCmp, Mi.wCmpT, Mi.wChainT, Mi.wChain, Mi.wTru, Mi.wAndT, Mi.wOrT, Mi.wNotT, Mi.wAnd, Mi.wOr, Mi.wNot, Mi.wIfE, Mi.wNoPart, Mi.wPart, Mi.wSl, Mi.wNil, Mi.wCons, Mi.wTup, Mi.wLst, Mi.wNext, Mi.wSeq, Mi.wFreeze, Mi.wForget, Mi.wBreak, Mi.wCont, Mi.wRet, Mi.wRetO, Mi.wRetN, Mi.wDrop, Mi.wIf, Mi.wNever, Mi.wAsg, Mi.wSetO, Mi.wPar, Mi.wAug, Mi.wApp, Mi.wSetIx, Mi.wExt, Mi.wItems, Mi.wRng1, Mi.wRng2, Mi.wRng3, Mi.wEnum, Mi.wZip, Mi.wYes, Mi.wCall, Mi.wCallX, Mi.wB2, Mi.wMin3, Mi.wIsi, Mi.wGuard, Mi.wGuardD, Mi.wRaise, Mi.wEnumS, Mi.wListR, Mi.wJoin, Mi.wMet, Mi.wMet0, Mi.wPop, Mi.wdNil, Mi.wdCons, Mi.wDisp, decide_true]
          refine ⟨other, one, rfl, by omega, ?_⟩
          rw [dist_symm]
          simp only [e_qI, e_qIC, e_add1, e_add2, e_add3, e_add4, e_catL, e_aug1, e_aug2, e_mul1, e_mul2, e_rep, e_div, e_mod, e_neg, e_ord1, e_ord2, e_isn, e_nin, e_non1, e_non2, e_non3, e_non4, e_non5, e_non6, e_tru1, e_tru2, e_tru3, e_tru4, e_tru5, e_tru6, e_tru7, e_sl1, e_sl2, e_sl3, e_sl4, e_rev, e_it1, e_it2, e_it3, e_len1, e_len2, e_len3, e_len4, e_int1, e_int2, e_int3, e_min, e_max, e_min3, e_lst1, e_lst2, e_tup1, e_tup2, e_str, e_abs, e_lenS, e_ixS, isi_list_bl, isi_str_lst, isi_str_tup, isi_str_bl, isi_int_lst, isi_int_tup, isi_bool_non, isi_bool_str, isi_bool_lst, isi_bool_tup, isi_tup_lst, isi_tup_non, isi_tup_str, isi_tup_int, isi_tup_bl, e_attr, e_inD, e_ixD, e_ixS1, e_mulS, eq_self, Mi.qNotIn, Mi.qLt, Mi.qLe, Mi.qGt, Mi.qGe, List.map_cons, List.map_nil, List.length_map, true_and, and_true, Bool.false_eq_true, if_false, if_true, Bool.not_true, Bool.not_false, qEq_int, qEq_str, qEq_bl, qNe_int, qNe_str, qNe_bl, line0, line1, line2, line3, line4, line6, line7, line10, isi_list_lst, isi_list_tup, isi_list_non, isi_list_str, isi_list_int, isi_tup_tup, isi_bool_bl, isi_bool_int, isi_int_int, isi_int_bl, isi_int_non, isi_int_str, isi_str_str, isi_str_non, isi_str_int, startE_c, startE_n, startE_e, wFor_e, wLc_e, wipeE, wgName, wgTup, wgCons, wgNil, List.getElem?_cons_zero, List.getElem?_cons_succ, List.set_cons_zero, List.set_cons_succ, List.length_cons, List.length_nil, Mi.wC, Mi.wVar, Mi.wVarO, Mi.wOp, Mi.wUn, Mi.wCmp, Mi.wCmpT, Mi.wChainT, Mi.wChain, Mi.wTru, Mi.wAndT, Mi.wOrT, Mi.wNotT, Mi.wAnd, Mi.wOr, Mi.wNot, Mi.wIfE, Mi.wNoPart, Mi.wPart, Mi.wSl, Mi.wNil, Mi.wCons, Mi.wTup, Mi.wLst, Mi.wNext, Mi.wSeq, Mi.wFreeze, Mi.wForget, Mi.wBreak, Mi.wCont, Mi.wRet, Mi.wRetO, Mi.wRetN, Mi.wDrop, Mi.wIf, Mi.wNever, Mi.wAsg, Mi.wSetO, Mi.wPar, Mi.wAug, Mi.wApp, Mi.wSetIx, Mi.wExt, Mi.wItems, Mi.wRng1, Mi.wRng2, Mi.wRng3, Mi.wEnum, Mi.wZip, Mi.wYes, Mi.wCall, Mi.wCallX, Mi.wB2, Mi.wMin3, Mi.wIsi, Mi.wGuard, Mi.wGuardD, Mi.wRaise, Mi.wEnumS, Mi.wListR, Mi.wJoin, Mi.wMet, Mi.wMet0, Mi.wPop, Mi.wdNil, Mi.wdCons, Mi.wDisp, decide_true]
        · simp only [e_qI, e_qIC, e_add1, e_add2, e_add3, e_add4, e_catL, e_aug1, e_aug2, e_mul1, e_mul2, e_rep, e_div, e_mod, e_neg, e_ord1, e_ord2, e_isn, e_nin, e_non1, e_non2, e_non3, e_non4, e_non5, e_non6, e_tru1, e_tru2, e_tru3, e_tru4, e_tru5, e_tru6, e_tru7, e_sl1, e_sl2, e_sl3, e_sl4, e_rev, e_it1, e_it2, e_it3, e_len1, e_len2, e_len3, e_len4, e_int1, e_int2, e_int3, e_min, e_max, e_min3, e_lst1, e_lst2, e_tup1, e_tup2, e_str, e_abs, e_lenS, e_ixS, isi_list_bl, isi_str_lst, isi_str_tup, isi_str_bl, isi_int_lst, isi_int_tup, isi_bool_non, isi_bool_str, isi_bool_lst, isi_bool_tup, isi_tup_lst, isi_tup_non, isi_tup_str, isi_tup_int, isi_tup_bl, e_attr, e_inD, e_ixD, e_ixS1, e_mulS, eq_self, Mi.qNotIn, Mi.qLt, Mi.qLe, Mi.qGt, Mi.qGe, List.map_cons, List.map_nil, List.length_map, true_and, and_true, Bool.false_eq_true, if_false, if_true, Bool.not_true, Bool.not_false, qEq_int, qEq_str, qEq_bl, qNe_int, qNe_str, qNe_bl, line0, line1, line2, line3, line4, line6, line7, line10, isi_list_lst, isi_list_tup, isi_list_non, isi_list_str, isi_list_int, isi_tup_tup, isi_bool_bl, isi_bool_int, isi_int_int, isi_int_bl, isi_int_non, isi_int_str, isi_str_str, isi_str_non, isi_str_int, startE_c, startE_n, startE_e, wFor_e, wLc_e, wipeE, wgName, wgTup, wgCons, wgNil, List.getElem?_cons_zero, List.getElem?_cons_succ, List.set_cons_zero, List.set_cons_succ, List.length_cons, List.length_nil, Mi.wC, Mi.wVar, Mi.wVarO, Mi.wOp, Mi.wUn, Mi.wCmp, Mi.wCmpT, Mi.wChainT, Mi.wChain, Mi.wTru, Mi.wAndT, Mi.wOrT, Mi.wNotT, Mi.wAnd, Mi.wOr, Mi.wNot, Mi.wIfE, Mi.wNoPart, Mi.wPart, Mi.wSl, Mi.wNil, Mi.wCons, Mi.wTup, Mi.wLst, Mi.wNext, Mi.wSeq, Mi.wFreeze, Mi.wForget, Mi.wBreak, Mi.wCont, Mi.wRet, Mi.wRetO, Mi.wRetN, Mi.wDrop, Mi.wIf, Mi.wNever, Mi.wAsg, Mi.wSetO, Mi.wPar, Mi.wAug, Mi.wApp, Mi.wSetIx, Mi.wExt, Mi.wItems, Mi.wRng1, Mi.wRng2, Mi.wRng3, Mi.wEnum, Mi.wZip, Mi.wYes, Mi.wCall, Mi.wCallX, Mi.wB2, Mi.wMin3, Mi.wIsi, Mi.wGuard, Mi.wGuardD, Mi.wRaise, Mi.wEnumS, Mi.wListR, Mi.wJoin, Mi.wMet, Mi.wMet0, Mi.wPop, Mi.wdNil, Mi.wdCons, Mi.wDisp, decide_true]
          exact ⟨_, _, _, _, _, _, _, _, _, _, _, rfl⟩
      · rintro δ' ⟨c5, c7, c8, c9, c10, c11, c12, c13, c14, c15, c16, rfl⟩
        exact ⟨_, _, _, _, _, _, _, _, _, _, _, _, rfl⟩
    · rintro δ' ⟨c5, c6, c7, c8, c9, c10, c11, c12, c13, c14, c15, c16, rfl⟩
      simp only [e_qI, e_qIC, e_add1, e_add2, e_add3, e_add4, e_catL, e_aug1, e_aug2, e_mul1, e_mul2, e_rep, e_div, e_mod, e_neg, e_ord1, e_ord2, e_isn, e_nin, e_non1, e_non2, e_non3, e_non4, e_non5, e_non6, e_tru1, e_tru2, e_tru3, e_tru4, e_tru5, e_tru6, e_tru7, e_sl1, e_sl2, e_sl3, e_sl4, e_rev, e_it1, e_it2, e_it3, e_len1, e_len2, e_len3, e_len4, e_int1, e_int2, e_int3, e_min, e_max, e_min3, e_lst1, e_lst2, e_tup1, e_tup2, e_str, e_abs, e_lenS, e_ixS, isi_list_bl, isi_str_lst, isi_str_tup, isi_str_bl, isi_int_lst, isi_int_tup, isi_bool_non, isi_bool_str, isi_bool_lst, isi_bool_tup, isi_tup_lst, isi_tup_non, isi_tup_str, isi_tup_int, isi_tup_bl, e_attr, e_inD, e_ixD, e_ixS1, e_mulS, eq_self, Mi.qNotIn, Mi.qLt, Mi.qLe, Mi.qGt, Mi.qGe, List.map_cons, List.map_nil, List.length_map, true_and, and_true, Bool.false_eq_true, if_false, if_true, Bool.not_true, Bool.not_false, qEq_int, qEq_str, qEq_bl, qNe_int, qNe_str, qNe_bl, line0, line1, line2, line3, line4, line6, line7, line10, isi_list_lst, isi_list_tup, isi_list_non, isi_list_str, isi_list_int, isi_tup_tup, isi_bool_bl, isi_bool_int, isi_int_int, isi_int_bl, isi_int_non, isi_int_str, isi_str_str, isi_str_non, isi_str_int, startE_c, startE_n, startE_e, wFor_e, wLc_e, wipeE, wgName, wgTup, wgCons, wgNil, List.getElem?_cons_zero, List.getElem?_cons_succ, List.set_cons_zero, List.set_cons_succ, List.length_cons, List.length_nil, Mi.wC, Mi.wVar, Mi.wVarO, Mi.wOp, Mi.wUn, Mi.wCmp, Mi.wCmpT, Mi.wChainT, Mi.wChain, Mi.wTru, Mi.wAndT, Mi.wOrT, Mi.wNotT, Mi.wAnd, Mi.wOr, Mi.wNot, Mi.wIfE, Mi.wNoPart, Mi.wPart, Mi.wSl, Mi.wNil, Mi.wCons, Mi.wTup, Mi.wLst, Mi.wNext, Mi.wSeq, Mi.wFreeze, Mi.wForget, Mi.wBreak, Mi.wCont, Mi.wRet, Mi.wRetO, Mi.wRetN, Mi.wDrop, Mi.wIf, Mi.wNever, Mi.wAsg, Mi.wSetO, Mi.wPar, Mi.wAug, Mi.wApp, Mi.wSetIx, Mi.wExt, Mi.wItems, Mi.wRng1, Mi.wRng2, Mi.wRng3, Mi.wEnum, Mi.wZip, Mi.wYes, Mi.wCall, Mi.wCallX, Mi.wB2, Mi.wMin3, Mi.wIsi, Mi.wGuard, Mi.wGuardD, Mi.wRaise, Mi.wEnumS, Mi.wListR, Mi.wJoin, Mi.wMet, Mi.wMet0, Mi.wPop, Mi.wdNil, Mi.wdCons, Mi.wDisp, decide_true]
      have hc4 := cut_to (U.map D.str) 4
      rw [show ((4 : Nat) : Int) = 4 from rfl] at hc4
      rw [hc4, ← List.map_take]
      refine ⟨L, U.take 4, rfl, hLt, by omega, by rw [List.length_take]; omega, fun t ht => hUl t (List.mem_of_mem_take ht), ?_⟩
      simp only [e_qI, e_qIC, e_add1, e_add2, e_add3, e_add4, e_catL, e_aug1, e_aug2, e_mul1, e_mul2, e_rep, e_div, e_mod, e_neg, e_ord1, e_ord2, e_isn, e_nin, e_non1, e_non2, e_non3, e_non4, e_non5, e_non6, e_tru1, e_tru2, e_tru3, e_tru4, e_tru5, e_tru6, e_tru7, e_sl1, e_sl2, e_sl3, e_sl4, e_rev, e_it1, e_it2, e_it3, e_len1, e_len2, e_len3, e_len4, e_int1, e_int2, e_int3, e_min, e_max, e_min3, e_lst1, e_lst2, e_tup1, e_tup2, e_str, e_abs, e_lenS, e_ixS, isi_list_bl, isi_str_lst, isi_str_tup, isi_str_bl, isi_int_lst, isi_int_tup, isi_bool_non, isi_bool_str, isi_bool_lst, isi_bool_tup, isi_tup_lst, isi_tup_non, isi_tup_str, isi_tup_int, isi_tup_bl, e_attr, e_inD, e_ixD, e_ixS1, e_mulS, eq_self, Mi.qNotIn, Mi.qLt, Mi.qLe, Mi.qGt, Mi.qGe, List.map_cons, List.map_nil, List.length_map, true_and, and_true, Bool.false_eq_true, if_false, if_true, Bool.not_true, Bool.not_false, qEq_int, qEq_str, qEq_bl, qNe_int, qNe_str, qNe_bl, line0, line1, line2, line3, line4, line6, line7, line10, isi_list_lst, isi_list_tup, isi_list_non, isi_list_str, isi_list_int, isi_tup_tup, isi_bool_bl, isi_bool_int, isi_int_int, isi_int_bl, isi_int_non, isi_int_str, isi_str_str, isi_str_non, isi_str_int, startE_c, startE_n, startE_e, wFor_e, wLc_e, wipeE, wgName, wgTup, wgCons, wgNil, List.getElem?_cons_zero, List.getElem?_cons_succ, List.set_cons_zero, List.set_cons_succ, List.length_cons, List.length_nil, Mi.wC, Mi.wVar, Mi.wVarO, Mi.wOp, Mi.wUn, Mi.wCmp, Mi.wCmpT, Mi.wChainT, Mi.wChain, Mi.wTru, Mi.wAndT, Mi.wOrT, Mi.wNotT, Mi.wAnd, Mi.wOr, Mi.wNot, Mi.wIfE, Mi.wNoPart, Mi.wPart, Mi.wSl, Mi.wNil, Mi.wCons, Mi.wTup, Mi.wLst, Mi.wNext, Mi.wSeq, Mi.wFreeze, Mi.wForget, Mi.wBreak, Mi.wCont, Mi.wRet, Mi.wRetO, Mi.wRetN, Mi.wDrop, Mi.wIf, Mi.wNever, Mi.wAsg, Mi.wSetO, Mi.wPar, Mi.wAug, Mi.wApp, Mi.wSetIx, Mi.wExt, Mi.wItems, Mi.wRng1, Mi.wRng2, Mi.wRng3, Mi.wEnum, Mi.wZip, Mi.wYes, Mi.wCall, Mi.wCallX, Mi.wB2, Mi.wMin3, Mi.wIsi, Mi.wGuard, Mi.wGuardD, Mi.wRaise, Mi.wEnumS, Mi.wListR, Mi.wJoin, Mi.wMet, Mi.wMet0, Mi.wPop, Mi.wdNil, Mi.wdCons, Mi.wDisp, decide_true]
      refine ⟨by omega, by omega, ?_⟩
      refine lc_i (fun i acc => acc = ((List.range i).map manyS).map D.str) (by rw [rangeD_len]; exact leL (by decide)) rfl ?_ ?_
      · rintro k d acc hk rfl _
        obtain ⟨hk, rfl⟩ := rangeD_of hk
        have hk : k < 401 := by assumption
        simp only [e_qI, e_qIC, e_add1, e_add2, e_add3, e_add4, e_catL, e_aug1, e_aug2, e_mul1, e_mul2, e_rep, e_div, e_mod, e_neg, e_ord1, e_ord2, e_isn, e_nin, e_non1, e_non2, e_non3, e_non4, e_non5, e_non6, e_tru1, e_tru2, e_tru3, e_tru4, e_tru5, e_tru6, e_tru7, e_sl1, e_sl2, e_sl3, e_sl4, e_rev, e_it1, e_it2, e_it3, e_len1, e_len2, e_len3, e_len4, e_int1, e_int2, e_int3, e_min, e_max, e_min3, e_lst1, e_lst2, e_tup1, e_tup2, e_str, e_abs, e_lenS, e_ixS, isi_list_bl, isi_str_lst, isi_str_tup, isi_str_bl, isi_int_lst, isi_int_tup, isi_bool_non, isi_bool_str, isi_bool_lst, isi_bool_tup, isi_tup_lst, isi_tup_non, isi_tup_str, isi_tup_int, isi_tup_bl, e_attr, e_inD, e_ixD, e_ixS1, e_mulS, eq_self, Mi.qNotIn, Mi.qLt, Mi.qLe, Mi.qGt, Mi.qGe, List.map_cons, List.map_nil, List.length_map, true_and, and_true, Bool.false_eq_true, if_false, if_true, Bool.not_true, Bool.not_false, qEq_int, qEq_str, qEq_bl, qNe_int, qNe_str, qNe_bl, line0, line1, line2, line3, line4, line6, line7, line10, isi_list_lst, isi_list_tup, isi_list_non, isi_list_str, isi_list_int, isi_tup_tup, isi_bool_bl, isi_bool_int, isi_int_int, isi_int_bl, isi_int_non, isi_int_str, isi_str_str, isi_str_non, isi_str_int, startE_c, startE_n, startE_e, wFor_e, wLc_e, wipeE, wgName, wgTup, wgCons, wgNil, List.getElem?_cons_zero, List.getElem?_cons_succ, List.set_cons_zero, List.set_cons_succ, List.length_cons, List.length_nil, Mi.wC, Mi.wVar, Mi.wVarO, Mi.wOp, Mi.wUn, Mi.wCmp, Mi.wCmpT, Mi.wChainT, Mi.wChain, Mi.wTru, Mi.wAndT, Mi.wOrT, Mi.wNotT, Mi.wAnd, Mi.wOr, Mi.wNot, Mi.wIfE, Mi.wNoPart, Mi.wPart, Mi.wSl, Mi.wNil, Mi.wCons, Mi.wTup, Mi.wLst, Mi.wNext, Mi.wSeq, Mi.wFreeze, Mi.wForget, Mi.wBreak, Mi.wCont, Mi.wRet, Mi.wRetO, Mi.wRetN, Mi.wDrop, Mi.wIf, Mi.wNever, Mi.wAsg, Mi.wSetO, Mi.wPar, Mi.wAug, Mi.wApp, Mi.wSetIx, Mi.wExt, Mi.wItems, Mi.wRng1, Mi.wRng2, Mi.wRng3, Mi.wEnum, Mi.wZip, Mi.wYes, Mi.wCall, Mi.wCallX, Mi.wB2, Mi.wMin3, Mi.wIsi, Mi.wGuard, Mi.wGuardD, Mi.wRaise, Mi.wEnumS, Mi.wListR, Mi.wJoin, Mi.wMet, Mi.wMet0, Mi.wPop, Mi.wdNil, Mi.wdCons, Mi.wDisp, decide_true, Int.zero_add]
        have l1 : ∀ x y : PySem.Str, (x ++ y).length = x.length + y.length := fun x y => by rw [str_len, str_len, str_len, sapp, List.length_append]
        have lc1 : ∀ c, (⟨#[c]⟩ : PySem.Str).length = 1 := fun c => rfl
        have la : (PySem.Str.ofString "a").length = 1 := by decide +kernel
        have d1 : (k : Int) / 100 = ((k / 100 : Nat) : Int) := by omega
        have d2 : (k : Int) / 10 % 10 = ((k / 10 % 10 : Nat) : Int) := by omega
        have d3 : (k : Int) % 10 = ((k % 10 : Nat) : Int) := by omega
        rw [d1, d2, d3]
        refine ⟨by omega, by omega, ten_at (by omega) ?_⟩
        simp only [e_qI, e_qIC, e_add1, e_add2, e_add3, e_add4, e_catL, e_aug1, e_aug2, e_mul1, e_mul2, e_rep, e_div, e_mod, e_neg, e_ord1, e_ord2, e_isn, e_nin, e_non1, e_non2, e_non3, e_non4, e_non5, e_non6, e_tru1, e_tru2, e_tru3, e_tru4, e_tru5, e_tru6, e_tru7, e_sl1, e_sl2, e_sl3, e_sl4, e_rev, e_it1, e_it2, e_it3, e_len1, e_len2, e_len3, e_len4, e_int1, e_int2, e_int3, e_min, e_max, e_min3, e_lst1, e_lst2, e_tup1, e_tup2, e_str, e_abs, e_lenS, e_ixS, isi_list_bl, isi_str_lst, isi_str_tup, isi_str_bl, isi_int_lst, isi_int_tup, isi_bool_non, isi_bool_str, isi_bool_lst, isi_bool_tup, isi_tup_lst, isi_tup_non, isi_tup_str, isi_tup_int, isi_tup_bl, e_attr, e_inD, e_ixD, e_ixS1, e_mulS, eq_self, Mi.qNotIn, Mi.qLt, Mi.qLe, Mi.qGt, Mi.qGe, List.map_cons, List.map_nil, List.length_map, true_and, and_true, Bool.false_eq_true, if_false, if_true, Bool.not_true, Bool.not_false, qEq_int, qEq_str, qEq_bl, qNe_int, qNe_str, qNe_bl, line0, line1, line2, line3, line4, line6, line7, line10, isi_list_lst, isi_list_tup, isi_list_non, isi_list_str, isi_list_int, isi_tup_tup, isi_bool_bl, isi_bool_int, isi_int_int, isi_int_bl, isi_int_non, isi_int_str, isi_str_str, isi_str_non, isi_str_int, startE_c, startE_n, startE_e, wFor_e, wLc_e, wipeE, wgName, wgTup, wgCons, wgNil, List.getElem?_cons_zero, List.getElem?_cons_succ, List.set_cons_zero, List.set_cons_succ, List.length_cons, List.length_nil, Mi.wC, Mi.wVar, Mi.wVarO, Mi.wOp, Mi.wUn, Mi.wCmp, Mi.wCmpT, Mi.wChainT, Mi.wChain, Mi.wTru, Mi.wAndT, Mi.wOrT, Mi.wNotT, Mi.wAnd, Mi.wOr, Mi.wNot, Mi.wIfE, Mi.wNoPart, Mi.wPart, Mi.wSl, Mi.wNil, Mi.wCons, Mi.wTup, Mi.wLst, Mi.wNext, Mi.wSeq, Mi.wFreeze, Mi.wForget, Mi.wBreak, Mi.wCont, Mi.wRet, Mi.wRetO, Mi.wRetN, Mi.wDrop, Mi.wIf, Mi.wNever, Mi.wAsg, Mi.wSetO, Mi.wPar, Mi.wAug, Mi.wApp, Mi.wSetIx, Mi.wExt, Mi.wItems, Mi.wRng1, Mi.wRng2, Mi.wRng3, Mi.wEnum, Mi.wZip, Mi.wYes, Mi.wCall, Mi.wCallX, Mi.wB2, Mi.wMin3, Mi.wIsi, Mi.wGuard, Mi.wGuardD, Mi.wRaise, Mi.wEnumS, Mi.wListR, Mi.wJoin, Mi.wMet, Mi.wMet0, Mi.wPop, Mi.wdNil, Mi.wdCons, Mi.wDisp, decide_true]
        refine ⟨leL (by rw [la, lc1]; omega), by omega, by omega, by omega, ten_at (by omega) ?_⟩
        simp only [e_qI, e_qIC, e_add1, e_add2, e_add3, e_add4, e_catL, e_aug1, e_aug2, e_mul1, e_mul2, e_rep, e_div, e_mod, e_neg, e_ord1, e_ord2, e_isn, e_nin, e_non1, e_non2, e_non3, e_non4, e_non5, e_non6, e_tru1, e_tru2, e_tru3, e_tru4, e_tru5, e_tru6, e_tru7, e_sl1, e_sl2, e_sl3, e_sl4, e_rev, e_it1, e_it2, e_it3, e_len1, e_len2, e_len3, e_len4, e_int1, e_int2, e_int3, e_min, e_max, e_min3, e_lst1, e_lst2, e_tup1, e_tup2, e_str, e_abs, e_lenS, e_ixS, isi_list_bl, isi_str_lst, isi_str_tup, isi_str_bl, isi_int_lst, isi_int_tup, isi_bool_non, isi_bool_str, isi_bool_lst, isi_bool_tup, isi_tup_lst, isi_tup_non, isi_tup_str, isi_tup_int, isi_tup_bl, e_attr, e_inD, e_ixD, e_ixS1, e_mulS, eq_self, Mi.qNotIn, Mi.qLt, Mi.qLe, Mi.qGt, Mi.qGe, List.map_cons, List.map_nil, List.length_map, true_and, and_true, Bool.false_eq_true, if_false, if_true, Bool.not_true, Bool.not_false, qEq_int, qEq_str, qEq_bl, qNe_int, qNe_str, qNe_bl, line0, line1, line2, line3, line4, line6, line7, line10, isi_list_lst, isi_list_tup, isi_list_non, isi_list_str, isi_list_int, isi_tup_tup, isi_bool_bl, isi_bool_int, isi_int_int, isi_int_bl, isi_int_non, isi_int_str, isi_str_str, isi_str_non, isi_str_int, startE_c, startE_n, startE_e, wFor_e, wLc_e, wipeE, wgName, wgTup, wgCons, wgNil, List.getElem?_cons_zero, List.getElem?_cons_succ, List.set_cons_zero, List.set_cons_succ, List.length_cons, List.length_nil, Mi.wC, Mi.wVar, Mi.wVarO, Mi.wOp, Mi.wUn, Mi.wCmp, Mi.wCmpT, Mi.wChainT, Mi.wChain, Mi.wTru, Mi.wAndT, Mi.wOrT, Mi.wNotT, Mi.wAnd, Mi.wOr, Mi.wNot, Mi.wIfE, Mi.wNoPart, Mi.wPart, Mi.wSl, Mi.wNil, Mi.wCons, Mi.wTup, Mi.wLst, Mi.wNext, Mi.wSeq, Mi.wFreeze, Mi.wForget, Mi.wBreak, Mi.wCont, Mi.wRet, Mi.wRetO, Mi.wRetN, Mi.wDrop, Mi.wIf, Mi.wNever, Mi.wAsg, Mi.wSetO, Mi.wPar, Mi.wAug, Mi.wApp, Mi.wSetIx, Mi.wExt, Mi.wItems, Mi.wRng1, Mi.wRng2, Mi.wRng3, Mi.wEnum, Mi.wZip, Mi.wYes, Mi.wCall, Mi.wCallX, Mi.wB2, Mi.wMin3, Mi.wIsi, Mi.wGuard, Mi.wGuardD, Mi.wRaise, Mi.wEnumS, Mi.wListR, Mi.wJoin, Mi.wMet, Mi.wMet0, Mi.wPop, Mi.wdNil, Mi.wdCons, Mi.wDisp, decide_true]
        refine ⟨leL (by rw [l1, la, lc1, lc1]; omega), by omega, ten_at (by omega) ?_⟩
        simp only [e_qI, e_qIC, e_add1, e_add2, e_add3, e_add4, e_catL, e_aug1, e_aug2, e_mul1, e_mul2, e_rep, e_div, e_mod, e_neg, e_ord1, e_ord2, e_isn, e_nin, e_non1, e_non2, e_non3, e_non4, e_non5, e_non6, e_tru1, e_tru2, e_tru3, e_tru4, e_tru5, e_tru6, e_tru7, e_sl1, e_sl2, e_sl3, e_sl4, e_rev, e_it1, e_it2, e_it3, e_len1, e_len2, e_len3, e_len4, e_int1, e_int2, e_int3, e_min, e_max, e_min3, e_lst1, e_lst2, e_tup1, e_tup2, e_str, e_abs, e_lenS, e_ixS, isi_list_bl, isi_str_lst, isi_str_tup, isi_str_bl, isi_int_lst, isi_int_tup, isi_bool_non, isi_bool_str, isi_bool_lst, isi_bool_tup, isi_tup_lst, isi_tup_non, isi_tup_str, isi_tup_int, isi_tup_bl, e_attr, e_inD, e_ixD, e_ixS1, e_mulS, eq_self, Mi.qNotIn, Mi.qLt, Mi.qLe, Mi.qGt, Mi.qGe, List.map_cons, List.map_nil, List.length_map, true_and, and_true, Bool.false_eq_true, if_false, if_true, Bool.not_true, Bool.not_false, qEq_int, qEq_str, qEq_bl, qNe_int, qNe_str, qNe_bl, line0, line1, line2, line3, line4, line6, line7, line10, isi_list_lst, isi_list_tup, isi_list_non, isi_list_str, isi_list_int, isi_tup_tup, isi_bool_bl, isi_bool_int, isi_int_int, isi_int_bl, isi_int_non, isi_int_str, isi_str_str, isi_str_non, isi_str_int, startE_c, startE_n, startE_e, wFor_e, wLc_e, wipeE, wgName, wgTup, wgCons, wgNil, List.getElem?_cons_zero, List.getElem?_cons_succ, List.set_cons_zero, List.set_cons_succ, List.length_cons, List.length_nil, Mi.wC, Mi.wVar, Mi.wVarO, Mi.wOp, Mi.wUn, Mi.wCmp, Mi.wCmpT, Mi.wChainT, Mi.wChain, Mi.wTru, Mi.wAndT, Mi.wOrT, Mi.wNotT, Mi.wAnd, Mi.wOr, Mi.wNot, Mi.wIfE, Mi.wNoPart, Mi.wPart, Mi.wSl, Mi.wNil, Mi.wCons, Mi.wTup, Mi.wLst, Mi.wNext, Mi.wSeq, Mi.wFreeze, Mi.wForget, Mi.wBreak, Mi.wCont, Mi.wRet, Mi.wRetO, Mi.wRetN, Mi.wDrop, Mi.wIf, Mi.wNever, Mi.wAsg, Mi.wSetO, Mi.wPar, Mi.wAug, Mi.wApp, Mi.wSetIx, Mi.wExt, Mi.wItems, Mi.wRng1, Mi.wRng2, Mi.wRng3, Mi.wEnum, Mi.wZip, Mi.wYes, Mi.wCall, Mi.wCallX, Mi.wB2, Mi.wMin3, Mi.wIsi, Mi.wGuard, Mi.wGuardD, Mi.wRaise, Mi.wEnumS, Mi.wListR, Mi.wJoin, Mi.wMet, Mi.wMet0, Mi.wPop, Mi.wdNil, Mi.wdCons, Mi.wDisp, decide_true]
        refine ⟨leL (by rw [l1, l1, la, lc1, lc1, lc1]; omega), ?_⟩
        rw [List.range_succ, List.map_append, List.map_append]
        have em : PySem.Str.ofString "a" ++ (⟨#[97 + k / 100]⟩ : PySem.Str) ++ (⟨#[97 + k / 10 % 10]⟩ : PySem.Str) ++ (⟨#[97 + k % 10]⟩ : PySem.Str) = manyS k := str_ext (by
          rw [sapp, sapp, sapp, show (PySem.Str.ofString "a").cps.toList = [97] from by decide +kernel]; rfl)
        rw [em]; rfl
      · rintro acc rfl
        rw [rangeD_len]
        rw [show ((List.range (Int.toNat 401)).map manyS).map D.str = manyL.map D.str from rfl]
        have hc400 := cut_to (manyL.map D.str) 400
        rw [show ((400 : Nat) : Int) = 400 from rfl, ← List.map_take] at hc400
        simp only [e_qI, e_qIC, e_add1, e_add2, e_add3, e_add4, e_catL, e_aug1, e_aug2, e_mul1, e_mul2, e_rep, e_div, e_mod, e_neg, e_ord1, e_ord2, e_isn, e_nin, e_non1, e_non2, e_non3, e_non4, e_non5, e_non6, e_tru1, e_tru2, e_tru3, e_tru4, e_tru5, e_tru6, e_tru7, e_sl1, e_sl2, e_sl3, e_sl4, e_rev, e_it1, e_it2, e_it3, e_len1, e_len2, e_len3, e_len4, e_int1, e_int2, e_int3, e_min, e_max, e_min3, e_lst1, e_lst2, e_tup1, e_tup2, e_str, e_abs, e_lenS, e_ixS, isi_list_bl, isi_str_lst, isi_str_tup, isi_str_bl, isi_int_lst, isi_int_tup, isi_bool_non, isi_bool_str, isi_bool_lst, isi_bool_tup, isi_tup_lst, isi_tup_non, isi_tup_str, isi_tup_int, isi_tup_bl, e_attr, e_inD, e_ixD, e_ixS1, e_mulS, eq_self, Mi.qNotIn, Mi.qLt, Mi.qLe, Mi.qGt, Mi.qGe, List.map_cons, List.map_nil, List.length_map, true_and, and_true, Bool.false_eq_true, if_false, if_true, Bool.not_true, Bool.not_false, qEq_int, qEq_str, qEq_bl, qNe_int, qNe_str, qNe_bl, line0, line1, line2, line3, line4, line6, line7, line10, isi_list_lst, isi_list_tup, isi_list_non, isi_list_str, isi_list_int, isi_tup_tup, isi_bool_bl, isi_bool_int, isi_int_int, isi_int_bl, isi_int_non, isi_int_str, isi_str_str, isi_str_non, isi_str_int, startE_c, startE_n, startE_e, wFor_e, wLc_e, wipeE, wgName, wgTup, wgCons, wgNil, List.getElem?_cons_zero, List.getElem?_cons_succ, List.set_cons_zero, List.set_cons_succ, List.length_cons, List.length_nil, Mi.wC, Mi.wVar, Mi.wVarO, Mi.wOp, Mi.wUn, Mi.wCmp, Mi.wCmpT, Mi.wChainT, Mi.wChain, Mi.wTru, Mi.wAndT, Mi.wOrT, Mi.wNotT, Mi.wAnd, Mi.wOr, Mi.wNot, Mi.wIfE, Mi.wNoPart, Mi.wPart, Mi.wSl, Mi.wNil, Mi.wCons, Mi.wTup, Mi.wLst, Mi.wNext, Mi.wSeq, Mi.wFreeze, Mi.wForget, Mi.wBreak, Mi.wCont, Mi.wRet, Mi.wRetO, Mi.wRetN, Mi.wDrop, Mi.wIf, Mi.wNever, Mi.wAsg, Mi.wSetO, Mi.wPar, Mi.wAug, Mi.wApp, Mi.wSetIx, Mi.wExt, Mi.wItems, Mi.wRng1, Mi.wRng2, Mi.wRng3, Mi.wEnum, Mi.wZip, Mi.wYes, Mi.wCall, Mi.wCallX, Mi.wB2, Mi.wMin3, Mi.wIsi, Mi.wGuard, Mi.wGuardD, Mi.wRaise, Mi.wEnumS, Mi.wListR, Mi.wJoin, Mi.wMet, Mi.wMet0, Mi.wPop, Mi.wdNil, Mi.wdCons, Mi.wDisp, decide_true]
        rw [hc400]
        refine ⟨by decide, by omega, by omega, by decide +kernel, by omega, by omega, by decide +kernel, by decide, ?_⟩
        refine cut_i (fun δ' => ∃ (c5 c6 c9 c10 c11 c12 c13 c14 c15 c16 : Option Cell), δ' = [st (.ext 0 (.lst (xs.map D.int))), st (.lst (ns.map D.int)), st (.lst (A.map D.str)), st (wordsD L), st (.lst (U.map D.str)), c5, c6, st (.lst (manyL.map D.str)), st (.lst (rowsL.map rowD2)), c9, c10, c11, c12, c13, c14, c15, c16]) ?_ ?_
        · show wFor _ _ _ [_, _, _, _, _, _, _, _, st (.lst (rowsL.map rowD2)), _, _, _, _, _, _, _, _] _ _
          simp only [e_qI, e_qIC, e_add1, e_add2, e_add3, e_add4, e_catL, e_aug1, e_aug2, e_mul1, e_mul2, e_rep, e_div, e_mod, e_neg, e_ord1, e_ord2, e_isn, e_nin, e_non1, e_non2, e_non3, e_non4, e_non5, e_non6, e_tru1, e_tru2, e_tru3, e_tru4, e_tru5, e_tru6, e_tru7, e_sl1, e_sl2, e_sl3, e_sl4, e_rev, e_it1, e_it2, e_it3, e_len1, e_len2, e_len3, e_len4, e_int1, e_int2, e_int3, e_min, e_max, e_min3, e_lst1, e_lst2, e_tup1, e_tup2, e_str, e_abs, e_lenS, e_ixS, isi_list_bl, isi_str_lst, isi_str_tup, isi_str_bl, isi_int_lst, isi_int_tup, isi_bool_non, isi_bool_str, isi_bool_lst, isi_bool_tup, isi_tup_lst, isi_tup_non, isi_tup_str, isi_tup_int, isi_tup_bl, e_attr, e_inD, e_ixD, e_ixS1, e_mulS, eq_self, Mi.qNotIn, Mi.qLt, Mi.qLe, Mi.qGt, Mi.qGe, List.map_cons, List.map_nil, List.length_map, true_and, and_true, Bool.false_eq_true, if_false, if_true, Bool.not_true, Bool.not_false, qEq_int, qEq_str, qEq_bl, qNe_int, qNe_str, qNe_bl, line0, line1, line2, line3, line4, line6, line7, line10, isi_list_lst, isi_list_tup, isi_list_non, isi_list_str, isi_list_int, isi_tup_tup, isi_bool_bl, isi_bool_int, isi_int_int, isi_int_bl, isi_int_non, isi_int_str, isi_str_str, isi_str_non, isi_str_int, startE_c, startE_n, startE_e, wFor_e, wLc_e, wipeE, wgName, wgTup, wgCons, wgNil, List.getElem?_cons_zero, List.getElem?_cons_succ, List.set_cons_zero, List.set_cons_succ, List.length_cons, List.length_nil, Mi.wC, Mi.wVar, Mi.wVarO, Mi.wOp, Mi.wUn, Mi.wCmp, Mi.wCmpT, Mi.wChainT, Mi.wChain, Mi.wTru, Mi.wAndT, Mi.wOrT, Mi.wNotT, Mi.wAnd, Mi.wOr, Mi.wNot, Mi.wIfE, Mi.wNoPart, Mi.wPart, Mi.wSl, Mi.wNil, Mi.wCons, Mi.wTup, Mi.wLst, Mi.wNext, Mi.wSeq, Mi.wFreeze, Mi.wForget, Mi.wBreak, Mi.wCont, Mi.wRet, Mi.wRetO, Mi.wRetN, Mi.wDrop, Mi.wIf, Mi.wNever, Mi.wAsg, Mi.wSetO, Mi.wPar, Mi.wAug, Mi.wApp, Mi.wSetIx, Mi.wExt, Mi.wItems, Mi.wRng1, Mi.wRng2, Mi.wRng3, Mi.wEnum, Mi.wZip, Mi.wYes, Mi.wCall, Mi.wCallX, Mi.wB2, Mi.wMin3, Mi.wIsi, Mi.wGuard, Mi.wGuardD, Mi.wRaise, Mi.wEnumS, Mi.wListR, Mi.wJoin, Mi.wMet, Mi.wMet0, Mi.wPop, Mi.wdNil, Mi.wdCons, Mi.wDisp, decide_true]
          refine for_i (fun i δ' => ∃ (c5 c6 c9 c10 c11 c12 c13 c14 c15 c16 : Option Cell), δ' = [st (.ext 0 (.lst (xs.map D.int))), st (.lst (ns.map D.int)), st (.lst (A.map D.str)), st (wordsD L), st (.lst (U.map D.str)), c5, c6, st (.lst (manyL.map D.str)), st (.lst (rowsL.map rowD2)), c9, c10, c11, c12, c13, c14, c15, c16]) ⟨_, _, _, _, _, _, _, _, _, _, rfl⟩ ?_ fun δ' h => h
          rintro i d δ' hi ⟨c5, c6, c9, c10, c11, c12, c13, c14, c15, c16, rfl⟩
          rw [List.getElem?_map] at hi
          obtain ⟨r, hr, rfl⟩ := Option.map_eq_some_iff.mp hi
          obtain ⟨r1, r2, r3, r4⟩ := rows_ok r (List.mem_of_getElem? hr)
          unfold rowD2
          simp only [e_qI, e_qIC, e_add1, e_add2, e_add3, e_add4, e_catL, e_aug1, e_aug2, e_mul1, e_mul2, e_rep, e_div, e_mod, e_neg, e_ord1, e_ord2, e_isn, e_nin, e_non1, e_non2, e_non3, e_non4, e_non5, e_non6, e_tru1, e_tru2, e_tru3, e_tru4, e_tru5, e_tru6, e_tru7, e_sl1, e_sl2, e_sl3, e_sl4, e_rev, e_it1, e_it2, e_it3, e_len1, e_len2, e_len3, e_len4, e_int1, e_int2, e_int3, e_min, e_max, e_min3, e_lst1, e_lst2, e_tup1, e_tup2, e_str, e_abs, e_lenS, e_ixS, isi_list_bl, isi_str_lst, isi_str_tup, isi_str_bl, isi_int_lst, isi_int_tup, isi_bool_non, isi_bool_str, isi_bool_lst, isi_bool_tup, isi_tup_lst, isi_tup_non, isi_tup_str, isi_tup_int, isi_tup_bl, e_attr, e_inD, e_ixD, e_ixS1, e_mulS, eq_self, Mi.qNotIn, Mi.qLt, Mi.qLe, Mi.qGt, Mi.qGe, List.map_cons, List.map_nil, List.length_map, true_and, and_true, Bool.false_eq_true, if_false, if_true, Bool.not_true, Bool.not_false, qEq_int, qEq_str, qEq_bl, qNe_int, qNe_str, qNe_bl, line0, line1, line2, line3, line4, line6, line7, line10, isi_list_lst, isi_list_tup, isi_list_non, isi_list_str, isi_list_int, isi_tup_tup, isi_bool_bl, isi_bool_int, isi_int_int, isi_int_bl, isi_int_non, isi_int_str, isi_str_str, isi_str_non, isi_str_int, startE_c, startE_n, startE_e, wFor_e, wLc_e, wipeE, wgName, wgTup, wgCons, wgNil, List.getElem?_cons_zero, List.getElem?_cons_succ, List.set_cons_zero, List.set_cons_succ, List.length_cons, List.length_nil, Mi.wC, Mi.wVar, Mi.wVarO, Mi.wOp, Mi.wUn, Mi.wCmp, Mi.wCmpT, Mi.wChainT, Mi.wChain, Mi.wTru, Mi.wAndT, Mi.wOrT, Mi.wNotT, Mi.wAnd, Mi.wOr, Mi.wNot, Mi.wIfE, Mi.wNoPart, Mi.wPart, Mi.wSl, Mi.wNil, Mi.wCons, Mi.wTup, Mi.wLst, Mi.wNext, Mi.wSeq, Mi.wFreeze, Mi.wForget, Mi.wBreak, Mi.wCont, Mi.wRet, Mi.wRetO, Mi.wRetN, Mi.wDrop, Mi.wIf, Mi.wNever, Mi.wAsg, Mi.wSetO, Mi.wPar, Mi.wAug, Mi.wApp, Mi.wSetIx, Mi.wExt, Mi.wItems, Mi.wRng1, Mi.wRng2, Mi.wRng3, Mi.wEnum, Mi.wZip, Mi.wYes, Mi.wCall, Mi.wCallX, Mi.wB2, Mi.wMin3, Mi.wIsi, Mi.wGuard, Mi.wGuardD, Mi.wRaise, Mi.wEnumS, Mi.wListR, Mi.wJoin, Mi.wMet, Mi.wMet0, Mi.wPop, Mi.wdNil, Mi.wdCons, Mi.wDisp, decide_true]
          refine ifD_i false ?_ (fun h => by cases h) fun _ => ?_
          · simp only [e_qI, e_qIC, e_add1, e_add2, e_add3, e_add4, e_catL, e_aug1, e_aug2, e_mul1, e_mul2, e_rep, e_div, e_mod, e_neg, e_ord1, e_ord2, e_isn, e_nin, e_non1, e_non2, e_non3, e_non4, e_non5, e_non6, e_tru1, e_tru2, e_tru3, e_tru4, e_tru5, e_tru6, e_tru7, e_sl1, e_sl2, e_sl3, e_sl4, e_rev, e_it1, e_it2, e_it3, e_len1, e_len2, e_len3, e_len4, e_int1, e_int2, e_int3, e_min, e_max, e_min3, e_lst1, e_lst2, e_tup1, e_tup2, e_str, e_abs, e_lenS, e_ixS, isi_list_bl, isi_str_lst, isi_str_tup, isi_str_bl, isi_int_lst, isi_int_tup, isi_bool_non, isi_bool_str, isi_bool_lst, isi_bool_tup, isi_tup_lst, isi_tup_non, isi_tup_str, isi_tup_int, isi_tup_bl, e_attr, e_inD, e_ixD, e_ixS1, e_mulS, eq_self, Mi.qNotIn, Mi.qLt, Mi.qLe, Mi.qGt, Mi.qGe, List.map_cons, List.map_nil, List.length_map, true_and, and_true, Bool.false_eq_true, if_false, if_true, Bool.not_true, Bool.not_false, qEq_int, qEq_str, qEq_bl, qNe_int, qNe_str, qNe_bl, line0, line1, line2, line3, line4, line6, line7, line10, isi_list_lst, isi_list_tup, isi_list_non, isi_list_str, isi_list_int, isi_tup_tup, isi_bool_bl, isi_bool_int, isi_int_int, isi_int_bl, isi_int_non, isi_int_str, isi_str_str, isi_str_non, isi_str_int, startE_c, startE_n, startE_e, wFor_e, wLc_e, wipeE, wgName, wgTup, wgCons, wgNil, List.getElem?_cons_zero, List.getElem?_cons_succ, List.set_cons_zero, List.set_cons_succ, List.length_cons, List.length_nil, Mi.wC, Mi.wVar, Mi.wVarO, Mi.wOp, Mi.wUn, Mi.wCmp, Mi.wCmpT, Mi.wChainT, Mi.wChain, Mi.wTru, Mi.wAndT, Mi.wOrT, Mi.wNotT, Mi.wAnd, Mi.wOr, Mi.wNot, Mi.wIfE, Mi.wNoPart, Mi.wPart, Mi.wSl, Mi.wNil, Mi.wCons, Mi.wTup, Mi.wLst, Mi.wNext, Mi.wSeq, Mi.wFreeze, Mi.wForget, Mi.wBreak, Mi.wCont, Mi.wRet, Mi.wRetO, Mi.wRetN, Mi.wDrop, Mi.wIf, Mi.wNever, Mi.wAsg, Mi.wSetO, Mi.wPar, Mi.wAug, Mi.wApp, Mi.wSetIx, Mi.wExt, Mi.wItems, Mi.wRng1, Mi.wRng2, Mi.wRng3, Mi.wEnum, Mi.wZip, Mi.wYes, Mi.wCall, Mi.wCallX, Mi.wB2, Mi.wMin3, Mi.wIsi, Mi.wGuard, Mi.wGuardD, Mi.wRaise, Mi.wEnumS, Mi.wListR, Mi.wJoin, Mi.wMet, Mi.wMet0, Mi.wPop, Mi.wdNil, Mi.wdCons, Mi.wDisp, decide_true]
            refine ⟨0, r.1, "a", .int 1, rfl, r1, trivial, by decide +kernel, ?_⟩
            rw [r2]
            refine qNe_self r4 (by omega) ?_
            simp only [e_qI, e_qIC, e_add1, e_add2, e_add3, e_add4, e_catL, e_aug1, e_aug2, e_mul1, e_mul2, e_rep, e_div, e_mod, e_neg, e_ord1, e_ord2, e_isn, e_nin, e_non1, e_non2, e_non3, e_non4, e_non5, e_non6, e_tru1, e_tru2, e_tru3, e_tru4, e_tru5, e_tru6, e_tru7, e_sl1, e_sl2, e_sl3, e_sl4, e_rev, e_it1, e_it2, e_it3, e_len1, e_len2, e_len3, e_len4, e_int1, e_int2, e_int3, e_min, e_max, e_min3, e_lst1, e_lst2, e_tup1, e_tup2, e_str, e_abs, e_lenS, e_ixS, isi_list_bl, isi_str_lst, isi_str_tup, isi_str_bl, isi_int_lst, isi_int_tup, isi_bool_non, isi_bool_str, isi_bool_lst, isi_bool_tup, isi_tup_lst, isi_tup_non, isi_tup_str, isi_tup_int, isi_tup_bl, e_attr, e_inD, e_ixD, e_ixS1, e_mulS, eq_self, Mi.qNotIn, Mi.qLt, Mi.qLe, Mi.qGt, Mi.qGe, List.map_cons, List.map_nil, List.length_map, true_and, and_true, Bool.false_eq_true, if_false, if_true, Bool.not_true, Bool.not_false, qEq_int, qEq_str, qEq_bl, qNe_int, qNe_str, qNe_bl, line0, line1, line2, line3, line4, line6, line7, line10, isi_list_lst, isi_list_tup, isi_list_non, isi_list_str, isi_list_int, isi_tup_tup, isi_bool_bl, isi_bool_int, isi_int_int, isi_int_bl, isi_int_non, isi_int_str, isi_str_str, isi_str_non, isi_str_int, startE_c, startE_n, startE_e, wFor_e, wLc_e, wipeE, wgName, wgTup, wgCons, wgNil, List.getElem?_cons_zero, List.getElem?_cons_succ, List.set_cons_zero, List.set_cons_succ, List.length_cons, List.length_nil, Mi.wC, Mi.wVar, Mi.wVarO, Mi.wOp, Mi.wUn, Mi.wCmp, Mi.wCmpT, Mi.wChainT, Mi.wChain, Mi.wTru, Mi.wAndT, Mi.wOrT, Mi.wNotT, Mi.wAnd, Mi.wOr, Mi.wNot, Mi.wIfE, Mi.wNoPart, Mi.wPart, Mi.wSl, Mi.wNil, Mi.wCons, Mi.wTup, Mi.wLst, Mi.wNext, Mi.wSeq, Mi.wFreeze, Mi.wForget, Mi.wBreak, Mi.wCont, Mi.wRet, Mi.wRetO, Mi.wRetN, Mi.wDrop, Mi.wIf, Mi.wNever, Mi.wAsg, Mi.wSetO, Mi.wPar, Mi.wAug, Mi.wApp, Mi.wSetIx, Mi.wExt, Mi.wItems, Mi.wRng1, Mi.wRng2, Mi.wRng3, Mi.wEnum, Mi.wZip, Mi.wYes, Mi.wCall, Mi.wCallX, Mi.wB2, Mi.wMin3, Mi.wIsi, Mi.wGuard, Mi.wGuardD, Mi.wRaise, Mi.wEnumS, Mi.wListR, Mi.wJoin, Mi.wMet, Mi.wMet0, Mi.wPop, Mi.wdNil, Mi.wdCons, Mi.wDisp, decide_true]
            refine ⟨1, r.1, "a", .int 1, rfl, r1, trivial, by decide +kernel, ?_⟩
            rw [r3]
            exact qNe_self r4 (by omega) rfl
          · simp only [e_qI, e_qIC, e_add1, e_add2, e_add3, e_add4, e_catL, e_aug1, e_aug2, e_mul1, e_mul2, e_rep, e_div, e_mod, e_neg, e_ord1, e_ord2, e_isn, e_nin, e_non1, e_non2, e_non3, e_non4, e_non5, e_non6, e_tru1, e_tru2, e_tru3, e_tru4, e_tru5, e_tru6, e_tru7, e_sl1, e_sl2, e_sl3, e_sl4, e_rev, e_it1, e_it2, e_it3, e_len1, e_len2, e_len3, e_len4, e_int1, e_int2, e_int3, e_min, e_max, e_min3, e_lst1, e_lst2, e_tup1, e_tup2, e_str, e_abs, e_lenS, e_ixS, isi_list_bl, isi_str_lst, isi_str_tup, isi_str_bl, isi_int_lst, isi_int_tup, isi_bool_non, isi_bool_str, isi_bool_lst, isi_bool_tup, isi_tup_lst, isi_tup_non, isi_tup_str, isi_tup_int, isi_tup_bl, e_attr, e_inD, e_ixD, e_ixS1, e_mulS, eq_self, Mi.qNotIn, Mi.qLt, Mi.qLe, Mi.qGt, Mi.qGe, List.map_cons, List.map_nil, List.length_map, true_and, and_true, Bool.false_eq_true, if_false, if_true, Bool.not_true, Bool.not_false, qEq_int, qEq_str, qEq_bl, qNe_int, qNe_str, qNe_bl, line0, line1, line2, line3, line4, line6, line7, line10, isi_list_lst, isi_list_tup, isi_list_non, isi_list_str, isi_list_int, isi_tup_tup, isi_bool_bl, isi_bool_int, isi_int_int, isi_int_bl, isi_int_non, isi_int_str, isi_str_str, isi_str_non, isi_str_int, startE_c, startE_n, startE_e, wFor_e, wLc_e, wipeE, wgName, wgTup, wgCons, wgNil, List.getElem?_cons_zero, List.getElem?_cons_succ, List.set_cons_zero, List.set_cons_succ, List.length_cons, List.length_nil, Mi.wC, Mi.wVar, Mi.wVarO, Mi.wOp, Mi.wUn, Mi.wCmp, Mi.wCmpT, Mi.wChainT, Mi.wChain, Mi.wTru, Mi.wAndT, Mi.wOrT, Mi.wNotT, Mi.wAnd, Mi.wOr, Mi.wNot, Mi.wIfE, Mi.wNoPart, Mi.wPart, Mi.wSl, Mi.wNil, Mi.wCons, Mi.wTup, Mi.wLst, Mi.wNext, Mi.wSeq, Mi.wFreeze, Mi.wForget, Mi.wBreak, Mi.wCont, Mi.wRet, Mi.wRetO, Mi.wRetN, Mi.wDrop, Mi.wIf, Mi.wNever, Mi.wAsg, Mi.wSetO, Mi.wPar, Mi.wAug, Mi.wApp, Mi.wSetIx, Mi.wExt, Mi.wItems, Mi.wRng1, Mi.wRng2, Mi.wRng3, Mi.wEnum, Mi.wZip, Mi.wYes, Mi.wCall, Mi.wCallX, Mi.wB2, Mi.wMin3, Mi.wIsi, Mi.wGuard, Mi.wGuardD, Mi.wRaise, Mi.wEnumS, Mi.wListR, Mi.wJoin, Mi.wMet, Mi.wMet0, Mi.wPop, Mi.wdNil, Mi.wdCons, Mi.wDisp, decide_true]
            exact ⟨_, _, _, _, _, _, _, _, _, _, rfl⟩
        · rintro δ' ⟨c5, c6, c9, c10, c11, c12, c13, c14, c15, c16, rfl⟩
          refine cut_i (fun δ' => ∃ (c5 c6 c9 c10 c11 c12 c13 c14 c15 c16 : Option Cell), δ' = [st (.ext 0 (.lst (xs.map D.int))), st (.lst (ns.map D.int)), st (.lst (A.map D.str)), st (wordsD L), st (.lst (U.map D.str)), c5, c6, st (.lst (manyL.map D.str)), st (.lst (rowsL.map rowD2)), c9, c10, c11, c12, c13, c14, c15, c16]) ?_ ?_
          · simp only [e_qI, e_qIC, e_add1, e_add2, e_add3, e_add4, e_catL, e_aug1, e_aug2, e_mul1, e_mul2, e_rep, e_div, e_mod, e_neg, e_ord1, e_ord2, e_isn, e_nin, e_non1, e_non2, e_non3, e_non4, e_non5, e_non6, e_tru1, e_tru2, e_tru3, e_tru4, e_tru5, e_tru6, e_tru7, e_sl1, e_sl2, e_sl3, e_sl4, e_rev, e_it1, e_it2, e_it3, e_len1, e_len2, e_len3, e_len4, e_int1, e_int2, e_int3, e_min, e_max, e_min3, e_lst1, e_lst2, e_tup1, e_tup2, e_str, e_abs, e_lenS, e_ixS, isi_list_bl, isi_str_lst, isi_str_tup, isi_str_bl, isi_int_lst, isi_int_tup, isi_bool_non, isi_bool_str, isi_bool_lst, isi_bool_tup, isi_tup_lst, isi_tup_non, isi_tup_str, isi_tup_int, isi_tup_bl, e_attr, e_inD, e_ixD, e_ixS1, e_mulS, eq_self, Mi.qNotIn, Mi.qLt, Mi.qLe, Mi.qGt, Mi.qGe, List.map_cons, List.map_nil, List.length_map, true_and, and_true, Bool.false_eq_true, if_false, if_true, Bool.not_true, Bool.not_false, qEq_int, qEq_str, qEq_bl, qNe_int, qNe_str, qNe_bl, line0, line1, line2, line3, line4, line6, line7, line10, isi_list_lst, isi_list_tup, isi_list_non, isi_list_str, isi_list_int, isi_tup_tup, isi_bool_bl, isi_bool_int, isi_int_int, isi_int_bl, isi_int_non, isi_int_str, isi_str_str, isi_str_non, isi_str_int, startE_c, startE_n, startE_e, wFor_e, wLc_e, wipeE, wgName, wgTup, wgCons, wgNil, List.getElem?_cons_zero, List.getElem?_cons_succ, List.set_cons_zero, List.set_cons_succ, List.length_cons, List.length_nil, Mi.wC, Mi.wVar, Mi.wVarO, Mi.wOp, Mi.wUn, Mi.wCmp, Mi.wCmpT, Mi.wChainT, Mi.wChain, Mi.wTru, Mi.wAndT, Mi.wOrT, Mi.wNotT, Mi.wAnd, Mi.wOr, Mi.wNot, Mi.wIfE, Mi.wNoPart, Mi.wPart, Mi.wSl, Mi.wNil, Mi.wCons, Mi.wTup, Mi.wLst, Mi.wNext, Mi.wSeq, Mi.wFreeze, Mi.wForget, Mi.wBreak, Mi.wCont, Mi.wRet, Mi.wRetO, Mi.wRetN, Mi.wDrop, Mi.wIf, Mi.wNever, Mi.wAsg, Mi.wSetO, Mi.wPar, Mi.wAug, Mi.wApp, Mi.wSetIx, Mi.wExt, Mi.wItems, Mi.wRng1, Mi.wRng2, Mi.wRng3, Mi.wEnum, Mi.wZip, Mi.wYes, Mi.wCall, Mi.wCallX, Mi.wB2, Mi.wMin3, Mi.wIsi, Mi.wGuard, Mi.wGuardD, Mi.wRaise, Mi.wEnumS, Mi.wListR, Mi.wJoin, Mi.wMet, Mi.wMet0, Mi.wPop, Mi.wdNil, Mi.wdCons, Mi.wDisp, decide_true]
            have ha1 : smallL (.lst [.str (PySem.Str.ofString "a")]) := small_l1 small_s
            refine for_i (items := partsL.map rowD2) (fun i δ' => ∃ (c5 c6 c9 c10 c11 c12 c13 c14 c15 c16 : Option Cell), δ' = [st (.ext 0 (.lst (xs.map D.int))), st (.lst (ns.map D.int)), st (.lst (A.map D.str)), st (wordsD L), st (.lst (U.map D.str)), c5, c6, st (.lst (manyL.map D.str)), st (.lst (rowsL.map rowD2)), c9, c10, c11, c12, c13, c14, c15, c16]) ⟨_, _, _, _, _, _, _, _, _, _, rfl⟩ ?_ fun δ' h => h
            rintro i d δ' hi ⟨c5, c6, c9, c10, c11, c12, c13, c14, c15, c16, rfl⟩
            rw [List.getElem?_map] at hi
            obtain ⟨r, hr, rfl⟩ := Option.map_eq_some_iff.mp hi
            obtain ⟨r1, r2, r3⟩ := parts_ok r (List.mem_of_getElem? hr)
            unfold rowD2
            simp only [e_qI, e_qIC, e_add1, e_add2, e_add3, e_add4, e_catL, e_aug1, e_aug2, e_mul1, e_mul2, e_rep, e_div, e_mod, e_neg, e_ord1, e_ord2, e_isn, e_nin, e_non1, e_non2, e_non3, e_non4, e_non5, e_non6, e_tru1, e_tru2, e_tru3, e_tru4, e_tru5, e_tru6, e_tru7, e_sl1, e_sl2, e_sl3, e_sl4, e_rev, e_it1, e_it2, e_it3, e_len1, e_len2, e_len3, e_len4, e_int1, e_int2, e_int3, e_min, e_max, e_min3, e_lst1, e_lst2, e_tup1, e_tup2, e_str, e_abs, e_lenS, e_ixS, isi_list_bl, isi_str_lst, isi_str_tup, isi_str_bl, isi_int_lst, isi_int_tup, isi_bool_non, isi_bool_str, isi_bool_lst, isi_bool_tup, isi_tup_lst, isi_tup_non, isi_tup_str, isi_tup_int, isi_tup_bl, e_attr, e_inD, e_ixD, e_ixS1, e_mulS, eq_self, Mi.qNotIn, Mi.qLt, Mi.qLe, Mi.qGt, Mi.qGe, List.map_cons, List.map_nil, List.length_map, true_and, and_true, Bool.false_eq_true, if_false, if_true, Bool.not_true, Bool.not_false, qEq_int, qEq_str, qEq_bl, qNe_int, qNe_str, qNe_bl, line0, line1, line2, line3, line4, line6, line7, line10, isi_list_lst, isi_list_tup, isi_list_non, isi_list_str, isi_list_int, isi_tup_tup, isi_bool_bl, isi_bool_int, isi_int_int, isi_int_bl, isi_int_non, isi_int_str, isi_str_str, isi_str_non, isi_str_int, startE_c, startE_n, startE_e, wFor_e, wLc_e, wipeE, wgName, wgTup, wgCons, wgNil, List.getElem?_cons_zero, List.getElem?_cons_succ, List.set_cons_zero, List.set_cons_succ, List.length_cons, List.length_nil, Mi.wC, Mi.wVar, Mi.wVarO, Mi.wOp, Mi.wUn, Mi.wCmp, Mi.wCmpT, Mi.wChainT, Mi.wChain, Mi.wTru, Mi.wAndT, Mi.wOrT, Mi.wNotT, Mi.wAnd, Mi.wOr, Mi.wNot, Mi.wIfE, Mi.wNoPart, Mi.wPart, Mi.wSl, Mi.wNil, Mi.wCons, Mi.wTup, Mi.wLst, Mi.wNext, Mi.wSeq, Mi.wFreeze, Mi.wForget, Mi.wBreak, Mi.wCont, Mi.wRet, Mi.wRetO, Mi.wRetN, Mi.wDrop, Mi.wIf, Mi.wNever, Mi.wAsg, Mi.wSetO, Mi.wPar, Mi.wAug, Mi.wApp, Mi.wSetIx, Mi.wExt, Mi.wItems, Mi.wRng1, Mi.wRng2, Mi.wRng3, Mi.wEnum, Mi.wZip, Mi.wYes, Mi.wCall, Mi.wCallX, Mi.wB2, Mi.wMin3, Mi.wIsi, Mi.wGuard, Mi.wGuardD, Mi.wRaise, Mi.wEnumS, Mi.wListR, Mi.wJoin, Mi.wMet, Mi.wMet0, Mi.wPop, Mi.wdNil, Mi.wdCons, Mi.wDisp, decide_true]
            refine ⟨1, .lst [.str (PySem.Str.ofString "a")], "b", r.1, rfl, ha1, r1, by decide +kernel, ?_⟩
            rw [r2]
            refine qNe_self r3 (by omega) ?_
            simp only [e_qI, e_qIC, e_add1, e_add2, e_add3, e_add4, e_catL, e_aug1, e_aug2, e_mul1, e_mul2, e_rep, e_div, e_mod, e_neg, e_ord1, e_ord2, e_isn, e_nin, e_non1, e_non2, e_non3, e_non4, e_non5, e_non6, e_tru1, e_tru2, e_tru3, e_tru4, e_tru5, e_tru6, e_tru7, e_sl1, e_sl2, e_sl3, e_sl4, e_rev, e_it1, e_it2, e_it3, e_len1, e_len2, e_len3, e_len4, e_int1, e_int2, e_int3, e_min, e_max, e_min3, e_lst1, e_lst2, e_tup1, e_tup2, e_str, e_abs, e_lenS, e_ixS, isi_list_bl, isi_str_lst, isi_str_tup, isi_str_bl, isi_int_lst, isi_int_tup, isi_bool_non, isi_bool_str, isi_bool_lst, isi_bool_tup, isi_tup_lst, isi_tup_non, isi_tup_str, isi_tup_int, isi_tup_bl, e_attr, e_inD, e_ixD, e_ixS1, e_mulS, eq_self, Mi.qNotIn, Mi.qLt, Mi.qLe, Mi.qGt, Mi.qGe, List.map_cons, List.map_nil, List.length_map, true_and, and_true, Bool.false_eq_true, if_false, if_true, Bool.not_true, Bool.not_false, qEq_int, qEq_str, qEq_bl, qNe_int, qNe_str, qNe_bl, line0, line1, line2, line3, line4, line6, line7, line10, isi_list_lst, isi_list_tup, isi_list_non, isi_list_str, isi_list_int, isi_tup_tup, isi_bool_bl, isi_bool_int, isi_int_int, isi_int_bl, isi_int_non, isi_int_str, isi_str_str, isi_str_non, isi_str_int, startE_c, startE_n, startE_e, wFor_e, wLc_e, wipeE, wgName, wgTup, wgCons, wgNil, List.getElem?_cons_zero, List.getElem?_cons_succ, List.set_cons_zero, List.set_cons_succ, List.length_cons, List.length_nil, Mi.wC, Mi.wVar, Mi.wVarO, Mi.wOp, Mi.wUn, Mi.wCmp, Mi.wCmpT, Mi.wChainT, Mi.wChain, Mi.wTru, Mi.wAndT, Mi.wOrT, Mi.wNotT, Mi.wAnd, Mi.wOr, Mi.wNot, Mi.wIfE, Mi.wNoPart, Mi.wPart, Mi.wSl, Mi.wNil, Mi.wCons, Mi.wTup, Mi.wLst, Mi.wNext, Mi.wSeq, Mi.wFreeze, Mi.wForget, Mi.wBreak, Mi.wCont, Mi.wRet, Mi.wRetO, Mi.wRetN, Mi.wDrop, Mi.wIf, Mi.wNever, Mi.wAsg, Mi.wSetO, Mi.wPar, Mi.wAug, Mi.wApp, Mi.wSetIx, Mi.wExt, Mi.wItems, Mi.wRng1, Mi.wRng2, Mi.wRng3, Mi.wEnum, Mi.wZip, Mi.wYes, Mi.wCall, Mi.wCallX, Mi.wB2, Mi.wMin3, Mi.wIsi, Mi.wGuard, Mi.wGuardD, Mi.wRaise, Mi.wEnumS, Mi.wListR, Mi.wJoin, Mi.wMet, Mi.wMet0, Mi.wPop, Mi.wdNil, Mi.wdCons, Mi.wDisp, decide_true]
            exact ⟨_, _, _, _, _, _, _, _, _, _, rfl⟩
          · rintro δ' ⟨c5, c6, c9, c10, c11, c12, c13, c14, c15, c16, rfl⟩
            simp only [e_qI, e_qIC, e_add1, e_add2, e_add3, e_add4, e_catL, e_aug1, e_aug2, e_mul1, e_mul2, e_rep, e_div, e_mod, e_neg, e_ord1, e_ord2, e_isn, e_nin, e_non1, e_non2, e_non3, e_non4, e_non5, e_non6, e_tru1, e_tru2, e_tru3, e_tru4, e_tru5, e_tru6, e_tru7, e_sl1, e_sl2, e_sl3, e_sl4, e_rev, e_it1, e_it2, e_it3, e_len1, e_len2, e_len3, e_len4, e_int1, e_int2, e_int3, e_min, e_max, e_min3, e_lst1, e_lst2, e_tup1, e_tup2, e_str, e_abs, e_lenS, e_ixS, isi_list_bl, isi_str_lst, isi_str_tup, isi_str_bl, isi_int_lst, isi_int_tup, isi_bool_non, isi_bool_str, isi_bool_lst, isi_bool_tup, isi_tup_lst, isi_tup_non, isi_tup_str, isi_tup_int, isi_tup_bl, e_attr, e_inD, e_ixD, e_ixS1, e_mulS, eq_self, Mi.qNotIn, Mi.qLt, Mi.qLe, Mi.qGt, Mi.qGe, List.map_cons, List.map_nil, List.length_map, true_and, and_true, Bool.false_eq_true, if_false, if_true, Bool.not_true, Bool.not_false, qEq_int, qEq_str, qEq_bl, qNe_int, qNe_str, qNe_bl, line0, line1, line2, line3, line4, line6, line7, line10, isi_list_lst, isi_list_tup, isi_list_non, isi_list_str, isi_list_int, isi_tup_tup, isi_bool_bl, isi_bool_int, isi_int_int, isi_int_bl, isi_int_non, isi_int_str, isi_str_str, isi_str_non, isi_str_int, startE_c, startE_n, startE_e, wFor_e, wLc_e, wipeE, wgName, wgTup, wgCons, wgNil, List.getElem?_cons_zero, List.getElem?_cons_succ, List.set_cons_zero, List.set_cons_succ, List.length_cons, List.length_nil, Mi.wC, Mi.wVar, Mi.wVarO, Mi.wOp, Mi.wUn, Mi.wCmp, Mi.wCmpT, Mi.wChainT, Mi.wChain, Mi.wTru, Mi.wAndT, Mi.wOrT, Mi.wNotT, Mi.wAnd, Mi.wOr, Mi.wNot, Mi.wIfE, Mi.wNoPart, Mi.wPart, Mi.wSl, Mi.wNil, Mi.wCons, Mi.wTup, Mi.wLst, Mi.wNext, Mi.wSeq, Mi.wFreeze, Mi.wForget, Mi.wBreak, Mi.wCont, Mi.wRet, Mi.wRetO, Mi.wRetN, Mi.wDrop, Mi.wIf, Mi.wNever, Mi.wAsg, Mi.wSetO, Mi.wPar, Mi.wAug, Mi.wApp, Mi.wSetIx, Mi.wExt, Mi.wItems, Mi.wRng1, Mi.wRng2, Mi.wRng3, Mi.wEnum, Mi.wZip, Mi.wYes, Mi.wCall, Mi.wCallX, Mi.wB2, Mi.wMin3, Mi.wIsi, Mi.wGuard, Mi.wGuardD, Mi.wRaise, Mi.wEnumS, Mi.wListR, Mi.wJoin, Mi.wMet, Mi.wMet0, Mi.wPop, Mi.wdNil, Mi.wdCons, Mi.wDisp, decide_true]
            refine ⟨1, .lst [.str (PySem.Str.ofString "b"), .str (PySem.Str.ofString "a")], "b", .int (-1), rfl, small_l2 small_s small_s, trivial, by decide +kernel, ?_⟩
            have et : told (.lst [.str (PySem.Str.ofString "b"), .str (PySem.Str.ofString "a")]) = some 1 := by decide +kernel
            unfold ans
            rw [et]
            simp only [e_qI, e_qIC, e_add1, e_add2, e_add3, e_add4, e_catL, e_aug1, e_aug2, e_mul1, e_mul2, e_rep, e_div, e_mod, e_neg, e_ord1, e_ord2, e_isn, e_nin, e_non1, e_non2, e_non3, e_non4, e_non5, e_non6, e_tru1, e_tru2, e_tru3, e_tru4, e_tru5, e_tru6, e_tru7, e_sl1, e_sl2, e_sl3, e_sl4, e_rev, e_it1, e_it2, e_it3, e_len1, e_len2, e_len3, e_len4, e_int1, e_int2, e_int3, e_min, e_max, e_min3, e_lst1, e_lst2, e_tup1, e_tup2, e_str, e_abs, e_lenS, e_ixS, isi_list_bl, isi_str_lst, isi_str_tup, isi_str_bl, isi_int_lst, isi_int_tup, isi_bool_non, isi_bool_str, isi_bool_lst, isi_bool_tup, isi_tup_lst, isi_tup_non, isi_tup_str, isi_tup_int, isi_tup_bl, e_attr, e_inD, e_ixD, e_ixS1, e_mulS, eq_self, Mi.qNotIn, Mi.qLt, Mi.qLe, Mi.qGt, Mi.qGe, List.map_cons, List.map_nil, List.length_map, true_and, and_true, Bool.false_eq_true, if_false, if_true, Bool.not_true, Bool.not_false, qEq_int, qEq_str, qEq_bl, qNe_int, qNe_str, qNe_bl, line0, line1, line2, line3, line4, line6, line7, line10, isi_list_lst, isi_list_tup, isi_list_non, isi_list_str, isi_list_int, isi_tup_tup, isi_bool_bl, isi_bool_int, isi_int_int, isi_int_bl, isi_int_non, isi_int_str, isi_str_str, isi_str_non, isi_str_int, startE_c, startE_n, startE_e, wFor_e, wLc_e, wipeE, wgName, wgTup, wgCons, wgNil, List.getElem?_cons_zero, List.getElem?_cons_succ, List.set_cons_zero, List.set_cons_succ, List.length_cons, List.length_nil, Mi.wC, Mi.wVar, Mi.wVarO, Mi.wOp, Mi.wUn, Mi.wCmp, Mi.wCmpT, Mi.wChainT, Mi.wChain, Mi.wTru, Mi.wAndT, Mi.wOrT, Mi.wNotT, Mi.wAnd, Mi.wOr, Mi.wNot, Mi.wIfE, Mi.wNoPart, Mi.wPart, Mi.wSl, Mi.wNil, Mi.wCons, Mi.wTup, Mi.wLst, Mi.wNext, Mi.wSeq, Mi.wFreeze, Mi.wForget, Mi.wBreak, Mi.wCont, Mi.wRet, Mi.wRetO, Mi.wRetN, Mi.wDrop, Mi.wIf, Mi.wNever, Mi.wAsg, Mi.wSetO, Mi.wPar, Mi.wAug, Mi.wApp, Mi.wSetIx, Mi.wExt, Mi.wItems, Mi.wRng1, Mi.wRng2, Mi.wRng3, Mi.wEnum, Mi.wZip, Mi.wYes, Mi.wCall, Mi.wCallX, Mi.wB2, Mi.wMin3, Mi.wIsi, Mi.wGuard, Mi.wGuardD, Mi.wRaise, Mi.wEnumS, Mi.wListR, Mi.wJoin, Mi.wMet, Mi.wMet0, Mi.wPop, Mi.wdNil, Mi.wdCons, Mi.wDisp, decide_true]
            exact h
end
end K87
namespace K87
open PySem L2 Evl Mi
abbrev s_initB : Stmt := inClass (topS 2) 0
theorem sc_s_initB : NdefX.NScope ["self", "index", "__class__"] ["self", "index"] ["__class__"] (defScope s_initB) := NdefX.nscope_by (by decide +kernel)
/-- where the class stands -/
def clsAt (K : PySem.W.Frag) : Addr := match PySem.W.nsIn K mainGlobals "WordTree" with
  | some (some (.ref C)) => C
  | _ => 0
theorem all_mk {P : Program} {w : World} {K : PySem.W.Frag} {h : Heap} {mg : Str → Option Value} {fa : Addr} (X : K.In h) (G : h.Ns mainGlobals mg) (hfa : mg "law" = some (.ref fa))
    {f_is_whole : Addr} {od_is_whole an_is_whole : Option Addr} {sl_is_whole : Array (Option Value)} {oc_is_whole kV_is_whole dc_is_whole pm_is_whole cd_is_whole ct_is_whole : Value} {f_is_plain_word : Addr} {od_is_plain_word an_is_plain_word : Option Addr} {sl_is_plain_word : Array (Option Value)} {oc_is_plain_word kV_is_plain_word dc_is_plain_word pm_is_plain_word cd_is_plain_word ct_is_plain_word : Value} {f_check_list : Addr} {od_check_list an_check_list : Option Addr} {sl_check_list : Array (Option Value)} {oc_check_list kV_check_list dc_check_list pm_check_list cd_check_list ct_check_list : Value} {f_first_row : Addr} {od_first_row an_first_row : Option Addr} {sl_first_row : Array (Option Value)} {oc_first_row kV_first_row dc_first_row pm_first_row cd_first_row ct_first_row : Value} {f_next_row : Addr} {od_next_row an_next_row : Option Addr} {sl_next_row : Array (Option Value)} {oc_next_row kV_next_row dc_next_row pm_next_row cd_next_row ct_next_row : Value} {f_distance : Addr} {od_distance an_distance : Option Addr} {sl_distance : Array (Option Value)} {oc_distance kV_distance dc_distance pm_distance cd_distance ct_distance : Value} {f_check_apart : Addr} {od_check_apart an_check_apart : Option Addr} {sl_check_apart : Array (Option Value)} {oc_check_apart kV_check_apart dc_check_apart pm_check_apart cd_check_apart ct_check_apart : Value} {f_near_words : Addr} {od_near_words an_near_words : Option Addr} {sl_near_words : Array (Option Value)} {oc_near_words kV_near_words dc_near_words pm_near_words cd_near_words ct_near_words : Value} {f_law_numbers : Addr} {od_law_numbers an_law_numbers : Option Addr} {sl_law_numbers : Array (Option Value)} {oc_law_numbers kV_law_numbers dc_law_numbers pm_law_numbers cd_law_numbers ct_law_numbers : Value} {f_law_distance : Addr} {od_law_distance an_law_distance : Option Addr} {sl_law_distance : Array (Option Value)} {oc_law_distance kV_law_distance dc_law_distance pm_law_distance cd_law_distance ct_law_distance : Value} {f_law_word : Addr} {od_law_word an_law_word : Option Addr} {sl_law_word : Array (Option Value)} {oc_law_word kV_law_word dc_law_word pm_law_word cd_law_word ct_law_word : Value} {f_law_told : Addr} {od_law_told an_law_told : Option Addr} {sl_law_told : Array (Option Value)} {oc_law_told kV_law_told dc_law_told pm_law_told cd_law_told ct_law_told : Value} {f_law_tree_holds : Addr} {od_law_tree_holds an_law_tree_holds : Option Addr} {sl_law_tree_holds : Array (Option Value)} {oc_law_tree_holds kV_law_tree_holds dc_law_tree_holds pm_law_tree_holds cd_law_tree_holds ct_law_tree_holds : Value} {f_law : Addr} {od_law an_law : Option Addr} {sl_law : Array (Option Value)} {oc_law kV_law dc_law pm_law cd_law ct_law : Value} {t_MOST_WORDS : Tok} {t_MOST_APART : Tok} {t_LETTERS : Tok} {CI : Addr} {CP : Addr} {CB : Addr} {BadWord_f BadWord_cda BadWord_cc BadWord_N : Addr} {BadWord_nm BadWord_q : Str} {BadWord_bs : List Value} {BadWord_sn : List Str} {BadWord_sub : List Value} {BadWord_ab : Bool} {BadWord_col : Option Bool} {BadWord_dd : Option Addr} {BadWord_m0 BadWord_m1 BadWord_m2 BadWord_m3 BadWord_m5 : Option Value} {BadWord_odI BadWord_anI BadWord_odC BadWord_odD : Option Addr} {BadWord_slI BadWord_slC BadWord_slD : Array (Option Value)} {BadWord_ocI BadWord_kVI BadWord_dcI BadWord_pmI BadWord_ctI BadWord_ocC BadWord_ocD : Value} {BadWord_vsD : Array Value} {BadWord_file : Str} {BadWord_tF : Tok} {CT : Addr} {f_WordTree_init : Addr} {od_WordTree_init an_WordTree_init : Option Addr} {sl_WordTree_init : Array (Option Value)} {oc_WordTree_init kV_WordTree_init dc_WordTree_init pm_WordTree_init cd_WordTree_init ct_WordTree_init : Value} {f_WordTree_put : Addr} {od_WordTree_put an_WordTree_put : Option Addr} {sl_WordTree_put : Array (Option Value)} {oc_WordTree_put kV_WordTree_put dc_WordTree_put pm_WordTree_put cd_WordTree_put ct_WordTree_put : Value} {f_WordTree_size : Addr} {od_WordTree_size an_WordTree_size : Option Addr} {sl_WordTree_size : Array (Option Value)} {oc_WordTree_size kV_WordTree_size dc_WordTree_size pm_WordTree_size cd_WordTree_size ct_WordTree_size : Value} {f_WordTree_has : Addr} {od_WordTree_has an_WordTree_has : Option Addr} {sl_WordTree_has : Array (Option Value)} {oc_WordTree_has kV_WordTree_has dc_WordTree_has pm_WordTree_has cd_WordTree_has ct_WordTree_has : Value} {f_WordTree_within : Addr} {od_WordTree_within an_WordTree_within : Option Addr} {sl_WordTree_within : Array (Option Value)} {oc_WordTree_within kV_WordTree_within dc_WordTree_within pm_WordTree_within cd_WordTree_within ct_WordTree_within : Value}
    (ha_is_whole : PySem.W.nsIn K mainGlobals "is_whole" = some (some (.ref f_is_whole)))
    (hl_is_whole : K.lookup f_is_whole = some ⟨oc_is_whole, od_is_whole, .func (PySem.W.fnOf "is_whole" "is_whole" (defArgs s_is_whole) (defBody s_is_whole) (defScope s_is_whole) .none kV_is_whole dc_is_whole pm_is_whole an_is_whole cd_is_whole ct_is_whole), sl_is_whole⟩)
    (hc_is_whole : PySem.W.codeIn K cd_is_whole "is_whole" = true)
    (hk_is_whole : PySem.W.keepIn K (.ref f_is_whole) = true)
    (ha_is_plain_word : PySem.W.nsIn K mainGlobals "is_plain_word" = some (some (.ref f_is_plain_word)))
    (hl_is_plain_word : K.lookup f_is_plain_word = some ⟨oc_is_plain_word, od_is_plain_word, .func (PySem.W.fnOf "is_plain_word" "is_plain_word" (defArgs s_is_plain_word) (defBody s_is_plain_word) (defScope s_is_plain_word) .none kV_is_plain_word dc_is_plain_word pm_is_plain_word an_is_plain_word cd_is_plain_word ct_is_plain_word), sl_is_plain_word⟩)
    (hc_is_plain_word : PySem.W.codeIn K cd_is_plain_word "is_plain_word" = true)
    (hk_is_plain_word : PySem.W.keepIn K (.ref f_is_plain_word) = true)
    (ha_check_list : PySem.W.nsIn K mainGlobals "check_list" = some (some (.ref f_check_list)))
    (hl_check_list : K.lookup f_check_list = some ⟨oc_check_list, od_check_list, .func (PySem.W.fnOf "check_list" "check_list" (defArgs s_check_list) (defBody s_check_list) (defScope s_check_list) .none kV_check_list dc_check_list pm_check_list an_check_list cd_check_list ct_check_list), sl_check_list⟩)
    (hc_check_list : PySem.W.codeIn K cd_check_list "check_list" = true)
    (hk_check_list : PySem.W.keepIn K (.ref f_check_list) = true)
    (ha_first_row : PySem.W.nsIn K mainGlobals "first_row" = some (some (.ref f_first_row)))
    (hl_first_row : K.lookup f_first_row = some ⟨oc_first_row, od_first_row, .func (PySem.W.fnOf "first_row" "first_row" (defArgs s_first_row) (defBody s_first_row) (defScope s_first_row) .none kV_first_row dc_first_row pm_first_row an_first_row cd_first_row ct_first_row), sl_first_row⟩)
    (hc_first_row : PySem.W.codeIn K cd_first_row "first_row" = true)
    (hk_first_row : PySem.W.keepIn K (.ref f_first_row) = true)
    (ha_next_row : PySem.W.nsIn K mainGlobals "next_row" = some (some (.ref f_next_row)))
    (hl_next_row : K.lookup f_next_row = some ⟨oc_next_row, od_next_row, .func (PySem.W.fnOf "next_row" "next_row" (defArgs s_next_row) (defBody s_next_row) (defScope s_next_row) .none kV_next_row dc_next_row pm_next_row an_next_row cd_next_row ct_next_row), sl_next_row⟩)
    (hc_next_row : PySem.W.codeIn K cd_next_row "next_row" = true)
    (hk_next_row : PySem.W.keepIn K (.ref f_next_row) = true)
    (ha_distance : PySem.W.nsIn K mainGlobals "distance" = some (some (.ref f_distance)))
    (hl_distance : K.lookup f_distance = some ⟨oc_distance, od_distance, .func (PySem.W.fnOf "distance" "distance" (defArgs s_distance) (defBody s_distance) (defScope s_distance) .none kV_distance dc_distance pm_distance an_distance cd_distance ct_distance), sl_distance⟩)
    (hc_distance : PySem.W.codeIn K cd_distance "distance" = true)
    (hk_distance : PySem.W.keepIn K (.ref f_distance) = true)
    (ha_check_apart : PySem.W.nsIn K mainGlobals "check_apart" = some (some (.ref f_check_apart)))
    (hl_check_apart : K.lookup f_check_apart = some ⟨oc_check_apart, od_check_apart, .func (PySem.W.fnOf "check_apart" "check_apart" (defArgs s_check_apart) (defBody s_check_apart) (defScope s_check_apart) .none kV_check_apart dc_check_apart pm_check_apart an_check_apart cd_check_apart ct_check_apart), sl_check_apart⟩)
    (hc_check_apart : PySem.W.codeIn K cd_check_apart "check_apart" = true)
    (hk_check_apart : PySem.W.keepIn K (.ref f_check_apart) = true)
    (ha_near_words : PySem.W.nsIn K mainGlobals "near_words" = some (some (.ref f_near_words)))
    (hl_near_words : K.lookup f_near_words = some ⟨oc_near_words, od_near_words, .func (PySem.W.fnOf "near_words" "near_words" (defArgs s_near_words) (defBody s_near_words) (defScope s_near_words) .none kV_near_words dc_near_words pm_near_words an_near_words cd_near_words ct_near_words), sl_near_words⟩)
    (hc_near_words : PySem.W.codeIn K cd_near_words "near_words" = true)
    (hk_near_words : PySem.W.keepIn K (.ref f_near_words) = true)
    (ha_law_numbers : PySem.W.nsIn K mainGlobals "_law_numbers" = some (some (.ref f_law_numbers)))
    (hl_law_numbers : K.lookup f_law_numbers = some ⟨oc_law_numbers, od_law_numbers, .func (PySem.W.fnOf "_law_numbers" "_law_numbers" (defArgs s_law_numbers) (defBody s_law_numbers) (defScope s_law_numbers) .none kV_law_numbers dc_law_numbers pm_law_numbers an_law_numbers cd_law_numbers ct_law_numbers), sl_law_numbers⟩)
    (hc_law_numbers : PySem.W.codeIn K cd_law_numbers "_law_numbers" = true)
    (hk_law_numbers : PySem.W.keepIn K (.ref f_law_numbers) = true)
    (ha_law_distance : PySem.W.nsIn K mainGlobals "_law_distance" = some (some (.ref f_law_distance)))
    (hl_law_distance : K.lookup f_law_distance = some ⟨oc_law_distance, od_law_distance, .func (PySem.W.fnOf "_law_distance" "_law_distance" (defArgs s_law_distance) (defBody s_law_distance) (defScope s_law_distance) .none kV_law_distance dc_law_distance pm_law_distance an_law_distance cd_law_distance ct_law_distance), sl_law_distance⟩)
    (hc_law_distance : PySem.W.codeIn K cd_law_distance "_law_distance" = true)
    (hk_law_distance : PySem.W.keepIn K (.ref f_law_distance) = true)
    (ha_law_word : PySem.W.nsIn K mainGlobals "_law_word" = some (some (.ref f_law_word)))
    (hl_law_word : K.lookup f_law_word = some ⟨oc_law_word, od_law_word, .func (PySem.W.fnOf "_law_word" "_law_word" (defArgs s_law_word) (defBody s_law_word) (defScope s_law_word) .none kV_law_word dc_law_word pm_law_word an_law_word cd_law_word ct_law_word), sl_law_word⟩)
    (hc_law_word : PySem.W.codeIn K cd_law_word "_law_word" = true)
    (hk_law_word : PySem.W.keepIn K (.ref f_law_word) = true)
    (ha_law_told : PySem.W.nsIn K mainGlobals "_law_told" = some (some (.ref f_law_told)))
    (hl_law_told : K.lookup f_law_told = some ⟨oc_law_told, od_law_told, .func (PySem.W.fnOf "_law_told" "_law_told" (defArgs s_law_told) (defBody s_law_told) (defScope s_law_told) .none kV_law_told dc_law_told pm_law_told an_law_told cd_law_told ct_law_told), sl_law_told⟩)
    (hc_law_told : PySem.W.codeIn K cd_law_told "_law_told" = true)
    (hk_law_told : PySem.W.keepIn K (.ref f_law_told) = true)
    (ha_law_tree_holds : PySem.W.nsIn K mainGlobals "_law_tree_holds" = some (some (.ref f_law_tree_holds)))
    (hl_law_tree_holds : K.lookup f_law_tree_holds = some ⟨oc_law_tree_holds, od_law_tree_holds, .func (PySem.W.fnOf "_law_tree_holds" "_law_tree_holds" (defArgs s_law_tree_holds) (defBody s_law_tree_holds) (defScope s_law_tree_holds) .none kV_law_tree_holds dc_law_tree_holds pm_law_tree_holds an_law_tree_holds cd_law_tree_holds ct_law_tree_holds), sl_law_tree_holds⟩)
    (hc_law_tree_holds : PySem.W.codeIn K cd_law_tree_holds "_law_tree_holds" = true)
    (hk_law_tree_holds : PySem.W.keepIn K (.ref f_law_tree_holds) = true)
    (ha_law : PySem.W.nsIn K mainGlobals "law" = some (some (.ref f_law)))
    (hl_law : K.lookup f_law = some ⟨oc_law, od_law, .func (PySem.W.fnOf "law" "law" (defArgs s_law) (defBody s_law) (defScope s_law) .none kV_law dc_law pm_law an_law cd_law ct_law), sl_law⟩)
    (hc_law : PySem.W.codeIn K cd_law "law" = true)
    (hk_law : PySem.W.keepIn K (.ref f_law) = true)
    (z_len : PySem.W.nsIn K mainGlobals "len" = some none)
    (z_range : PySem.W.nsIn K mainGlobals "range" = some none)
    (z_min : PySem.W.nsIn K mainGlobals "min" = some none)
    (z_isinstance : PySem.W.nsIn K mainGlobals "isinstance" = some none)
    (z_list : PySem.W.nsIn K mainGlobals "list" = some none)
    (z_sorted : PySem.W.nsIn K mainGlobals "sorted" = some none)
    (z_set : PySem.W.nsIn K mainGlobals "set" = some none)
    (z_enumerate : PySem.W.nsIn K mainGlobals "enumerate" = some none)
    (z_int : PySem.W.nsIn K mainGlobals "int" = some none)
    (z_bool : PySem.W.nsIn K mainGlobals "bool" = some none)
    (z_str : PySem.W.nsIn K mainGlobals "str" = some none)
    (z_all : PySem.W.nsIn K mainGlobals "all" = some none)
    (z_super : PySem.W.nsIn K mainGlobals "super" = some none)
    (g_MOST_WORDS : PySem.W.nsIn K mainGlobals "MOST_WORDS" = some (some (.int 400 t_MOST_WORDS)))
    (g_MOST_APART : PySem.W.nsIn K mainGlobals "MOST_APART" = some (some (.int 3 t_MOST_APART)))
    (g_LETTERS : PySem.W.nsIn K mainGlobals "LETTERS" = some (some (.str "abcdefghijklmnopqrstuvwxyz" t_LETTERS)))
    (g_InkError : PySem.W.nsIn K mainGlobals "InkError" = some (some (.ref CI)))
    (g_BadPattern : PySem.W.nsIn K mainGlobals "BadPattern" = some (some (.ref CP)))
    (gs : PySem.W.specialIn K (.builtin "object.__class__") "__get__" = some (some (.builtin "getset_descriptor.__get__")))
    (tk : PySem.W.takesIn K (.builtin "object.__class__") = some true)
    (opq : PySem.W.nsIn K cStatics "thirdparty.any" = some none)
    (lh : (P.main.scope.names.lookup ("super" : Str)).isSome = false)
    (g_BadWord : PySem.W.nsIn K mainGlobals "BadWord" = some (some (.ref CB)))
    (BadWord_xL : K.lookup CB = some (excClassObj BadWord_nm BadWord_q CB BadWord_N BadWord_bs [.ref CI, .type "ValueError", .type "Exception", .type "BaseException", .type "object"] true BadWord_sn BadWord_sub BadWord_ab BadWord_col BadWord_dd BadWord_m0 BadWord_m1 BadWord_m2 BadWord_m3 BadWord_m5 "ValueError.__new__"))
    (BadWord_sa : PySem.W.findIn K (.ref CB) "__setattr__" = some (some (.builtin "object.__setattr__")))
    (BadWord_nL : PySem.W.findIn K (.ref CB) "index" = some none)
    (BadWord_iC : PySem.W.findIn K (.ref CB) "__init__" = some (some (.ref BadWord_f)))
    (BadWord_sB : PySem.W.subIn K (.ref CB) (.type "BaseException") = some true)
    (BadWord_sV : PySem.W.subIn K (.ref CB) (.type "ValueError") = some true)
    (BadWord_mC : PySem.W.mroIn K CB (.ref CB) = some true)
    (BadWord_tC : PySem.W.typeIn K (.ref CB) = some (.type "type"))
    (BadWord_kC : PySem.W.keepIn K (.ref CB) = true)
    (BadWord_sup : PySem.W.ks_superIn K CB CB "__init__" = some (some (.builtin "ValueError.__init__")))
    (BadWord_tI : PySem.W.typeIn K (.ref BadWord_f) = some (.type "function"))
    (BadWord_lI : K.lookup BadWord_f = some ⟨BadWord_ocI, BadWord_odI, .func (PySem.W.ksFn "__init__" "BadWord.__init__" (defArgs s_initB) (defBody s_initB) (defScope s_initB) .none BadWord_kVI BadWord_dcI BadWord_pmI BadWord_anI (.ref BadWord_cda) BadWord_ctI BadWord_cc), BadWord_slI⟩)
    (BadWord_cI : PySem.W.codeIn K (.ref BadWord_cda) "BadWord.__init__" = true)
    (BadWord_lc : K.lookup BadWord_cc = some ⟨BadWord_ocC, BadWord_odC, .cell (some (.ref CB)), BadWord_slC⟩)
    (BadWord_ld : K.lookup BadWord_cda = some ⟨BadWord_ocD, BadWord_odD, .fields BadWord_vsD, BadWord_slD⟩)
    (BadWord_lf : BadWord_vsD[2]? = some (.str BadWord_file BadWord_tF))
    (BadWord_lg : ((P.main.file : Str) == BadWord_file) = true)
    (BadWord_ga : PySem.W.findIn K (.ref CB) "__getattribute__" = some (some (.builtin "BaseException.__getattribute__")))
    (BadWord_gg : PySem.W.findIn K (.ref CB) "__getattr__" = some none)
    (BadWord_cl : PySem.W.findIn K (.ref CB) "__class__" = some (some (.builtin "object.__class__")))
    (BadWord_mo : PySem.W.mroIn K CB (.type "object") = some true)
    (BadWord_sC : PySem.W.subIn K (.ref CB) (.ref CB) = some true)
    (BadWord_hC : PySem.W.hasDictIn K CB = true)
    (BadWord_kt : PySem.W.kitOne K (.ref CB) (.ref CP) = some false)
    (g_WordTree : PySem.W.nsIn K mainGlobals "WordTree" = some (some (.ref CT)))
    (WordTree_pg : PySem.W.plainGet K CT Str.empty = true)
    (WordTree_hd : PySem.W.hasDictIn K CT = true)
    (WordTree_po : PySem.W.plainOver K CT = true)
    (WordTree_sa : PySem.W.findIn K (.ref CT) "__setattr__" = some (some (.builtin "object.__setattr__")))
    (WordTree_mk : PySem.W.makesIn K CT = true)
    (WordTree_kc : PySem.W.keepIn K (.ref CT) = true)
    (WordTree_n_after : PySem.W.findIn K (.ref CT) "_after" = some none)
    (WordTree_n_words : PySem.W.findIn K (.ref CT) "_words" = some none)
    (ha_WordTree_init : PySem.W.findIn K (.ref CT) "__init__" = some (some (.ref f_WordTree_init)))
    (hi_WordTree_init : PySem.W.isFn K (.ref f_WordTree_init) = true)
    (hl_WordTree_init : K.lookup f_WordTree_init = some ⟨oc_WordTree_init, od_WordTree_init, .func (PySem.W.fnOf "__init__" "WordTree.__init__" (defArgs s_initT) (defBody s_initT) (defScope s_initT) .none kV_WordTree_init dc_WordTree_init pm_WordTree_init an_WordTree_init cd_WordTree_init ct_WordTree_init), sl_WordTree_init⟩)
    (hc_WordTree_init : PySem.W.codeIn K cd_WordTree_init "WordTree.__init__" = true)
    (hk_WordTree_init : PySem.W.keepIn K (.ref f_WordTree_init) = true)
    (ha_WordTree_put : PySem.W.findIn K (.ref CT) "put" = some (some (.ref f_WordTree_put)))
    (hi_WordTree_put : PySem.W.isFn K (.ref f_WordTree_put) = true)
    (hl_WordTree_put : K.lookup f_WordTree_put = some ⟨oc_WordTree_put, od_WordTree_put, .func (PySem.W.fnOf "put" "WordTree.put" (defArgs s_put) (defBody s_put) (defScope s_put) .none kV_WordTree_put dc_WordTree_put pm_WordTree_put an_WordTree_put cd_WordTree_put ct_WordTree_put), sl_WordTree_put⟩)
    (hc_WordTree_put : PySem.W.codeIn K cd_WordTree_put "WordTree.put" = true)
    (hk_WordTree_put : PySem.W.keepIn K (.ref f_WordTree_put) = true)
    (ha_WordTree_size : PySem.W.findIn K (.ref CT) "size" = some (some (.ref f_WordTree_size)))
    (hi_WordTree_size : PySem.W.isFn K (.ref f_WordTree_size) = true)
    (hl_WordTree_size : K.lookup f_WordTree_size = some ⟨oc_WordTree_size, od_WordTree_size, .func (PySem.W.fnOf "size" "WordTree.size" (defArgs s_WordTree_size) (defBody s_WordTree_size) (defScope s_WordTree_size) .none kV_WordTree_size dc_WordTree_size pm_WordTree_size an_WordTree_size cd_WordTree_size ct_WordTree_size), sl_WordTree_size⟩)
    (hc_WordTree_size : PySem.W.codeIn K cd_WordTree_size "WordTree.size" = true)
    (hk_WordTree_size : PySem.W.keepIn K (.ref f_WordTree_size) = true)
    (ha_WordTree_has : PySem.W.findIn K (.ref CT) "has" = some (some (.ref f_WordTree_has)))
    (hi_WordTree_has : PySem.W.isFn K (.ref f_WordTree_has) = true)
    (hl_WordTree_has : K.lookup f_WordTree_has = some ⟨oc_WordTree_has, od_WordTree_has, .func (PySem.W.fnOf "has" "WordTree.has" (defArgs s_WordTree_has) (defBody s_WordTree_has) (defScope s_WordTree_has) .none kV_WordTree_has dc_WordTree_has pm_WordTree_has an_WordTree_has cd_WordTree_has ct_WordTree_has), sl_WordTree_has⟩)
    (hc_WordTree_has : PySem.W.codeIn K cd_WordTree_has "WordTree.has" = true)
    (hk_WordTree_has : PySem.W.keepIn K (.ref f_WordTree_has) = true)
    (ha_WordTree_within : PySem.W.findIn K (.ref CT) "within" = some (some (.ref f_WordTree_within)))
    (hi_WordTree_within : PySem.W.isFn K (.ref f_WordTree_within) = true)
    (hl_WordTree_within : K.lookup f_WordTree_within = some ⟨oc_WordTree_within, od_WordTree_within, .func (PySem.W.fnOf "within" "WordTree.within" (defArgs s_WordTree_within) (defBody s_WordTree_within) (defScope s_WordTree_within) .none kV_WordTree_within dc_WordTree_within pm_WordTree_within an_WordTree_within cd_WordTree_within ct_WordTree_within), sl_WordTree_within⟩)
    (hc_WordTree_within : PySem.W.codeIn K cd_WordTree_within "WordTree.within" = true)
    (hk_WordTree_within : PySem.W.keepIn K (.ref f_WordTree_within) = true) :
    ∃ fd : FuncData, (∀ (s : Shared) (v : Value), BindsTo s fd ⟨[v], []⟩ [("script", v)]) ∧ ∀ base : Heap, K.In base → base.Ns mainGlobals mg → FnOk P w K mg base CX0 8 fa fd ["script"] (spD K (gT K (clsAt K)) false c_law) := by
  have e := hfa.symm.trans (PySem.W.mg_of X G ha_law)
  cases e
  have hsup : mg "super" = none := PySem.W.mg_none_of X G z_super
  have F_is_whole := fun_mk (st := s_is_whole) hl_is_whole hc_is_whole hk_is_whole
  have b_is_whole := F_is_whole.binds (ps := ["value"]) fun _ _ _ _ _ _ us hl => match us, hl with | [_], _ => rfl
  have F_is_plain_word := fun_mk (st := s_is_plain_word) hl_is_plain_word hc_is_plain_word hk_is_plain_word
  have b_is_plain_word := F_is_plain_word.binds (ps := ["value"]) fun _ _ _ _ _ _ us hl => match us, hl with | [_], _ => rfl
  have F_check_list := fun_mk (st := s_check_list) hl_check_list hc_check_list hk_check_list
  have b_check_list := F_check_list.binds (ps := ["value"]) fun _ _ _ _ _ _ us hl => match us, hl with | [_], _ => rfl
  have F_first_row := fun_mk (st := s_first_row) hl_first_row hc_first_row hk_first_row
  have b_first_row := F_first_row.binds (ps := ["word"]) fun _ _ _ _ _ _ us hl => match us, hl with | [_], _ => rfl
  have F_next_row := fun_mk (st := s_next_row) hl_next_row hc_next_row hk_next_row
  have b_next_row := F_next_row.binds (ps := ["row", "word", "sign"]) fun _ _ _ _ _ _ us hl => match us, hl with | [_, _, _], _ => rfl
  have F_distance := fun_mk (st := s_distance) hl_distance hc_distance hk_distance
  have b_distance := F_distance.binds (ps := ["first", "second"]) fun _ _ _ _ _ _ us hl => match us, hl with | [_, _], _ => rfl
  have F_check_apart := fun_mk (st := s_check_apart) hl_check_apart hc_check_apart hk_check_apart
  have b_check_apart := F_check_apart.binds (ps := ["most"]) fun _ _ _ _ _ _ us hl => match us, hl with | [_], _ => rfl
  have F_near_words := fun_mk (st := s_near_words) hl_near_words hc_near_words hk_near_words
  have b_near_words := F_near_words.binds (ps := ["listed", "word", "most"]) fun _ _ _ _ _ _ us hl => match us, hl with | [_, _, _], _ => rfl
  have F_law_numbers := fun_mk (st := s_law_numbers) hl_law_numbers hc_law_numbers hk_law_numbers
  have b_law_numbers := F_law_numbers.binds (ps := ["script", "at", "count"]) fun _ _ _ _ _ _ us hl => match us, hl with | [_, _, _], _ => rfl
  have F_law_distance := fun_mk (st := s_law_distance) hl_law_distance hc_law_distance hk_law_distance
  have b_law_distance := F_law_distance.binds (ps := ["first", "second"]) fun _ _ _ _ _ _ us hl => match us, hl with | [_, _], _ => rfl
  have F_law_word := fun_mk (st := s_law_word) hl_law_word hc_law_word hk_law_word
  have b_law_word := F_law_word.binds (ps := ["n", "many"]) fun _ _ _ _ _ _ us hl => match us, hl with | [_, _], _ => rfl
  have F_law_told := fun_mk (st := s_law_told) hl_law_told hc_law_told hk_law_told
  have b_law_told := F_law_told.binds (ps := ["which", "listed", "word", "most"]) fun _ _ _ _ _ _ us hl => match us, hl with | [_, _, _, _], _ => rfl
  have F_law_tree_holds := fun_mk (st := s_law_tree_holds) hl_law_tree_holds hc_law_tree_holds hk_law_tree_holds
  have b_law_tree_holds := F_law_tree_holds.binds (ps := ["listed", "texts"]) fun _ _ _ _ _ _ us hl => match us, hl with | [_, _], _ => rfl
  have F_law := fun_mk (st := s_law) hl_law hc_law hk_law
  have b_law := F_law.binds (ps := ["script"]) fun _ _ _ _ _ _ us hl => match us, hl with | [_], _ => rfl
  have oex_BadWord : OexC K CB := ⟨⟨BadWord_nm, BadWord_q, BadWord_N, BadWord_bs, _, BadWord_sn, BadWord_sub, BadWord_ab, BadWord_col, BadWord_dd, BadWord_m0, BadWord_m1, BadWord_m2, BadWord_m3, BadWord_m5, BadWord_xL, rfl⟩, BadWord_sa, BadWord_sB, BadWord_tC, BadWord_kC⟩
  have SC_BadWord : SupC K P CB BadWord_cc BadWord_cda := ⟨oex_BadWord, BadWord_sup, BadWord_sV, BadWord_mC, opq, ⟨_, _, _, BadWord_lc⟩, ⟨_, _, _, _, _, _, BadWord_ld, BadWord_lf, BadWord_lg⟩, lh, z_super⟩
  have oI_BadWord : ∀ base, FnOk P w K mg base CX0 1 BadWord_f _ ["self", "index"] (spInit CB ["index"]) := fun base => fn_init1 (k := 0) SC_BadWord hsup BadWord_lI BadWord_cI sc_s_initB rfl rfl rfl BadWord_nL
  have X_BadWord : ∀ base, OwnX P w K mg base "BadWord" CB ["index"] 1 := fun base => ⟨oex_BadWord, ⟨BadWord_f, _, _, BadWord_iC, BadWord_tI, oI_BadWord base, .all fun us hl => match us, hl with | [_, _], _ => rfl⟩, PySem.W.mg_of X G g_BadWord⟩
  have two_BadWord : ExcTwo K CB CP := ⟨⟨BadWord_ga, BadWord_gg, BadWord_sB, BadWord_hC, BadWord_cl, gs, tk, BadWord_mo⟩, ⟨BadWord_ga, BadWord_gg, BadWord_sB, BadWord_hC⟩, BadWord_tC, BadWord_sC, BadWord_kt⟩
  have F_WordTree_init := fun_mk (st := s_initT) hl_WordTree_init hc_WordTree_init hk_WordTree_init
  have b_WordTree_init := F_WordTree_init.binds (ps := ["self", "listed"]) fun _ _ _ _ _ _ us hl => match us, hl with | [_, _], _ => rfl
  have F_WordTree_put := fun_mk (st := s_put) hl_WordTree_put hc_WordTree_put hk_WordTree_put
  have b_WordTree_put := F_WordTree_put.binds (ps := ["self", "word"]) fun _ _ _ _ _ _ us hl => match us, hl with | [_, _], _ => rfl
  have F_WordTree_size := fun_mk (st := s_WordTree_size) hl_WordTree_size hc_WordTree_size hk_WordTree_size
  have b_WordTree_size := F_WordTree_size.binds (ps := ["self"]) fun _ _ _ _ _ _ us hl => match us, hl with | [_], _ => rfl
  have F_WordTree_has := fun_mk (st := s_WordTree_has) hl_WordTree_has hc_WordTree_has hk_WordTree_has
  have b_WordTree_has := F_WordTree_has.binds (ps := ["self", "word"]) fun _ _ _ _ _ _ us hl => match us, hl with | [_, _], _ => rfl
  have F_WordTree_within := fun_mk (st := s_WordTree_within) hl_WordTree_within hc_WordTree_within hk_WordTree_within
  have b_WordTree_within := F_WordTree_within.binds (ps := ["self", "word", "most"]) fun _ _ _ _ _ _ us hl => match us, hl with | [_, _, _], _ => rfl
  refine ⟨PySem.W.fnOf "law" "law" (defArgs s_law) (defBody s_law) (defScope s_law) .none kV_law dc_law pm_law an_law cd_law ct_law, fun s v => .of_eq rfl, fun base _ _ => ?_⟩
  have hC : clsAt K = CT := by unfold clsAt; rw [g_WordTree]
  rw [hC]
  have T : Txt mg := ⟨PySem.W.mg_none_of X G z_len, PySem.W.mg_none_of X G z_range, PySem.W.mg_none_of X G z_min, PySem.W.mg_none_of X G z_isinstance, PySem.W.mg_none_of X G z_list, PySem.W.mg_none_of X G z_sorted, PySem.W.mg_none_of X G z_set, PySem.W.mg_none_of X G z_enumerate, PySem.W.mg_none_of X G z_int, PySem.W.mg_none_of X G z_bool, PySem.W.mg_none_of X G z_str, PySem.W.mg_none_of X G z_all, ⟨_, PySem.W.mg_of X G g_MOST_WORDS⟩, ⟨_, PySem.W.mg_of X G g_MOST_APART⟩, ⟨_, PySem.W.mg_of X G g_LETTERS⟩⟩
  have TC : TxC K mg CT := ⟨⟨WordTree_pg, WordTree_hd, WordTree_po, WordTree_sa⟩, WordTree_n_after, WordTree_n_words, PySem.W.mg_none_of X G z_len⟩
  have Z := X_BadWord base
  have Z_whole : Mi.Cal P w K mg base (gT K CT) false "is_whole" 1 c_whole := ⟨f_is_whole, _, _, ok_is_whole F_is_whole T, PySem.W.mg_of X G ha_is_whole, hk_is_whole, b_is_whole⟩
  have Z_plain : Mi.Cal P w K mg base (gT K CT) false "is_plain_word" 1 c_plain := ⟨f_is_plain_word, _, _, ok_is_plain_word F_is_plain_word T, PySem.W.mg_of X G ha_is_plain_word, hk_is_plain_word, b_is_plain_word⟩
  have Z_check : Mi.CalX P w K mg base (gT K CT) false "check_list" 3 (c_check CB) := ⟨f_check_list, _, _, ok_check_list F_check_list T Z Z_plain, PySem.W.mg_of X G ha_check_list, hk_check_list, b_check_list⟩
  have Z_first : Mi.Cal P w K mg base (gT K CT) true "first_row" 1 c_first := ⟨f_first_row, _, _, ok_first_row F_first_row T, PySem.W.mg_of X G ha_first_row, hk_first_row, b_first_row⟩
  have Z_next : Mi.Cal P w K mg base (gT K CT) true "next_row" 1 c_next := ⟨f_next_row, _, _, ok_next_row F_next_row T, PySem.W.mg_of X G ha_next_row, hk_next_row, b_next_row⟩
  have Z_dist : Mi.Cal P w K mg base (gT K CT) false "distance" 2 c_dist := ⟨f_distance, _, _, ok_distance F_distance T Z_first Z_next, PySem.W.mg_of X G ha_distance, hk_distance, b_distance⟩
  have oP : FnOk P w K mg base CX0 1 f_WordTree_put _ ["self", "word"] (spPut CT) := ok_put F_WordTree_put TC
  have Z_tree : MakX P w K mg base (gT K CT) "WordTree" 1 CT 4 (c_tree CB) := ⟨f_WordTree_init, _, _, ⟨WordTree_mk, ha_WordTree_init, hi_WordTree_init, WordTree_kc⟩, ok_initT F_WordTree_init TC Z_check oP ⟨ha_WordTree_put, hi_WordTree_put, hk_WordTree_put⟩ b_WordTree_put, PySem.W.mg_of X G g_WordTree, b_WordTree_init⟩
  have Z_size : MetC P w K mg base (gT K CT) false CT "size" 1 c_size := ⟨f_WordTree_size, _, _, ok_WordTree_size F_WordTree_size T TC, ⟨ha_WordTree_size, hi_WordTree_size, hk_WordTree_size⟩, b_WordTree_size⟩
  have Z_has : MetC P w K mg base (gT K CT) false CT "has" 1 c_has := ⟨f_WordTree_has, _, _, ok_WordTree_has F_WordTree_has T TC, ⟨ha_WordTree_has, hi_WordTree_has, hk_WordTree_has⟩, b_WordTree_has⟩
  have Z_within : MetC P w K mg base (gT K CT) true CT "within" 2 c_within := ⟨f_WordTree_within, _, _, ok_WordTree_within F_WordTree_within T TC Z_first Z_next, ⟨ha_WordTree_within, hi_WordTree_within, hk_WordTree_within⟩, b_WordTree_within⟩
  have Z_apart : Mi.CalX P w K mg base (gT K CT) false "check_apart" 3 (c_apart CB) := ⟨f_check_apart, _, _, ok_check_apart F_check_apart T Z Z_whole, PySem.W.mg_of X G ha_check_apart, hk_check_apart, b_check_apart⟩
  have Z_near : Mi.CalX P w K mg base (gT K CT) true "near_words" 6 (c_near CB) := ⟨f_near_words, _, _, ok_near_words F_near_words T TC Z_tree Z_apart Z_within, PySem.W.mg_of X G ha_near_words, hk_near_words, b_near_words⟩
  have Z_num : Mi.Cal P w K mg base (gT K CT) false "_law_numbers" 1 c_numbers := ⟨f_law_numbers, _, _, ok_law_numbers F_law_numbers T (gT_scr K CT), PySem.W.mg_of X G ha_law_numbers, hk_law_numbers, b_law_numbers⟩
  have Z_ld : Mi.Cal P w K mg base (gT K CT) false "_law_distance" 1 c_ldist := ⟨f_law_distance, _, _, ok_law_distance F_law_distance T, PySem.W.mg_of X G ha_law_distance, hk_law_distance, b_law_distance⟩
  have Z_word : Mi.Cal P w K mg base (gT K CT) false "_law_word" 1 c_word := ⟨f_law_word, _, _, ok_law_word F_law_word T, PySem.W.mg_of X G ha_law_word, hk_law_word, b_law_word⟩
  have Z_told : Mi.Cal P w K mg base (gT K CT) false "_law_told" 7 c_told := ⟨f_law_told, _, _, ok_law_told F_law_told T Z_tree Z_near two_BadWord BadWord_nL (PySem.W.mg_of X G g_BadPattern) (PySem.W.mg_of X G g_BadWord), PySem.W.mg_of X G ha_law_told, hk_law_told, b_law_told⟩
  have Z_holds : Mi.Cal P w K mg base (gT K CT) false "_law_tree_holds" 7 c_holds := ⟨f_law_tree_holds, _, _, ok_law_tree_holds F_law_tree_holds T TC Z_tree Z_near Z_within Z_size Z_has Z_ld, PySem.W.mg_of X G ha_law_tree_holds, hk_law_tree_holds, b_law_tree_holds⟩
  exact ok_law F_law T (gT_scr K CT) Z_num Z_word Z_dist Z_ld Z_holds Z_told
theorem law_sp (K : PySem.W.Frag) (H : Hp) (a : Addr) (ns : List Int) (hS : SqL K H a (ns.map V.int)) : spD K (gT K (clsAt K)) false c_law [.ref a] H (fun v _ => v = .bl true) fun _ _ _ => False :=
  ⟨H, [.ext 0 (.lst (ns.map D.int))], fun _ => False, fun d => d = .bl true, Ex.refl _, .cons (.ext (.inl ⟨rfl, ns, rfl, hS⟩)) .nil, ⟨ns, rfl, rfl⟩, fun d v S' H' rt hd => by
    have r := rt.r
    rw [if_neg Bool.false_ne_true, hd] at r
    cases r
    rfl, fun cls d H' z => by
    obtain ⟨x, _, hx, _⟩ := z.out
    exact hx⟩
theorem walk {l : PySem.W.OpenLaw} {q : Program} {loose : List Str} {XP : (Str → Option Value) → Heap → Prop} {YP : World → Heap → Prop} {d : DefRec} {K : Params → PySem.W.Frag} (hn : l.most = some 63) (hdf : d.params.defaults = [])
    (hY : ∀ (w : World) (h : Heap), YP w h → (K w.params).In h)
    (F : ∀ (w : World) (mg : Str → Option Value) (fa : Addr) (h : Heap), (K w.params).In h → h.Ns mainGlobals mg → mg d.name = some (.ref fa) →
      ∃ fd : FuncData, (∀ (s : Shared) (u : Value), BindsTo s fd ⟨[u], []⟩ [("script", u)]) ∧ ∀ base : Heap, (K w.params).In base → base.Ns mainGlobals mg → FnOk l.prog w (K w.params) mg base CX0 8 fa fd ["script"] (spD (K w.params) (gT (K w.params) (clsAt (K w.params))) false c_law)) :
    PySem.W.WalkO q loose XP YP l.row.toRowW d [] (fun f vs => PySem.call f vs) :=
  L2.walk_of (n := 63) (k := 8) (x := "script") (CX := fun _ => CX0) (sp := fun w => spD (K w.params) (gT (K w.params) (clsAt (K w.params))) false c_law) hn (by decide) hdf ⟨rfl, by decide, by decide⟩ hY F (fun w H a ns _ _ hS => law_sp (K w.params) H a ns hS) fun _ _ _ _ _ z => z
end K87

open PySem PySem.W PyProof.Rows in
set_option maxRecDepth 100000 in
set_option maxHeartbeats 0 in
theorem PySem.Challenge.cw_inkedtrue_k87_near_words_holds : PySem.Challenge.rw_inkedtrue_k87_near_words.Holds := by
  w_on; o_law; k_head; (case hw => w_witness2)
  k_fill
  refine K87.walk (l := PySem.Challenge.rw_inkedtrue_k87_near_words) rfl rfl (fun w h Y => PySem.W.kIn_of Y) ?F
  case F =>
    intro w mg fa h KX G hmg
    refine' K87.all_mk KX G hmg ?ha_is_whole ?hl_is_whole ?hc_is_whole ?hk_is_whole ?ha_is_plain_word ?hl_is_plain_word ?hc_is_plain_word ?hk_is_plain_word ?ha_check_list ?hl_check_list ?hc_check_list ?hk_check_list ?ha_first_row ?hl_first_row ?hc_first_row ?hk_first_row ?ha_next_row ?hl_next_row ?hc_next_row ?hk_next_row ?ha_distance ?hl_distance ?hc_distance ?hk_distance ?ha_check_apart ?hl_check_apart ?hc_check_apart ?hk_check_apart ?ha_near_words ?hl_near_words ?hc_near_words ?hk_near_words ?ha_law_numbers ?hl_law_numbers ?hc_law_numbers ?hk_law_numbers ?ha_law_distance ?hl_law_distance ?hc_law_distance ?hk_law_distance ?ha_law_word ?hl_law_word ?hc_law_word ?hk_law_word ?ha_law_told ?hl_law_told ?hc_law_told ?hk_law_told ?ha_law_tree_holds ?hl_law_tree_holds ?hc_law_tree_holds ?hk_law_tree_holds ?ha_law ?hl_law ?hc_law ?hk_law ?z_len ?z_range ?z_min ?z_isinstance ?z_list ?z_sorted ?z_set ?z_enumerate ?z_int ?z_bool ?z_str ?z_all ?z_super ?g_MOST_WORDS ?g_MOST_APART ?g_LETTERS ?g_InkError ?g_BadPattern ?gs ?tk ?opq ?lh ?g_BadWord ?BadWord_xL ?BadWord_sa ?BadWord_nL ?BadWord_iC ?BadWord_sB ?BadWord_sV ?BadWord_mC ?BadWord_tC ?BadWord_kC ?BadWord_sup ?BadWord_tI ?BadWord_lI ?BadWord_cI ?BadWord_lc ?BadWord_ld ?BadWord_lf ?BadWord_lg ?BadWord_ga ?BadWord_gg ?BadWord_cl ?BadWord_mo ?BadWord_sC ?BadWord_hC ?BadWord_kt ?g_WordTree ?WordTree_pg ?WordTree_hd ?WordTree_po ?WordTree_sa ?WordTree_mk ?WordTree_kc ?WordTree_n_after ?WordTree_n_words ?ha_WordTree_init ?hi_WordTree_init ?hl_WordTree_init ?hc_WordTree_init ?hk_WordTree_init ?ha_WordTree_put ?hi_WordTree_put ?hl_WordTree_put ?hc_WordTree_put ?hk_WordTree_put ?ha_WordTree_size ?hi_WordTree_size ?hl_WordTree_size ?hc_WordTree_size ?hk_WordTree_size ?ha_WordTree_has ?hi_WordTree_has ?hl_WordTree_has ?hc_WordTree_has ?hk_WordTree_has ?ha_WordTree_within ?hi_WordTree_within ?hl_WordTree_within ?hc_WordTree_within ?hk_WordTree_within
    (case ha_is_whole => k_is)
    (case hl_is_whole => k_is)
    (case hc_is_whole => k_is)
    (case hk_is_whole => k_is)
    (case ha_is_plain_word => k_is)
    (case hl_is_plain_word => k_is)
    (case hc_is_plain_word => k_is)
    (case hk_is_plain_word => k_is)
    (case ha_check_list => k_is)
    (case hl_check_list => k_is)
    (case hc_check_list => k_is)
    (case hk_check_list => k_is)
    (case ha_first_row => k_is)
    (case hl_first_row => k_is)
    (case hc_first_row => k_is)
    (case hk_first_row => k_is)
    (case ha_next_row => k_is)
    (case hl_next_row => k_is)
    (case hc_next_row => k_is)
    (case hk_next_row => k_is)
    (case ha_distance => k_is)
    (case hl_distance => k_is)
    (case hc_distance => k_is)
    (case hk_distance => k_is)
    (case ha_check_apart => k_is)
    (case hl_check_apart => k_is)
    (case hc_check_apart => k_is)
    (case hk_check_apart => k_is)
    (case ha_near_words => k_is)
    (case hl_near_words => k_is)
    (case hc_near_words => k_is)
    (case hk_near_words => k_is)
    (case ha_law_numbers => k_is)
    (case hl_law_numbers => k_is)
    (case hc_law_numbers => k_is)
    (case hk_law_numbers => k_is)
    (case ha_law_distance => k_is)
    (case hl_law_distance => k_is)
    (case hc_law_distance => k_is)
    (case hk_law_distance => k_is)
    (case ha_law_word => k_is)
    (case hl_law_word => k_is)
    (case hc_law_word => k_is)
    (case hk_law_word => k_is)
    (case ha_law_told => k_is)
    (case hl_law_told => k_is)
    (case hc_law_told => k_is)
    (case hk_law_told => k_is)
    (case ha_law_tree_holds => k_is)
    (case hl_law_tree_holds => k_is)
    (case hc_law_tree_holds => k_is)
    (case hk_law_tree_holds => k_is)
    (case ha_law => k_is)
    (case hl_law => k_is)
    (case hc_law => k_is)
    (case hk_law => k_is)
    (case z_len => k_is)
    (case z_range => k_is)
    (case z_min => k_is)
    (case z_isinstance => k_is)
    (case z_list => k_is)
    (case z_sorted => k_is)
    (case z_set => k_is)
    (case z_enumerate => k_is)
    (case z_int => k_is)
    (case z_bool => k_is)
    (case z_str => k_is)
    (case z_all => k_is)
    (case z_super => k_is)
    (case g_MOST_WORDS => k_is)
    (case g_MOST_APART => k_is)
    (case g_LETTERS => k_is)
    (case g_InkError => k_is)
    (case g_BadPattern => k_is)
    (case gs => k_is)
    (case tk => k_is)
    (case opq => k_is)
    (case lh => first | rfl | decide +kernel)
    (case g_BadWord => k_is)
    (case BadWord_xL => k_is)
    (case BadWord_sa => k_is)
    (case BadWord_nL => k_is)
    (case BadWord_iC => k_is)
    (case BadWord_sB => k_is)
    (case BadWord_sV => k_is)
    (case BadWord_mC => first | rfl | k_is)
    (case BadWord_tC => k_is)
    (case BadWord_kC => k_is)
    (case BadWord_sup => ks_is)
    (case BadWord_tI => k_is)
    (case BadWord_lI => k_is)
    (case BadWord_cI => k_is)
    (case BadWord_lc => k_is)
    (case BadWord_ld => k_is)
    (case BadWord_lf => rfl)
    (case BadWord_lg => first | rfl | decide +kernel)
    (case BadWord_ga => k_is)
    (case BadWord_gg => k_is)
    (case BadWord_cl => k_is)
    (case BadWord_mo => k_is)
    (case BadWord_sC => first | rfl | k_is)
    (case BadWord_hC => k_is)
    (case BadWord_kt => kit_is)
    (case g_WordTree => k_is)
    (case WordTree_pg => k_is)
    (case WordTree_hd => k_is)
    (case WordTree_po => k_is)
    (case WordTree_sa => k_is)
    (case WordTree_mk => k_is)
    (case WordTree_kc => k_is)
    (case WordTree_n_after => k_is)
    (case WordTree_n_words => k_is)
    (case ha_WordTree_init => k_is)
    (case hi_WordTree_init => k_is)
    (case hl_WordTree_init => k_is)
    (case hc_WordTree_init => k_is)
    (case hk_WordTree_init => k_is)
    (case ha_WordTree_put => k_is)
    (case hi_WordTree_put => k_is)
    (case hl_WordTree_put => k_is)
    (case hc_WordTree_put => k_is)
    (case hk_WordTree_put => k_is)
    (case ha_WordTree_size => k_is)
    (case hi_WordTree_size => k_is)
    (case hl_WordTree_size => k_is)
    (case hc_WordTree_size => k_is)
    (case hk_WordTree_size => k_is)
    (case ha_WordTree_has => k_is)
    (case hi_WordTree_has => k_is)
    (case hl_WordTree_has => k_is)
    (case hc_WordTree_has => k_is)
    (case hk_WordTree_has => k_is)
    (case ha_WordTree_within => k_is)
    (case hi_WordTree_within => k_is)
    (case hl_WordTree_within => k_is)
    (case hc_WordTree_within => k_is)
    (case hk_WordTree_within => k_is)
